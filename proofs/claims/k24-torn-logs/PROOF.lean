import PyProof.Rows.All
import Wide.All
import OpenK.AllK
import Wide.FinOn
import HandS.ForMost
import HandS.Exc
import HandS.ExcOwn
import HandS.TryOnly
import HandS.WordsExc
import HandS.Flow
import HandS.Style
import HandS.IsInst
import HandS.Deep
import HandS.TupAny
import HandS.TupMul
import HandS.SortKw
import HandS.SortRule
import HandS.SortInts
import HandS.ListItems
import HandS.DictTup
import HandS.Codes
import HandS.Defaults
import HandS.Zip
import HandS.More
import HandS.Conv
import PySem.Challenge.RW_revokelog_k24_whole_torn_logs_scanned
set_option Elab.async false
set_option maxRecDepth 100000
set_option maxHeartbeats 4000000
namespace J
open PySem PySem.Spec PyProof.Rows L2

/-! ### repr of data -/
def rRepr (K : PySem.W.Frag) : List V → Hp → VK → Prop := fun xs H Q =>
  ∃ (x : V) (d : PyData), xs = [x] ∧ Dp K H x d ∧ d.showable = true ∧ d.depth ≤ 60 ∧
    d.shown.length ≤ sizeLine ∧ Q (.str d.shown) H
theorem noDict_of_dp {K : PySem.W.Frag} {H : Hp} : ∀ (d : PyData) (v : V), Dp K H v d → d.hasDict = false := by
  intro d v h
  refine Dp.rec (motive_1 := fun _ d _ => d.hasDict = false)
    (motive_2 := fun _ ds _ => PyData.hasDictAll ds = false) ?_ ?_ ?_ ?_ ?_ ?_ ?_ ?_ h
  all_goals intros
  all_goals simp_all [PyData.hasDict, PyData.hasDictAll]
section
variable {X : Cx}
theorem call_reprD (hg : X.A.guards = some []) (hu : X.A.units + 64 < cLine) :
    CallR X (.builtin "repr") (rRepr X.K) := by
  intro pins s σ H xs us Q I r h
  obtain ⟨x, d, rfl, hd, hs, hdep, hz, q⟩ := h
  obtain ⟨u, rfl, rx⟩ := vals1 r
  cases hd with
  | non =>
    cases rx
    exact PySem.P.repr_of_none ⟨.str _, H, I.tok _, ⟨_, rfl⟩, q⟩
  | bl b =>
    cases rx
    exact PySem.P.repr_of_bool ⟨.str _, H, I.tok _, ⟨_, rfl⟩, by cases b <;> exact q⟩
  | int i =>
    obtain ⟨t, rfl⟩ := rx
    exact PySem.P.repr_of_int (by simpa [PyData.showable] using hs) ⟨.str _, H, I.tok _, ⟨_, rfl⟩, q⟩
  | str z =>
    obtain ⟨t, rfl⟩ := rx
    exact PySem.P.repr_of_str ⟨.str _, H, I.tok _, ⟨_, rfl⟩, q⟩ hz
  | @lst a ys ds hq ha =>
    obtain ⟨as, rr⟩ := Dp.reads I _ _ _ (.lst hq ha) rx
    cases rx
    have nd := noDict_of_dp _ _ (Dp.lst hq ha)
    exact repr_of_reads' rr hs (PyData.noDict_hsm nd) hg (by omega) (fun _ _ e => e)
      (fun h' v tk hk => ⟨.str _, H, I.kept hk, ⟨_, rfl⟩, q⟩) hz
  | @tup a ys ds hq ha =>
    obtain ⟨as, rr⟩ := Dp.reads I _ _ _ (.tup hq ha) rx
    cases rx
    have nd := noDict_of_dp _ _ (Dp.tup hq ha)
    exact repr_of_reads' rr hs (PyData.noDict_hsm nd) hg (by omega) (fun _ _ e => e)
      (fun h' v tk hk => ⟨.str _, H, I.kept hk, ⟨_, rfl⟩, q⟩) hz
end
end J

set_option Elab.async false
set_option linter.all false
set_option maxRecDepth 100000
set_option maxHeartbeats 4000000
namespace J
open PySem L2 PyProof.Rows

/-! ### defs by their names -/
/-- the def that stands at the module's name x keeps the promise -/
structure Cl (P : Program) (w : World) (K : PySem.W.Frag) (mg : Str → Option Value) (base : Heap)
    (CX : CXT) (k : Nat) (x : Str) (sp : Sp) : Prop where
  ex : ∃ f fd ps, FnOk P w K mg base CX k f fd ps sp ∧ mg x = some (.ref f) ∧
    PySem.W.keepIn K (.ref f) = true ∧ Binds K fd ps []

/-- the same, where no repr is under way -/
structure FnG (P : Program) (w : World) (K : PySem.W.Frag) (mg : Str → Option Value) (base : Heap)
    (CX : CXT) (k : Nat) (f : Addr) (fd : FuncData) (ps : List Str) (sp : Sp) : Prop where
  len : ∀ vs H Q E, sp vs H Q E → vs.length = ps.length
  run : ∀ (A : Around) (outer : List Env) (s : Shared) (H : Hp) (args : Args) (us : List Value)
    (vs : List V) (Q : VK) (E : XK), Room k A → A.guards = some [] →
    Env0 P w K mg base A outer s H → BindsTo s fd args (ps.zip us) → Vals vs us → sp vs H Q E →
    codeAny (model P w) A (.call (.ref f) args) (CR CX outer P w H s Q E) s
structure ClG (P : Program) (w : World) (K : PySem.W.Frag) (mg : Str → Option Value) (base : Heap)
    (CX : CXT) (k : Nat) (x : Str) (sp : Sp) : Prop where
  ex : ∃ f fd ps, FnG P w K mg base CX k f fd ps sp ∧ mg x = some (.ref f) ∧
    PySem.W.keepIn K (.ref f) = true ∧ Binds K fd ps []
theorem ClG.of {P : Program} {w : World} {K : PySem.W.Frag} {mg : Str → Option Value} {base : Heap}
    {CX : CXT} {k : Nat} {x : Str} {sp : Sp} (c : Cl P w K mg base CX k x sp) :
    ClG P w K mg base CX k x sp := by
  obtain ⟨f, fd, ps, F, hm, hk, hb⟩ := c.ex
  exact ⟨f, fd, ps, ⟨F.len, fun A o s H ar us vs Q E hr _ => F.run A o s H ar us vs Q E hr⟩, hm, hk, hb⟩

section
variable {X : Cx} {CX : CXT} {k j : Nat} {sp : Sp} {E : L2.St → XK} {x : Str} {p pos : Pos}
  {e : Expr} {es : List Expr} {t : TA}
/-- f(e, ..) -/
theorem pe_cl (c : Cl X.prog X.w X.K X.mg X.base CX k x sp) (hr : Room j X.A) (hk : k ≤ j)
    (hx : ∀ σ, PassesAt CX X σ (E σ)) (ha : PA X (e :: es) t) (hg : Gl X x := by rfl)
    (hdb : (x == ("__debug__" : Str)) = false := by decide)
    (he : starEach (e :: es) X.env = (false, eval e X.env) :: starEach es X.env := by rfl)
    (hpl : (backTo pos (starEach es X.env)).any (·.1) = false := by rfl) :
    PE X (.Call (.Name x p) (e :: es) [] pos) (tCallS sp E t) := by
  obtain ⟨f, fd, ps, F, hm, kp, hb⟩ := c.ex
  exact pe_callS F (hr.mono hk) hg hm kp hb hx ha hdb he hpl
theorem pass00 : ∀ σ, PassesAt CX0 X σ ((fun _ => E0) σ) := fun _ _ _ _ _ _ _ h => h.elim
/-- f() -/
def tCall0 (sp : Sp) (E : L2.St → XK) : TE := fun σ H Q => sp [] H Q (E σ)
theorem pe_cl0 (c : Cl X.prog X.w X.K X.mg X.base CX k x sp) (hr : Room j X.A) (hk : k ≤ j)
    (hx : ∀ σ, PassesAt CX X σ (E σ)) (hg : Gl X x := by rfl)
    (hdb : (x == ("__debug__" : Str)) = false := by decide) :
    PE X (.Call (.Name x p) [] [] pos) (tCall0 sp E) := by
  obtain ⟨f, fd, ps, F, hm, kp, hb⟩ := c.ex
  refine ⟨fun pins s σ H Q I h => ?_⟩
  refine wpAny_Call_Name_kw (ld_glob I hg hm ?_ hdb)
  exact PySem.W.callWith_K0 I.kIn kp (run_fnS (us := []) (E := E) F (hr.mono hk) hb (hx σ) I .nil h)

/-- the callee runs; no repr is under way -/
theorem run_G {f : Addr} {fd : FuncData} {ps : List Str} {pins : List (Addr × Obj)} {σ : L2.St} {H : Hp}
    {s : Shared} {Q : VK} {us : List Value} {vs : List V} {E1 : XK}
    (F : FnG X.prog X.w X.K X.mg X.base CX k f fd ps sp) (hr : Room k X.A) (hgd : X.A.guards = some [])
    (hb : Binds X.K fd ps []) (hx : PassesAt CX X σ E1) (I : Inv X pins σ H s) (r : Vals vs us)
    (h : sp vs H Q E1) : wpAny (model X.prog X.w) X.A (call (.ref f) us) (EP X pins σ Q) X.xe s := by
  have hl : us.length = ps.length := r.length.symm.trans (F.len _ _ _ _ h)
  have b := hb s us I.kIn (by rw [List.append_nil]; exact hl)
  rw [List.append_nil] at b
  have c := F.run X.A X.stack s H ⟨us, []⟩ us vs Q E1 hr hgd I.env0 b r h
  refine wpAny_call (codeAny_mono c fun res s' hq => ?_)
  match res, hq with
  | .error er, hq => exact hx pins H s er s' I hq
  | .ok (.ret _), hq => exact I.after hq
  | .ok .next, hq => exact hq.elim
  | .ok .brk, hq => exact hq.elim
  | .ok .cont, hq => exact hq.elim
theorem pe_clG (c : ClG X.prog X.w X.K X.mg X.base CX k x sp) (hr : Room j X.A) (hk : k ≤ j)
    (hgd : X.A.guards = some []) (hx : ∀ σ, PassesAt CX X σ (E σ)) (ha : PA X (e :: es) t)
    (hg : Gl X x := by rfl) (hdb : (x == ("__debug__" : Str)) = false := by decide)
    (he : starEach (e :: es) X.env = (false, eval e X.env) :: starEach es X.env := by rfl)
    (hpl : (backTo pos (starEach es X.env)).any (·.1) = false := by rfl) :
    PE X (.Call (.Name x p) (e :: es) [] pos) (tCallS sp E t) := by
  obtain ⟨f, fd, ps, F, hm, kp, hb⟩ := c.ex
  refine ⟨fun pins s σ H Q I h => wpAny_Call_Name_kw (ld_glob I hg hm ?_ hdb)⟩
  have st := thn (ha.run pos pins s σ H _ I h) (Q' := fun us s1 => X.K.In s1.heap ∧
    wpAny (model X.prog X.w) X.A (call (.ref f) us) (EP X pins σ Q) X.xe s1)
    (fun us s1 ⟨vs, H1, I1, r, q⟩ => ⟨I1.kIn, run_G F (hr.mono hk) hgd hb (hx σ) I1 r q⟩)
  exact PySem.W.callWith_K (h₀ := X.base) I.ok.mod.kin kp st he hpl
end

/-! ### a def's body, where no repr is under way -/
section
variable {P : Program} {w : World} {K : PySem.W.Frag} {mg : Str → Option Value} {base : Heap}
theorem okG {x qual : Str} {st : Stmt} {f : Addr} {fd : FuncData} {N ps : List Str} {k : Nat} {sp : Sp}
    (F : Fun K x qual st f fd) (S : FnScope N ps (defScope st))
    (len : ∀ vs H Q E, sp vs H Q E → vs.length = ps.length)
    (hbody : ∀ (cdv : Value) (A : Around) (outer : List Env) (s : Shared) (H : Hp) (vs : List V) (Q : VK) (E : XK),
      Room k (A.deeper (envOfC qual (defScope st) s.heap.objs.size f cdv)) → A.guards = some [] → sp vs H Q E →
      ∃ t, PSs (cxOf CX0 P w K mg base N qual (defScope st) f cdv A outer s H E).nox (defBody st) t ∧
        t { nx := fun _ H' => Q .non H', rt := Q } (start N vs) H) :
    FnG P w K mg base CX0 (k + 1) f fd ps sp := by
  obtain ⟨oc, od, kV, doc, pm, an, cdv, ct, osl, rfl, lk, hcd⟩ := F.ex
  refine ⟨len, fun A outer s H args us vs Q E hr hgd e0 hb r hsp => ?_⟩
  have hroomy := hr.depth
  have KX : K.In s.heap := e0.mod.kin.keeps fun b o e => (e0.bs b o e).1
  have lim : s.heap.NoLimit := e0.mod.nolimit.keeps fun b o e => (e0.bs b o e).1
  have hkd : ∀ y ∈ ps.zip us, (defScope st).names.lookup y.1 = some .local ∨
      ((defScope st).names.lookup y.1 = some .cell ∧
        ((cellsFrom (s.heap.objs.size + 1) (defScope st).names []).lookup y.1).isSome = true) := by
    rintro ⟨n, v⟩ hy
    have hn := (List.of_mem_zip hy).1
    cases S.par n hn with
    | inl q => exact Or.inl q
    | inr q => exact Or.inr ⟨q, PySem.W.cellsFrom_some _ _ _ (Or.inl q)⟩
  refine codeAny_call_function hroomy (KX _ _ lk) rfl S.co S.gen rfl (PySem.W.codeRec_of KX hcd)
    (hb _ _ _ _ (wpAny_newFunctionEnv_cells S.kind hkd fun env he s1 xx => ?_))
  subst he
  refine ⟨lim.keeps xx.toInCall.keep, codeAny_func ?_⟩
  obtain ⟨t, ht, hq⟩ := hbody cdv A outer s H vs Q E (hr.deeper _) hgd hsp
  have I : Inv (cxOf CX0 P w K mg base N qual (defScope st) f cdv A outer s H E) [] (start N vs) H s1 :=
    inv_start S hr.hd e0 (len _ _ _ _ hsp) r xx
  refine wpAny_mono (ht.nox.run [] s1 (start N vs) H _ I hq) (fun fl s' hs => ?_) fun e s' hs => hs
  match fl, hs with
  | .ret u, ⟨v, σ', H', J, rv, q⟩ => exact ⟨v, H', J.os, J.bare, J.base, J.hok, rv, q⟩
  | .next, ⟨σ', H', J, q⟩ => exact ⟨.non, H', J.os, J.bare, J.base, J.hok, rfl, q⟩
  | .brk, ⟨_, _, _, q⟩ => exact q.elim
  | .cont, ⟨_, _, _, q⟩ => exact q.elim
end
end J

set_option Elab.async false
set_option linter.all false
set_option maxRecDepth 100000
set_option maxHeartbeats 4000000
namespace J
open PySem L2 PyProof.Rows
section
variable {P : Program} {w : World} {K : PySem.W.Frag} {mg mb : Str → Option Value} {k : Nat}
  {fa a : Addr} {fd : FuncData} {x : Str} {sp : Sp} {s₁ : Shared} {vs : List Value} {ns : List Int}
def scriptO (vs : List Value) : Obj := { cls := .type "list", data := .seq vs.toArray }
/-- what is asked of the abstract heap at the law's entry -/
structure AtStart (P : Program) (w : World) (K : PySem.W.Frag) (s₁ : Shared) (a : Addr) (ns : List Int) (H : Hp) : Prop where
  only : Only H
  seq : SqL K H a (ns.map V.int)
  ok : HOk P w H s₁.heap
  at_a : ∀ b, H b ≠ none → b = a
  fr : H a ≠ none → K.lookup a = none
theorem start_any (KX : K.In s₁.heap) (ha : s₁.heap.get? a = some (scriptO vs)) (hi : IntsAre vs ns)
    (hl : ns.length ≤ sizeLine) : ∃ H, AtStart P w K s₁ a ns H := by
  have rv := vals_ints hi
  have hlen := hi.length
  cases hk : K.lookup a with
  | some o =>
    have e : o = scriptO vs := Option.some.inj ((KX a o hk).symm.trans ha)
    subst e
    refine ⟨fun _ => none, fun _ => .inl rfl, .inr ?_, fun b u z => (nomatch z), fun b z => absurd rfl z, fun z => absurd rfl z⟩
    exact ⟨_, vs.toArray, _, hk, rfl, rfl, rfl, by rw [List.size_toArray, hlen]; exact hl, by simpa using rv⟩
  | none =>
    have at1 : ∀ b, (if b = a then some (HO.frz (scriptO vs) (.lst (ns.map V.int))) else none) ≠ none → b = a := by
      intro b z
      by_cases hb : b = a
      · exact hb
      · rw [if_neg hb] at z
        exact absurd rfl z
    refine ⟨fun b => if b = a then some (.frz (scriptO vs) (.lst (ns.map V.int))) else none, fun b => ?_,
      .inl (.inr ⟨scriptO vs, if_pos rfl⟩), fun b u z => ?_, at1, fun _ => hk⟩
    · by_cases hb : b = a
      · exact .inr ⟨_, _, if_pos hb⟩
      · exact .inl (if_neg hb)
    · have hb : b = a := at1 b (by rw [z]; exact fun q => nomatch q)
      subst hb
      rw [if_pos rfl] at z
      cases z
      exact ⟨ha, by rw [List.length_map]; exact hl, vs, _, rv, ha⟩
theorem law_runG (KX : K.In s₁.heap) (hns : s₁.heap.Ns mainGlobals mg) (hb : s₁.heap.Ns builtinsNs mb)
    (hbb : ∀ x : Str, x ≠ "__name__" → mb x = bootBuiltins x) (hlim : s₁.heap.NoLimit) (hg : s₁.gens = #[])
    (ha : s₁.heap.get? a = some (scriptO vs)) (hi : IntsAre vs ns) (hl : ns.length ≤ sizeLine) (hr : Room k callerA)
    (F : ∀ base : Heap, K.In base → base.Ns mainGlobals mg → FnG P w K mg base CX0 k fa fd [x] sp)
    (hbind : ∀ (s : Shared) (u : Value), BindsTo s fd ⟨[u], []⟩ [(x, u)])
    (hsp : ∀ H : Hp, Only H → SqL K H a (ns.map V.int) → sp [.ref a] H (fun v _ => v = .bl true) fun _ _ _ => False) :
    codeAny (model P w) callerA (.call (.ref fa) ⟨[.ref a], []⟩)
      (fun r s' => r = .ok (.ret (.bool true)) ∧ OldK s₁.heap s'.heap ∧ s'.os = s₁.os ∧ AllBare s'.gens) s₁ := by
  obtain ⟨H, hO, hS, hok, hA, hK⟩ := start_any (P := P) (w := w) KX ha hi hl
  have bare_of {b : Addr} {o : Obj} {es : Array DictEntry} {ep : Nat} (e : s₁.heap.get? b = some o)
      (d : o.data = .dict es ep) : H b = none := Decidable.byContradiction fun q => by
    obtain rfl : b = a := hA b q
    rw [ha] at e
    cases e
    cases (show Data.seq vs.toArray _ = Data.dict es ep from d)
  have nsK {b : Addr} {m : Str → Option Value} (n : s₁.heap.Ns b m) : (hidT s₁.heap H).Ns b m := by
    obtain ⟨o, es, ep, e, d, r⟩ := n
    exact ⟨o, es, ep, hidT_get e (bare_of e d), d, r⟩
  have hKb : K.In (hidT s₁.heap H) := fun b o e => by
    refine hidT_get (KX b o e) (Decidable.byContradiction fun q => ?_)
    obtain rfl : b = a := hA b q
    rw [hK q] at e
    cases e
  obtain ⟨mc, l1, l2⟩ := hlim
  have hM : Mod K mg (hidT s₁.heap H) := ⟨hKb, nsK hns, ⟨mb, nsK hb, hbb⟩, ⟨mc, nsK l1, l2⟩⟩
  have nin : ∀ b : Addr, b ∉ frs ([] : List Env) := fun b z => absurd (show b ∈ ([] : List Addr) from z) (by simp)
  have e0 : Env0 P w K mg (hidT s₁.heap H) callerA [] s₁ H :=
    ⟨rfl, hM, fun b o e => of_hidT e, Nat.le_of_eq (hidT_size _ _), trivial, fun b z => absurd z (nin b), hok, .of_eq hg⟩
  have run := (F _ hKb (nsK hns)).run callerA [] s₁ H ⟨[.ref a], []⟩ [.ref a] [.ref a] _ _ hr rfl e0
    (hbind s₁ (.ref a)) (.cons rfl .nil) (hsp H hO hS)
  refine codeAny_mono run fun r s' h => ?_
  match r, h with
  | .error e, h => exact h.elim
  | .ok .next, h => exact h.elim
  | .ok .brk, h => exact h.elim
  | .ok .cont, h => exact h.elim
  | .ok (.ret u), ⟨v, H', os, bare, un, hok', r', q⟩ =>
    have q' : v = .bl true := q
    subst q'
    obtain rfl : u = Value.bool true := r'
    refine ⟨rfl, OldK.of_keep fun b o e => ?_, os, bare⟩
    rcases hO b with z | ⟨ob, xs, z⟩
    · exact un.keep b o e z (nin b) (by simp)
    · obtain ⟨e1, _⟩ := hok b _ z
      obtain ⟨e2, _⟩ := hok' b _ (un.frzs b ob _ z)
      rw [Option.some.inj (e.symm.trans e1)]
      exact e2
end
/-- the end of a law over FnG -/
theorem walk_ofG {l : PySem.W.OpenLaw} {n k : Nat} {q : Program} {loose : List Str}
    {XP : (Str → Option Value) → Heap → Prop} {YP : World → Heap → Prop} {d : DefRec}
    {K : Params → PySem.W.Frag} {sp : PySem.W.Frag → Sp} {x : Str}
    (hn : l.most = some n) (hn2 : n ≤ sizeLine) (hdf : d.params.defaults = []) (hr : Room k callerA)
    (hY : ∀ (w : World) (h : Heap), YP w h → (K w.params).In h)
    (F : ∀ (w : World) (mg : Str → Option Value) (fa : Addr) (h : Heap), (K w.params).In h → h.Ns mainGlobals mg →
      mg d.name = some (.ref fa) → ∃ fd : FuncData, (∀ (s : Shared) (u : Value), BindsTo s fd ⟨[u], []⟩ [(x, u)]) ∧
        ∀ base : Heap, (K w.params).In base → base.Ns mainGlobals mg →
          FnG l.prog w (K w.params) mg base CX0 k fa fd [x] (sp (K w.params)))
    (hsp : ∀ (K : PySem.W.Frag) (H : Hp) (a : Addr) (ns : List Int), ns.length ≤ n → Only H →
      SqL K H a (ns.map V.int) → sp K [.ref a] H (fun v _ => v = .bl true) fun _ _ _ => False) :
    PySem.W.WalkO q loose XP YP l.row.toRowW d [] (fun f vs => PySem.call f vs) := by
  refine Att.attach_call hn hdf fun w s₀ s₁ mg mb fa o pm cd doc a vs ns G Y ho hd hcd hmg hobj hints hlen hg => ?_
  have KX := hY w _ Y
  obtain ⟨fd, hb, hF⟩ := F w mg fa _ KX G.T.g hmg
  exact law_runG KX G.T.g G.T.b G.T.builtins G.T.nolimit hg hobj hints (Nat.le_trans hlen hn2) hr hF hb
    (fun H hO hS => hsp _ H a ns hlen hO hS)
end J

set_option Elab.async false
set_option linter.all false
set_option maxRecDepth 100000
set_option maxHeartbeats 4000000
namespace J
open PySem L2 PyProof.Rows

/-! ### frames -/
def Imm : HO → Prop
  | .tup _ => True
  | .frz _ _ => True
  | _ => False
/-- all but what stands at the addresses S is as it was; tuples and locked things stay in any case -/
structure But (S : List Addr) (H H' : Hp) : Prop where
  keep : ∀ b o, H b = some o → b ∉ S → H' b = some o
  imm : ∀ b o, H b = some o → Imm o → H' b = some o
  live : ∀ b, H b ≠ none → H' b ≠ none
section
variable {S T : List Addr} {H H' H1 H2 : Hp} {a b p : Addr} {o o' : HO} {K : PySem.W.Frag} {xs : List V}
theorem But.refl : But S H H := ⟨fun _ _ e _ => e, fun _ _ e _ => e, fun _ e => e⟩
theorem But.trans (h : But S H H1) (h' : But S H1 H2) : But S H H2 :=
  ⟨fun b o e n => h'.keep b o (h.keep b o e n) n, fun b o e i => h'.imm b o (h.imm b o e i) i, fun b e => h'.live b (h.live b e)⟩
theorem But.sub (h : But S H H') (hs : ∀ s ∈ S, s ∈ T) : But T H H' :=
  ⟨fun b o e n => h.keep b o e fun z => n (hs b z), h.imm, h.live⟩
theorem But.of_same (h : Same H H') : But S H H' := ⟨fun b o e _ => h b o e, fun b o e _ => h b o e, fun b e => by
  cases q : H b with
  | none => exact absurd q e
  | some o => rw [h b o q]; exact fun z => nomatch z⟩
theorem But.same (h : But [] H H') : Same H H' := fun b o e => h.keep b o e (by simp)
theorem But.new (h : H p = none) : But S H (upd H p o) := But.of_same fun b u e => by
  rw [upd_ne (ne_of_none e h)]; exact e
theorem But.write (h : H p = some o) (ni : ¬ Imm o) (hp : p ∈ S) : But S H (upd H p o') :=
  ⟨fun b u e n => by rw [upd_ne (fun z : b = p => n (by rw [z]; exact hp))]; exact e,
   fun b u e i => by
    have hb : b ≠ p := fun z => by subst z; rw [h] at e; cases e; exact ni i
    rw [upd_ne hb]; exact e,
   fun b e => by
    by_cases hb : b = p
    · rw [hb, upd_same]; exact fun z => nomatch z
    · rw [upd_ne hb]; exact e⟩
theorem But.drop (h : But (p :: S) H H') (hp : H p = none) : But S H H' :=
  ⟨fun b o e n => h.keep b o e fun z => (List.mem_cons.mp z).elim (fun q => ne_of_none e hp q) n, h.imm, h.live⟩
theorem But.at (h : But S H H') (e : H a = some o) (n : a ∉ S) : H' a = some o := h.keep a o e n
theorem But.tup (h : But S H H') (e : H a = some (.tup xs)) : H' a = some (.tup xs) := h.imm a _ e trivial
theorem But.free (h : But S H H') (e : H' p = none) : H p = none := Decidable.byContradiction fun q => h.live p q e
theorem But.rdT (h : But S H H') (e : Rd H a (.tup xs)) : Rd H' a (.tup xs) := by
  rcases e with e | ⟨o, e⟩
  · exact .inl (h.imm _ _ e trivial)
  · exact .inr ⟨o, h.imm _ _ e trivial⟩
theorem But.sqT (h : But S H H') (e : SqT K H a xs) : SqT K H' a xs := e.imp h.rdT id
theorem But.rdL (h : But S H H') (e : Rd H a (.lst xs)) (n : a ∉ S) : Rd H' a (.lst xs) := by
  rcases e with e | ⟨o, e⟩
  · exact .inl (h.keep _ _ e n)
  · exact .inr ⟨o, h.imm _ _ e trivial⟩
theorem But.sqL (h : But S H H') (e : SqL K H a xs) (n : a ∉ S) : SqL K H' a xs := e.imp (fun z => h.rdL z n) id
theorem live_of (e : H a = some o) : H a ≠ none := by rw [e]; exact fun z => nomatch z
/-- a store, its heap by a name -/
theorem upd_ex (h : H p = some (.lst xs)) {o' : HO} : ∃ H', upd H p o' = H' ∧ But [p] H H' ∧ H' p = some o' :=
  ⟨_, rfl, But.write h (fun z => z) (by simp), upd_same⟩
theorem upd_exD {kvs : List (Key × V)} (h : H p = some (.dK kvs)) {o' : HO} : ∃ H', upd H p o' = H' ∧ But [p] H H' ∧ H' p = some o' :=
  ⟨_, rfl, But.write h (fun z => z) (by simp), upd_same⟩
theorem upd_exI {C dx : Addr} {fs : List (Str × V)} (h : H p = some (.ins C dx fs)) {o' : HO} : ∃ H', upd H p o' = H' ∧ But [p] H H' ∧ H' p = some o' :=
  ⟨_, rfl, But.write h (fun z => z) (by simp), upd_same⟩
/-- the addresses are in use -/
def Live (S : List Addr) (H : Hp) : Prop := ∀ s ∈ S, H s ≠ none
theorem Live.nil : Live [] H := fun _ z => nomatch z
theorem Live.cons (e : H a = some o) (h : Live S H) : Live (a :: S) H := fun s hs =>
  (List.mem_cons.mp hs).elim (fun q => by rw [q]; exact live_of e) (h s)
theorem Live.but (h : Live S H) (b : But T H H') : Live S H' := fun s hs => b.live s (h s hs)
theorem Live.ne (h : Live S H) (e : H p = none) : p ∉ S := fun z => h p z e
end

section
variable {S T : List Addr} {H H' H1 : Hp} {a b : Addr} {o : HO} {xs : List V} {K : PySem.W.Frag}
theorem ni_cons (h : a ≠ b) (h' : a ∉ S) : a ∉ b :: S := fun z => (List.mem_cons.mp z).elim h h'
theorem same_at (h : Same H H') (e : H a = some o) : H' a = some o := h a o e
theorem but_at (h : But S H H') (e : H a = some o) (n : a ∉ S) : H' a = some o := h.keep a o e n
theorem but_tup (h : But S H H') (e : H a = some (.tup xs)) : H' a = some (.tup xs) := h.tup e
theorem same_sqL (h : Same H H') (e : SqL K H a xs) : SqL K H' a xs := h.seq e
theorem same_sqT (h : Same H H') (e : SqT K H a xs) : SqT K H' a xs := (But.of_same (S := []) h).sqT e
theorem but_sqT (h : But S H H') (e : SqT K H a xs) : SqT K H' a xs := h.sqT e
theorem but_sqL (h : But S H H') (e : SqL K H a xs) (n : a ∉ S) : SqL K H' a xs := h.sqL e n
theorem lv_same (b : Same H H') (h : H a ≠ none) : H' a ≠ none := (But.of_same (S := []) b).live a h
theorem lv_but (b : But S H H') (h : H a ≠ none) : H' a ≠ none := b.live a h
theorem ne_live (h : H a ≠ none) (e : H b = none) : b ≠ a := fun z => h (z ▸ e)
/-- what was in use is in use -/
def Le (H H' : Hp) : Prop := ∀ b, H b ≠ none → H' b ≠ none
theorem Le.refl : Le H H := fun _ h => h
theorem le_same (h : Le H H1) (b : Same H1 H') : Le H H' := fun a e => (But.of_same (S := []) b).live a (h a e)
theorem le_but (h : Le H H1) (b : But T H1 H') : Le H H' := fun a e => b.live a (h a e)
theorem fr_le (h : Le H H') (e : H' a = none) : H a = none := Decidable.byContradiction fun q => h a q e
theorem bt_same (h : But S H H1) (b : Same H1 H') : But S H H' := h.trans (But.of_same b)
theorem bt_but (h : But S H H1) (b : But T H1 H') (c : ∀ t ∈ T, t ∈ S ∨ H t = none) : But S H H' :=
  ⟨fun x o e n => b.keep x o (h.keep x o e n) fun z => (c x z).elim n (fun q => ne_of_none e q rfl),
   fun x o e i => b.imm x o (h.imm x o e i) i, fun x e => b.live x (h.live x e)⟩
theorem sub_nil : ∀ s ∈ ([] : List Addr), s ∈ S := fun _ z => nomatch z
theorem sub_cons (h : a ∈ S) (k : ∀ s ∈ T, s ∈ S) : ∀ s ∈ a :: T, s ∈ S := fun t z => (List.mem_cons.mp z).elim (fun q => q ▸ h) (k t)
theorem bc_nil : ∀ t ∈ ([] : List Addr), t ∈ S ∨ H t = none := fun _ z => nomatch z
theorem bc_in (h : a ∈ S) (k : ∀ t ∈ T, t ∈ S ∨ H t = none) : ∀ t ∈ a :: T, t ∈ S ∨ H t = none :=
  fun t z => (List.mem_cons.mp z).elim (fun q => .inl (q ▸ h)) (k t)
theorem bc_fr (h : H a = none) (k : ∀ t ∈ T, t ∈ S ∨ H t = none) : ∀ t ∈ a :: T, t ∈ S ∨ H t = none :=
  fun t z => (List.mem_cons.mp z).elim (fun q => .inr (q ▸ h)) (k t)
end
/-! ### data: none of its lists is one of S -/
mutual
inductive Dn (K : PySem.W.Frag) (S : List Addr) (H : Hp) : V → PyData → Prop
  | non : Dn K S H .non .none
  | bl (b : Bool) : Dn K S H (.bl b) (.bool b)
  | int (i : Int) : Dn K S H (.int i) (.int i)
  | str (x : Str) : Dn K S H (.str x) (.str x)
  | lst {a : Addr} {xs : List V} {ds : List PyData} : H a = some (.lst xs) → a ∉ S → DnAll K S H xs ds → Dn K S H (.ref a) (.list ds)
  | tup {a : Addr} {xs : List V} {ds : List PyData} : SqT K H a xs → DnAll K S H xs ds → Dn K S H (.ref a) (.tuple ds)
inductive DnAll (K : PySem.W.Frag) (S : List Addr) (H : Hp) : List V → List PyData → Prop
  | nil : DnAll K S H [] []
  | cons {v : V} {vs : List V} {d : PyData} {ds : List PyData} : Dn K S H v d → DnAll K S H vs ds → DnAll K S H (v :: vs) (d :: ds)
end
section
variable {S T : List Addr} {H H' : Hp} {K : PySem.W.Frag} {v : V} {d : PyData} {vs ws : List V} {ds es : List PyData}
theorem Dn.map (hl : ∀ a xs, H a = some (.lst xs) → a ∉ S → H' a = some (.lst xs) ∧ a ∉ T) (ht : ∀ a xs, SqT K H a xs → SqT K H' a xs)
    (h : Dn K S H v d) : Dn K T H' v d := by
  refine Dn.rec (motive_1 := fun v d _ => Dn K T H' v d) (motive_2 := fun vs ds _ => DnAll K T H' vs ds) ?_ ?_ ?_ ?_ ?_ ?_ ?_ ?_ h
  · exact .non
  · exact .bl
  · exact .int
  · exact .str
  · intro a xs ds h1 h2 _ h4
    obtain ⟨q1, q2⟩ := hl a xs h1 h2
    exact .lst q1 q2 h4
  · intro a xs ds h1 _ h3
    exact .tup (ht a xs h1) h3
  · exact .nil
  · intro v vs d ds _ _ h1 h2
    exact .cons h1 h2
theorem DnAll.each (f : ∀ v d, Dn K S H v d → Dn K T H' v d) : ∀ {vs : List V} {ds : List PyData}, DnAll K S H vs ds → DnAll K T H' vs ds
  | _, _, .nil => .nil
  | _, _, .cons h t => .cons (f _ _ h) (DnAll.each f t)
theorem Dn.but (b : But T H H') (h : Dn K S H v d) (hs : ∀ s ∈ T, s ∈ S) : Dn K S H' v d :=
  h.map (fun _ _ r n => ⟨b.at r fun z => n (hs _ z), n⟩) fun _ _ r => b.sqT r
theorem Dn.same (b : Same H H') (h : Dn K S H v d) : Dn K S H' v d := h.but (But.of_same (S := []) b) (by simp)
theorem Dn.sub (h : Dn K S H v d) (hs : ∀ s ∈ T, s ∈ S) : Dn K T H v d := h.map (fun _ _ r n => ⟨r, fun z => n (hs _ z)⟩) fun _ _ r => r
theorem rd_live {a : Addr} {u : HO} (r : Rd H a u) : H a ≠ none := by
  rcases r with r | ⟨o, r⟩ <;> rw [r] <;> exact fun z => nomatch z
theorem Dn.fresh {p : Addr} (h : Dn K S H v d) (hp : H p = none) : Dn K (p :: S) H v d :=
  h.map (fun a _ r n => ⟨r, fun z => (List.mem_cons.mp z).elim (fun q => live_of r (q ▸ hp)) n⟩) fun _ _ r => r
theorem DnAll.but (b : But T H H') (h : DnAll K S H vs ds) (hs : ∀ s ∈ T, s ∈ S) : DnAll K S H' vs ds := h.each fun _ _ q => q.but b hs
theorem DnAll.same (b : Same H H') (h : DnAll K S H vs ds) : DnAll K S H' vs ds := h.each fun _ _ q => q.same b
theorem DnAll.sub (h : DnAll K S H vs ds) (hs : ∀ s ∈ T, s ∈ S) : DnAll K T H vs ds := h.each fun _ _ q => q.sub hs
theorem DnAll.fresh {p : Addr} (h : DnAll K S H vs ds) (hp : H p = none) : DnAll K (p :: S) H vs ds := h.each fun _ _ q => q.fresh hp
theorem DnAll.append : ∀ {vs : List V} {ds : List PyData}, DnAll K S H vs ds → DnAll K S H ws es → DnAll K S H (vs ++ ws) (ds ++ es)
  | _, _, .nil, h => h
  | _, _, .cons h t, h' => .cons h (DnAll.append t h')
theorem DnAll.snoc (h : DnAll K S H vs ds) (h' : Dn K S H v d) : DnAll K S H (vs ++ [v]) (ds ++ [d]) := h.append (.cons h' .nil)
theorem DnAll.length : ∀ {vs : List V} {ds : List PyData}, DnAll K S H vs ds → vs.length = ds.length
  | _, _, .nil => rfl
  | _, _, .cons _ t => congrArg (· + 1) (DnAll.length t)
theorem DnAll.get : ∀ {vs : List V} {ds : List PyData} {i : Nat} {x : V}, DnAll K S H vs ds → vs[i]? = some x → ∃ d, ds[i]? = some d ∧ Dn K S H x d
  | _, _, _, _, .nil, e => by simp at e
  | _, _, 0, _, .cons h _, e => by
    obtain rfl : _ = _ := Option.some.inj e
    exact ⟨_, rfl, h⟩
  | _, _, i + 1, x, .cons _ t, e => by
    obtain ⟨d, h1, h2⟩ := DnAll.get (i := i) t (by simpa using e)
    exact ⟨d, by simpa using h1, h2⟩
theorem DnAll.getD : ∀ {vs : List V} {ds : List PyData} {i : Nat} {d : PyData}, DnAll K S H vs ds → ds[i]? = some d → ∃ x, vs[i]? = some x ∧ Dn K S H x d
  | _, _, _, _, .nil, e => by simp at e
  | _, _, 0, _, .cons h _, e => by
    obtain rfl : _ = _ := Option.some.inj e
    exact ⟨_, rfl, h⟩
  | _, _, i + 1, x, .cons _ t, e => by
    obtain ⟨d, h1, h2⟩ := DnAll.getD (i := i) t (by simpa using e)
    exact ⟨d, by simpa using h1, h2⟩
theorem DnAll.drop : ∀ {vs : List V} {ds : List PyData} (n : Nat), DnAll K S H vs ds → DnAll K S H (vs.drop n) (ds.drop n)
  | _, _, 0, h => h
  | _, _, _ + 1, .nil => .nil
  | _, _, n + 1, .cons _ t => DnAll.drop n t
theorem DnAll.take : ∀ {vs : List V} {ds : List PyData} (n : Nat), DnAll K S H vs ds → DnAll K S H (vs.take n) (ds.take n)
  | _, _, 0, _ => .nil
  | _, _, _ + 1, .nil => .nil
  | _, _, n + 1, .cons h t => .cons h (DnAll.take n t)
theorem DnAll.ints : ∀ {ns : List Int}, DnAll K S H (ns.map V.int) (ns.map PyData.int)
  | [] => .nil
  | _ :: _ => .cons (.int _) DnAll.ints
theorem DnAll.ints_of : ∀ {vs : List V} {ns : List Int}, DnAll K S H vs (ns.map PyData.int) → vs = ns.map V.int
  | _, [], .nil => rfl
  | _, _ :: _, .cons h t => by
    cases h
    exact congrArg _ (DnAll.ints_of t)
theorem DnAll.one (h : Dn K S H v d) : DnAll K S H [v] [d] := .cons h .nil
theorem Dn.dp (h : Dn K S H v d) : Dp K H v d := by
  refine Dn.rec (motive_1 := fun v d _ => Dp K H v d) (motive_2 := fun vs ds _ => DpAll K H vs ds) ?_ ?_ ?_ ?_ ?_ ?_ ?_ ?_ h
  · exact .non
  · exact .bl
  · exact .int
  · exact .str
  · intro a xs ds h1 _ _ h4
    exact .lst (SqL.of h1) h4
  · intro a xs ds h1 _ h3
    exact .tup h1 h3
  · exact .nil
  · intro v vs d ds _ _ h1 h2
    exact .cons h1 h2
end
end J

set_option Elab.async false
set_option linter.all false
set_option maxRecDepth 100000
set_option maxHeartbeats 4000000
namespace J
open PySem L2 PyProof.Rows

/-! ### operators whatever the values' kinds -/
def rCatS : R2 := fun x y H Q => ∃ i j, x = .str i ∧ y = .str j ∧ i.length + j.length ≤ sizeLine ∧ Q (.str (i ++ j)) H
def rAddA (K : PySem.W.Frag) : R2 := fun x y H Q => rI0 (fun i j => .int (i + j)) x y H Q ∨ (rCatS x y H Q ∨ (rCat x y H Q ∨ rCatA K x y H Q))
def rMulA (K : PySem.W.Frag) : R2 := fun x y H Q => rI CMul (fun i j => .int (i * j)) x y H Q ∨ (rRep x y H Q ∨ rRepT K x y H Q)
def rEqA (K : PySem.W.Frag) : R2 := fun x y H Q => rEq x y H Q ∨ rEqD K x y H Q
def rNeA (K : PySem.W.Frag) : R2 := fun x y H Q => rNe x y H Q ∨ rNeD K x y H Q
def rLtS : R2 := fun x y H Q => ∃ i j, x = .str i ∧ y = .str j ∧ Q (.bl (decide (i.cps.toList < j.cps.toList))) H
def rLtA : R2 := fun x y H Q => rI0 (fun i j => .bl (decide (i < j))) x y H Q ∨ rLtS x y H Q
/-- in a tuple of data -/
def rInDT (K : PySem.W.Frag) : R2 := fun x y H Q => ∃ d ds, Dp K H x d ∧ Dp K H y (.tuple ds) ∧ SeqAt.shaped d = true ∧ SeqAt.shaped (.tuple ds) = true ∧ Q (.bl (ds.any fun z => PyData.eqv z d)) H
def rNiDT (K : PySem.W.Frag) : R2 := fun x y H Q => ∃ d ds, Dp K H x d ∧ Dp K H y (.tuple ds) ∧ SeqAt.shaped d = true ∧ SeqAt.shaped (.tuple ds) = true ∧ Q (.bl (!ds.any fun z => PyData.eqv z d)) H
theorem op_inDT {X : Cx} (hu : X.A.units + 65 < cLine) : OpR X (compareOp .In) (rInDT X.K) := by
  rintro pins s σ H x y v u Q I rx ry ⟨d, ds, hd, he, sd, se, q⟩
  obtain ⟨_, r1⟩ := Dp.reads I d x v hd rx
  obtain ⟨_, r2⟩ := Dp.reads I (.tuple ds) y u he ry
  refine SeqAt.in_tuple_reads r2 r1 (SeqAt.canLay_of_shaped se) (SeqAt.canLay_of_shaped sd) ?_ ⟨.bl _, H, I, rfl, q⟩
  have := SeqAt.depth_of_shaped sd
  omega
theorem op_niDT {X : Cx} (hu : X.A.units + 65 < cLine) : OpR X (compareOp .NotIn) (rNiDT X.K) := by
  rintro pins s σ H x y v u Q I rx ry ⟨d, ds, hd, he, sd, se, q⟩
  obtain ⟨_, r1⟩ := Dp.reads I d x v hd rx
  obtain ⟨_, r2⟩ := Dp.reads I (.tuple ds) y u he ry
  refine SeqAt.notIn_tuple_reads r2 r1 (SeqAt.canLay_of_shaped se) (SeqAt.canLay_of_shaped sd) ?_ ⟨.bl _, H, I, rfl, q⟩
  have := SeqAt.depth_of_shaped sd
  omega
def rInA (K : PySem.W.Frag) : R2 := fun x y H Q => rIn K false x y H Q ∨ (rInD K x y H Q ∨ rInDT K x y H Q)
def rNiA (K : PySem.W.Frag) : R2 := fun x y H Q => rIn K true x y H Q ∨ (rNotInD K x y H Q ∨ rNiDT K x y H Q)
def rIadd : R2 := fun x y H Q => rI0 (fun i j => .int (i + j)) x y H Q ∨ (rCatS x y H Q ∨ rExt2 x y H Q)
theorem units65 {k : Nat} {A : Around} (r : Room k A) : A.units + 65 < cLine := by have := r.un; omega
def rLenA (K : PySem.W.Frag) : List V → Hp → VK → Prop := fun xs H Q => ∃ x n, xs = [x] ∧ LenV K x H n ∧ Q (.int n) H
def rListA (K : PySem.W.Frag) : List V → Hp → VK → Prop := fun xs H Q => ∃ p ys, xs = [.ref p] ∧ (SqL K H p ys ∨ SqT K H p ys) ∧ ∀ l, H l = none → Q (.ref l) (upd H l (.lst ys))
def rTupA (K : PySem.W.Frag) : List V → Hp → VK → Prop := fun xs H Q => ∃ p ys, xs = [.ref p] ∧ ((SqL K H p ys ∧ ∀ l, H l = none → Q (.ref l) (upd H l (.tup ys))) ∨ (SqT K H p ys ∧ Q (.ref p) H))
def tTruA (K : PySem.W.Frag) (ta : TE) : TT := fun σ H R => ta σ H fun x H' => ∃ k, TruV K x H' k ∧ R k H'
def rSlAny (K : PySem.W.Frag) : V → Option Int → Option Int → Hp → VK → Prop := fun x lo hi H Q => rSlL K x lo hi H Q ∨ rSlA K x lo hi H Q
section
variable {X : Cx} {K : PySem.W.Frag}
theorem op_addA (e : X.K = K := by rfl) : OpR X (binaryOp .Add) (rAddA K) := by
  subst e; exact OpR.or op_add (OpR.or op_add_str (OpR.or op_cat op_catA))
theorem op_mulA (e : X.K = K := by rfl) : OpR X (binaryOp .Mult) (rMulA K) := by
  subst e; exact OpR.or op_mul (OpR.or op_rep op_repT)
theorem op_eqA (hu : X.A.units + 64 < cLine) (e : X.K = K := by rfl) : OpR X (compareOp .Eq) (rEqA K) := by
  subst e; exact OpR.or op_eq (op_eqD hu)
theorem op_neA (hu : X.A.units + 64 < cLine) (e : X.K = K := by rfl) : OpR X (compareOp .NotEq) (rNeA K) := by
  subst e; exact OpR.or op_ne (op_neD hu)
theorem op_ltA : OpR X (compareOp .Lt) rLtA := OpR.or op_lt op_lt_str
theorem op_inA (hu : X.A.units + 65 < cLine) (e : X.K = K := by rfl) : OpR X (compareOp .In) (rInA K) := by
  subst e; exact OpR.or op_in_seq (OpR.or (op_inD hu) (op_inDT hu))
theorem op_niA (hu : X.A.units + 65 < cLine) (e : X.K = K := by rfl) : OpR X (compareOp .NotIn) (rNiA K) := by
  subst e; exact OpR.or op_notIn_seq (OpR.or (op_notInD hu) (op_niDT hu))
theorem ip_addA : PIp X .Add rIadd := OpR.or (f := inplaceOp .Add) iop_add (OpR.or (f := inplaceOp .Add) iop_add_str iop_ext)
theorem ip_subA : PIp X .Sub (rI0 fun i j => .int (i - j)) := iop_sub
theorem ix_any (e : X.K = K := by rfl) : IxR X (rIx K) := by subst e; exact ix_seq
theorem sl_any (e : X.K = K := by rfl) : SlR X (rSlAny K) := by subst e; exact SlR.or sl_list sl_tupA
theorem call_lenA (e : X.K = K := by rfl) : CallR X (.builtin "len") (rLenA K) := by subst e; exact call_len
theorem call_listA (e : X.K = K := by rfl) : CallR X (.type "list") (rListA K) := by subst e; exact call_list_of
theorem call_tupleA (e : X.K = K := by rfl) : CallR X (.type "tuple") (rTupA K) := by subst e; exact call_tuple_of
theorem call_reprA (hg : X.A.guards = some []) (hu : X.A.units + 64 < cLine) (e : X.K = K := by rfl) :
    CallR X (.builtin "repr") (rRepr K) := by subst e; exact call_reprD hg hu
theorem call_sortedPA (e : X.K = K := by rfl) : CallR X (.builtin "sorted") (rSortedPO K) := by subst e; exact cr_sortedPO
theorem call_sortedIA (e : X.K = K := by rfl) : CallR X (.builtin "sorted") (rSortedI K) := by subst e; exact cr_sortedI
theorem call_sumA (hc : X.calm = true) (e : X.K = K := by rfl) : CallR X (.builtin "sum") (rSum K) := by subst e; exact cr_sum hc
theorem call_allA (hc : X.calm = true) (e : X.K = K := by rfl) : CallR X (.builtin "all") (rAll K) := by subst e; exact cr_all hc
theorem call_anyA (hc : X.calm = true) (e : X.K = K := by rfl) : CallR X (.builtin "any") (rAny K) := by subst e; exact cr_any hc
theorem pi_lst {tg l : Expr} {tl : TE} (hl : PE X l tl) (e : X.K = K := by rfl) : PI X tg l (iList K tl) := by subst e; exact pi_list hl
theorem pi_tpl {tg l : Expr} {tl : TE} (hl : PE X l tl) (e : X.K = K := by rfl) : PI X tg l (iTup K tl) := by subst e; exact pi_tup hl
theorem pe_fldA {x : Expr} {ta : TE} {f : Str} {pos : Pos} (he : PE X x ta) (hb : attributeBase x f X.env (eval x X.env) = eval x X.env := by rfl)
    (e : X.K = K := by rfl) : PE X (.Attribute x f pos) (tFld K ta f) := by subst e; exact pe_fld he hb
theorem pt_tru {a : Expr} {ta : TE} (ha : PE X a ta) (he : ∀ whole, isTrue a X.env whole = (do let v ← whole; standAt a.pos; holding [v] (truthy v)) := by intro _; rfl)
    (e : X.K = K := by rfl) : PT X a (tTruA K ta) := by subst e; exact pt_truth ha he
theorem pg_tpl {es : List Expr} {k n : Nat} {t : TGs} {pos : Pos} (hc : X.calm = true) (h : PGs X es t)
    (hn : (assignEach es X.env).length = n := by rfl) (hst : (assignEach es X.env).findIdx? (·.1) = none := by rfl)
    (e : X.K = K := by rfl) : PG X (.Tuple es k pos) (gTup K n t) := by subst e; exact pg_tup hc h hn hst
end

section
variable {σ : L2.St} {H H' H1 : Hp} {K : PySem.W.Frag} {Q : VK} {i j : Int} {n : Nat} {v x y : V} {te ta tb : TE} {p q : Addr} {xs ys : List V}
  {D : Ends} {t u : TS} {R : Bool → Hp → Prop}
/-! ### expressions -/
theorem r_var (h : σ[n]? = some (some v)) (k : Q v H) : tVar n σ H Q := ⟨v, h, k⟩
theorem r_c (k : Q v H) : tC v σ H Q := k
theorem r_op {r : R2} (k : ta σ H fun x H1 => tb σ H1 fun y H2 => r x y H2 Q) : tOp r ta tb σ H Q := k
theorem r_un {r : V → Hp → VK → Prop} (k : ta σ H fun x H1 => r x H1 Q) : tUn r ta σ H Q := k
theorem r_I0 {g : Int → Int → V} (k : Q (g i j) H) : rI0 g (.int i) (.int j) H Q := ⟨i, j, rfl, rfl, k⟩
theorem r_I {C : Int → Int → Prop} {g : Int → Int → V} (c : C i j) (k : Q (g i j) H) : rI C g (.int i) (.int j) H Q := ⟨i, j, rfl, rfl, c, k⟩
theorem r_U {g : Int → V} (k : Q (g i) H) : rU g (.int i) H Q := ⟨i, rfl, k⟩
theorem r_addI (k : Q (.int (i + j)) H) : rAddA K (.int i) (.int j) H Q := .inl ⟨i, j, rfl, rfl, k⟩
theorem r_addS {a b : Str} (c : a.length + b.length ≤ sizeLine) (k : Q (.str (a ++ b)) H) : rAddA K (.str a) (.str b) H Q := .inr (.inl ⟨a, b, rfl, rfl, c, k⟩)
theorem r_addL (h1 : H p = some (.lst xs)) (h2 : H q = some (.lst ys)) (c : xs.length + ys.length ≤ sizeLine)
    (k : ∀ l H', H l = none → Same H H' → H' l = some (.lst (xs ++ ys)) → Q (.ref l) H') : rAddA K (.ref p) (.ref q) H Q :=
  .inr (.inr (.inl ⟨p, q, xs, ys, rfl, rfl, h1, h2, c, fun l hl => k l _ hl (But.new (S := []) hl).same upd_same⟩))
theorem r_mulI (c : CMul i j) (k : Q (.int (i * j)) H) : rMulA K (.int i) (.int j) H Q := .inl ⟨i, j, rfl, rfl, c, k⟩
theorem mulL (h : -(2 ^ 64) < i) (h' : i < 2 ^ 64) : CMul i j := .inl ⟨h, h'⟩
theorem mulR (h : -(2 ^ 64) < j) (h' : j < 2 ^ 64) : CMul i j := .inr ⟨h, h'⟩
theorem dec_int : decide (V.int i = V.int j) = decide (i = j) := by
  by_cases h : i = j
  · subst h; simp
  · rw [decide_eq_false h, decide_eq_false fun z => h (V.int.inj z)]
theorem dec_str {a b : Str} : decide (V.str a = V.str b) = decide (a = b) := by
  by_cases h : a = b
  · subst h; simp
  · rw [decide_eq_false h, decide_eq_false fun z => h (V.str.inj z)]
theorem dec_bl {a b : Bool} : decide (V.bl a = V.bl b) = decide (a = b) := by
  by_cases h : a = b
  · subst h; simp
  · rw [decide_eq_false h, decide_eq_false fun z => h (V.bl.inj z)]
theorem r_eqI (k : Q (.bl (decide (i = j))) H) : rEqA K (.int i) (.int j) H Q := .inl ⟨rfl, by rw [dec_int]; exact k⟩
theorem r_eqS {a b : Str} (k : Q (.bl (decide (a = b))) H) : rEqA K (.str a) (.str b) H Q := .inl ⟨rfl, by rw [dec_str]; exact k⟩
theorem r_eqB {a b : Bool} (k : Q (.bl (decide (a = b))) H) : rEqA K (.bl a) (.bl b) H Q := .inl ⟨rfl, by rw [dec_bl]; exact k⟩
theorem r_eqD {d e : PyData} (h1 : Dp K H x d) (h2 : Dp K H y e) (s1 : SeqAt.shaped d = true) (s2 : SeqAt.shaped e = true) (k : Q (.bl (PyData.eqv d e)) H) : rEqA K x y H Q :=
  .inr ⟨d, e, h1, h2, s1, s2, k⟩
theorem r_neI (k : Q (.bl (!decide (i = j))) H) : rNeA K (.int i) (.int j) H Q := .inl ⟨rfl, by rw [dec_int]; exact k⟩
theorem r_neS {a b : Str} (k : Q (.bl (!decide (a = b))) H) : rNeA K (.str a) (.str b) H Q := .inl ⟨rfl, by rw [dec_str]; exact k⟩
theorem r_neB {a b : Bool} (k : Q (.bl (!decide (a = b))) H) : rNeA K (.bl a) (.bl b) H Q := .inl ⟨rfl, by rw [dec_bl]; exact k⟩
theorem r_neD {d e : PyData} (h1 : Dp K H x d) (h2 : Dp K H y e) (s1 : SeqAt.shaped d = true) (s2 : SeqAt.shaped e = true) (k : Q (.bl (!PyData.eqv d e)) H) : rNeA K x y H Q :=
  .inr ⟨d, e, h1, h2, s1, s2, k⟩
theorem r_ltI (k : Q (.bl (decide (i < j))) H) : rLtA (.int i) (.int j) H Q := .inl ⟨i, j, rfl, rfl, k⟩
theorem r_ltS {a b : Str} (k : Q (.bl (decide (a.cps.toList < b.cps.toList))) H) : rLtA (.str a) (.str b) H Q := .inr ⟨a, b, rfl, rfl, k⟩
/-- i in ints -/
theorem inV_int {ns : List Int} {i : Int} : inV (.int i) (ns.map V.int) = decide (i ∈ ns) := by
  unfold inV
  induction ns with
  | nil => rfl
  | cons a l ih =>
    rw [List.map_cons, List.any_cons, ih]
    have e : eqV (V.int a) (V.int i) = decide (a = i) := Bool.beq_eq_decide_eq a i
    rw [e, ← Bool.decide_or]
    exact decide_eq_decide.mpr (by rw [List.mem_cons, eq_comm])
theorem flat_ints (ns : List Int) : (ns.map V.int).all flatV = true := by
  rw [List.all_eq_true]
  intro v hv
  obtain ⟨i, _, rfl⟩ := List.mem_map.mp hv
  rfl
theorem r_inL {ns : List Int} (h : SqL K H p (ns.map V.int)) (k : Q (.bl (decide (i ∈ ns))) H) : rInA K (.int i) (.ref p) H Q :=
  .inl ⟨p, _, rfl, .inl h, rfl, flat_ints ns, by rw [inV_int]; exact k⟩
theorem r_inT {ns : List Int} (h : SqT K H p (ns.map V.int)) (k : Q (.bl (decide (i ∈ ns))) H) : rInA K (.int i) (.ref p) H Q :=
  .inl ⟨p, _, rfl, .inr h, rfl, flat_ints ns, by rw [inV_int]; exact k⟩
theorem r_niL {ns : List Int} (h : SqL K H p (ns.map V.int)) (k : Q (.bl (!decide (i ∈ ns))) H) : rNiA K (.int i) (.ref p) H Q :=
  .inl ⟨p, _, rfl, .inl h, rfl, flat_ints ns, by rw [inV_int]; exact k⟩
theorem r_niT {ns : List Int} (h : SqT K H p (ns.map V.int)) (k : Q (.bl (!decide (i ∈ ns))) H) : rNiA K (.int i) (.ref p) H Q :=
  .inl ⟨p, _, rfl, .inr h, rfl, flat_ints ns, by rw [inV_int]; exact k⟩
/-- subscripts -/
theorem r_ixL (h : SqL K H p xs) (a : atI xs i = some v) (k : Q v H) : rIx K (.ref p) (.int i) H Q := .inl ⟨p, xs, i, v, rfl, rfl, h, a, k⟩
theorem r_ixT (h : SqT K H p xs) (a : atI xs i = some v) (k : Q v H) : rIx K (.ref p) (.int i) H Q := .inr (.inl ⟨p, xs, i, v, rfl, rfl, h, a, k⟩)
/-- displays -/
theorem r_nil {R : List V → Hp → Prop} (k : R [] H) : tNil σ H R := k
theorem r_cons {tr : TA} {R : List V → Hp → Prop} (k : ta σ H fun x H1 => tr σ H1 fun xs H2 => R (x :: xs) H2) : tCons ta tr σ H R := k
def NewT (Q : VK) (xs : List V) (H : Hp) : Prop := xs.length ≤ sizeLine ∧ ∀ p, H p = none → Q (.ref p) (upd H p (.tup xs))
def NewL (Q : VK) (xs : List V) (H : Hp) : Prop := xs.length ≤ sizeLine ∧ ∀ p, H p = none → Q (.ref p) (upd H p (.lst xs))
theorem r_tup {ta : TA} (k : ta σ H fun xs H1 => NewT Q xs H1) : tTup ta σ H Q := k
theorem r_lst {ta : TA} (k : ta σ H fun xs H1 => NewL Q xs H1) : tLst ta σ H Q := k
theorem r_newT (c : xs.length ≤ sizeLine) (k : ∀ p H', H p = none → Same H H' → H' p = some (.tup xs) → Q (.ref p) H') : NewT Q xs H :=
  ⟨c, fun p hp => k p _ hp (But.new (S := []) hp).same upd_same⟩
theorem r_newL (c : xs.length ≤ sizeLine) (k : ∀ p H', H p = none → Same H H' → H' p = some (.lst xs) → Q (.ref p) H') : NewL Q xs H :=
  ⟨c, fun p hp => k p _ hp (But.new (S := []) hp).same upd_same⟩
/-- built-ins -/
theorem r_CB {r : List V → Hp → VK → Prop} {ta : TA} (k : ta σ H fun vs H1 => r vs H1 Q) : tCB r ta σ H Q := k
theorem r_callS {sp : Sp} {E : L2.St → XK} {ta : TA} (k : ta σ H fun vs H1 => sp vs H1 Q (E σ)) : tCallS sp E ta σ H Q := k
theorem r_if {tt : TT} (k : tt σ H fun b H1 => if b = true then ta σ H1 Q else tb σ H1 Q) : tIf tt ta tb σ H Q := k
/-! ### tests -/
theorem r_test (k : te σ H fun x H' => ∃ k, x = .bl k ∧ R k H') : tTest te σ H R := k
theorem r_tB (k : te σ H fun x H' => ∃ k, x = .bl k ∧ R k H') : tB te σ H R := k
theorem r_and {a b : TT} (k : a σ H fun c H1 => if c = true then b σ H1 R else R false H1) : tAnd a b σ H R := k
theorem r_or {a b : TT} (k : a σ H fun c H1 => if c = true then R true H1 else b σ H1 R) : tOr a b σ H R := k
theorem r_not {a : TT} (k : a σ H fun c H1 => R (!c) H1) : tNot a σ H R := k
theorem r_exb {b : Bool} {R : Bool → Prop} (k : R b) : ∃ k, V.bl b = .bl k ∧ R k := ⟨b, rfl, k⟩
theorem r_yes (k : R true H) : tYes σ H R := k
theorem r_ite {P A B : Prop} {dp : Decidable P} (h1 : P → A) (h2 : ¬ P → B) : if decide P = true then A else B := by
  by_cases h : P
  · rw [decide_eq_true h, if_pos rfl]; exact h1 h
  · rw [decide_eq_false h, if_neg Bool.false_ne_true]; exact h2 h
theorem r_iteN {P A B : Prop} {dp : Decidable P} (h1 : ¬ P → A) (h2 : P → B) : if (!decide P) = true then A else B := by
  by_cases h : P
  · rw [decide_eq_true h]
    show if false = true then A else B
    rw [if_neg Bool.false_ne_true]; exact h2 h
  · rw [decide_eq_false h]
    show if true = true then A else B
    rw [if_pos rfl]; exact h1 h
theorem r_iteB {A B : Prop} {b : Bool} (h1 : b = true → A) (h2 : b = false → B) : if b = true then A else B := by
  cases b with
  | true => rw [if_pos rfl]; exact h1 rfl
  | false => rw [if_neg Bool.false_ne_true]; exact h2 rfl
theorem r_iteT {A B : Prop} {b : Bool} (e : b = true) (h : A) : if b = true then A else B := by rw [if_pos e]; exact h
theorem r_iteF {A B : Prop} {b : Bool} (e : b = false) (h : B) : if b = true then A else B := by rw [e, if_neg Bool.false_ne_true]; exact h
/-! ### statements -/
theorem r_seq (k : t { D with nx := u D } σ H) : tSeq t u D σ H := k
theorem r_next (k : D.nx σ H) : tNext D σ H := k
theorem r_brk (k : D.bk σ H) : tBreak D σ H := k
theorem r_cont (k : D.ct σ H) : tCont D σ H := k
theorem r_asg (k : te σ H fun x H1 => D.nx (σ.set n (some x)) H1) : tAsg te (gName n) D σ H := k
theorem r_asgG {g : TG} (k : te σ H fun x H1 => g x σ H1 D.nx) : tAsg te g D σ H := k
theorem r_drop (k : te σ H fun _ H1 => D.nx σ H1) : tDrop te D σ H := k
theorem r_ret (k : te σ H D.rt) : tRet te D σ H := k
theorem r_retN (k : D.rt .non H) : tRetN D σ H := k
theorem r_ifS {c : TT} (k : c σ H fun b H1 => if b = true then t D σ H1 else u D σ H1) : tIfS c t u D σ H := k
theorem r_aug {ti : TIp} (h : σ[n]? = some (some x)) (k : te σ H fun y H1 => ti x y H1 fun z H2 => D.nx (σ.set n (some z)) H2) : tAug n te ti D σ H := ⟨x, h, k⟩
theorem r_iaddI (k : Q (.int (i + j)) H) : rIadd (.int i) (.int j) H Q := .inl ⟨i, j, rfl, rfl, k⟩
/-! ### targets -/
theorem g_name {R : L2.St → Hp → Prop} (k : R (σ.set n (some v)) H) : gName n v σ H R := k
theorem g_tup {tg : TGs} {R : L2.St → Hp → Prop} {m : Nat} (h : SqT K H p xs) (l : xs.length = m) (k : tg xs σ H R) : gTup K m tg (.ref p) σ H R := ⟨p, xs, rfl, h, l, k⟩
theorem g_cons {g : TG} {tg : TGs} {R : L2.St → Hp → Prop} (k : g v σ H fun σ' H' => tg xs σ' H' R) : gCons g tg (v :: xs) σ H R := ⟨v, xs, rfl, k⟩
theorem g_nil {R : L2.St → Hp → Prop} (k : R σ H) : gNil [] σ H R := ⟨rfl, k⟩
theorem g_sub {to ti : TE} {ts : TSet} {R : L2.St → Hp → Prop} (k : to σ H fun o H1 => ti σ H1 fun i H2 => ts o i v H2 fun H3 => R σ H3) : gSub to ti ts v σ H R := k
theorem s_lst {R : Hp → Prop} {m : Nat} (h : H p = some (.lst xs)) (a : ixN xs.length i = some m) (k : ∀ H', But [p] H H' → H' p = some (.lst (xs.set m v)) → R H') : rSetL (.ref p) (.int i) v H R :=
  ⟨p, xs, i, m, rfl, rfl, h, a, k _ (But.write h (fun z => z) (by simp)) upd_same⟩
end
end J

set_option Elab.async false
set_option linter.all false
set_option maxRecDepth 100000
set_option maxHeartbeats 4000000
namespace J
open PySem L2 PyProof.Rows
theorem sz {n : Nat} (h : n ≤ 16777216) : n ≤ sizeLine := by rw [sizeLine_eq]; exact h
theorem szl {n : Nat} (h : n < 16777216) : n < sizeLine := by rw [sizeLine_eq]; exact h
section
variable {σ : L2.St} {H H' H1 : Hp} {K : PySem.W.Frag} {Q : VK} {i j : Int} {n : Nat} {v x y : V} {te ta tb tl : TE} {p q a l : Addr} {xs ys : List V}
  {D : Ends} {t u ts : TS} {R : Bool → Hp → Prop} {g : TG}
/-! ### for -/
abbrev Turn (g : TG) (ts : TS) (D : Ends) (N : L2.St → Hp → Prop) (x : V) (σ : L2.St) (H : Hp) : Prop :=
  g x σ H fun σ2 H2 => ts { D with nx := N, ct := N, bk := D.nx } σ2 H2
def ForL (K : PySem.W.Frag) (g : TG) (ts : TS) (D : Ends) (σ : L2.St) (x : V) (H : Hp) : Prop :=
  ∃ a, x = .ref a ∧ (∃ xs, SqL K H a xs) ∧ ∃ W : Nat → Nat → L2.St → Hp → Prop, (∃ m, W 0 m σ H) ∧ ∀ i m σ H, W i m σ H →
    ((Itl K a).stop i H ∧ D.nx σ H) ∨ ((Itl K a).go i H ∧ ∃ N : L2.St → Hp → Prop, (∀ σ' H', N σ' H' → ∃ m', m' < m ∧ W (i + 1) m' σ' H') ∧
      ∀ x H', (Itl K a).yld i H x H' → Turn g ts D N x σ H')
theorem r_forL (k : tl σ H fun x H1 => ForL K g ts D σ x H1) : tFor (iList K tl) g ts D σ H := k
theorem forL (h : SqL K H a xs) (Pv : Nat → L2.St → Hp → Prop) (h0 : Pv 0 σ H) (hl : ∀ i σ H, i ≤ xs.length → Pv i σ H → SqL K H a xs)
    (hs : ∀ i x σ H, xs[i]? = some x → Pv i σ H → Turn g ts D (Pv (i + 1)) x σ H) (hd : ∀ σ H, Pv xs.length σ H → D.nx σ H) : ForL K g ts D σ (.ref a) H :=
  ⟨a, rfl, ⟨xs, h⟩, for_list Pv h0 hl hs hd⟩
def ForT (K : PySem.W.Frag) (g : TG) (ts : TS) (D : Ends) (σ : L2.St) (x : V) (H : Hp) : Prop :=
  ∃ a, x = .ref a ∧ (∃ xs, SqT K H a xs) ∧ ∃ W : Nat → Nat → L2.St → Hp → Prop, (∃ m, W 0 m σ H) ∧ ∀ i m σ H, W i m σ H →
    ((Itt K a).stop i H ∧ D.nx σ H) ∨ ((Itt K a).go i H ∧ ∃ N : L2.St → Hp → Prop, (∀ σ' H', N σ' H' → ∃ m', m' < m ∧ W (i + 1) m' σ' H') ∧
      ∀ x H', (Itt K a).yld i H x H' → Turn g ts D N x σ H')
theorem r_forT (k : tl σ H fun x H1 => ForT K g ts D σ x H1) : tFor (iTup K tl) g ts D σ H := k
theorem forT (h : SqT K H a xs) (Pv : Nat → L2.St → Hp → Prop) (h0 : Pv 0 σ H) (hl : ∀ i σ H, i ≤ xs.length → Pv i σ H → SqT K H a xs)
    (hs : ∀ i x σ H, xs[i]? = some x → Pv i σ H → Turn g ts D (Pv (i + 1)) x σ H) (hd : ∀ σ H, Pv xs.length σ H → D.nx σ H) : ForT K g ts D σ (.ref a) H :=
  ⟨a, rfl, ⟨xs, h⟩, for_tup Pv h0 hl hs hd⟩
def ForR (g : TG) (ts : TS) (D : Ends) (σ : L2.St) (vs : List V) (H : Hp) : Prop :=
  ∃ j : Int, vs = [.int j] ∧ -(2 ^ 62) ≤ j ∧ j < 2 ^ 62 ∧ ∃ W : Nat → Nat → L2.St → Hp → Prop, (∃ m, W 0 m σ H) ∧ ∀ i m σ H, W i m σ H →
    ((Itr 0 j.toNat).stop i H ∧ D.nx σ H) ∨ ((Itr 0 j.toNat).go i H ∧ ∃ N : L2.St → Hp → Prop, (∀ σ' H', N σ' H' → ∃ m', m' < m ∧ W (i + 1) m' σ' H') ∧
      ∀ x H', (Itr 0 j.toNat).yld i H x H' → Turn g ts D N x σ H')
theorem r_forR {ta : TA} (k : ta σ H fun vs H1 => ForR g ts D σ vs H1) : tFor (iRng1 ta) g ts D σ H := k
theorem forR (b : -(2 ^ 62) ≤ j ∧ j < 2 ^ 62) (Pv : Nat → L2.St → Hp → Prop) (h0 : Pv 0 σ H)
    (hs : ∀ (i : Nat) σ H, (i : Int) < j → Pv i σ H → Turn g ts D (Pv (i + 1)) (.int i) σ H) (hd : ∀ σ H, Pv j.toNat σ H → D.nx σ H) : ForR g ts D σ [.int j] H :=
  ⟨j, rfl, b.1, b.2, for_range Pv h0 (fun i σ H hi p => by
    rw [Int.zero_add]
    exact hs i σ H (by omega) p) hd⟩
def ForR2 (g : TG) (ts : TS) (D : Ends) (σ : L2.St) (vs : List V) (H : Hp) : Prop :=
  ∃ i j : Int, vs = [.int i, .int j] ∧ (-(2 ^ 62) ≤ i ∧ i < 2 ^ 62 ∧ -(2 ^ 62) ≤ j ∧ j < 2 ^ 62) ∧ ∃ W : Nat → Nat → L2.St → Hp → Prop, (∃ m, W 0 m σ H) ∧ ∀ k m σ H, W k m σ H →
    ((Itr i (j - i).toNat).stop k H ∧ D.nx σ H) ∨ ((Itr i (j - i).toNat).go k H ∧ ∃ N : L2.St → Hp → Prop, (∀ σ' H', N σ' H' → ∃ m', m' < m ∧ W (k + 1) m' σ' H') ∧
      ∀ x H', (Itr i (j - i).toNat).yld k H x H' → Turn g ts D N x σ H')
theorem r_forR2 {ta : TA} (k : ta σ H fun vs H1 => ForR2 g ts D σ vs H1) : tFor (iRng2 ta) g ts D σ H := k
theorem forR2 (b : -(2 ^ 62) ≤ i ∧ i < 2 ^ 62 ∧ -(2 ^ 62) ≤ j ∧ j < 2 ^ 62) (Pv : Nat → L2.St → Hp → Prop) (h0 : Pv 0 σ H)
    (hs : ∀ (k : Nat) σ H, i + k < j → Pv k σ H → Turn g ts D (Pv (k + 1)) (.int (i + k)) σ H) (hd : ∀ σ H, Pv (j - i).toNat σ H → D.nx σ H) : ForR2 g ts D σ [.int i, .int j] H :=
  ⟨i, j, rfl, b, for_range Pv h0 (fun k σ H hk p => hs k σ H (by omega) p) hd⟩
/-- enumerate -/
def ForE (K : PySem.W.Frag) (g : TG) (ts : TS) (D : Ends) (σ : L2.St) (vs : List V) (H : Hp) : Prop :=
  ∃ a xs, vs = [.ref a] ∧ SqL K H a xs ∧ ∃ W : Nat → Nat → L2.St → Hp → Prop, (∃ m, W 0 m σ H) ∧ ∀ i m σ H, W i m σ H →
    ((Ite K a).stop i H ∧ D.nx σ H) ∨ ((Ite K a).go i H ∧ ∃ N : L2.St → Hp → Prop, (∀ σ' H', N σ' H' → ∃ m', m' < m ∧ W (i + 1) m' σ' H') ∧
      ∀ x H', (Ite K a).yld i H x H' → Turn g ts D N x σ H')
theorem r_forE {ta : TA} (k : ta σ H fun vs H1 => ForE K g ts D σ vs H1) : tFor (iEnum K ta) g ts D σ H := k
theorem forE (h : SqL K H a xs) (Pv : Nat → L2.St → Hp → Prop) (h0 : Pv 0 σ H) (hl : ∀ i σ H, i ≤ xs.length → Pv i σ H → SqL K H a xs)
    (hs : ∀ i x σ H, xs[i]? = some x → Pv i σ H → ∀ T H', H T = none → Same H H' → H' T = some (.tup [.int (i : Nat), x]) → Turn g ts D (Pv (i + 1)) (.ref T) σ H')
    (hd : ∀ σ H, Pv xs.length σ H → D.nx σ H) : ForE K g ts D σ [.ref a] H := by
  refine ⟨a, xs, rfl, h, fun i m σ H => m = xs.length - i ∧ i ≤ xs.length ∧ Pv i σ H, ⟨_, rfl, Nat.zero_le _, h0⟩, ?_⟩
  rintro i m σ H ⟨rfl, hi, p⟩
  have q := hl i σ H hi p
  by_cases hlt : i < xs.length
  · refine .inr ⟨⟨xs, xs[i], q, by simp [hlt]⟩, Pv (i + 1), fun σ' H' p' => ⟨xs.length - (i + 1), by omega, rfl, hlt, p'⟩, fun x H' y => ?_⟩
    obtain ⟨T, z, rfl, hT, rfl, e⟩ := y
    exact hs i z σ H (e xs q) p T _ hT (But.new (S := []) hT).same upd_same
  · have e : i = xs.length := by omega
    subst e
    exact .inl ⟨⟨xs, q, Nat.le_refl _⟩, hd σ H p⟩
/-! ### comprehensions -/
/-- one turn of a comprehension: l the new list -/
abbrev LTurn (g : TG) (tt : TT) (te : TE) (vs : List Nat) (l : Addr) (N : Hp → Prop) (x : V) (σ : L2.St) (H : Hp) : Prop :=
  g x (wipe σ vs) H fun σ2 H2 => wipe σ2 vs = wipe σ vs ∧ tt σ2 H2 fun b H3 =>
    if b = true then te σ2 H3 fun y H4 => ∃ acc, H4 l = some (.lst acc) ∧ acc.length < sizeLine ∧ N (upd H4 l (.lst (acc ++ [y]))) else N H3
abbrev LcG (J : It) (g : TG) (tt : TT) (te : TE) (vs : List Nat) (σ : L2.St) (Q : VK) (H : Hp) : Prop :=
  ∀ l, H l = none → ∃ W : Nat → Nat → Hp → Prop, (∃ m, W 0 m (upd H l (.lst []))) ∧ ∀ i m H, W i m H →
    (J.stop i H ∧ Q (.ref l) H) ∨ (J.go i H ∧ ∃ N : Hp → Prop, (∀ H', N H' → ∃ m', m' < m ∧ W (i + 1) m' H') ∧ ∀ x H', J.yld i H x H' → LTurn g tt te vs l N x σ H')
def LcL (K : PySem.W.Frag) (g : TG) (tt : TT) (te : TE) (vs : List Nat) (σ : L2.St) (Q : VK) (x : V) (H : Hp) : Prop :=
  ∃ a, x = .ref a ∧ (∃ xs, SqL K H a xs) ∧ LcG (Itl K a) g tt te vs σ Q H
theorem r_lcL {tt : TT} {vs : List Nat} (k : tl σ H fun x H1 => LcL K g tt te vs σ Q x H1) : tLc (iList K tl) g tt te vs σ H Q := k
theorem lcL {tt : TT} {vs : List Nat} (h : SqL K H a xs) (mk : ∀ l H0, H l = none → Same H H0 → H0 l = some (.lst []) → ∃ Pv : Nat → Hp → Prop, Pv 0 H0 ∧ (∀ i H, i ≤ xs.length → Pv i H → SqL K H a xs) ∧
      (∀ i x H, xs[i]? = some x → Pv i H → LTurn g tt te vs l (Pv (i + 1)) x σ H) ∧ ∀ H, Pv xs.length H → Q (.ref l) H) : LcL K g tt te vs σ Q (.ref a) H := by
  refine ⟨a, rfl, ⟨xs, h⟩, fun l hl => ?_⟩
  obtain ⟨Pv, h0, h1, h2, h3⟩ := mk l _ hl (But.new (S := []) hl).same upd_same
  exact lc_list Pv h0 h1 h2 h3
def LcT (K : PySem.W.Frag) (g : TG) (tt : TT) (te : TE) (vs : List Nat) (σ : L2.St) (Q : VK) (x : V) (H : Hp) : Prop :=
  ∃ a, x = .ref a ∧ (∃ xs, SqT K H a xs) ∧ LcG (Itt K a) g tt te vs σ Q H
theorem r_lcT {tt : TT} {vs : List Nat} (k : tl σ H fun x H1 => LcT K g tt te vs σ Q x H1) : tLc (iTup K tl) g tt te vs σ H Q := k
theorem lcT {tt : TT} {vs : List Nat} (h : SqT K H a xs) (mk : ∀ l H0, H l = none → Same H H0 → H0 l = some (.lst []) → ∃ Pv : Nat → Hp → Prop, Pv 0 H0 ∧ (∀ i H, i ≤ xs.length → Pv i H → SqT K H a xs) ∧
      (∀ i x H, xs[i]? = some x → Pv i H → LTurn g tt te vs l (Pv (i + 1)) x σ H) ∧ ∀ H, Pv xs.length H → Q (.ref l) H) : LcT K g tt te vs σ Q (.ref a) H := by
  refine ⟨a, rfl, ⟨xs, h⟩, fun l hl => ?_⟩
  obtain ⟨Pv, h0, h1, h2, h3⟩ := mk l _ hl (But.new (S := []) hl).same upd_same
  exact lc_tup Pv h0 h1 h2 h3
/-- what an element's evaluation leaves: the list one item longer -/
theorem lc_put {N : Hp → Prop} (h : H l = some (.lst xs)) (c : xs.length < sizeLine) (k : ∀ H', But [l] H H' → H' l = some (.lst (xs ++ [y])) → N H') :
    ∃ acc, H l = some (.lst acc) ∧ acc.length < sizeLine ∧ N (upd H l (.lst (acc ++ [y]))) :=
  ⟨xs, h, c, k _ (But.write h (fun z => z) (by simp)) upd_same⟩
theorem r_and2 {A B : Prop} (h : A) (k : B) : A ∧ B := ⟨h, k⟩
/-! ### methods of lists -/
theorem r_bm {T : String} {r : V → List V → Hp → VK → Prop} {to : TE} {ta : TA} (k : to σ H fun x H1 => tyV K T x H1 ∧ ta σ H1 fun xs H2 => r x xs H2 Q) : tBM K T r to ta σ H Q := k
theorem r_bm0 {T : String} {r : V → List V → Hp → VK → Prop} {to : TE} (k : to σ H fun x H1 => tyV K T x H1 ∧ r x [] H1 Q) : tBM0 K T r to σ H Q := k
theorem r_tyL {B : Prop} (h : SqL K H p xs) (k : B) : tyV K "list" (.ref p) H ∧ B := ⟨.inl ⟨rfl, xs, h⟩, k⟩
theorem r_app (h : H l = some (.lst xs)) (c : xs.length < sizeLine) (k : ∀ H', But [l] H H' → H' l = some (.lst (xs ++ [v])) → Q .non H') : rAppend (.ref l) [v] H Q :=
  ⟨l, xs, v, rfl, rfl, h, c, k _ (But.write h (fun z => z) (by simp)) upd_same⟩
theorem r_ext (h : H l = some (.lst xs)) (h' : H p = some (.lst ys)) (c : xs.length + ys.length ≤ sizeLine) (k : ∀ H', But [l] H H' → H' l = some (.lst (xs ++ ys)) → Q (.ref l) H') : rIadd (.ref l) (.ref p) H Q :=
  .inr (.inr ⟨l, p, xs, ys, rfl, rfl, h, h', c, k _ (But.write h (fun z => z) (by simp)) upd_same⟩)
/-! ### built-ins -/
theorem r_lenL (h : SqL K H p xs) (k : Q (.int xs.length) H) : rLenA K [.ref p] H Q := ⟨_, _, rfl, .inl ⟨xs, h, rfl⟩, k⟩
theorem r_lenT (h : SqT K H p xs) (k : Q (.int xs.length) H) : rLenA K [.ref p] H Q := ⟨_, _, rfl, .inr ⟨xs, h, rfl⟩, k⟩
theorem r_lenS {z : Str} (c : z.length ≤ sizeLine) (k : Q (.int z.length) H) : rLenA K [.str z] H Q := ⟨_, _, rfl, ⟨c, rfl⟩, k⟩
theorem r_intI (k : Q (.int i) H) : (∃ j, [V.int i] = [.int j] ∧ Q (.int j) H) ∨ ∃ b, [V.int i] = [.bl b] ∧ Q (.int (if b then 1 else 0)) H := .inl ⟨i, rfl, k⟩
theorem r_slL {lo hi : Option Int} (h : SqL K H p xs) (k : ∀ l H', H l = none → Same H H' → H' l = some (.lst (cutV xs lo hi)) → Q (.ref l) H') : rSlAny K (.ref p) lo hi H Q :=
  .inl ⟨p, xs, rfl, h, fun l hl => k l _ hl (But.new (S := []) hl).same upd_same⟩
theorem r_tupleL (h : SqL K H p xs) (k : ∀ l H', H l = none → Same H H' → H' l = some (.tup xs) → Q (.ref l) H') : rTupA K [.ref p] H Q :=
  ⟨p, xs, rfl, .inl ⟨h, fun l hl => k l _ hl (But.new (S := []) hl).same upd_same⟩⟩
theorem r_listL (h : SqL K H p xs) (k : ∀ l H', H l = none → Same H H' → H' l = some (.lst xs) → Q (.ref l) H') : rListA K [.ref p] H Q :=
  ⟨p, xs, rfl, .inl h, fun l hl => k l _ hl (But.new (S := []) hl).same upd_same⟩
theorem r_repr {d : PyData} (h : Dp K H x d) (s : d.showable = true) (e : d.depth ≤ 60) (c : d.shown.length ≤ sizeLine) (k : Q (.str d.shown) H) : rRepr K [x] H Q := ⟨x, d, rfl, h, s, e, c, k⟩
end
end J

set_option Elab.async false
set_option linter.all false
set_option maxRecDepth 100000
set_option maxHeartbeats 4000000
namespace J
open PySem L2 PyProof.Rows
theorem listText_le (ts : List Str) : (listText ts).length ≤ piled ts + 2 := by
  have e1 : (listText ts).length = (textFrom 0 "[" ts).length + 1 := by
    show (textFrom 0 "[" ts ++ "]").length = _
    rw [strLen_append]
    rfl
  cases ts with
  | nil => rw [e1]; decide
  | cons t r =>
    have h := textFrom_length_pos r 1 (("[" : Str) ++ (if (0 : Nat) > 0 then ", " else "" : String) ++ t) (Nat.succ_pos 0)
    have e2 : ((("[" : Str) ++ (if (0 : Nat) > 0 then ", " else "" : String) ++ t)).length = 1 + t.length := by
      rw [strLen_append, strLen_append]; rfl
    have e3 : textFrom 0 "[" (t :: r) = textFrom 1 (("[" : Str) ++ (if (0 : Nat) > 0 then ", " else "" : String) ++ t) r := rfl
    rw [e1, e3, h, e2, piled_cons]
    omega
theorem tupleText_le (ts : List Str) : (tupleText ts).length ≤ piled ts + 3 := by
  have e3 : (((if ts.length == 1 then ",)" else ")" : String) : Str)).length ≤ 2 := by split <;> decide +kernel
  have e1 : ((("(" : String) : Str)).length = 1 := rfl
  unfold tupleText
  rw [strLen_append, strLen_append, e1]
  by_cases h : ts = []
  · subst h
    decide +kernel
  · have := join_length_add ts h
    omega
/-- bounds of data: for repr, for ==: its text at most n signs, at most k deep -/
structure Ok (n k : Nat) (d : PyData) : Prop where
  lay : d.canLay0 = true
  show_ : d.showable = true
  dep : d.depth ≤ k
  len : d.shown.length ≤ n
structure OkAll (n k : Nat) (ds : List PyData) : Prop where
  all : ∀ d ∈ ds, Ok n k d
theorem Ok.mono {n k n' k' : Nat} {d : PyData} (h : Ok n k d) (hn : n ≤ n') (hk : k ≤ k') : Ok n' k' d :=
  ⟨h.lay, h.show_, Nat.le_trans h.dep hk, Nat.le_trans h.len hn⟩
theorem Ok.shaped {n k : Nat} {d : PyData} (h : Ok n k d) (hk : k ≤ 60) : SeqAt.shaped d = true := by
  have := h.dep
  unfold SeqAt.shaped
  rw [h.lay, decide_eq_true (by omega)]
  rfl
theorem Ok.eqv {n k : Nat} {d : PyData} (h : Ok n k d) : PyData.eqv d d = true := SeqAt.eqv_refl d h.lay
theorem okNone : Ok 4 0 .none := ⟨rfl, rfl, Nat.le_refl _, by decide +kernel⟩
theorem okBool (b : Bool) : Ok 5 0 (.bool b) := ⟨rfl, rfl, Nat.le_refl _, by cases b <;> decide +kernel⟩
theorem okInt {i : Int} {m : Nat} (h : i.natAbs < 2 ^ m) (hm : m ≤ 1900) : Ok (m + 2) 0 (.int i) := by
  by_cases h0 : i.natAbs = 0
  · have e : i = 0 := by omega
    subst e
    refine ⟨rfl, by decide, Nat.le_refl _, ?_⟩
    have : ((PyData.int 0).shown).length = 1 := by decide +kernel
    omega
  · have h1 : i.natAbs.log2 < m := (Nat.log2_lt h0).mpr h
    refine ⟨rfl, ?_, Nat.le_refl _, ?_⟩
    · show decide (i.natAbs.log2 < 1920) = true
      exact decide_eq_true (by omega)
    · have h2 := int_text_length_le (a := i) (k := m) (by omega) h1
      have e : ((PyData.int i).shown).length = (toString i).length := by
        simp only [PyData.shown]
        exact PySem.ofString_length _
      omega
theorem okStr {x : Str} {n : Nat} (h : PyData.strOk x = true) (hl : (reprText x).length ≤ n) : Ok n 0 (.str x) := ⟨h, rfl, Nat.le_refl _, hl⟩
theorem all_lay {n k : Nat} : ∀ {ds : List PyData}, OkAll n k ds → PyData.canLayAll0 ds = true
  | [], _ => rfl
  | d :: ds, h => by
    show (d.canLay0 && PyData.canLayAll0 ds) = true
    rw [(h.all d List.mem_cons_self).lay, all_lay ⟨fun e he => h.all e (List.mem_cons_of_mem _ he)⟩]
    rfl
theorem all_show {n k : Nat} : ∀ {ds : List PyData}, OkAll n k ds → PyData.showableAll ds = true
  | [], _ => rfl
  | d :: ds, h => by
    show (d.showable && PyData.showableAll ds) = true
    rw [(h.all d List.mem_cons_self).show_, all_show ⟨fun e he => h.all e (List.mem_cons_of_mem _ he)⟩]
    rfl
theorem all_dep {n k : Nat} : ∀ {ds : List PyData}, OkAll n k ds → PyData.depthAll ds ≤ k
  | [], _ => Nat.zero_le _
  | d :: ds, h => Nat.max_le.mpr ⟨(h.all d List.mem_cons_self).dep, all_dep ⟨fun e he => h.all e (List.mem_cons_of_mem _ he)⟩⟩
theorem all_len {n k : Nat} : ∀ {ds : List PyData}, OkAll n k ds → piled (PyData.shownAll ds) ≤ ds.length * (n + 2)
  | [], _ => Nat.zero_le _
  | d :: ds, h => by
    have h1 := (h.all d List.mem_cons_self).len
    have h2 := all_len (n := n) (k := k) (ds := ds) ⟨fun e he => h.all e (List.mem_cons_of_mem _ he)⟩
    show piled (d.shown :: PyData.shownAll ds) ≤ _
    rw [piled_cons, List.length_cons, Nat.add_mul]
    omega
theorem okList {n k m : Nat} {ds : List PyData} (h : OkAll n k ds) (hm : ds.length ≤ m) : Ok (m * (n + 2) + 2) (k + 1) (.list ds) := by
  refine ⟨all_lay h, all_show h, Nat.succ_le_succ (all_dep h), ?_⟩
  have h1 := listText_le (PyData.shownAll ds)
  have h2 := all_len h
  have h3 : ds.length * (n + 2) ≤ m * (n + 2) := Nat.mul_le_mul_right _ hm
  simp only [PyData.shown]
  omega
theorem okTup {n k m : Nat} {ds : List PyData} (h : OkAll n k ds) (hm : ds.length ≤ m) : Ok (m * (n + 2) + 3) (k + 1) (.tuple ds) := by
  refine ⟨all_lay h, all_show h, Nat.succ_le_succ (all_dep h), ?_⟩
  have h1 := tupleText_le (PyData.shownAll ds)
  have h2 := all_len h
  have h3 : ds.length * (n + 2) ≤ m * (n + 2) := Nat.mul_le_mul_right _ hm
  simp only [PyData.shown]
  omega
theorem OkAll.nil {n k : Nat} : OkAll n k [] := ⟨fun _ h => nomatch h⟩
theorem OkAll.cons {n k : Nat} {d : PyData} {ds : List PyData} (h : Ok n k d) (t : OkAll n k ds) : OkAll n k (d :: ds) :=
  ⟨fun e he => (List.mem_cons.mp he).elim (fun q => q ▸ h) (t.all e)⟩
theorem OkAll.append {n k : Nat} {ds es : List PyData} (h : OkAll n k ds) (t : OkAll n k es) : OkAll n k (ds ++ es) :=
  ⟨fun e he => (List.mem_append.mp he).elim (h.all e) (t.all e)⟩
theorem OkAll.map {α : Type} {n k : Nat} {f : α → PyData} {xs : List α} (h : ∀ x ∈ xs, Ok n k (f x)) : OkAll n k (xs.map f) :=
  ⟨fun e he => by obtain ⟨x, hx, rfl⟩ := List.mem_map.mp he; exact h x hx⟩
section
variable {K : PySem.W.Frag} {S : List Addr} {H : Hp} {v : V} {ds : List PyData} {vs : List V} {d : PyData}
theorem Dn.tup_inv (h : Dn K S H v (.tuple ds)) : ∃ a xs, v = .ref a ∧ SqT K H a xs ∧ DnAll K S H xs ds := by
  cases h with
  | tup h1 h2 => exact ⟨_, _, rfl, h1, h2⟩
theorem Dn.lst_inv (h : Dn K S H v (.list ds)) : ∃ a xs, v = .ref a ∧ H a = some (.lst xs) ∧ a ∉ S ∧ DnAll K S H xs ds := by
  cases h with
  | lst h1 h2 h3 => exact ⟨_, _, rfl, h1, h2, h3⟩
theorem Dn.int_inv {i : Int} (h : Dn K S H v (.int i)) : v = .int i := by
  cases h; rfl
theorem Dn.str_inv {x : Str} (h : Dn K S H v (.str x)) : v = .str x := by
  cases h; rfl
theorem DnAll.nil_inv (h : DnAll K S H vs []) : vs = [] := by
  cases h; rfl
theorem DnAll.cons_inv (h : DnAll K S H vs (d :: ds)) : ∃ w ws, vs = w :: ws ∧ Dn K S H w d ∧ DnAll K S H ws ds := by
  cases h with
  | cons h1 h2 => exact ⟨_, _, rfl, h1, h2⟩
end
section
variable {K : PySem.W.Frag} {S T : List Addr} {H H' : Hp} {v : V} {ds : List PyData} {vs : List V} {d : PyData}
theorem dn_same (b : Same H H') (h : Dn K S H v d) : Dn K S H' v d := h.same b
theorem dn_but (b : But T H H') (h : Dn K S H v d) (hs : ∀ s ∈ T, s ∈ S) : Dn K S H' v d := h.but b hs
theorem da_same (b : Same H H') (h : DnAll K S H vs ds) : DnAll K S H' vs ds := h.same b
theorem da_but (b : But T H H') (h : DnAll K S H vs ds) (hs : ∀ s ∈ T, s ∈ S) : DnAll K S H' vs ds := h.but b hs
end
/-! ### data without lists -/
mutual
def noL : PyData → Bool
  | .list _ => false
  | .tuple xs => noLs xs
  | .dict _ => false
  | _ => true
def noLs : List PyData → Bool
  | [] => true
  | x :: xs => noL x && noLs xs
end
theorem Dn.any {K : PySem.W.Frag} {S T : List Addr} {H : Hp} {v : V} {d : PyData} (h : Dn K S H v d) (n : noL d = true) : Dn K T H v d := by
  refine Dn.rec (motive_1 := fun v d _ => noL d = true → Dn K T H v d) (motive_2 := fun vs ds _ => noLs ds = true → DnAll K T H vs ds) ?_ ?_ ?_ ?_ ?_ ?_ ?_ ?_ h n
  · exact fun _ => .non
  · exact fun b _ => .bl b
  · exact fun i _ => .int i
  · exact fun x _ => .str x
  · intro a xs ds _ _ _ _ q
    simp [noL] at q
  · intro a xs ds h1 _ ih q
    exact .tup h1 (ih (by simpa [noL] using q))
  · exact fun _ => .nil
  · intro v vs d ds _ _ h1 h2 q
    have q' : noL d = true ∧ noLs ds = true := by simpa [noLs] using q
    exact .cons (h1 q'.1) (h2 q'.2)
theorem DnAll.any {K : PySem.W.Frag} {S T : List Addr} {H : Hp} {vs : List V} {ds : List PyData} (h : DnAll K S H vs ds) (n : noLs ds = true) : DnAll K T H vs ds := by
  induction ds generalizing vs with
  | nil =>
    cases h
    exact .nil
  | cons d ds ih =>
    cases h with
    | cons h1 h2 =>
      have n' : noL d = true ∧ noLs ds = true := by simpa [noLs] using n
      exact .cons (h1.any n'.1) (ih h2 n'.2)
end J

set_option Elab.async false
set_option linter.all false
set_option maxRecDepth 100000
set_option maxHeartbeats 4000000
namespace J
open PySem PySem.Spec L2 L2.DX PyProof.Rows
/-! ### pairs of ints, sorted -/
def pairD (q : Int × Int) : PyData := .tuple [.int q.1, .int q.2]
/-- not after -/
abbrev Lex (x y : Int × Int) : Prop := SrtO.lexB y x = false
def PairAt (H : Hp) (x : V) (q : Int × Int) : Prop := ∃ t, x = .ref t ∧ H t = some (.tup [.int q.1, .int q.2])
def pairK (H : Hp) : V → Int × Int
  | .ref t => match H t with
    | some (.tup [.int i, .int j]) => (i, j)
    | _ => (0, 0)
  | _ => (0, 0)
theorem pairK_of {H : Hp} {x : V} {q : Int × Int} (h : PairAt H x q) : pairK H x = q := by
  obtain ⟨t, rfl, e⟩ := h
  show (match H t with | some (.tup [.int i, .int j]) => (i, j) | _ => ((0, 0) : Int × Int)) = q
  rw [e]
theorem pairK_map {H : Hp} : ∀ {xs : List V} {qs : List (Int × Int)}, Paired (PairAt H) xs qs → xs.map (pairK H) = qs
  | _, _, .nil => rfl
  | _, _, .cons h t => by rw [List.map_cons, pairK_of h, pairK_map t]
theorem pair_mem {H : Hp} : ∀ {xs : List V} {qs : List (Int × Int)}, Paired (PairAt H) xs qs → ∀ x ∈ xs, PairAt H x (pairK H x)
  | _, _, .cons h t, x, hx => by
    rcases List.mem_cons.mp hx with e | hx
    · subst e
      rw [pairK_of h]; exact h
    · exact pair_mem t x hx
theorem pairs_dn {K : PySem.W.Frag} {H H' : Hp} (s : Same H H') : ∀ {ys : List V}, (∀ y ∈ ys, PairAt H y (pairK H y)) → DnAll K [] H' ys ((ys.map (pairK H)).map pairD)
  | [], _ => .nil
  | y :: ys, h => by
    obtain ⟨t, e, ht⟩ := h y List.mem_cons_self
    refine .cons ?_ (pairs_dn s fun z hz => h z (List.mem_cons_of_mem _ hz))
    have e2 : Dn K [] H' (.ref t) (pairD (pairK H y)) := .tup (SqT.of (s _ _ ht)) (.cons (.int _) (.one (.int _)))
    rw [← e] at e2
    exact e2
/-- what sorted gives -/
def SortedTo (K : PySem.W.Frag) (Q : VK) (kvs : List (Int × Int)) (H : Hp) : Prop :=
  ∀ (l : Addr) (zs : List (Int × Int)) (ys : List V) (H' : Hp), H l = none → Same H H' → H' l = some (.lst ys) → DnAll K [] H' ys (zs.map pairD) → zs.Perm kvs → zs.Pairwise Lex → Q (.ref l) H'
theorem sorted_to {K : PySem.W.Frag} {Q : VK} {kvs : List (Int × Int)} {H H1 H2 : Hp} {xs ys : List V} {l : Addr} (k : SortedTo K Q kvs H) (s1 : Same H H1) (hx : Paired (PairAt H1) xs kvs)
    (h1 : SrtO.Srtd (ltP (pairK H1)) ys) (h2 : SrtO.Stb (ltP (pairK H1)) ys xs) (hl : H l = none) (s2 : Same H1 H2) (hl2 : H2 l = some (.lst ys)) : Q (.ref l) H2 := by
  refine k l (ys.map (pairK H1)) ys H2 hl (fun b o e => s2 b o (s1 b o e)) hl2 (pairs_dn s2 fun y hy => ?_) ?_ ?_
  · exact pair_mem hx y (h2.perm.mem_iff.mp hy)
  · rw [← pairK_map hx]
    exact h2.perm.map _
  · exact List.pairwise_map.mpr h1
section
variable {K : PySem.W.Frag} {H : Hp} {Q : VK} {p : Addr} {xs : List V} {kvs : List (Int × Int)}
theorem r_sortedP (h : SqL K H p xs) (hx : Paired (PairAt H) xs kvs) (k : SortedTo K Q kvs H) : rSortedPO K [.ref p] H Q :=
  ⟨p, xs, pairK H, rfl, h, pair_mem hx, fun ys l h1 h2 hl => sorted_to k (fun _ _ e => e) hx h1 h2 hl (But.new (S := []) hl).same upd_same⟩
end
/-! ### d.items(), d with int keys and int values -/
def intKV (kvs : List (Int × Int)) : List (L2.Key × V) := kvs.map fun q => (.inl q.1, .int q.2)
def rItemsK : V → List V → Hp → VK → Prop := fun x xs H Q => ∃ (a : Addr) (kvs : List (L2.Key × V)), x = .ref a ∧ xs = [] ∧ H a = some (.dK kvs) ∧ ∀ p, H p = none → Q (.ref p) (upd H p (itemsO p a))
section
variable {X : Cx}
theorem mt_itemsK : MtR X "dict.items" rItemsK := by
  intro pins s σ H x xs v us Q I rx rxs h
  obtain ⟨a, kvs, rfl, rfl, ha, q⟩ := h
  cases rx
  cases rxs
  obtain ⟨hz, hs0, vs, kv, hdo⟩ := I.hok a _ ha
  have hf : H s.heap.objs.size = none := I.hok.fresh (Nat.le_refl _)
  have e : EP X pins σ Q (.ref s.heap.objs.size) { s with heap := s.heap.push { cls := .type "dict_items", data := .fields #[.ref a] } } :=
    ⟨.ref s.heap.objs.size, upd H s.heap.objs.size (itemsO s.heap.objs.size a), I.laid (t' := s.toks) (fun b u e => Heap.get?_push_of_some _ e) (Nat.le_refl _) (itemsO_ok (Heap.get?_push_size _ rfl)), rfl, q _ hf⟩
  exact call_meetsIn F.slot_dict_items hdo.typeIs F.entry_dict_items (F.args_dict_items_1 _) (meets_dict_items (mixKind X.prog X.w) a hs0) ⟨⟨vs, hdo⟩, e⟩
/-- the invariant elsewhere -/
theorem inv_around {pins : List (Addr × Obj)} {σ : L2.St} {H : Hp} {s : Shared} (I : Inv X pins σ H s) (A' : Around) (h1 : A'.handled = X.A.handled) (h2 : A'.frames = X.A.frames) :
    Inv { X with A := A' } pins σ H s :=
  ⟨⟨I.ok.mod, I.ok.kind, I.ok.glob, I.ok.blt, I.ok.above, I.ok.inj, I.ok.has, I.ok.cab, fun c => h1.trans (I.ok.hd c), h2.trans I.ok.frames, I.ok.stk, I.ok.exf, I.ok.bs, I.ok.bsz, I.ok.noex, I.ok.exfs, I.ok.funs, I.ok.frf⟩,
   I.os, I.bare, I.base, I.loc, I.cell, I.free, I.freeC, I.pin, I.hok, I.len⟩
theorem inv_back {A' : Around} {pins : List (Addr × Obj)} {σ : L2.St} {H : Hp} {s : Shared} (I : Inv { X with A := A' } pins σ H s) (h1 : A'.handled = X.A.handled) (h2 : A'.frames = X.A.frames) :
    Inv X pins σ H s := inv_around (X := { X with A := A' }) I X.A h1.symm h2.symm
/-- the tuples and the list of them, tracked -/
theorem items_laid2 {pins : List (Addr × Obj)} {σ : L2.St} {H : Hp} {s : Shared} {h' : Heap} {tk S : Nat} {kvs : List (L2.Key × V)} {vs : List (L2.Key × Value)} {as : List Addr} (I : Inv X pins σ H s) (hz : kvs.length ≤ sizeLine) (kv : KV kvs vs)
    (hk : ∀ b o, s.heap.get? b = some o → h'.get? b = some o) (hS : h'.get? S = some { cls := .type "list", data := .seq (as.map Value.ref).toArray }) (hSl : s.heap.objs.size ≤ S) (hSn : S ∉ as) (hl : as.length = vs.length) (hG : PySem.W.KdxG (mixKind X.prog X.w) vs s.heap.objs.size h' as) :
    ∃ H' : Hp, Same H H' ∧ H S = none ∧ H' S = some (.lst (as.map V.ref)) ∧ Paired (fun (t : Addr) (q : L2.Key × V) => H' t = some (.tup [kV q.1, q.2])) as kvs ∧ Inv X pins σ H' { s with heap := h', toks := tk } := by
  have lk : kvs.length = vs.length := Paired.length kv
  have nd : as.Nodup := List.Pairwise.imp (fun {a b} (h : a < b) => Nat.ne_of_lt h) hG.rise
  have new : ∀ t ∈ as, H t = none := fun t ht => I.hok.fresh (Nat.le_of_lt (hG.above t ht))
  have newS : H S = none := I.hok.fresh hSl
  have atP := LiI.putT_at as kvs (upd H S (.lst (as.map V.ref))) (by omega) nd
  have off : ∀ b, b ∉ as → b ≠ S → LiI.putT (upd H S (.lst (as.map V.ref))) as kvs b = H b := fun b h1 h2 => by rw [LiI.putT_off as kvs _ h1, upd_ne h2]
  have low : ∀ b o, s.heap.get? b = some o → b ∉ as ∧ b ≠ S := fun b o e => ⟨fun z => absurd (Heap.lt_size e) (Nat.not_lt.mpr (Nat.le_of_lt (hG.above b z))), Nat.ne_of_lt (Nat.lt_of_lt_of_le (Heap.lt_size e) hSl)⟩
  have kp : ∀ b u, H b = some u → (LiI.putT (upd H S (.lst (as.map V.ref))) as kvs) b = some u := fun b u e => by
    rw [off b (fun z => by rw [new b z] at e; cases e) (fun z => by rw [z, newS] at e; cases e)]
    exact e
  have eS : LiI.putT (upd H S (.lst (as.map V.ref))) as kvs S = some (.lst (as.map V.ref)) := by rw [LiI.putT_off as kvs _ hSn, upd_same]
  refine ⟨LiI.putT (upd H S (.lst (as.map V.ref))) as kvs, kp, newS, eS, atP, ?_⟩
  refine I.call' (ch := []) rfl ⟨fun b o q _ _ _ => hk b o q, fun b o q _ _ _ => ⟨o.slots, hk b o q⟩, fun b o q n _ => ?_, fun b o q _ => ⟨o, hk b o q⟩, fun b xs q => kp b _ q, fun b o u q => kp b _ q, fun b ps q => ⟨#[], by rw [kp b _ q]; simp⟩⟩ (fun b u q => ?_) I.bare fun b z => by simp at z
  · obtain ⟨z1, z2⟩ := low b o q
    rw [off b z1 z2]
    exact n
  · by_cases hb : b ∈ as
    · obtain ⟨j, pk, e1, e2, e3⟩ := LiI.paired_ix atP hb
      rw [e3] at q
      cases q
      obtain ⟨key, k, x, f1, f2, f3⟩ := hG.pairs j b e1
      obtain ⟨qv, g1, g2, g3⟩ := LiI.paired_get kv e2
      rw [f1] at g1
      cases g1
      have rk : RelV (kV pk.1) key := by
        rw [g2]
        exact relV_key (show keyIs k key = true from f2)
      exact ⟨by show 2 ≤ sizeLine; decide, [key, x], .cons rk (.cons g3 .nil), ⟨_, f3, rfl, _, rfl⟩⟩
    · by_cases hb2 : b = S
      · rw [hb2] at q ⊢
        rw [eS] at q
        cases q
        exact ⟨by rw [List.length_map]; omega, as.map Value.ref, 0, LiI.vals_refs as, hS⟩
      · rw [off b hb hb2] at q
        exact (I.hok b u q).stay (fun d v _ y => hk d v y) (fun d y => kp d _ y) fun d xs y => kp d _ y
theorem paired_pair {H : Hp} : ∀ {ts : List Addr} {kvs : List (Int × Int)}, Paired (fun (t : Addr) (q : L2.Key × V) => H t = some (.tup [kV q.1, q.2])) ts (intKV kvs) → Paired (PairAt H) (ts.map V.ref) kvs
  | _, [], .nil => .nil
  | _, _ :: _, .cons h t => .cons ⟨_, rfl, h⟩ (paired_pair t)
/-- sorted(d.items()) -/
def rSortIK (K : PySem.W.Frag) : List V → Hp → VK → Prop := fun vs H Q => ∃ (p a : Addr) (kvs : List (Int × Int)), vs = [.ref p] ∧ H p = some (itemsO p a) ∧ H a = some (.dK (intKV kvs)) ∧ SortedTo K Q kvs H
theorem cr_sortIK {K : PySem.W.Frag} (hc : X.calm = true) (e : X.K = K := by rfl) : CallR X (.builtin "sorted") (rSortIK K) := by
  subst e
  intro pins s σ H xs us Q I r h
  obtain ⟨p, a, kvs, rfl, hp, ha, k⟩ := h
  obtain rfl := Vals.ref1 r
  have view : s.heap.IsItemsView p a := (show ObjOk X.prog X.w H s.heap p (itemsO p a) from I.hok p _ hp).1
  obtain ⟨hz, hs0, vs, kv, hdo⟩ := I.hok a _ ha
  have lk : (intKV kvs).length = vs.length := Paired.length kv
  obtain ⟨o, es, ep, ho, hx, hdat, hko, hps, hnd⟩ := hdo
  have les : es.size = vs.length := by rw [← Array.length_toList]; exact hps.length
  have hh : X.A.handled = none := I.ok.hd hc
  refine DT.sortedI (es := es) (ep := ep) hh view ⟨o, ho, hx, hdat⟩ (by omega) fun h' tk as hk hlt hl hM => ?_
  have hG : PySem.W.KdxG (mixKind X.prog X.w) vs s.heap.objs.size h' as := by
    refine ⟨hM.rise, hM.above, fun j b hj => ?_⟩
    obtain ⟨en, he, hg⟩ := hM.pairs j b hj
    rw [← Array.getElem?_toList] at he
    have hjl : j < vs.length := by
      have := (List.getElem?_eq_some_iff.mp hj).1
      omega
    have hv : vs[j]? = some ((vs[j]).1, (vs[j]).2) := List.getElem?_eq_getElem hjl
    obtain ⟨q1, q2⟩ := hps.get? he hv
    exact ⟨en.key, (vs[j]).1, (vs[j]).2, hv, q1, by rw [hg, q2]⟩
  have hpush : ∀ b o, h'.get? b = some o → (h'.push { cls := .type "list", data := .seq (as.map Value.ref).toArray }).get? b = some o := fun b o e => Heap.get?_push_of_some _ e
  obtain ⟨H', k1, k2, k4, k5, J⟩ := items_laid2 (tk := tk) (S := h'.objs.size) I hz kv (fun b o e => hpush _ _ (hk b o e)) (Heap.get?_push_size _ rfl) (Nat.le_of_lt hlt)
    (fun z => Nat.lt_irrefl _ (hG.there z)) (by omega) ⟨hG.rise, hG.above, fun j a e => by
      obtain ⟨key, q, x, f1, f2, f3⟩ := hG.pairs j a e
      exact ⟨key, q, x, f1, f2, hpush _ _ f3⟩⟩
  have pp := paired_pair k5
  have st := mt_sortPO (X := { X with A := X.A.in1 }) pins _ σ H' (.ref h'.objs.size) [] (.ref h'.objs.size) [] (fun _ H2 => Q (.ref h'.objs.size) H2) (inv_around J _ rfl rfl) rfl .nil
    ⟨_, _, pairK H', rfl, rfl, k4, pair_mem pp, fun zs h1 h2 => ?_⟩
  · refine wpAny_mono st (fun u s' x => ?_) fun _ _ e => e
    obtain ⟨v, H2, J2, rv, q2⟩ := x
    exact ⟨.ref h'.objs.size, H2, inv_back J2 rfl rfl, rfl, q2⟩
  · refine k h'.objs.size (zs.map (pairK H')) zs _ k2 (fun b o e => ?_) upd_same ?_ ?_ (List.pairwise_map.mpr h1)
    · rw [upd_ne (ne_of_none e k2)]
      exact k1 b o e
    · have hd : ∀ y ∈ zs, PairAt (upd H' h'.objs.size (.lst zs)) y (pairK (upd H' h'.objs.size (.lst zs)) y) ∧ pairK (upd H' h'.objs.size (.lst zs)) y = pairK H' y := fun y hy => by
        obtain ⟨t, e1, e2⟩ := pair_mem pp y (h2.perm.mem_iff.mp hy)
        have nt : t ≠ h'.objs.size := fun z => by
          rw [z, k4] at e2
          cases e2
        have e3 : PairAt (upd H' h'.objs.size (.lst zs)) y (pairK H' y) := ⟨t, e1, by rw [upd_ne nt]; exact e2⟩
        have e4 := pairK_of e3
        exact ⟨by rw [e4]; exact e3, e4⟩
      have e5 : zs.map (pairK H') = zs.map (pairK (upd H' h'.objs.size (.lst zs))) := List.map_congr_left fun y hy => (hd y hy).2.symm
      rw [e5]
      exact pairs_dn (fun _ _ e => e) fun y hy => (hd y hy).1
    · rw [← pairK_map pp]
      exact h2.perm.map _
end
section
variable {K : PySem.W.Frag} {H : Hp} {Q : VK} {p : Addr} {kvs : List (L2.Key × V)} {i : Int} {v : V}
theorem r_items {σ : L2.St} {to : TE} {a : Addr} (h : H a = some (.dK kvs)) (k : ∀ p H', H p = none → Same H H' → H' p = some (itemsO p a) → Q (.ref p) H') : tyV K "dict" (.ref a) H ∧ rItemsK (.ref a) [] H Q :=
  ⟨.inr (.inr (.inl ⟨rfl, .inl ⟨_, h⟩⟩)), a, kvs, rfl, rfl, h, fun p hp => k p _ hp (But.new (S := []) hp).same upd_same⟩
/-! ### dicts with int keys -/
theorem r_dnew {σ : L2.St} (k : ∀ p H', H p = none → Same H H' → H' p = some (.dK []) → Q (.ref p) H') : tDNewK σ H Q := fun p hp => k p _ hp (But.new (S := []) hp).same upd_same
theorem r_dget2 {σ : L2.St} {td ty tx : TE} (k : td σ H fun x H1 => ∃ a, x = .ref a ∧ IsD H1 a ∧ ty σ H1 fun y H2 => tx σ H2 fun z H3 => ∃ o, DGet H3 a y o ∧ Q (o.getD z) H3) : tDGet2 td ty tx σ H Q := k
theorem r_dput {σ : L2.St} {td ty tv : TE} {D : Ends} (k : tv σ H fun v H1 => td σ H1 fun x H2 => ty σ H2 fun y H3 => ∃ a H4, x = .ref a ∧ DPut H3 a y v H4 ∧ D.nx σ H4) : sDPut td ty tv D σ H := k
theorem r_isD {a : Addr} {B : Addr → Prop} (h : H a = some (.dK kvs)) (k : B a) : ∃ b, V.ref a = .ref b ∧ IsD H b ∧ B b := ⟨a, rfl, .inl ⟨_, .inl h⟩, k⟩
end
def rMax2 : List V → Hp → VK → Prop := fun xs H Q => ∃ i j, xs = [.int i, .int j] ∧ Q (.int (if j > i then j else i)) H
theorem call_max2A {X : Cx} (hc : X.calm = true) : CallR X (.builtin "max") rMax2 := call_max2 hc
theorem r_max2 {H : Hp} {Q : VK} {i j : Int} (k : Q (.int (max i j)) H) : rMax2 [.int i, .int j] H Q := by
  refine ⟨i, j, rfl, ?_⟩
  have e : (if j > i then j else i) = max i j := by split <;> omega
  rw [e]; exact k
def rInt1 : List V → Hp → VK → Prop := fun xs H Q => (∃ j, xs = [.int j] ∧ Q (.int j) H) ∨ ∃ b, xs = [.bl b] ∧ Q (.int (if b then 1 else 0)) H
theorem r_int1 {H : Hp} {Q : VK} {i : Int} (k : Q (.int i) H) : rInt1 [.int i] H Q := .inl ⟨i, rfl, k⟩
theorem r_int1b {H : Hp} {Q : VK} {b : Bool} (k : Q (.int (if b then 1 else 0)) H) : rInt1 [.bl b] H Q := .inr ⟨b, rfl, k⟩
/-! ### int to int -/
def getI (m : List (Int × Int)) (k : Int) : Option Int := (m.find? fun q => decide (q.1 = k)).map (·.2)
def putI (m : List (Int × Int)) (k v : Int) : List (Int × Int) :=
  if (m.any fun q => decide (q.1 = k)) = true then m.map (fun q => if q.1 = k then (q.1, v) else q) else m ++ [(k, v)]
theorem valV_intKV {m : List (Int × Int)} {k : Int} : valV (intKV m) (.inl k) = (getI m k).map V.int := by
  unfold getI
  induction m with
  | nil => rfl
  | cons q m ih =>
    by_cases h : q.1 = k
    · rw [List.find?_cons_of_pos (by simpa using h)]
      exact valV_pos (p := ((Sum.inl q.1 : L2.Key), V.int q.2)) (by rw [h])
    · rw [List.find?_cons_of_neg (by simpa using h), ← ih]
      exact valV_neg (p := ((Sum.inl q.1 : L2.Key), V.int q.2)) (fun z => h (Sum.inl.inj z))
theorem getD_intKV {m : List (Int × Int)} {k j : Int} : (valV (intKV m) (.inl k)).getD (.int j) = .int ((getI m k).getD j) := by
  rw [valV_intKV]
  cases getI m k <;> rfl
theorem any_intKV {m : List (Int × Int)} {k : Int} : ((intKV m).any fun kv => decide (kv.1 = (.inl k : L2.Key))) = m.any fun q => decide (q.1 = k) := by
  unfold intKV
  rw [List.any_map]
  refine congrArg m.any (funext fun q => decide_eq_decide.mpr ⟨fun z => Sum.inl.inj z, fun z => congrArg Sum.inl z⟩)
theorem putK_intKV {m : List (Int × Int)} {k v : Int} : putK (intKV m) (.inl k) (.int v) = intKV (putI m k v) := by
  unfold putK putI
  rw [any_intKV]
  split
  · unfold intKV
    rw [List.map_map, List.map_map]
    refine List.map_congr_left fun q _ => ?_
    by_cases h : q.1 = k
    · have h2 : (Sum.inl q.1 : L2.Key) = .inl k := congrArg _ h
      simp only [Function.comp, if_pos h, if_pos h2]
    · have h2 : ¬ (Sum.inl q.1 : L2.Key) = .inl k := fun z => h (Sum.inl.inj z)
      simp only [Function.comp, if_neg h, if_neg h2]
  · unfold intKV
    rw [List.map_append]; rfl
theorem putI_length (m : List (Int × Int)) (k v : Int) : (putI m k v).length ≤ m.length + 1 := by
  unfold putI
  split
  · rw [List.length_map]; omega
  · rw [List.length_append]; exact Nat.le_refl _
section
variable {K : PySem.W.Frag} {H : Hp} {Q : VK} {a : Addr} {m : List (Int × Int)} {i j : Int}
theorem r_dgetI (h : H a = some (.dK (intKV m))) (k : Q (.int ((getI m i).getD j)) H) : ∃ o, DGet H a (.int i) o ∧ Q (o.getD (.int j)) H := by
  refine ⟨_, DGet.k (k := .inl i) h, ?_⟩
  rw [valV_intKV]
  cases hg : getI m i <;> rw [hg] at k <;> exact k
theorem r_dputI {R : Hp → Prop} (h : H a = some (.dK (intKV m))) (c : m.length < sizeLine) (k : ∀ H', But [a] H H' → H' a = some (.dK (intKV (putI m i j))) → R H') :
    ∃ b H4, V.ref a = .ref b ∧ DPut H b (.int i) (.int j) H4 ∧ R H4 := by
  refine ⟨a, _, rfl, DPut.k (k := .inl i) h (by unfold intKV; rw [List.length_map]; exact c), ?_⟩
  rw [putK_intKV]
  exact k _ (But.write h (fun z => z) (by simp)) upd_same
theorem getI_put {m : List (Int × Int)} {k v h : Int} : getI (putI m k v) h = if h = k then some v else getI m h := by
  unfold putI getI
  by_cases ha : (m.any fun q => decide (q.1 = k)) = true
  · rw [if_pos ha]
    induction m with
    | nil => simp at ha
    | cons q m ih =>
      rw [List.map_cons]
      by_cases hq : q.1 = k
      · rw [if_pos hq]
        by_cases hh : h = k
        · subst hh
          rw [if_pos rfl, List.find?_cons_of_pos (by simpa using hq)]; rfl
        · rw [if_neg hh]
          have hne : ¬ q.1 = h := fun z => hh (z ▸ hq)
          rw [List.find?_cons_of_neg (by simpa using hne), List.find?_cons_of_neg (by simpa using hne)]
          by_cases hm : (m.any fun q => decide (q.1 = k)) = true
          · rw [ih hm, if_neg hh]
          · have : m.map (fun q => if q.1 = k then (q.1, v) else q) = m := by
              conv => rhs; rw [← List.map_id m]
              refine List.map_congr_left fun z hz => ?_
              rw [if_neg fun e => hm (List.any_eq_true.mpr ⟨z, hz, decide_eq_true e⟩)]; rfl
            rw [this]
      · rw [if_neg hq]
        have hm : (m.any fun q => decide (q.1 = k)) = true := by
          rw [List.any_cons, decide_eq_false hq, Bool.false_or] at ha; exact ha
        by_cases hqh : q.1 = h
        · rw [List.find?_cons_of_pos (by simpa using hqh), List.find?_cons_of_pos (by simpa using hqh), if_neg fun z => hq (hqh.trans z)]
        · rw [List.find?_cons_of_neg (by simpa using hqh), List.find?_cons_of_neg (by simpa using hqh), ih hm]
  · rw [if_neg ha, List.find?_append]
    by_cases hh : h = k
    · subst hh
      rw [if_pos rfl]
      have : m.find? (fun q => decide (q.1 = h)) = none := List.find?_eq_none.mpr fun z hz e => ha (List.any_eq_true.mpr ⟨z, hz, e⟩)
      rw [this]
      simp
    · rw [if_neg hh]
      have : [(k, v)].find? (fun q => decide (q.1 = h)) = none := by simp [Ne.symm hh]
      rw [this, Option.or_none]
theorem putI_keys {m : List (Int × Int)} {k v : Int} (hm : (m.map (·.1)).Nodup) : ((putI m k v).map (·.1)).Nodup := by
  unfold putI
  split
  · rw [List.map_map]
    have : ((fun q : Int × Int => q.1) ∘ fun q => if q.1 = k then (q.1, v) else q) = fun q => q.1 := funext fun q => by
      by_cases h : q.1 = k <;> simp [h]
    rw [this]; exact hm
  · rename_i h
    rw [List.map_append]
    refine List.nodup_append.mpr ⟨hm, by simp, ?_⟩
    intro x hx y hy e
    obtain ⟨q, hq, rfl⟩ := List.mem_map.mp hx
    simp at hy
    exact h (List.any_eq_true.mpr ⟨q, hq, decide_eq_true (e.trans hy)⟩)
theorem lex_uniq {xs ys : List (Int × Int)} (h : xs.Perm ys) (h1 : xs.Pairwise Lex) (h2 : ys.Pairwise Lex) : xs = ys := by
  refine h.eq_of_pairwise (le := Lex) (fun a b _ _ q1 q2 => ?_) h1 h2
  have a1 := SrtO.lexB_no.mp q1
  have a2 := SrtO.lexB_no.mp q2
  exact Prod.ext (by omega) (by omega)
end
/-! ### slices -/
section
variable {σ : L2.St} {H : Hp} {K : PySem.W.Frag} {Q : VK} {te : TE} {tl th : TO} {xs : List V}
theorem r_sl {r : V → Option Int → Option Int → Hp → VK → Prop} (k : te σ H fun x H1 => tl σ H1 fun l H2 => th σ H2 fun u H3 => r x l u H3 Q) : tSl r te tl th σ H Q := k
theorem r_noPart {R : Option Int → Hp → Prop} (k : R none H) : tNoPart σ H R := k
theorem r_part {R : Option Int → Hp → Prop} (k : te σ H fun x H1 => ∃ i, x = .int i ∧ R (some i) H1) : tPart te σ H R := k
theorem r_exi {i : Int} {R : Int → Prop} (k : R i) : ∃ j, V.int i = .int j ∧ R j := ⟨i, rfl, k⟩
theorem cut_from {n : Nat} : cutV xs (some (n : Int)) none = xs.drop n := by
  unfold cutV
  rw [HT.sIx_nat, HT.sIx_none]
  by_cases h : n ≤ xs.length
  · rw [Nat.min_eq_left h]
    exact List.take_of_length_le (by rw [List.length_drop]; exact Nat.le_refl _)
  · rw [Nat.min_eq_right (by omega), Nat.sub_self, List.take_zero, List.drop_eq_nil_of_le (by omega)]
theorem cut_fromTo {n m : Nat} : cutV xs (some (n : Int)) (some (m : Int)) = (xs.drop n).take (m - n) := by
  unfold cutV
  rw [HT.sIx_nat, HT.sIx_nat]
  by_cases h : n ≤ xs.length
  · rw [Nat.min_eq_left h]
    by_cases h2 : m ≤ xs.length
    · rw [Nat.min_eq_left h2]
    · rw [Nat.min_eq_right (by omega), List.take_of_length_le (by rw [List.length_drop]; exact Nat.le_refl _), List.take_of_length_le (by rw [List.length_drop]; omega)]
  · rw [Nat.min_eq_right (a := n) (by omega), List.drop_eq_nil_of_le (Nat.le_refl _), List.drop_eq_nil_of_le (by omega), List.take_nil, List.take_nil]
theorem cut_to {m : Nat} : cutV xs none (some (m : Int)) = xs.take m := by
  unfold cutV
  rw [HT.sIx_none, HT.sIx_nat, List.drop_zero, Nat.sub_zero]
  by_cases h : m ≤ xs.length
  · rw [Nat.min_eq_left h]
  · rw [Nat.min_eq_right (by omega), List.take_of_length_le (Nat.le_refl _), List.take_of_length_le (by omega)]
end
/-! ### lists of ints -/
theorem layInts : ∀ ns : List Int, PyData.canLayAll0 (ns.map PyData.int) = true
  | [] => rfl
  | n :: ns => by
    show ((PyData.int n).canLay0 && PyData.canLayAll0 (ns.map PyData.int)) = true
    rw [layInts ns]; rfl
theorem depInts : ∀ ns : List Int, PyData.depthAll (ns.map PyData.int) = 0
  | [] => rfl
  | n :: ns => by
    show max (PyData.int n).depth (PyData.depthAll (ns.map PyData.int)) = 0
    rw [depInts ns]; rfl
theorem shapedInts (ns : List Int) : SeqAt.shaped (.list (ns.map PyData.int)) = true := by
  unfold SeqAt.shaped
  have h1 : (PyData.list (ns.map PyData.int)).canLay0 = true := layInts ns
  have h2 : (PyData.list (ns.map PyData.int)).depth ≤ 1 := by
    show PyData.depthAll (ns.map PyData.int) + 1 ≤ 1
    rw [depInts]; exact Nat.le_refl _
  rw [h1, decide_eq_true (by omega)]; rfl
theorem eqvInts : ∀ (ns ms : List Int), PyData.eqvAll (ns.map PyData.int) (ms.map PyData.int) = decide (ns = ms)
  | [], [] => rfl
  | [], _ :: _ => rfl
  | _ :: _, [] => rfl
  | n :: ns, m :: ms => by
    show (PyData.eqv (.int n) (.int m) && PyData.eqvAll (ns.map PyData.int) (ms.map PyData.int)) = _
    rw [eqvInts ns ms]
    have : PyData.eqv (.int n) (.int m) = decide (n = m) := by
      by_cases h : n = m
      · subst h; simp [PyData.eqv]
      · simp [PyData.eqv, h]
    rw [this, ← Bool.decide_and]
    exact decide_eq_decide.mpr (by simp)
theorem eqvListInts (ns ms : List Int) : PyData.eqv (.list (ns.map PyData.int)) (.list (ms.map PyData.int)) = decide (ns = ms) := by
  rw [← eqvInts]; rfl
theorem r_eqInts {K : PySem.W.Frag} {H : Hp} {Q : VK} {p q : Addr} {ns ms : List Int} (h1 : H p = some (.lst (ns.map V.int))) (h2 : H q = some (.lst (ms.map V.int))) (k : Q (.bl (decide (ns = ms))) H) : rEqA K (.ref p) (.ref q) H Q := by
  refine r_eqD (d := .list (ns.map PyData.int)) (e := .list (ms.map PyData.int)) ?_ ?_ (shapedInts ns) (shapedInts ms) (by rw [eqvListInts]; exact k)
  · exact (Dn.lst (S := []) h1 List.not_mem_nil DnAll.ints).dp
  · exact (Dn.lst (S := []) h2 List.not_mem_nil DnAll.ints).dp
theorem r_listItems {σ : L2.St} {H : Hp} {te : TE} {Q : VK} (k : te σ H fun x H1 => LiI.rItemsL x H1 Q) : LiI.tListItems te σ H Q := k
theorem r_itemsL {H : Hp} {Q : VK} {d : Addr} {kvs : List (Int × Int)} (h : H d = some (.dK (intKV kvs)))
    (k : ∀ p xs H', H p = none → Same H H' → H' p = some (.lst xs) → Paired (PairAt H') xs kvs → Q (.ref p) H') : LiI.rItemsL (.ref d) H Q :=
  ⟨d, _, rfl, h, fun H' p ts s hp _ _ hl hh => k p _ H' hp s hl (paired_pair hh)⟩
theorem r_par {i j : Nat} {ta : TA} {D : Ends} {σ : L2.St} {H : Hp} (k : ta σ H fun vs H1 => ∃ v w, vs = [v, w] ∧ D.nx ((σ.set i (some v)).set j (some w)) H1) : tPar i j ta D σ H := k
theorem r_ex2 {v w : V} {R : V → V → Prop} (k : R v w) : ∃ v' w', [v, w] = [v', w'] ∧ R v' w' := ⟨v, w, rfl, k⟩
end J

set_option Elab.async false
set_option linter.all false
set_option maxRecDepth 100000
set_option maxHeartbeats 4000000
namespace J
open PySem PySem.Spec L2 PyProof.Rows
/-! ### statements, expressions that no run reaches -/
theorem ps_dead {X : Cx} {st : Stmt} : PS X st (fun _ _ _ => False) := ⟨fun _ _ _ _ _ _ h => h.elim⟩
theorem pe_dead {X : Cx} {e : Expr} : PE X e (fun _ _ _ => False) := ⟨fun _ _ _ _ _ _ h => h.elim⟩
/-! ### types of data -/
def tyD : PyData → String
  | .none => "NoneType"
  | .bool _ => "bool"
  | .int _ => "int"
  | .str _ => "str"
  | .list _ => "list"
  | .tuple _ => "tuple"
  | .dict _ => "dict"
def isIntD : PyData → Bool
  | .int _ => true
  | .bool _ => true
  | _ => false
def isBoolD : PyData → Bool
  | .bool _ => true
  | _ => false
def isStrD : PyData → Bool
  | .str _ => true
  | _ => false
def isTupD : PyData → Bool
  | .tuple _ => true
  | _ => false
def isListD : PyData → Bool
  | .list _ => true
  | _ => false
theorem kit_int (d : PyData) : kitB (tyD d) "int" = some (isIntD d) := by cases d <;> (simp only [tyD, isIntD, isBoolD, isStrD, isTupD, isListD]; decide +kernel)
theorem kit_bool (d : PyData) : kitB (tyD d) "bool" = some (isBoolD d) := by cases d <;> (simp only [tyD, isIntD, isBoolD, isStrD, isTupD, isListD]; decide +kernel)
theorem kit_str (d : PyData) : kitB (tyD d) "str" = some (isStrD d) := by cases d <;> (simp only [tyD, isIntD, isBoolD, isStrD, isTupD, isListD]; decide +kernel)
theorem kit_tup (d : PyData) : kitB (tyD d) "tuple" = some (isTupD d) := by cases d <;> (simp only [tyD, isIntD, isBoolD, isStrD, isTupD, isListD]; decide +kernel)
theorem kit_list (d : PyData) : kitB (tyD d) "list" = some (isListD d) := by cases d <;> (simp only [tyD, isIntD, isBoolD, isStrD, isTupD, isListD]; decide +kernel)
theorem tyx_of {K : PySem.W.Frag} {S : List Addr} {H : Hp} {v : V} {d : PyData} (h : Dn K S H v d) : TyX K H v (.type (tyD d)) := by
  cases h with
  | non => exact .base .non
  | bl b => exact .base (.bl b)
  | int i => exact .base (.int i)
  | str x => exact .base (.str x)
  | lst h1 _ _ => exact .base (.lst h1)
  | tup h1 _ =>
    rcases h1 with (h1 | ⟨o, h1⟩) | h1
    · exact .base (.tup h1)
    · exact .fTuple h1
    · obtain ⟨o, _, _, hk, hc, _⟩ := h1
      exact .kTuple hk hc
section
variable {X : Cx} {K : PySem.W.Frag} {CX : CXT} {k j n : Nat} {C : Addr} {x m T : Str} {sp : Sp} {e o : Expr} {es : List Expr} {ta te : TE} {t tk : TA} {p pos apos : Pos} {kws : List Keyword} {ks : List Str}
theorem pe_tyN {T : String} (hg : Gl X x) (hm : X.mg x = none) (hv : bootBuiltins x = some (.type T)) (hn : x ≠ "__name__" := by decide) (hd : (x == ("__debug__" : Str)) = false := by decide) : PE X (.Name x pos) (tC (.ty T)) :=
  pe_bltn hg hm hv rfl hn hd
theorem pe_gint {i : Int} {tk : Tok} (hg : Gl X x) (hm : X.mg x = some (.int i tk)) (hd : (x == ("__debug__" : Str)) = false := by decide) : PE X (.Name x pos) (tC (.int i)) := pe_glob hg hm ⟨_, rfl⟩ hd
theorem pe_gintE {i : Int} (hg : Gl X x) (hm : ∃ tk, X.mg x = some (.int i tk)) (hd : (x == ("__debug__" : Str)) = false := by decide) : PE X (.Name x pos) (tC (.int i)) := by
  obtain ⟨tk, hm⟩ := hm
  exact pe_gint hg hm hd
theorem call_isiA (e : X.K = K := by rfl) : CallR X (.builtin "isinstance") (rIsi K) := by subst e; exact call_isi
/-- a def called with keywords -/
structure ClK (P : Program) (w : World) (K : PySem.W.Frag) (mg : Str → Option Value) (base : Heap) (CX : CXT) (k : Nat) (x : Str) (n : Nat) (ks : List Str) (sp : Sp) : Prop where
  ex : ∃ f fd ps g gV, FnOk P w K mg base CX k f fd ps sp ∧ mg x = some (.ref f) ∧ PySem.W.keepIn K (.ref f) = true ∧ KBn K fd ps n ks g gV ∧ gV = fun vs zs => vs ++ zs
def tKw (n m : Nat) (sp : Sp) (t tk : TA) : TE := fun σ H Q => t σ H fun vs H1 => tk σ H1 fun zs H2 => vs.length = n ∧ zs.length = m ∧ sp (vs ++ zs) H2 Q E0
theorem pe_clK (c : ClK X.prog X.w X.K X.mg X.base CX0 k x n ks sp) (hr : Room j X.A) (hk : k ≤ j) (ha : PA X (e :: es) t) (hkw : PK X kws tk) (hg : Gl X x := by rfl)
    (hall : (backToKw pos (keywordEach kws X.env)).all (·.1.isSome) = true := by rfl) (hks : (backToKw pos (keywordEach kws X.env)).filterMap (·.1) = ks := by rfl)
    (hdb : (x == ("__debug__" : Str)) = false := by decide) (he : starEach (e :: es) X.env = (false, eval e X.env) :: starEach es X.env := by rfl)
    (hpl : ((backTo pos (starEach (e :: es) X.env)).any (·.1) || (backToKw pos (keywordEach kws X.env)).any (·.1.isNone)) = false := by rfl) :
    PE X (.Call (.Name x p) (e :: es) kws pos) (tKw n ks.length sp t tk) := by
  obtain ⟨f, fd, ps, g, gV, F, hm, kp, hb, eg⟩ := c.ex
  have h := pe_callN F (hr.mono hk) hg hm kp hb pass0 ha hkw hall hks hdb he hpl (p := p)
  rw [eg] at h
  exact h
theorem pe_cld {dvs : List V} (c : C8.Cal X.prog X.w X.K X.mg X.base k x sp dvs) (hr : Room j X.A) (hk : k ≤ j) (ha : PA X (e :: es) t) (hg : Gl X x := by rfl)
    (hdb : (x == ("__debug__" : Str)) = false := by decide) (he : starEach (e :: es) X.env = (false, eval e X.env) :: starEach es X.env := by rfl) (hpl : (backTo pos (starEach es X.env)).any (·.1) = false := by rfl) :
    PE X (.Call (.Name x p) (e :: es) [] pos) (tCall sp dvs E0 t) := C8.pe_c c hr hk hg ha hdb he hpl
theorem ps_fldA {value : Expr} {f : Str} {tv : TE} {pos' : Pos} (ha : PE X o ta) (hv : PE X value tv) (hs : swapsWith value (some (.Attribute o f pos')) pos.line X.env = pure false := by rfl) (e : X.K = K := by rfl) :
    PS X (.Assign [.Attribute o f pos'] value pos) (sFld K ta tv f) := by subst e; exact ps_fld ha hv hs
theorem ps_fldaugA {value : Expr} {f : Str} {tv : TE} {op : Operator} {tpos : Pos} {rd : V → V → Hp → VK → Prop} (ha : PE X o ta) (hv : PE X value tv) (hop : InOp X op rd) (e : X.K = K := by rfl) :
    PS X (.AugAssign (.Attribute o f tpos) op value pos) (sFldAug K ta tv rd f) := by subst e; exact ps_fldaug ha hv hop
theorem in_ofR {op : Operator} {r : R2} (h : OpR X (inplaceOp op) r) : InOp X op r := h
theorem pi_zipB {e2 : Expr} {elts : List Expr} {kk : Nat} {tpos : Pos} {tz : TA} (hg : Gl X "zip") (hm : X.mg "zip" = none) (ha : PA X [e, e2] tz)
    (hs : starEach [e, e2] X.env = (false, eval e X.env) :: starEach [e2] X.env := by rfl) (hpl : (backTo pos (starEach [e2] X.env)).any (·.1) = false := by rfl) (ek : X.K = K := by rfl) :
    PI X (.Tuple elts kk tpos) (.Call (.Name "zip" p) [e, e2] [] pos) (RZ.iZipA K tz) := by subst ek; exact RZ.pi_zipA hg hm ha hs hpl
end
section
variable {σ : L2.St} {H : Hp} {K : PySem.W.Frag} {Q : VK} {S : List Addr} {a C dx : Addr} {fs : List (Str × V)} {f m : Str} {v x : V} {d : PyData} {ta te tv : TE} {t tk : TA} {sp : Sp} {dvs : List V} {E : XK} {D : Ends}
/-! ### isinstance -/
theorem r_isi {T : String} {b : Bool} (h : Dn K S H x d) (e : kitB (tyD d) T = some b) (k : Q (.bl b) H) : rIsi K [x, .ty T] H Q :=
  ⟨x, _, _, _, b, rfl, .ty T, tyx_of h, kit_ty e, k⟩
theorem r_isInt (h : Dn K S H x d) (k : Q (.bl (isIntD d)) H) : rIsi K [x, .ty "int"] H Q := r_isi h (kit_int d) k
theorem r_isBool (h : Dn K S H x d) (k : Q (.bl (isBoolD d)) H) : rIsi K [x, .ty "bool"] H Q := r_isi h (kit_bool d) k
theorem r_isStr (h : Dn K S H x d) (k : Q (.bl (isStrD d)) H) : rIsi K [x, .ty "str"] H Q := r_isi h (kit_str d) k
theorem r_isTup (h : Dn K S H x d) (k : Q (.bl (isTupD d)) H) : rIsi K [x, .ty "tuple"] H Q := r_isi h (kit_tup d) k
theorem r_isList (h : Dn K S H x d) (k : Q (.bl (isListD d)) H) : rIsi K [x, .ty "list"] H Q := r_isi h (kit_list d) k
/-! ### fields, methods, new instances -/
def FldAt (K : PySem.W.Frag) (f : Str) (x : V) (H : Hp) (Q : VK) : Prop := ∃ a C dx fs v, x = .ref a ∧ H a = some (.ins C dx fs) ∧ Cls K C ∧ NoAttr K C f ∧ fs.lookup f = some v ∧ Q v H
theorem r_fld (k : ta σ H fun x H1 => FldAt K f x H1 Q) : tFld K ta f σ H Q := k
theorem r_fldAt (h : H a = some (.ins C dx fs)) (c : Cls K C) (n : NoAttr K C f) (l : fs.lookup f = some v) (k : Q v H) : FldAt K f (.ref a) H Q := ⟨a, C, dx, fs, v, rfl, h, c, n, l, k⟩
def SetAt (K : PySem.W.Frag) (f : Str) (y : V) (x : V) (H : Hp) (R : Hp → Prop) : Prop := ∃ a C dx fs, x = .ref a ∧ H a = some (.ins C dx fs) ∧ Cls K C ∧ NoAttr K C f ∧ fs.length < 1000 ∧ R (upd H a (.ins C dx (putF f y fs)))
theorem r_sfld (k : tv σ H fun y H1 => ta σ H1 fun x H2 => SetAt K f y x H2 fun H3 => D.nx σ H3) : sFld K ta tv f D σ H := k
theorem r_setAt {R : Hp → Prop} {y : V} (h : H a = some (.ins C dx fs)) (c : Cls K C) (n : NoAttr K C f) (l : fs.length < 1000) (k : ∀ H', But [a] H H' → H' a = some (.ins C dx (putF f y fs)) → R H') : SetAt K f y (.ref a) H R :=
  ⟨a, C, dx, fs, rfl, h, c, n, l, k _ (But.write h (fun z => z) (by simp)) upd_same⟩
def AugAt (K : PySem.W.Frag) (f : Str) (σ : L2.St) (tv : TE) (rd : R2) (x : V) (H : Hp) (R : Hp → Prop) : Prop := ∃ a C dx fs v, x = .ref a ∧ H a = some (.ins C dx fs) ∧ Cls K C ∧ NoAttr K C f ∧ fs.lookup f = some v ∧
  tv σ H fun y H2 => rd v y H2 fun z H3 => ∃ dx' fs', H3 a = some (.ins C dx' fs') ∧ fs'.length < 1000 ∧ R (upd H3 a (.ins C dx' (putF f z fs')))
theorem r_sfldaug {rd : R2} (k : ta σ H fun x H1 => AugAt K f σ tv rd x H1 fun H3 => D.nx σ H3) : sFldAug K ta tv rd f D σ H := k
def PutAt (f : Str) (a C : Addr) (z : V) (H : Hp) (R : Hp → Prop) : Prop := ∃ dx' fs', H a = some (.ins C dx' fs') ∧ fs'.length < 1000 ∧ R (upd H a (.ins C dx' (putF f z fs')))
theorem r_putAt {R : Hp → Prop} {z : V} (h : H a = some (.ins C dx fs)) (l : fs.length < 1000) (k : ∀ H', But [a] H H' → H' a = some (.ins C dx (putF f z fs)) → R H') : PutAt f a C z H R :=
  ⟨dx, fs, h, l, k _ (But.write h (fun z => z) (by simp)) upd_same⟩
theorem r_augAt {R : Hp → Prop} {rd : R2} (h : H a = some (.ins C dx fs)) (c : Cls K C) (n : NoAttr K C f) (l : fs.lookup f = some v) (k : tv σ H fun y H2 => rd v y H2 fun z H3 => PutAt f a C z H3 R) : AugAt K f σ tv rd (.ref a) H R :=
  ⟨a, C, dx, fs, v, rfl, h, c, n, l, k⟩
def MethAt (C : Addr) (m : Str) (sp : Sp) (dvs : List V) (E : XK) (σ : L2.St) (t : TA) (x : V) (H : Hp) (Q : VK) : Prop := ∃ a dx fs, x = .ref a ∧ H a = some (.ins C dx fs) ∧ fs.lookup m = none ∧ t σ H fun vs H2 => sp (x :: (vs ++ dvs)) H2 Q E
theorem r_meth (k : ta σ H fun x H1 => MethAt C m sp dvs E σ t x H1 Q) : tMeth C m sp dvs E ta t σ H Q := k
theorem r_methAt (h : H a = some (.ins C dx fs)) (l : fs.lookup m = none) (k : t σ H fun vs H2 => sp (.ref a :: (vs ++ dvs)) H2 Q E) : MethAt C m sp dvs E σ t (.ref a) H Q := ⟨a, dx, fs, rfl, h, l, k⟩
def MakeAt (C : Addr) (sp : Sp) (dvs : List V) (E : XK) (vs : List V) (H : Hp) (Q : VK) : Prop := ∀ x dx, H x = none → H dx = none → dx ≠ x → sp (.ref x :: (vs ++ dvs)) (upd (upd H dx (.own x)) x (.ins C dx [])) (fun v H2 => v = .non ∧ Q (.ref x) H2) E
theorem r_make (k : t σ H fun vs H1 => MakeAt C sp dvs E vs H1 Q) : tMake C sp dvs E t σ H Q := k
theorem r_makeAt {vs : List V} (k : ∀ x dx H', H x = none → Same H H' → H' x = some (.ins C dx []) → sp (.ref x :: (vs ++ dvs)) H' (fun v H2 => v = .non ∧ Q (.ref x) H2) E) : MakeAt C sp dvs E vs H Q := fun x dx hx hd hn =>
  k x dx _ hx (fun b o e => by
    rw [upd_ne (ne_of_none e hx), upd_ne (ne_of_none e hd)]; exact e) upd_same
theorem r_callD (k : t σ H fun vs H1 => sp (vs ++ dvs) H1 Q E) : tCall sp dvs E t σ H Q := k
def KwAt (n m : Nat) (sp : Sp) (vs zs : List V) (H : Hp) (Q : VK) : Prop := vs.length = n ∧ zs.length = m ∧ sp (vs ++ zs) H Q E0
theorem r_kw {n m : Nat} (k : t σ H fun vs H1 => tk σ H1 fun zs H2 => KwAt n m sp vs zs H2 Q) : tKw n m sp t tk σ H Q := k
theorem r_kwAt {vs zs : List V} {n m : Nat} (h : vs.length = n) (h' : zs.length = m) (k : sp (vs ++ zs) H Q E0) : KwAt n m sp vs zs H Q := ⟨h, h', k⟩
/-! ### and, or as values, chains, is None -/
theorem r_isN (k : Q (.bl (decide (x = .non))) H) : (fun x y H (Q : VK) => y = V.non ∧ Q (.bl (decide (x = .non))) H) x .non H Q := ⟨rfl, k⟩
end
section
variable {σ : L2.St} {H : Hp} {K : PySem.W.Frag} {Q : VK} {ta tb te : TE} {x y : V} {a b : Addr} {xs ys : List V} {t : TA}
theorem r_andV (k : ta σ H fun x H1 => ∃ c, x = .bl c ∧ if c = true then tb σ H1 Q else Q (.bl false) H1) : tAndV ta tb σ H Q := k
theorem r_orV (k : ta σ H fun x H1 => ∃ c, x = .bl c ∧ if c = true then Q (.bl true) H1 else tb σ H1 Q) : tOrV ta tb σ H Q := k
theorem r_notV (k : ta σ H fun x H1 => ∃ c, x = .bl c ∧ Q (.bl (!c)) H1) : tNotV ta σ H Q := k
theorem r_leI {i j : Int} (k : Q (.bl (decide (i ≤ j))) H) : rI0 (fun i j => .bl (decide (i ≤ j))) (.int i) (.int j) H Q := ⟨i, j, rfl, rfl, k⟩
theorem r_chain {r r' : R2} {tc : TE} (k : ta σ H fun x H1 => tb σ H1 fun y H2 => r x y H2 fun z H3 => ∃ k, z = .bl k ∧ (if k = true then tc σ H3 fun w' H4 => r' y w' H4 Q else Q (.bl false) H3)) : tChain r r' ta tb tc σ H Q := k
/-- truth of a bool -/
theorem r_truB {c : Bool} {R : Bool → Prop} (k : R c) : ∃ n, TruV K (.bl c) H n ∧ R n := ⟨c, rfl, k⟩
theorem r_truA {R : Bool → Hp → Prop} (k : ta σ H fun x H' => ∃ k, TruV K x H' k ∧ R k H') : tTruA K ta σ H R := k
/-! ### zip in a comprehension -/
def LcZ (K : PySem.W.Frag) (g : TG) (tt : TT) (te : TE) (vs : List Nat) (σ : L2.St) (Q : VK) (ws : List V) (H : Hp) : Prop :=
  ∃ a b xs ys, ws = [.ref a, .ref b] ∧ ((SqL K H a xs ∧ SqL K H b ys ∧ LcG (Itz K a b) g tt te vs σ Q H) ∨ (SqT K H a xs ∧ SqT K H b ys ∧ LcG (RZ.ItzT K a b) g tt te vs σ Q H))
theorem r_lcZ {g : TG} {tt : TT} {vs : List Nat} (k : t σ H fun ws H1 => LcZ K g tt te vs σ Q ws H1) : tLc (RZ.iZipA K t) g tt te vs σ H Q := k
theorem lcZT {g : TG} {tt : TT} {vs : List Nat} (ha : SqT K H a xs) (hb : SqT K H b ys) (mk : ∀ l H0, H l = none → Same H H0 → H0 l = some (.lst []) → ∃ Pv : Nat → Hp → Prop, Pv 0 H0 ∧ (∀ i H, Pv i H → SqT K H a xs ∧ SqT K H b ys) ∧
      (∀ i x y T H H', xs[i]? = some x → ys[i]? = some y → Pv i H → H T = none → Same H H' → H' T = some (.tup [x, y]) → LTurn g tt te vs l (Pv (i + 1)) (.ref T) σ H') ∧ ∀ H, Pv (min xs.length ys.length) H → Q (.ref l) H) :
    LcZ K g tt te vs σ Q [.ref a, .ref b] H := by
  refine ⟨a, b, xs, ys, rfl, .inr ⟨ha, hb, fun l hl => ?_⟩⟩
  obtain ⟨Pv, h0, h1, h2, h3⟩ := mk l _ hl (But.new (S := []) hl).same upd_same
  refine ⟨fun i m H => m = min xs.length ys.length - i ∧ i ≤ min xs.length ys.length ∧ Pv i H, ⟨_, rfl, Nat.zero_le _, h0⟩, ?_⟩
  rintro i m H ⟨rfl, hi, p⟩
  obtain ⟨q1, q2⟩ := h1 i H p
  by_cases hlt : i < min xs.length ys.length
  · have e1 : xs[i]? = some xs[i] := List.getElem?_eq_getElem (by omega)
    have e2 : ys[i]? = some ys[i] := List.getElem?_eq_getElem (by omega)
    refine .inr ⟨⟨xs, ys, _, _, q1, q2, e1, e2⟩, Pv (i + 1), fun H' p' => ⟨_, by omega, rfl, by omega, p'⟩, fun v H' y => ?_⟩
    obtain ⟨T, x, z, rfl, hT, rfl, f1, f2⟩ := y
    exact h2 i x z T H _ (f1 xs q1) (f2 ys q2) p hT (But.new (S := []) hT).same upd_same
  · have e : i = min xs.length ys.length := by omega
    refine .inl ⟨⟨xs, ys, q1, q2, by omega⟩, h3 H ?_⟩
    rw [← e]; exact p
end
section
variable {H : Hp} {K : PySem.W.Frag} {Q : VK} {p : Addr} {xs : List V}
/-- t[lo:hi] of a tuple -/
theorem r_slT {lo hi : Option Int} (h : SqT K H p xs) (k : ∀ l H', Same H H' → SqT K H' l (cutV xs lo hi) → Q (.ref l) H') : rSlAny K (.ref p) lo hi H Q := by
  refine .inr ⟨p, xs, rfl, h, fun c => ?_, fun c l hl => k l _ (But.new (S := []) hl).same (SqT.of upd_same)⟩
  have e : cutV xs lo hi = xs := by
    unfold cutV
    rw [c.1, c.2, List.drop_zero, Nat.sub_zero, List.take_of_length_le (Nat.le_refl _)]
  exact k p H (fun _ _ e => e) (by rw [e]; exact h)
end
theorem at0 {a : V} {xs : List V} : atI (a :: xs) 0 = some a := atI_nat (xs := a :: xs) (j := 0) rfl
theorem at1 {a b : V} {xs : List V} : atI (a :: b :: xs) 1 = some b := atI_nat (xs := a :: b :: xs) (j := 1) rfl
theorem at2 {a b c : V} {xs : List V} : atI (a :: b :: c :: xs) 2 = some c := atI_nat (xs := a :: b :: c :: xs) (j := 2) rfl
def rIsNn : R2 := fun x y H Q => y = .non ∧ Q (.bl (decide (x = .non))) H
def rNotNn : R2 := fun x y H Q => y = .non ∧ Q (.bl (!decide (x = .non))) H
theorem op_isNA {X : Cx} : OpR X (compareOp .Is) rIsNn := op_isN
theorem op_notNA {X : Cx} : OpR X (compareOp .IsNot) rNotNn := op_notN
theorem r_isNn {x : V} {H : Hp} {Q : VK} (k : Q (.bl (decide (x = .non))) H) : rIsNn x .non H Q := ⟨rfl, k⟩
theorem r_notNn {x : V} {H : Hp} {Q : VK} (k : Q (.bl (!decide (x = .non))) H) : rNotNn x .non H Q := ⟨rfl, k⟩
end J

set_option Elab.async false
set_option linter.all false
set_option maxRecDepth 100000
set_option maxHeartbeats 4000000
namespace J
open PySem L2 PyProof.Rows
/-! ### numbers, values -/
def intB : PyData → Bool
  | .int _ => true
  | _ => false
def betB (d : PyData) (lo hi : Int) : Bool := match d with
  | .int i => decide (lo ≤ i) && decide (i ≤ hi)
  | _ => false
mutual
def valB : PyData → Nat → Bool
  | .tuple xs, k => decide (k < 8) && valsB xs (k + 1)
  | .int _, _ => true
  | .str _, _ => true
  | _, _ => false
def valsB : List PyData → Nat → Bool
  | [], _ => true
  | x :: xs, k => valB x k && valsB xs k
end
theorem valsB_all {k : Nat} : ∀ {xs : List PyData}, valsB xs k = xs.all fun x => valB x k
  | [] => rfl
  | x :: xs => by
    show (valB x k && valsB xs k) = _
    rw [valsB_all]; rfl
mutual
theorem valB_nol : ∀ (d : PyData) (k : Nat), valB d k = true → noL d = true
  | .tuple xs, k, h => by
    have h2 : (decide (k < 8) && valsB xs (k + 1)) = true := h
    rw [Bool.and_eq_true] at h2
    exact valsB_nol xs (k + 1) h2.2
  | .int _, _, _ => rfl
  | .str _, _, _ => rfl
  | .none, _, h => rfl
  | .bool _, _, h => rfl
  | .list _, _, h => by simp [valB] at h
  | .dict _, _, h => by simp [valB] at h
theorem valsB_nol : ∀ (ds : List PyData) (k : Nat), valsB ds k = true → noLs ds = true
  | [], _, _ => rfl
  | x :: xs, k, h => by
    have h2 : (valB x k && valsB xs k) = true := h
    rw [Bool.and_eq_true] at h2
    show (noL x && noLs xs) = true
    rw [valB_nol x k h2.1, valsB_nol xs k h2.2]; rfl
end
theorem noLs_all : ∀ {xs : List PyData}, noLs xs = true ↔ ∀ x ∈ xs, noL x = true
  | [] => by simp [noLs]
  | x :: xs => by
    have ih := noLs_all (xs := xs)
    show (noL x && noLs xs) = true ↔ _
    rw [Bool.and_eq_true, ih]
    simp
theorem noLs_map {α : Type} {f : α → PyData} {xs : List α} (h : ∀ x ∈ xs, noL (f x) = true) : noLs (xs.map f) = true :=
  noLs_all.mpr fun d hd => by
    obtain ⟨x, hx, rfl⟩ := List.mem_map.mp hd
    exact h x hx
section
variable {K : PySem.W.Frag} {S S' T : List Addr} {H H' : Hp} {v : V} {d : PyData} {vs : List V} {ds : List PyData}
/-- data without lists stays whatever else changes -/
theorem Dn.nlb (h : Dn K S H v d) (n : noL d = true) (b : But T H H') : Dn K S' H' v d :=
  ((h.any n (T := T)).but b fun _ q => q).any n
theorem DnAll.nlb (h : DnAll K S H vs ds) (n : noLs ds = true) (b : But T H H') : DnAll K S' H' vs ds :=
  ((h.any n (T := T)).but b fun _ q => q).any n
end
/-! ### no tuple of more than a million items -/
mutual
def slim : PyData → Bool
  | .tuple xs => decide (xs.length ≤ 1000000) && slims xs
  | .list xs => decide (xs.length ≤ 1000000) && slims xs
  | _ => true
def slims : List PyData → Bool
  | [] => true
  | x :: xs => slim x && slims xs
end
theorem slims_mem {xs : List PyData} {d : PyData} (h : slims xs = true) (hd : d ∈ xs) : slim d = true := by
  induction xs with
  | nil => simp at hd
  | cons x xs ih =>
    have h2 : (slim x && slims xs) = true := h
    rw [Bool.and_eq_true] at h2
    rcases List.mem_cons.mp hd with e | hd
    · rw [e]; exact h2.1
    · exact ih h2.2 hd
theorem slim_tup {xs : List PyData} (h : slim (.tuple xs) = true) : xs.length ≤ 1000000 ∧ slims xs = true := by
  have h2 : (decide (xs.length ≤ 1000000) && slims xs) = true := h
  rw [Bool.and_eq_true, decide_eq_true_iff] at h2
  exact h2
/-! ### frames over sets of addresses -/
/-- none of them is in use -/
def Fr (S : List Addr) (H : Hp) : Prop := ∀ s ∈ S, H s = none
/-- no address of both -/
def Dj (S T : List Addr) : Prop := ∀ s ∈ S, s ∉ T
section
variable {S T U : List Addr} {H H' H1 : Hp} {a : Addr}
theorem Dj.symm (h : Dj S T) : Dj T S := fun t ht hs => h t hs ht
theorem Dj.nil : Dj S [] := fun _ _ h => nomatch h
theorem Dj.nil' : Dj [] S := fun _ h => nomatch h
theorem Dj.cons (h : a ∉ S) (k : Dj S T) : Dj S (a :: T) := fun s hs ht => (List.mem_cons.mp ht).elim (fun e => h (e ▸ hs)) (k s hs)
theorem Dj.of_fr (h : Fr S H) (l : Live T H) : Dj S T := fun s hs ht => l s ht (h s hs)
theorem ni_fr (h : Fr S H) (l : H a ≠ none) : a ∉ S := fun z => l (h a z)
theorem bc_frs (h : Fr T H) : ∀ t ∈ T, t ∈ S ∨ H t = none := fun t ht => .inr (h t ht)
theorem bc_self : ∀ t ∈ S, t ∈ S ∨ H t = none := fun _ h => .inl h
theorem bc_sub (h : ∀ t ∈ T, t ∈ S) : ∀ t ∈ T, t ∈ S ∨ H t = none := fun t ht => .inl (h t ht)
theorem fr_back (h : Fr S H') (l : Le H H') : Fr S H := fun s hs => fr_le l (h s hs)
end
/-- what a block may hold here -/
def blockB (v : PyData) : Bool := valB v 0 && (slim v && v.canLay0)
theorem blockB_val {v : PyData} (h : blockB v = true) : valB v 0 = true := by
  unfold blockB at h; rw [Bool.and_eq_true] at h; exact h.1
theorem blockB_slim {v : PyData} (h : blockB v = true) : slim v = true := by
  unfold blockB at h; rw [Bool.and_eq_true, Bool.and_eq_true] at h; exact h.2.1
theorem blockB_lay {v : PyData} (h : blockB v = true) : v.canLay0 = true := by
  unfold blockB at h; rw [Bool.and_eq_true, Bool.and_eq_true] at h; exact h.2.2
theorem blockB_nol {v : PyData} (h : blockB v = true) : noL v = true := valB_nol v 0 (blockB_val h)
mutual
theorem valB_dep : ∀ (d : PyData) (k : Nat), valB d k = true → d.depth + k ≤ 9 + k ∧ (d.depth = 0 ∨ d.depth + k ≤ 9)
  | .tuple xs, k, h => by
    have h2 : (decide (k < 8) && valsB xs (k + 1)) = true := h
    rw [Bool.and_eq_true, decide_eq_true_iff] at h2
    have h3 := valsB_dep xs (k + 1) h2.2
    have e : (PyData.tuple xs).depth = PyData.depthAll xs + 1 := rfl
    rw [e]
    omega
  | .int _, _, _ => ⟨by show 0 + _ ≤ _; omega, .inl rfl⟩
  | .str _, _, _ => ⟨by show 0 + _ ≤ _; omega, .inl rfl⟩
  | .none, _, h => by simp [valB] at h
  | .bool _, _, h => by simp [valB] at h
  | .list _, _, h => by simp [valB] at h
  | .dict _, _, h => by simp [valB] at h
theorem valsB_dep : ∀ (ds : List PyData) (k : Nat), valsB ds k = true → PyData.depthAll ds = 0 ∨ PyData.depthAll ds + k ≤ 9
  | [], _, _ => .inl rfl
  | x :: xs, k, h => by
    have h2 : (valB x k && valsB xs k) = true := h
    rw [Bool.and_eq_true] at h2
    have h3 := valB_dep x k h2.1
    have h4 := valsB_dep xs k h2.2
    have e : PyData.depthAll (x :: xs) = max x.depth (PyData.depthAll xs) := rfl
    rw [e]
    omega
end
theorem blockB_shaped {v : PyData} (h : blockB v = true) : SeqAt.shaped v = true := by
  have h1 := (valB_dep v 0 (blockB_val h)).1
  unfold SeqAt.shaped
  rw [blockB_lay h, decide_eq_true (by omega)]; rfl
/-! ### disks -/
structure DM where
  first : List PyData
  safe : List PyData
  writes : List (Int × PyData)
  deeds : List (Option (Int × PyData))
def dWr (w : Int × PyData) : PyData := .tuple [.int w.1, w.2]
def dEv : Option (Int × PyData) → PyData
  | some w => .tuple [.str "write", .int w.1, w.2]
  | none => .tuple [.str "flush"]
def zeros (n : Nat) : List PyData := List.replicate n (.int 0)
def DM.new (n : Nat) : DM := ⟨zeros n, zeros n, [], []⟩
def lastW (ws : List (Int × PyData)) (b : Int) (d : PyData) : PyData := ws.foldl (fun acc w => if w.1 = b then w.2 else acc) d
def DM.read (D : DM) (b : Int) : PyData := lastW D.writes b (D.safe.getD b.toNat .none)
def DM.write (D : DM) (b : Int) (v : PyData) : DM := { D with writes := D.writes ++ [(b, v)], deeds := D.deeds ++ [some (b, v)] }
def putAll (ws : List (Int × PyData)) (s : List PyData) : List PyData := ws.foldl (fun s w => s.set w.1.toNat w.2) s
def DM.flush (D : DM) : DM := { D with safe := putAll D.writes D.safe, writes := [], deeds := D.deeds ++ [none] }
/-- a right disk of n blocks, at most m events -/
structure DOk (n m : Nat) (D : DM) : Prop where
  n1 : 1 ≤ n
  n2 : n ≤ 128
  fl : D.first.length = n
  sl : D.safe.length = n
  fv : ∀ v ∈ D.first, blockB v = true
  sv : ∀ v ∈ D.safe, blockB v = true
  wv : ∀ w ∈ D.writes, 0 ≤ w.1 ∧ w.1 < n ∧ blockB w.2 = true
  dv : ∀ w, some w ∈ D.deeds → 0 ≤ w.1 ∧ w.1 < n ∧ blockB w.2 = true
  wl : D.writes.length ≤ D.deeds.length
  dl : D.deeds.length ≤ m
theorem putAll_length (ws : List (Int × PyData)) (s : List PyData) : (putAll ws s).length = s.length := by
  unfold putAll
  induction ws generalizing s with
  | nil => rfl
  | cons w ws ih => rw [List.foldl_cons, ih, List.length_set]
theorem putAll_mem {ws : List (Int × PyData)} {s : List PyData} {v : PyData} (h : v ∈ putAll ws s) : v ∈ s ∨ ∃ w ∈ ws, v = w.2 := by
  unfold putAll at h
  induction ws generalizing s with
  | nil => exact .inl h
  | cons w ws ih =>
    rw [List.foldl_cons] at h
    rcases ih h with h | ⟨u, hu, e⟩
    · rcases List.mem_or_eq_of_mem_set h with h | h
      · exact .inl h
      · exact .inr ⟨w, List.mem_cons_self, h⟩
    · exact .inr ⟨u, List.mem_cons_of_mem _ hu, e⟩
theorem DOk.new {n : Nat} (h1 : 1 ≤ n) (h2 : n ≤ 128) : DOk n 0 (DM.new n) :=
  ⟨h1, h2, List.length_replicate, List.length_replicate, fun v hv => by rw [List.eq_of_mem_replicate hv]; rfl, fun v hv => by rw [List.eq_of_mem_replicate hv]; rfl,
    fun w h => by simp [DM.new] at h, fun w h => by simp [DM.new] at h, Nat.le_refl _, Nat.le_refl _⟩
theorem DOk.write {n m : Nat} {D : DM} {b : Int} {v : PyData} (h : DOk n m D) (h0 : 0 ≤ b) (h1 : b < n) (hv : blockB v = true) : DOk n (m + 1) (D.write b v) := by
  refine ⟨h.n1, h.n2, h.fl, h.sl, h.fv, h.sv, fun w hw => ?_, fun w hw => ?_, ?_, ?_⟩
  · rcases List.mem_append.mp hw with hw | hw
    · exact h.wv w hw
    · rw [List.mem_singleton.mp hw]; exact ⟨h0, h1, hv⟩
  · rcases List.mem_append.mp hw with hw | hw
    · exact h.dv w hw
    · rw [Option.some.inj (List.mem_singleton.mp hw)]; exact ⟨h0, h1, hv⟩
  · have := h.wl
    simp only [DM.write, List.length_append, List.length_singleton]; omega
  · have := h.dl
    simp only [DM.write, List.length_append, List.length_singleton]; omega
theorem DOk.flush {n m : Nat} {D : DM} (h : DOk n m D) : DOk n (m + 1) D.flush := by
  refine ⟨h.n1, h.n2, h.fl, (putAll_length _ _).trans h.sl, h.fv, fun v hv => ?_, fun w hw => by simp [DM.flush] at hw, fun w hw => ?_, Nat.zero_le _, ?_⟩
  · rcases putAll_mem hv with hv | ⟨w, hw, rfl⟩
    · exact h.sv v hv
    · exact (h.wv w hw).2.2
  · rcases List.mem_append.mp hw with hw | hw
    · exact h.dv w hw
    · exact nomatch List.mem_singleton.mp hw
  · have := h.dl
    simp only [DM.flush, List.length_append, List.length_singleton]; omega
theorem DOk.mono {n m m' : Nat} {D : DM} (h : DOk n m D) (l : m ≤ m') : DOk n m' D := ⟨h.n1, h.n2, h.fl, h.sl, h.fv, h.sv, h.wv, h.dv, h.wl, Nat.le_trans h.dl l⟩
theorem lastW_cases {ws : List (Int × PyData)} {b : Int} {d : PyData} : lastW ws b d = d ∨ ∃ w ∈ ws, w.1 = b ∧ lastW ws b d = w.2 := by
  unfold lastW
  induction ws generalizing d with
  | nil => exact .inl rfl
  | cons w ws ih =>
    rw [List.foldl_cons]
    rcases ih (d := if w.1 = b then w.2 else d) with h | ⟨u, hu, e1, e2⟩
    · rw [h]
      by_cases hb : w.1 = b
      · rw [if_pos hb]; exact .inr ⟨w, List.mem_cons_self, hb, rfl⟩
      · rw [if_neg hb]; exact .inl rfl
    · exact .inr ⟨u, List.mem_cons_of_mem _ hu, e1, e2⟩
theorem DOk.read {n m : Nat} {D : DM} {b : Int} (h : DOk n m D) (h0 : 0 ≤ b) (h1 : b < n) : blockB (D.read b) = true := by
  unfold DM.read
  rcases lastW_cases (ws := D.writes) (b := b) (d := D.safe.getD b.toNat .none) with e | ⟨w, hw, _, e⟩
  · rw [e]
    have hl : b.toNat < D.safe.length := by rw [h.sl]; omega
    rw [List.getD_eq_getElem?_getD, List.getElem?_eq_getElem hl]
    exact h.sv _ (List.getElem_mem hl)
  · rw [e]; exact (h.wv w hw).2.2
/-! the disk on the heap -/
def diskF (l1 l2 l3 l4 : Addr) : List (Str × V) := [("first", .ref l1), ("safe", .ref l2), ("writes", .ref l3), ("deeds", .ref l4)]
structure DiskAt (K : PySem.W.Frag) (C : Addr) (H : Hp) (d : Addr) (fd : List Addr) (n m : Nat) (D : DM) : Prop where
  ok : DOk n m D
  ex : ∃ dx l1 l2 l3 l4 x1 x2 x3 x4, fd = [d, l1, l2, l3, l4] ∧ [d, l1, l2, l3, l4].Nodup ∧ H d = some (.ins C dx (diskF l1 l2 l3 l4)) ∧ H l1 = some (.lst x1) ∧ H l2 = some (.lst x2) ∧ H l3 = some (.lst x3) ∧ H l4 = some (.lst x4) ∧
    DnAll K [] H x1 D.first ∧ DnAll K [] H x2 D.safe ∧ DnAll K [] H x3 (D.writes.map dWr) ∧ DnAll K [] H x4 (D.deeds.map dEv)
section
variable {K : PySem.W.Frag} {C : Addr} {H H' : Hp} {d : Addr} {fd T : List Addr} {n m : Nat} {D : DM}
theorem DOk.nl1 (h : DOk n m D) : noLs D.first = true := noLs_all.mpr fun v hv => blockB_nol (h.fv v hv)
theorem DOk.nl2 (h : DOk n m D) : noLs D.safe = true := noLs_all.mpr fun v hv => blockB_nol (h.sv v hv)
theorem nol_dWr {w : Int × PyData} (h : noL w.2 = true) : noL (dWr w) = true := by
  show (true && (noL w.2 && true)) = true
  rw [h]; rfl
theorem nol_dEv {w : Option (Int × PyData)} (h : ∀ u, w = some u → noL u.2 = true) : noL (dEv w) = true := by
  cases w with
  | none => rfl
  | some u =>
    show (true && (true && (noL u.2 && true))) = true
    rw [h u rfl]; rfl
theorem DOk.nl3 (h : DOk n m D) : noLs (D.writes.map dWr) = true := noLs_map fun w hw => nol_dWr (blockB_nol (h.wv w hw).2.2)
theorem DOk.nl4 (h : DOk n m D) : noLs (D.deeds.map dEv) = true := noLs_map fun w hw => nol_dEv fun u e => blockB_nol (h.dv u (e ▸ hw)).2.2
theorem DiskAt.but (h : DiskAt K C H d fd n m D) (b : But T H H') (nd : Dj fd T) : DiskAt K C H' d fd n m D := by
  obtain ⟨ok, dx, l1, l2, l3, l4, x1, x2, x3, x4, rfl, hnd, h0, h1, h2, h3, h4, v1, v2, v3, v4⟩ := h
  refine ⟨ok, dx, l1, l2, l3, l4, x1, x2, x3, x4, rfl, hnd, b.at h0 (nd _ (by simp)), b.at h1 (nd _ (by simp)), b.at h2 (nd _ (by simp)), b.at h3 (nd _ (by simp)), b.at h4 (nd _ (by simp)),
    v1.nlb ok.nl1 b, v2.nlb ok.nl2 b, v3.nlb ok.nl3 b, v4.nlb ok.nl4 b⟩
theorem DiskAt.same (h : DiskAt K C H d fd n m D) (b : Same H H') : DiskAt K C H' d fd n m D := h.but (But.of_same (S := []) b) Dj.nil
theorem DiskAt.live (h : DiskAt K C H d fd n m D) : Live fd H := by
  obtain ⟨ok, dx, l1, l2, l3, l4, x1, x2, x3, x4, rfl, hnd, h0, h1, h2, h3, h4, v1, v2, v3, v4⟩ := h
  exact .cons h0 (.cons h1 (.cons h2 (.cons h3 (.cons h4 .nil))))
theorem DiskAt.mono {m' : Nat} (h : DiskAt K C H d fd n m D) (l : m ≤ m') : DiskAt K C H d fd n m' D := ⟨h.ok.mono l, h.ex⟩
end
end J

set_option Elab.async false
set_option linter.all false
set_option maxRecDepth 100000
set_option maxHeartbeats 4000000
namespace J
open PySem L2 PyProof.Rows
/-! ### records -/
inductive Rc where
  | commit
  | revoke (hs : List Int)
  | desc (hs : List Int)
  | copy (v : PyData)
def dHs (hs : List Int) : PyData := .tuple (hs.map .int)
def rcD (num : Int) : Rc → PyData
  | .commit => .tuple [.str "commit", .int num]
  | .revoke hs => .tuple [.str "revoke", .int num, dHs hs]
  | .desc hs => .tuple [.str "descriptor", .int num, dHs hs]
  | .copy v => .tuple [.str "copy", .int num, v]
def ascB : List Int → Bool
  | [] => true
  | [_] => true
  | a :: b :: r => decide (a < b) && ascB (b :: r)
/-- is_group -/
def groupB : PyData → Bool
  | .tuple ds => decide (1 ≤ ds.length) && decide (ds.length ≤ 8) && (ds.all (fun d => betB d 0 31) && ((ds.zip (ds.drop 1)).all fun q => match q with
      | (.int a, .int b) => decide (a < b)
      | _ => false))
  | _ => false
def intsOf : List PyData → List Int
  | [] => []
  | .int i :: r => i :: intsOf r
  | _ :: r => intsOf r
theorem intsOf_map : ∀ {ds : List PyData}, (ds.all fun d => betB d 0 31) = true → ds = (intsOf ds).map .int
  | [], _ => rfl
  | .int i :: r, h => by
    rw [List.all_cons, Bool.and_eq_true] at h
    show PyData.int i :: r = .int i :: (intsOf r).map .int
    rw [← intsOf_map h.2]
  | .none :: _, h => by simp [betB] at h
  | .bool _ :: _, h => by simp [betB] at h
  | .str _ :: _, h => by simp [betB] at h
  | .list _ :: _, h => by simp [betB] at h
  | .tuple _ :: _, h => by simp [betB] at h
  | .dict _ :: _, h => by simp [betB] at h
/-- what stands in a slot, read as a record of the number -/
def parse (num : Int) (d : PyData) : Option Rc :=
  match d with
  | .tuple [k, n] => if PyData.eqv n (.int num) && intB n && PyData.eqv k (.str "commit") then some .commit else none
  | .tuple [k, n, x] =>
    if PyData.eqv n (.int num) && intB n then
      if PyData.eqv k (.str "copy") then some (.copy x)
      else if PyData.eqv k (.str "revoke") && groupB x then (match x with | .tuple ds => some (.revoke (intsOf ds)) | _ => none)
      else if PyData.eqv k (.str "descriptor") && groupB x then (match x with | .tuple ds => some (.desc (intsOf ds)) | _ => none)
      else none
    else none
  | _ => none
theorem eqv_int {n : PyData} {num : Int} (h : (PyData.eqv n (.int num) && intB n) = true) : n = .int num := by
  rw [Bool.and_eq_true] at h
  cases n <;> simp_all [intB, PyData.eqv]
theorem eqv_str {k : PyData} {s : Str} : PyData.eqv k (.str s) = true ↔ k = .str s := by
  cases k <;> simp [PyData.eqv]
theorem parse_some {num : Int} {d : PyData} {r : Rc} (h : parse num d = some r) : d = rcD num r := by
  unfold parse at h
  split at h
  · split at h
    · rename_i hc
      rw [Bool.and_eq_true] at hc
      cases h
      rw [eqv_int hc.1, eqv_str.mp hc.2]; rfl
    · cases h
  · split at h
    · rename_i hc
      rw [eqv_int hc]
      split at h
      · rename_i h1
        cases h
        rw [eqv_str.mp h1]; rfl
      · split at h
        · rename_i h1
          rw [Bool.and_eq_true] at h1
          split at h
          · rename_i ds
            cases h
            have hg := h1.2
            unfold groupB at hg
            simp only [Bool.and_eq_true] at hg
            rw [eqv_str.mp h1.1]
            show _ = PyData.tuple [.str "revoke", .int num, .tuple ((intsOf ds).map .int)]
            rw [← intsOf_map hg.2.1]
          · cases h
        · split at h
          · rename_i h1
            rw [Bool.and_eq_true] at h1
            split at h
            · rename_i ds hn
              cases h
              have hg := h1.2
              unfold groupB at hg
              simp only [Bool.and_eq_true] at hg
              rw [eqv_str.mp h1.1]
              show _ = PyData.tuple [.str "descriptor", .int num, .tuple ((intsOf ds).map .int)]
              rw [← intsOf_map hg.2.1]
            · cases h
          · cases h
    · cases h
  · cases h
/-! ### transactions in the ring: rec tells what stands in a slot, of s slots -/
section
variable (s : Nat) (rec : Nat → Option Rc)
def takeC : List Int → Nat → Nat → List (Int × PyData) → Option (Nat × Nat × List (Int × PyData))
  | [], p, l, cs => some (p, l, cs)
  | h :: hs, p, l, cs => if l = 0 then none else match rec p with
    | some (.copy v) => takeC hs ((p + 1) % s) (l - 1) (cs ++ [(h, v)])
    | _ => none
def complete : Nat → Nat → Nat → List (Int × PyData) → List Int → Option (List (Int × PyData) × List Int × Nat)
  | 0, _, _, _, _ => none
  | fuel + 1, p, l, cs, rs => if l = 0 then none else match rec p with
    | some .commit => some (cs, rs, (p + 1) % s)
    | some (.revoke hs) => complete fuel ((p + 1) % s) (l - 1) cs (rs ++ hs)
    | some (.desc hs) => (match takeC s rec hs ((p + 1) % s) (l - 1) cs with
      | some (p', l', cs') => complete fuel p' l' cs' rs
      | none => none)
    | _ => none
end
def DM.rc (D : DM) (num : Int) (slot : Nat) : Option Rc := parse num (D.read (1 + (slot : Int)))
def txAt (s : Nat) (D : DM) (num : Int) (slot : Nat) : Option (List (Int × PyData) × List Int × Nat) := complete s (D.rc num) (s + 1) slot s [] []
/-- scan: the transactions, the next number, the next slot -/
def scanGo (s : Nat) (D : DM) : Nat → Int → Nat → Nat → List (Int × List (Int × PyData) × List Int) → List (Int × List (Int × PyData) × List Int) × Int × Nat
  | 0, num, slot, _, found => (found, num, slot)
  | fuel + 1, num, slot, left, found => match txAt s D num slot with
    | none => (found, num, slot)
    | some (cs, rs, next) =>
      let taken := ((next : Int) - slot - 1) % s + 1
      if taken > left then (found, num, slot) else scanGo s D fuel (num + 1) next (left - taken.toNat) (found ++ [(num, cs, rs)])
end J

set_option Elab.async false
set_option linter.all false
set_option maxRecDepth 100000
set_option maxHeartbeats 4000000
namespace J
open PySem PySem.Spec L2 PyProof.Rows
/-! ### list += tuple -/
section
variable {M : Model} {A : Around} {E : Value → Shared → Prop} {s : Shared} {x y : Value}
theorem bin1_neither {T U nm : String} {Q : Option Value → Shared → Prop} (tx : s.TypeIs x T) (ty : s.TypeIs y U) (ne : (Value.type T == Value.type U) = false)
    (nT : fillsNumberSlot (.type T) nm = pure false) (nU : fillsNumberSlot (.type U) nm = pure false) (q : Q none s) : wpAny M A (binaryOp1 nm x y) Q E s := by
  simp only [binaryOp1]
  refine wpAny_bind (wpAny_typeOf tx ?_)
  refine wpAny_bind (wpAny_typeOf ty ?_)
  refine wpAny_bind (wpAny_of_eq nT ?_)
  rw [ne]
  simp only [Bool.false_eq_true, if_false]
  refine wpAny_bind (wpAny_of_eq nU ?_)
  simp only [Bool.false_and, Bool.false_eq_true, if_false, pure_bind, beq_self_eq_true, if_true]
  exact wpAny_pure q
theorem iadd_listTup {Q : Value → Shared → Prop} (tx : s.TypeIs x "list") (ty : s.TypeIs y "tuple") (q : wpAny M A (call (.builtin "list.__iadd__") [x, y]) Q E s) : wpAny M A (inplaceOp .Add x y) Q E s := by
  have lk : typeLookup (.type "list") (dunderI "add") = pure (some (.builtin "list.__iadd__")) := F.slot_list_iadd.lookup
  have sq : isSeqSlot (some (.builtin "list.__iadd__")) = true := by decide +kernel
  have f0 : fillsInplaceSlot (.type "list") "add" (Operator.Add == .Add) = pure false := by
    unfold fillsInplaceSlot
    simp only [lk, pure_bind, sq]
    rfl
  unfold inplaceOp
  refine wpAny_holding (wpAny_bind (wpAny_typeOf tx (wpAny_bind ?_)))
  refine wpAny_of_eq f0 ?_
  simp only [Bool.false_eq_true, if_false]
  refine wpAny_bind (bin1_neither tx ty (by decide +kernel) noFill_list_add noFill_tuple_add ?_)
  refine wpAny_bind (wpAny_of_eq (PySem.seqSlot_of lk sq) ?_)
  exact wpAny_bind (wpAny_rule q)
end
def rExtT (K : PySem.W.Frag) : R2 := fun x y H Q => ∃ l b xs ys, x = .ref l ∧ y = .ref b ∧ H l = some (.lst xs) ∧ SqT K H b ys ∧ xs.length + ys.length ≤ sizeLine ∧ Q (.ref l) (upd H l (.lst (xs ++ ys)))
section
variable {X : Cx} {K : PySem.W.Frag}
theorem iop_extT (e : X.K = K := by rfl) : OpR X (inplaceOp .Add) (rExtT K) := by
  subst e
  rintro pins s σ H x y v u Q I rx ry ⟨l, b, xs, ys, rfl, rfl, hl, hb, hz, q⟩
  cases rx
  cases ry
  obtain ⟨z1, its, n, r1, e1, g1⟩ := I.lstM hl
  obtain ⟨jts, r2, ⟨o, g2, c2, m, d2⟩, z2⟩ := I.tuple hb
  have k1 := r1.length
  have k2 := r2.length
  have ty : s.TypeIs (.ref b) "tuple" := ⟨o, g2, c2⟩
  refine iadd_listTup ⟨_, g1, rfl⟩ ty ?_
  refine wpAny_call_entry F.slot_list_iadd ⟨_, g1, rfl⟩ F.entry_list_iadd ?_ (F.args_list_iadd_2 _ _)
  have nl : Builtin.List.listTooLong (its.toArray.size + jts.toArray.size) = false := notLongL (by rw [List.size_toArray, List.size_toArray]; omega)
  show wpAny _ _ (Builtin.List.listExtendWith (.ref l) (.ref b) (.ref l)) _ _ _
  unfold Builtin.List.listExtendWith
  refine wpAny_bind (wpAny_typeOf ty ?_)
  have cnd : (Builtin.List.listSameRef (.ref l) (.ref b) || Value.type "tuple" == Value.type "list" || Value.type "tuple" == Value.type "tuple") = true := by simp
  rw [if_pos cnd]
  refine wpAny_bind (listItems_at g2 d2 ?_)
  refine wpAny_bind (listItems_at g1 rfl ?_)
  rw [nl, Bool.and_false]
  simp only [Bool.false_eq_true, if_false]
  refine wpAny_bind (listUpdate_at g1 rfl ?_ (by rw [List.size_toArray]; omega) (by rw [Array.size_append, List.size_toArray, List.size_toArray]; omega))
  refine wpAny_pure ⟨.ref l, rfl, .ref l, _, I.lset (its' := its ++ jts) (t' := s.toks) hl g1 (by simp) (r1.append r2) ?_, rfl, q⟩
  rw [List.length_append]; exact hz
theorem ip_addT (e : X.K = K := by rfl) : PIp X .Add (fun x y H Q => rIadd x y H Q ∨ rExtT K x y H Q) := by
  subst e
  exact OpR.or (f := inplaceOp .Add) ip_addA iop_extT
end
def rIaddT (K : PySem.W.Frag) : R2 := fun x y H Q => rIadd x y H Q ∨ rExtT K x y H Q
theorem ip_addTA {X : Cx} {K : PySem.W.Frag} (e : X.K = K := by rfl) : PIp X .Add (rIaddT K) := ip_addT e
section
variable {K : PySem.W.Frag} {H : Hp} {Q : VK} {l p : Addr} {xs ys : List V}
theorem r_extT (h : H l = some (.lst xs)) (h' : SqT K H p ys) (c : xs.length + ys.length ≤ sizeLine) (k : ∀ H', But [l] H H' → H' l = some (.lst (xs ++ ys)) → Q (.ref l) H') : rIaddT K (.ref l) (.ref p) H Q :=
  .inr ⟨l, p, xs, ys, rfl, rfl, h, h', c, k _ (But.write h (fun z => z) (by simp)) upd_same⟩
theorem r_extLT (h : H l = some (.lst xs)) (h' : H p = some (.lst ys)) (c : xs.length + ys.length ≤ sizeLine) (k : ∀ H', But [l] H H' → H' l = some (.lst (xs ++ ys)) → Q (.ref l) H') : rIaddT K (.ref l) (.ref p) H Q :=
  .inl (r_ext h h' c k)
end
/-! ### while True -/
theorem whileT {K : PySem.W.Frag} {tb : TS} {D : Ends} {σ : L2.St} {H : Hp} {m0 : Nat} (Pv : Nat → L2.St → Hp → Prop) (h0 : Pv m0 σ H)
    (hs : ∀ m σ H, Pv m σ H → tb { D with nx := fun σ' H' => ∃ m', m' < m ∧ Pv m' σ' H', ct := fun σ' H' => ∃ m', m' < m ∧ Pv m' σ' H', bk := D.nx } σ H) : tWhile (tTruA K (tC (.bl true))) tb D σ H := by
  refine ⟨Pv, ⟨m0, h0⟩, fun m σ H p => ?_⟩
  refine ⟨true, rfl, ?_⟩
  dsimp only
  rw [if_pos rfl]
  exact ⟨fun σ' H' => ∃ m', m' < m ∧ Pv m' σ' H', fun _ _ h => h, hs m σ H p⟩
theorem ascInts_len {x : PyData} {ds : List PyData} (h : groupB x = true) (e : x = .tuple ds) : (intsOf ds).length ≤ 8 := by
  subst e
  unfold groupB at h
  simp only [Bool.and_eq_true, decide_eq_true_iff] at h
  have := intsOf_map h.2.1
  have e2 : ds.length = (intsOf ds).length := by
    conv => lhs; rw [this]
    rw [List.length_map]
  omega
theorem parse_len {num : Int} {d : PyData} {hs : List Int} (h : parse num d = some (.revoke hs) ∨ parse num d = some (.desc hs)) : hs.length ≤ 8 := by
  have hd : d = rcD num (.revoke hs) ∨ d = rcD num (.desc hs) := h.imp parse_some parse_some
  rcases h with h | h
  · have e := parse_some h
    subst e
    have e2 : parse num (rcD num (.revoke hs)) = if (PyData.eqv (.int num) (.int num) && intB (.int num)) = true then (if groupB (dHs hs) = true then some (.revoke (intsOf (hs.map .int))) else none) else none := by
      unfold parse rcD dHs
      rfl
    rw [e2] at h
    split at h
    · split at h
      · rename_i h1 h2
        have e3 := Option.some.inj h
        have e4 : intsOf (hs.map .int) = hs := by injection e3
        rw [← e4]
        exact ascInts_len h2 rfl
      · cases h
    · cases h
  · have e := parse_some h
    subst e
    have e2 : parse num (rcD num (.desc hs)) = if (PyData.eqv (.int num) (.int num) && intB (.int num)) = true then (if groupB (dHs hs) = true then some (.desc (intsOf (hs.map .int))) else none) else none := by
      unfold parse rcD dHs
      rfl
    rw [e2] at h
    split at h
    · split at h
      · rename_i h1 h2
        have e3 := Option.some.inj h
        have e4 : intsOf (hs.map .int) = hs := by injection e3
        rw [← e4]
        exact ascInts_len h2 rfl
      · cases h
    · cases h
end J

set_option Elab.async false
set_option linter.all false
set_option maxRecDepth 100000
set_option maxHeartbeats 4000000
namespace J
open PySem L2 PyProof.Rows
/-! ### range(0, n, 8) -/
section
variable {σ : L2.St} {H : Hp} {g : TG} {ts : TS} {D : Ends}
def ForR3 (g : TG) (ts : TS) (D : Ends) (σ : L2.St) (vs : List V) (H : Hp) : Prop :=
  ∃ (i j c : Int) (n : Nat), vs = [.int i, .int j, .int c] ∧ RgC i j c n ∧ ∃ W : Nat → Nat → L2.St → Hp → Prop, (∃ m, W 0 m σ H) ∧ ∀ k m σ H, W k m σ H →
    ((Itc i c n).stop k H ∧ D.nx σ H) ∨ ((Itc i c n).go k H ∧ ∃ N : L2.St → Hp → Prop, (∀ σ' H', N σ' H' → ∃ m', m' < m ∧ W (k + 1) m' σ' H') ∧
      ∀ x H', (Itc i c n).yld k H x H' → Turn g ts D N x σ H')
theorem r_forR3 {ta : TA} (k : ta σ H fun vs H1 => ForR3 g ts D σ vs H1) : tFor (iRng3 ta) g ts D σ H := k
theorem fitsL {x : Int} (h0 : 0 ≤ x) (h1 : x < 1000000) : Builtin.Range.rangeFitsLong x = true := by
  unfold Builtin.Range.rangeFitsLong
  simp only [Bool.and_eq_true, decide_eq_true_iff]
  constructor <;> omega
theorem rg8 {n : Nat} (h : n ≤ 100000) : RgC 0 n 8 ((n + 7) / 8) := by
  have e : Builtin.Range.rangeSize 0 (n : Int) 8 = (((n + 7) / 8 : Nat) : Int) := by
    unfold Builtin.Range.rangeSize
    rw [if_pos (by decide)]
    split
    · omega
    · omega
  refine ⟨by decide, by decide, ?_, e⟩
  unfold Builtin.Range.small
  rw [e, fitsL (x := 0) (by omega) (by omega), fitsL (x := (n : Int)) (by omega) (by omega), fitsL (x := 8) (by omega) (by omega), fitsL (x := (((n + 7) / 8 : Nat) : Int)) (by omega) (by omega), if_pos (by decide), fitsL (by omega) (by omega), Bool.or_true]
  rfl
theorem forR8 {n : Nat} (h : n ≤ 100000) (Pv : Nat → L2.St → Hp → Prop) (h0 : Pv 0 σ H)
    (hs : ∀ (i : Nat) σ H, 8 * i < n → Pv i σ H → Turn g ts D (Pv (i + 1)) (.int ((8 * i : Nat) : Int)) σ H) (hd : ∀ σ H, Pv ((n + 7) / 8) σ H → D.nx σ H) : ForR3 g ts D σ [.int 0, .int n, .int 8] H := by
  refine ⟨0, n, 8, (n + 7) / 8, rfl, rg8 h, fun i m σ H => m = (n + 7) / 8 - i ∧ i ≤ (n + 7) / 8 ∧ Pv i σ H, ⟨_, rfl, Nat.zero_le _, h0⟩, ?_⟩
  rintro i m σ H ⟨rfl, hi, p⟩
  by_cases hlt : i < (n + 7) / 8
  · refine .inr ⟨hlt, Pv (i + 1), fun σ' H' p' => ⟨_, by omega, rfl, hlt, p'⟩, fun x H' y => ?_⟩
    obtain ⟨rfl, rfl⟩ := y
    have e : (0 : Int) + (i : Nat) * 8 = ((8 * i : Nat) : Int) := by omega
    rw [e]
    exact hs i σ _ (by omega) p
  · have e : i = (n + 7) / 8 := by omega
    subst e
    exact .inl ⟨Nat.le_refl _, hd σ H p⟩
end
/-! ### values deeper down -/
mutual
theorem valB_up : ∀ (d : PyData) (k j : Nat), valB d k = true → d.depth + j ≤ 8 → valB d j = true
  | .tuple xs, k, j, h, hd => by
    have h2 : (decide (k < 8) && valsB xs (k + 1)) = true := h
    rw [Bool.and_eq_true, decide_eq_true_iff] at h2
    have e : (PyData.tuple xs).depth = PyData.depthAll xs + 1 := rfl
    rw [e] at hd
    show (decide (j < 8) && valsB xs (j + 1)) = true
    rw [decide_eq_true (by omega), Bool.true_and]
    exact valsB_up xs (k + 1) (j + 1) h2.2 (by omega)
  | .int _, _, _, _, _ => rfl
  | .str _, _, _, _, _ => rfl
  | .none, _, _, h, _ => by simp [valB] at h
  | .bool _, _, _, h, _ => by simp [valB] at h
  | .list _, _, _, h, _ => by simp [valB] at h
  | .dict _, _, _, h, _ => by simp [valB] at h
theorem valsB_up : ∀ (ds : List PyData) (k j : Nat), valsB ds k = true → PyData.depthAll ds + j ≤ 8 + 0 → valsB ds j = true
  | [], _, _, _, _ => rfl
  | x :: xs, k, j, h, hd => by
    have h2 : (valB x k && valsB xs k) = true := h
    rw [Bool.and_eq_true] at h2
    have e : PyData.depthAll (x :: xs) = max x.depth (PyData.depthAll xs) := rfl
    rw [e] at hd
    show (valB x j && valsB xs j) = true
    rw [valB_up x k j h2.1 (by omega), valsB_up xs k j h2.2 (by omega)]; rfl
end
/-- a record of a right value is a right block -/
theorem block_rcD {num : Int} {rc : Rc} (hh : ∀ hs, rc = .revoke hs ∨ rc = .desc hs → hs.length ≤ 1000000) (hv : ∀ v, rc = .copy v → blockB v = true ∧ v.depth ≤ 7) : blockB (rcD num rc) = true := by
  have hiv : ∀ (hs : List Int) (k : Nat), valsB (hs.map .int) k = true := fun hs k => by
    rw [valsB_all, List.all_map]; simp [valB]
  have slm : ∀ hs : List Int, slims (hs.map .int) = true := by
    intro hs
    induction hs with
    | nil => rfl
    | cons a b ih =>
      show (slim (.int a) && slims (b.map .int)) = true
      rw [ih]; rfl
  have grp : ∀ (x : Str) (hs : List Int), PyData.strOk x = true → hs.length ≤ 1000000 → blockB (.tuple [.str x, .int num, dHs hs]) = true := by
    intro x hs hx hl
    unfold blockB
    have e1 : valB (.tuple [.str x, .int num, dHs hs]) 0 = valsB (hs.map .int) 2 := by
      show (decide (0 < 8) && (true && (true && ((decide (1 < 8) && valsB (hs.map .int) 2) && true)))) = _
      simp
    have e2 : slim (.tuple [.str x, .int num, dHs hs]) = (decide ((hs.map PyData.int).length ≤ 1000000) && slims (hs.map .int)) := by
      show (decide (3 ≤ 1000000) && (true && (true && ((decide ((hs.map PyData.int).length ≤ 1000000) && slims (hs.map .int)) && true)))) = _
      simp
    have e3 : (PyData.tuple [.str x, .int num, dHs hs]).canLay0 = (PyData.strOk x && PyData.canLayAll0 (hs.map .int)) := by
      show (PyData.strOk x && (true && (PyData.canLayAll0 (hs.map .int) && true))) = _
      simp
    rw [e1, e2, e3, hiv, slm, layInts, hx, List.length_map, decide_eq_true hl]; rfl
  cases rc with
  | commit =>
    show blockB (.tuple [.str "commit", .int num]) = true
    unfold blockB
    have e3 : (PyData.tuple [.str "commit", .int num]).canLay0 = (PyData.strOk "commit" && true) := rfl
    rw [e3, show PyData.strOk "commit" = true by decide +kernel]; rfl
  | revoke hs => exact grp "revoke" hs (by decide +kernel) (hh hs (.inl rfl))
  | desc hs => exact grp "descriptor" hs (by decide +kernel) (hh hs (.inr rfl))
  | copy v =>
    obtain ⟨h1, h2⟩ := hv v rfl
    show blockB (.tuple [.str "copy", .int num, v]) = true
    unfold blockB
    have e1 : valB (.tuple [.str "copy", .int num, v]) 0 = valB v 1 := by
      show (decide (0 < 8) && (true && (true && (valB v 1 && true)))) = _
      simp
    have e2 : slim (.tuple [.str "copy", .int num, v]) = slim v := by
      show (decide (3 ≤ 1000000) && (true && (true && (slim v && true)))) = _
      simp
    have e3 : (PyData.tuple [.str "copy", .int num, v]).canLay0 = (PyData.strOk "copy" && v.canLay0) := by
      show (PyData.strOk "copy" && (true && (v.canLay0 && true))) = _
      simp
    rw [e1, e2, e3, valB_up v 0 1 (blockB_val h1) (by omega), blockB_slim h1, blockB_lay h1, show PyData.strOk "copy" = true by decide +kernel]; rfl
end J

set_option Elab.async false
set_option linter.all false
set_option maxRecDepth 100000
set_option maxHeartbeats 4000000
namespace J
open PySem L2 PyProof.Rows
/-! ### further rules -/
section
variable {σ : L2.St} {H : Hp} {K : PySem.W.Frag} {Q : VK} {p q : Addr} {xs ys : List V}
/-- what follows a statement is shown once, for all ways out of it -/
theorem r_seqCut {t u : TS} {D : Ends} (W : L2.St → Hp → Prop) (h1 : ∀ σ' H', W σ' H' → u D σ' H') (h2 : (∀ σ' H', W σ' H' → u D σ' H') → t { D with nx := u D } σ H) : tSeq t u D σ H := h2 h1
/-- tuple + tuple -/
theorem r_addT (h1 : SqT K H p xs) (h2 : SqT K H q ys) (c : xs.length + ys.length ≤ sizeLine) (k : ∀ l H', Same H H' → SqT K H' l (xs ++ ys) → Q (.ref l) H') : rAddA K (.ref p) (.ref q) H Q := by
  refine .inr (.inr (.inr ⟨p, q, xs, ys, rfl, rfl, h1, h2, c, fun e => ?_, fun _ e => ?_, fun _ _ l hl => ?_⟩))
  · subst e
    exact k q H (fun _ _ e => e) h2
  · subst e
    exact k p H (fun _ _ e => e) (by rw [List.append_nil]; exact h1)
  · exact k l _ (But.new (S := []) hl).same (SqT.of upd_same)
/-- xs[:-1] -/
theorem cut_last {xs : List V} : cutV xs none (some (-1)) = xs.take (xs.length - 1) := by
  unfold cutV
  rw [HT.sIx_none, List.drop_zero, Nat.sub_zero]
  have e : HT.sIx xs.length xs.length (some (-1)) = xs.length - 1 := by
    show (if (-1 : Int) < 0 then ((-1 : Int) + (xs.length : Int)).toNat else min (-1 : Int).toNat xs.length) = _
    rw [if_pos (by decide)]; omega
  rw [e]
end
/-! ### what data rests on -/
theorem Dn.support {K : PySem.W.Frag} {S : List Addr} {H : Hp} {v : V} {d : PyData} (h : Dn K S H v d) : ∃ SL : List Addr, Live SL H ∧ ∀ (T : List Addr) (H' : Hp), But T H H' → Dj SL T → Dn K [] H' v d := by
  refine Dn.rec (motive_1 := fun v d _ => ∃ SL : List Addr, Live SL H ∧ ∀ (T : List Addr) (H' : Hp), But T H H' → Dj SL T → Dn K [] H' v d)
    (motive_2 := fun vs ds _ => ∃ SL : List Addr, Live SL H ∧ ∀ (T : List Addr) (H' : Hp), But T H H' → Dj SL T → DnAll K [] H' vs ds) ?_ ?_ ?_ ?_ ?_ ?_ ?_ ?_ h
  · exact ⟨[], .nil, fun _ _ _ _ => .non⟩
  · exact fun b => ⟨[], .nil, fun _ _ _ _ => .bl b⟩
  · exact fun i => ⟨[], .nil, fun _ _ _ _ => .int i⟩
  · exact fun x => ⟨[], .nil, fun _ _ _ _ => .str x⟩
  · rintro a xs ds h1 h2 _ ⟨SL, l, k⟩
    exact ⟨a :: SL, .cons h1 l, fun T H' b dj => .lst (b.at h1 (dj a List.mem_cons_self)) List.not_mem_nil (k T H' b fun s hs => dj s (List.mem_cons_of_mem _ hs))⟩
  · rintro a xs ds h1 _ ⟨SL, l, k⟩
    exact ⟨SL, l, fun T H' b dj => .tup (b.sqT h1) (k T H' b dj)⟩
  · exact ⟨[], .nil, fun _ _ _ _ => .nil⟩
  · rintro v vs d ds _ _ ⟨S1, l1, k1⟩ ⟨S2, l2, k2⟩
    refine ⟨S1 ++ S2, fun s hs => (List.mem_append.mp hs).elim (l1 s) (l2 s), fun T H' b dj => .cons (k1 T H' b fun s hs => dj s (List.mem_append_left _ hs)) (k2 T H' b fun s hs => dj s (List.mem_append_right _ hs))⟩
theorem DnAll.support {K : PySem.W.Frag} {S : List Addr} {H : Hp} : ∀ {vs : List V} {ds : List PyData}, DnAll K S H vs ds → ∃ SL : List Addr, Live SL H ∧ ∀ (T : List Addr) (H' : Hp), But T H H' → Dj SL T → DnAll K [] H' vs ds
  | _, _, .nil => ⟨[], .nil, fun _ _ _ _ => .nil⟩
  | _, _, .cons h t => by
    obtain ⟨S1, l1, k1⟩ := h.support
    obtain ⟨S2, l2, k2⟩ := DnAll.support t
    refine ⟨S1 ++ S2, fun s hs => (List.mem_append.mp hs).elim (l1 s) (l2 s), fun T H' b dj => .cons (k1 T H' b fun s hs => dj s (List.mem_append_left _ hs)) (k2 T H' b fun s hs => dj s (List.mem_append_right _ hs))⟩
theorem r_reprOk {K : PySem.W.Frag} {S : List Addr} {H : Hp} {Q : VK} {x : V} {d : PyData} {n k : Nat} (h : Dn K S H x d) (o : Ok n k d) (hk : k ≤ 60) (hn : n ≤ 16777216) (q : Q (.str d.shown) H) : rRepr K [x] H Q :=
  r_repr h.dp o.show_ (Nat.le_trans o.dep hk) (sz (Nat.le_trans o.len hn)) q
end J

set_option Elab.async false
set_option linter.all false
set_option maxRecDepth 100000
set_option maxHeartbeats 4000000
namespace J
open PySem PySem.Spec L2 PyProof.Rows
/-! ### sorted(d), d with int keys -/
def rSortedDI : List V → Hp → VK → Prop := fun xs H Q => ∃ (a : Addr) (kvs : List (L2.Key × V)) (ks : List Int), xs = [.ref a] ∧ H a = some (.dK kvs) ∧ kvs.map (·.1) = ks.map Sum.inl ∧ ks.length < 1000 ∧
    ∀ (ys : List Int) (p : Addr), ys.Perm ks → ys.Pairwise (· ≤ ·) → H p = none → Q (.ref p) (upd H p (.lst (ys.map V.int)))
theorem cr_sortedDI {X : Cx} (hcalm : X.calm = true) : CallR X (.builtin "sorted") rSortedDI := by
  intro pins s σ H xs us Q I r q
  obtain ⟨a, kvs, ks, ex, hd, hks, h64, q⟩ := q
  subst ex
  obtain ⟨u, eu, rx⟩ := vals1 r
  subst eu
  cases rx
  obtain ⟨z, lo, vs, rel, dd⟩ := dk_rd I.hok (.inl hd)
  obtain ⟨ep, hat⟩ := dd.dictAt
  have hkeys : vs.map (·.1) = ks.map Sum.inl := rel.keys.symm.trans hks
  have hl : vs.length = ks.length := by
    have e := congrArg List.length hkeys
    rw [List.length_map, List.length_map] at e
    exact e
  have h16 : vs.length ≤ sizeLine := by rw [hl, sizeLine_eq]; omega
  refine Calls.call_function_entry PyProof.Rows.kind_sorted PyProof.Rows.plain_sorted PyProof.Rows.entry_sorted (PyProof.Rows.args_sorted1 _) ?_
  unfold Builtin.«sorted»
  refine wpAny_bind (m := checkCount "sorted" 1 1 _) (wpAny_pure ?_)
  refine wpAny_bind (PySem.W.kdu_collect (A := X.A.in1) (PySem.W.kdl_dict (knd := mixKind X.prog X.w) (kvs := vs) (ep := ep) lo) (I.ok.hd hcalm) hat h16 fun h' tk acc hk hacc => ?_)
  have hal : acc.toList.length = vs.length := by rw [Array.length_toList, hacc.1]
  have rv0 := keys_at (us := acc.toList) (vs := vs) hal fun j v e => by
    obtain ⟨k, x, e1, e2⟩ := hacc.2 j v (by rw [← Array.getElem?_toList]; exact e)
    exact ⟨k, x, e1, e2⟩
  have ek : (vs.map fun p => kV p.1) = ks.map V.int := by
    have e1 : (vs.map fun p => kV p.1) = (vs.map (·.1)).map kV := by rw [List.map_map]; rfl
    rw [e1, hkeys, List.map_map]; rfl
  rw [ek] at rv0
  have hi := rv0.ints
  have I1 : Inv X pins σ H { s with heap := h', toks := tk } := I.kept hk
  refine wpAny_bind (wpAny_newList ?_ (by rw [hal, hl, sizeLine_eq]; omega))
  have hoL : (h'.push (seqObj "list" acc.toList.toArray 0)).get? h'.objs.size = some (seqObj "list" acc.toList.toArray 0) := Heap.get?_push_size _ rfl
  show wpAny _ _ _ _ _ { s with heap := h'.push (seqObj "list" acc.toList.toArray 0), toks := tk }
  refine wpAny_bind (wpAny_holding (wpAny_call_entry PyProof.Rows.slot_list_sort ⟨_, hoL, rfl⟩ PyProof.Rows.entry_list_sort
    (SrtO.list_sort_ord (s := { s with heap := h'.push (seqObj "list" acc.toList.toArray 0), toks := tk }) SrtO.swo_int hoL (by rw [hal, hl, sizeLine_eq]; omega) (fun h2 => SrtO.ints_sortable hi h2) fun out h1 h2 => ⟨_, rfl, ?_⟩)
    (PyProof.Rows.args_list_sort _)))
  obtain ⟨k1, k2, k3⟩ := SrtO.ints_out hi h1 h2
  obtain ⟨e', he'⟩ := PyProof.Rows.sortedHeap_at (vs := acc.toList) (out := out.toArray) hoL
  have hlen : ((out.map SrtO.iv).map V.int).length ≤ sizeLine := by
    rw [List.length_map, k2.length_eq]
    exact Nat.le_trans (Nat.le_of_lt h64) (by decide)
  refine wpAny_pure ⟨_, rfl, .ref h'.objs.size, upd H h'.objs.size (.lst ((out.map SrtO.iv).map V.int)), I1.laid (t' := tk) (fun b u e => ?_) (Nat.le_refl _)
    (show ObjOk X.prog X.w _ _ h'.objs.size (.lst ((out.map SrtO.iv).map V.int)) from ⟨hlen, out, e', vals_of_ints k1, he'⟩), rfl, q _ _ k2 k3 (I1.hok.fresh (Nat.le_refl _))⟩
  have hb : b < h'.objs.size := Heap.lt_size e
  rw [PyProof.Rows.sortedHeap_old (Nat.ne_of_lt hb) (by rw [size_push']; exact Nat.lt_succ_of_lt hb)]
  exact Heap.get?_push_of_some _ e
theorem pt_dead {X : Cx} {e : Expr} : PT X e (fun _ _ _ => False) := ⟨fun _ _ _ _ _ _ h => h.elim⟩
/-- the kept pending writes -/
def DM.keepW (D : DM) (ns : List Nat) : List (Int × PyData) := ns.map fun i => D.writes.getD i (0, .none)
def DM.crash (D : DM) (ns : List Nat) : DM := ⟨putAll (D.keepW ns) D.safe, putAll (D.keepW ns) D.safe, [], []⟩
end J

set_option Elab.async false
set_option linter.all false
set_option maxRecDepth 100000
set_option maxHeartbeats 4000000
namespace J
open PySem L2 PyProof.Rows
/-! ### comprehensions over range(n), list(range(n)) -/
section
variable {σ : L2.St} {H : Hp} {Q : VK} {g : TG} {tt : TT} {te : TE} {vs : List Nat} {j : Int}
def LcR (g : TG) (tt : TT) (te : TE) (vs : List Nat) (σ : L2.St) (Q : VK) (ws : List V) (H : Hp) : Prop :=
  ∃ j : Int, ws = [.int j] ∧ -(2 ^ 62) ≤ j ∧ j < 2 ^ 62 ∧ LcG (Itr 0 j.toNat) g tt te vs σ Q H
theorem r_lcR {ta : TA} (k : ta σ H fun ws H1 => LcR g tt te vs σ Q ws H1) : tLc (iRng1 ta) g tt te vs σ H Q := k
theorem lcR (b : -(2 ^ 62) ≤ j ∧ j < 2 ^ 62) (mk : ∀ l H0, H l = none → Same H H0 → H0 l = some (.lst []) → ∃ Pv : Nat → Hp → Prop, Pv 0 H0 ∧
      (∀ (i : Nat) H, (i : Int) < j → Pv i H → LTurn g tt te vs l (Pv (i + 1)) (.int i) σ H) ∧ ∀ H, Pv j.toNat H → Q (.ref l) H) : LcR g tt te vs σ Q [.int j] H := by
  refine ⟨j, rfl, b.1, b.2, fun l hl => ?_⟩
  obtain ⟨Pv, h0, h2, h3⟩ := mk l _ hl (But.new (S := []) hl).same upd_same
  refine lc_range Pv h0 (fun i H hi p => ?_) h3
  have e : (0 : Int) + (i : Nat) = (i : Nat) := Int.zero_add _
  rw [e]
  exact h2 i H (by omega) p
theorem r_listRg {ta : TE} (k : ta σ H fun x H1 => ∃ n, x = .int n ∧ RgOk 0 n ∧ ∀ q, H1 q = none → Q (.ref q) (upd H1 q (.lst (rgV 0 n)))) : tLstRg (tRg1 ta) σ H Q := k
theorem r_rgN {n : Nat} (c : n ≤ 16777216) (k : ∀ l H', H l = none → Same H H' → H' l = some (.lst ((List.range n).map fun i : Nat => V.int i)) → Q (.ref l) H') :
    RgOk 0 (n : Int) ∧ ∀ q, H q = none → Q (.ref q) (upd H q (.lst (rgV 0 (n : Int)))) := by
  refine ⟨RgOk.of_le (by omega) (by omega) (by omega) (by omega), fun q hq => ?_⟩
  have e : rgV 0 (n : Int) = (List.range n).map fun i : Nat => V.int i := by
    unfold rgV
    rw [Int.sub_zero, Int.toNat_natCast]
    exact List.map_congr_left fun i _ => by rw [Int.zero_add]
  rw [e]
  exact k q _ hq (But.new (S := []) hq).same upd_same
end
/-! ### a disk as it was -/
def DM.ev (D : DM) : Option (Int × PyData) → DM
  | some u => D.write u.1 u.2
  | none => D.flush
def DM.play (D : DM) (es : List (Option (Int × PyData))) : DM := es.foldl DM.ev D
def DM.after (D : DM) (k : Nat) : DM := DM.play ⟨D.first, D.first, [], []⟩ (D.deeds.take k)
end J

set_option Elab.async false
set_option linter.all false
set_option maxRecDepth 100000
set_option maxHeartbeats 4000000
open PySem L2 PyProof.Rows J
local macro_rules | `(tactic| walk_at "lv") => `(tactic| first
  | assumption
  | (refine J.lv_same (by assumption) ?_; walk_at "lv")
  | (refine J.lv_but (by assumption) ?_; walk_at "lv")
  | (refine J.live_of (by assumption)))
local macro_rules | `(tactic| walk_at "ne") => `(tactic| first
  | assumption
  | (apply Ne.symm; assumption)
  | (refine J.ne_live ?_ (by assumption); walk_at "lv")
  | (apply Ne.symm; refine J.ne_live ?_ (by assumption); walk_at "lv"))
local macro_rules | `(tactic| walk_at "ni") => `(tactic| first
  | assumption
  | exact List.not_mem_nil
  | (refine J.ni_cons ?_ ?_; walk_at "ne"; walk_at "ni"))
local macro_rules | `(tactic| walk_at "hp") => `(tactic| first
  | assumption
  | exact upd_same
  | (apply J.same_at; assumption; walk_at "hp")
  | (apply J.but_at; assumption; walk_at "hp"; walk_at "ni")
  | (apply J.but_tup; assumption; walk_at "hp"))
local macro_rules | `(tactic| walk_at "sq") => `(tactic| first
  | assumption
  | (apply SqL.of; walk_at "hp")
  | (apply SqT.of; walk_at "hp")
  | (apply J.same_sqL; assumption; walk_at "sq")
  | (apply J.same_sqT; assumption; walk_at "sq")
  | (apply J.but_sqT; assumption; walk_at "sq")
  | (apply J.but_sqL; assumption; walk_at "sq"; walk_at "ni"))
local macro_rules | `(tactic| walk_at "dn") => `(tactic| first
  | assumption
  | exact J.Dn.int _
  | exact J.Dn.str _
  | exact J.Dn.non
  | exact J.Dn.bl _
  | (refine J.Dn.tup (by walk_at "sq") ?_; walk_at "da")
  | (refine J.dn_same (by assumption) ?_; walk_at "dn")
  | (refine J.dn_but (by assumption) ?_ ?_; walk_at "dn"; walk_at "nis"))
local macro_rules | `(tactic| walk_at "da") => `(tactic| first
  | assumption
  | exact J.DnAll.nil
  | (refine J.DnAll.cons ?_ ?_; walk_at "dn"; walk_at "da")
  | (refine J.da_same (by assumption) ?_; walk_at "da")
  | (refine J.da_but (by assumption) ?_ ?_; walk_at "da"; walk_at "nis"))
local macro_rules | `(tactic| walk_at "nis") => `(tactic| first
  | exact J.sub_nil
  | (refine J.sub_cons ?_ ?_; walk_at "mem"; walk_at "nis"))
local macro_rules | `(tactic| walk_at "le") => `(tactic| first
  | exact J.Le.refl
  | (refine J.le_same ?_ (by assumption); walk_at "le")
  | (refine J.le_but ?_ (by assumption); walk_at "le"))
local macro_rules | `(tactic| walk_at "fr") => `(tactic| first
  | assumption
  | (refine J.fr_le ?_ (by assumption); walk_at "le"))
local macro_rules | `(tactic| walk_at "mem") => `(tactic| with_reducible first
  | exact List.mem_cons_self
  | (refine List.mem_cons_of_mem _ ?_; walk_at "mem"))
local macro_rules | `(tactic| walk_at "bc") => `(tactic| first
  | exact J.bc_nil
  | (refine J.bc_in ?_ ?_; walk_at "mem"; walk_at "bc")
  | (refine J.bc_fr ?_ ?_; walk_at "fr"; walk_at "bc"))
local macro_rules | `(tactic| walk_at "bt") => `(tactic| first
  | exact J.But.refl
  | (refine J.bt_same ?_ (by assumption); walk_at "bt")
  | (refine J.bt_but ?_ (by assumption) ?_; walk_at "bt"; walk_at "bc"))
local macro_rules | `(tactic| walk_at "sm") => `(tactic| (refine J.But.same ?_; walk_at "bt"))
local macro_rules | `(tactic| walk_at "sd") => `(tactic| first
  | assumption
  | decide
  | omega
  | (unfold CDiv; omega)
  | (unfold CPow; omega)
  | (unfold CMul; omega))
local macro_rules | `(tactic| walk_at "s") => `(tactic| with_reducible first
  | refine J.r_seq ?_
  | refine J.r_asg ?_
  | refine J.r_drop ?_
  | refine J.r_ret ?_
  | refine J.r_retN ?_
  | refine J.r_ifS ?_
  | refine J.r_next ?_
  | refine J.r_test ?_
  | refine J.r_tB ?_
  | refine J.r_exb ?_
  | refine J.r_op ?_
  | refine J.r_un ?_
  | refine J.r_var rfl ?_
  | refine J.r_c ?_
  | refine J.r_I0 ?_
  | refine J.r_addI ?_
  | refine J.r_eqI ?_
  | refine J.r_neI ?_
  | refine J.r_ltI ?_
  | refine J.r_eqS ?_
  | refine J.r_neS ?_
  | refine J.r_cons ?_
  | refine J.r_nil ?_
  | refine J.r_tup ?_
  | refine J.r_lst ?_
  | refine J.r_CB ?_
  | refine J.r_callS ?_
  | refine J.r_if ?_
  | refine J.r_and ?_
  | refine J.r_or ?_
  | refine J.r_not ?_
  | refine J.r_aug rfl ?_
  | refine J.r_iaddI ?_
  | refine J.g_name ?_
  | refine J.g_cons ?_
  | refine J.g_nil ?_
  | refine J.r_I (by walk_at "sd") ?_
  | refine J.r_mulI (by walk_at "sd") ?_
  | (apply J.r_ixL; walk_at "sq"; first | exact J.at0 | exact J.at1 | exact J.at2 | with_unfolding_all rfl)
  | (apply J.r_ixT; walk_at "sq"; first | exact J.at0 | exact J.at1 | exact J.at2 | with_unfolding_all rfl)
  | refine J.r_forL ?_
  | refine J.r_forR ?_
  | refine J.r_forR2 ?_
  | refine J.r_forE ?_
  | refine J.r_lcL ?_
  | refine J.r_bm ?_
  | (apply J.r_tyL; walk_at "sq")
  | (apply J.r_lenL; walk_at "sq")
  | refine J.r_asgG ?_
  | refine J.g_sub ?_
  | (apply J.g_tup; walk_at "sq"; with_unfolding_all rfl)
  | refine J.r_dget2 ?_
  | refine J.r_dput ?_
  | (apply J.r_isD; walk_at "hp")
  | refine J.r_max2 ?_
  | refine J.r_sl ?_
  | refine J.r_noPart ?_
  | refine J.r_part ?_
  | refine J.r_exi ?_
  | refine J.r_listItems ?_
  | refine J.r_par ?_
  | refine J.r_andV ?_
  | refine J.r_notV ?_
  | refine J.r_orV ?_
  | refine J.r_leI ?_
  | refine J.r_chain ?_
  | refine J.r_isNn ?_
  | refine J.r_notNn ?_
  | refine J.r_truB ?_
  | refine J.r_truA ?_
  | refine J.r_fld ?_
  | refine J.r_sfld ?_
  | refine J.r_sfldaug ?_
  | refine J.r_meth ?_
  | refine J.r_make ?_
  | refine J.r_callD ?_
  | refine J.r_kw ?_
  | refine J.r_kwAt (by with_unfolding_all rfl) (by with_unfolding_all rfl) ?_
  | refine J.r_lcZ ?_
  | refine J.r_lcT ?_
  | refine J.r_forT ?_
  | refine J.r_bm0 ?_
  | (apply J.r_fldAt; walk_at "hp"; assumption; assumption; with_unfolding_all rfl)
  | refine J.r_ex2 ?_)
local macro_rules | `(tactic| walk_at "st") => `(tactic| first
  | walk_at "s"
  | ((with_reducible refine J.r_newT (J.sz (Nat.le_of_ble_eq_true rfl)) ?_); intro _ _ _ _ _))

namespace L24
def top (i : Nat) : Stmt := PySem.Challenge.pw_revokelog_k24_whole_torn_logs_scanned.main.body.getD i (.Pass ⟨0, 0, 0, 0⟩)
structure Bl (mg : Str → Option Value) : Prop where
  int : mg "int" = none
  len : mg "len" = none
  list : mg "list" = none
  range : mg "range" = none
  repr : mg "repr" = none
  tuple : mg "tuple" = none
  isinstance : mg "isinstance" = none
  all : mg "all" = none
  zip : mg "zip" = none
  str : mg "str" = none
  bool : mg "bool" = none
  enumerate : mg "enumerate" = none
  dict : mg "dict" = none
  sorted : mg "sorted" = none
  sum : mg "sum" = none
  reversed : mg "reversed" = none
  max : mg "max" = none
structure Gi (mg : Str → Option Value) : Prop where
  MOST_BLOCKS : ∃ tk, mg "MOST_BLOCKS" = some (.int 128 tk)
  MOST_NESTED : ∃ tk, mg "MOST_NESTED" = some (.int 8 tk)
  LEAST_SLOTS : ∃ tk, mg "LEAST_SLOTS" = some (.int 8 tk)
  MOST_SLOTS : ∃ tk, mg "MOST_SLOTS" = some (.int 64 tk)
  LEAST_HOMES : ∃ tk, mg "LEAST_HOMES" = some (.int 4 tk)
  MOST_HOMES : ∃ tk, mg "MOST_HOMES" = some (.int 32 tk)
  GROUP : ∃ tk, mg "GROUP" = some (.int 8 tk)
structure TDisk (K : PySem.W.Frag) (C : Addr) : Prop where
  cl : Cls K C
  n1 : NoAttr K C "first"
  n2 : NoAttr K C "safe"
  n3 : NoAttr K C "writes"
  n4 : NoAttr K C "deeds"
section
variable {P : Program} {w : World} {K : PySem.W.Frag} {mg : Str → Option Value} {base : Heap} {CDisk : Addr}
/-! ### is_integer, is_between, is_value -/
def spIsInt (K : PySem.W.Frag) : Sp := fun vs H Q _ => ∃ x S d, vs = [x] ∧ Dn K S H x d ∧ Q (.bl (intB d)) H
abbrev s_is_integer : Stmt := top 11
abbrev N_is_integer : List Str := ["value"]
theorem sc_is_integer : FnScope N_is_integer ["value"] (defScope s_is_integer) :=
  ⟨rfl, rfl, rfl, by decide +kernel, rfl, by decide +kernel, by decide +kernel⟩

theorem ok_is_integer {f : Addr} {fd : FuncData} (F : Fun K "is_integer" "is_integer" s_is_integer f fd) (B : Bl mg) :
    FnOk P w K mg base CX0 1 f fd ["value"] (spIsInt K) := by
  refine F.ok sc_is_integer (fun vs H Q E h => ?_) (fun cdv A outer s H vs Q E hr h => ?_)
  · obtain ⟨_, _, _, rfl, _⟩ := h
    rfl
  · obtain ⟨x, S, d, rfl, hx, k⟩ := h
    have hu := hu_of hr
    have nd := sc_is_integer.nd
    refine ⟨_, (pss_one (ps_ret (pe_and (pe_callB (call_isiA (K := K)) rfl B.isinstance (by decide +kernel) (pa_cons (pv 0) (pa_cons (pe_tyN (T := "int") rfl B.int (by decide +kernel)) pa_nil))) (pe_one (pe_not (pe_callB (call_isiA (K := K)) rfl B.isinstance (by decide +kernel) (pa_cons (pv 0) (pa_cons (pe_tyN (T := "bool") rfl B.bool (by decide +kernel)) pa_nil)))))))), ?_⟩
    repeat walk_at "s"
    refine r_isInt hx ?_
    repeat walk_at "s"
    refine r_iteB (fun e => ?_) (fun e => ?_)
    · repeat walk_at "s"
      refine r_isBool hx ?_
      repeat walk_at "s"
      cases d <;> first | exact k | (simp [isIntD] at e; done)
    · cases d <;> first | exact k | (simp [isIntD] at e; done)
def spBet (K : PySem.W.Frag) : Sp := fun vs H Q _ => ∃ x S d lo hi, vs = [x, .int lo, .int hi] ∧ Dn K S H x d ∧ Q (.bl (betB d lo hi)) H
abbrev s_is_between : Stmt := top 12
abbrev N_is_between : List Str := ["value", "low", "high"]
theorem sc_is_between : FnScope N_is_between ["value", "low", "high"] (defScope s_is_between) :=
  ⟨rfl, rfl, rfl, by decide +kernel, rfl, by decide +kernel, by decide +kernel⟩

theorem ok_is_between {f : Addr} {fd : FuncData} (F : Fun K "is_between" "is_between" s_is_between f fd) (C_is_integer : Cl P w K mg base CX0 1 "is_integer" (spIsInt K)) :
    FnOk P w K mg base CX0 2 f fd ["value", "low", "high"] (spBet K) := by
  refine F.ok sc_is_between (fun vs H Q E h => ?_) (fun cdv A outer s H vs Q E hr h => ?_)
  · obtain ⟨_, _, _, _, _, rfl, _⟩ := h
    rfl
  · obtain ⟨x, S, d, lo, hi, rfl, hx, k⟩ := h
    have hu := hu_of hr
    have nd := sc_is_between.nd
    refine ⟨_, (pss_one (ps_ret (pe_and (pe_cl (E := fun _ => E0) C_is_integer hr (by decide) pass00 (pa_cons (pv 0) pa_nil)) (pe_one (pe_chain op_le op_le (pv 1) (pv 0) (pv 2)))))), ?_⟩
    repeat walk_at "s"
    refine ⟨x, S, d, rfl, hx, ?_⟩
    repeat walk_at "s"
    refine r_iteB (fun e => ?_) (fun e => ?_)
    · obtain ⟨i, rfl⟩ : ∃ i, d = .int i := by
        cases d <;> first | exact ⟨_, rfl⟩ | (simp [intB] at e; done)
      obtain rfl := hx.int_inv
      repeat walk_at "s"
      refine r_ite (fun h1 => ?_) (fun h1 => ?_)
      · repeat walk_at "s"
        have e2 : betB (.int i) lo hi = decide (i ≤ hi) := by simp [betB, h1]
        rw [e2] at k
        exact k
      · have e2 : betB (.int i) lo hi = false := by simp [betB, h1]
        rw [e2] at k
        exact k
    · have e2 : betB d lo hi = false := by
        cases d <;> first | rfl | (simp [intB] at e; done)
      rw [e2] at k
      exact k
def spVal (K : PySem.W.Frag) (m : Nat) : Sp := fun vs H Q _ => ∃ (x : V) (S : List Addr) (d : PyData) (dep : Nat), vs = [x, .int dep] ∧ Dn K S H x d ∧ slim d = true ∧ dep ≤ 8 ∧ 9 ≤ dep + m ∧
  ∀ H', Same H H' → Q (.bl (valB d dep)) H'
abbrev s_is_value : Stmt := top 13
abbrev N_is_value : List Str := ["value", "depth", "one"]
theorem sc_is_value : FnScope N_is_value ["value", "depth"] (defScope s_is_value) :=
  ⟨rfl, rfl, rfl, by decide +kernel, rfl, by decide +kernel, by decide +kernel⟩

theorem ok_is_value {f : Addr} {fd : FuncData} {dvs : List V} {kws : List (Str × V)} (F : FunD K "is_value" "is_value" (defArgs s_is_value) (defBody s_is_value) (defScope s_is_value) dvs kws f fd) (B : Bl mg) (G : Gi mg) {m : Nat}
    (C_is_integer : Cl P w K mg base CX0 1 "is_integer" (spIsInt K)) (C_is_value : Cl P w K mg base CX0 (m + 1) "is_value" (spVal K m)) :
    FnOk P w K mg base CX0 (m + 2) f fd ["value", "depth"] (spVal K (m + 1)) := by
  refine F.ok sc_is_value (fun vs H Q E h => ?_) (fun cdv A outer s H vs Q E hr h => ?_)
  · obtain ⟨_, _, _, _, rfl, _⟩ := h
    rfl
  · obtain ⟨x, S, d, dep, rfl, hx, hsl, hd, hm, k⟩ := h
    have hr : Room (m + 1) _ := hr
    have hr1 : Room 1 _ := hr.mono (by omega)
    have hu := hu_of hr
    have nd := sc_is_value.nd
    refine ⟨_, (pss_cons (ps_if (pt_tru (K := K) (pe_callB (call_isiA (K := K)) rfl B.isinstance (by decide +kernel) (pa_cons (pv 0) (pa_cons (pe_tyN (T := "tuple") rfl B.tuple (by decide +kernel)) pa_nil)))) (pss_one (ps_ret (pe_and (pe_cmpR op_ltA (pv 1) (pe_gintE rfl G.MOST_NESTED) (nomark _)) (pe_one (pe_callB (call_allA (K := K) rfl) rfl B.all (by decide +kernel) (pa_cons (pe_lc (own := [("one", 2)]) (g := (gName 2)) (tt := tYes) rfl nd (pi_tpl (K := K) (pv 0)) (blkOk_by (own := [("one", 2)]) (N := N_is_value) (sc := defScope s_is_value) (by decide +kernel)) (fun _ _ _ _ _ => (pg_name (i := 2) nd rfl (by first | exact Or.inl rfl | exact Or.inr rfl))) (fun _ _ _ _ _ => pts_nil) (fun _ _ _ _ _ => pe_cl (E := fun _ => E0) C_is_value hr (by omega) pass00 (pa_cons (pv 2) (pa_cons (pe_op (op_addA (K := K)) (pv 1) pe_int) pa_nil)))) pa_nil)))))) pss_nil)
      (pss_one (ps_ret (pe_or (pe_cl (E := fun _ => E0) C_is_integer hr (by omega) pass00 (pa_cons (pv 0) pa_nil)) (pe_one (pe_callB (call_isiA (K := K)) rfl B.isinstance (by decide +kernel) (pa_cons (pv 0) (pa_cons (pe_tyN (T := "str") rfl B.str (by decide +kernel)) pa_nil)))))))), ?_⟩
    repeat walk_at "s"
    refine r_isTup hx ?_
    repeat walk_at "s"
    refine r_iteB (fun e => ?_) (fun e => ?_)
    · obtain ⟨ds, rfl⟩ : ∃ ds, d = .tuple ds := by
        cases d <;> first | exact ⟨_, rfl⟩ | (simp [isTupD] at e; done)
      obtain ⟨a, xs, rfl, ha, hxs⟩ := hx.tup_inv
      have hlen : xs.length = ds.length := hxs.length
      have ev : valB (.tuple ds) dep = (decide (dep < 8) && valsB ds (dep + 1)) := rfl
      repeat walk_at "s"
      refine r_ite (fun hd8 => ?_) (fun hd8 => ?_)
      · have hd8' : dep < 8 := by omega
        repeat walk_at "s"
        refine lcT ha (fun l H1 hl s1 hl1 => ?_)
        refine ⟨fun j H' => But [l] H1 H' ∧ H' l = some (.lst (((ds.take j).map fun d => valB d (dep + 1)).map V.bl)), ⟨.refl, hl1⟩, ?_, ?_, ?_⟩
        · rintro j H2 hj ⟨b2, hl2⟩
          exact b2.sqT ((But.of_same (S := []) s1).sqT ha)
        · rintro j y H2 hj ⟨b2, hl2⟩
          obtain ⟨dy, hdy, hy⟩ := hxs.get hj
          obtain ⟨hz, hsl2⟩ := slim_tup hsl
          have hjl : j < xs.length := (List.getElem?_eq_some_iff.mp hj).1
          repeat walk_at "s"
          refine ⟨rfl, ?_⟩
          refine r_yes ?_
          refine r_iteT rfl ?_
          repeat walk_at "s"
          have hy2 : Dn K (l :: S) H2 y dy := ((hy.fresh hl).same s1).but b2 (by walk_at "nis")
          refine ⟨y, l :: S, dy, dep + 1, rfl, hy2, slims_mem hsl2 (List.mem_of_getElem? hdy), by omega, by omega, fun H3 s3 => ?_⟩
          refine ⟨_, s3 _ _ hl2, szl (by simp only [List.length_map, List.length_take]; omega), ?_⟩
          obtain ⟨H4, e4, b4, hl4⟩ := upd_ex (o' := .lst ((((ds.take j).map fun d => valB d (dep + 1)).map V.bl) ++ [.bl (valB dy (dep + 1))])) (s3 _ _ hl2)
          rw [e4]
          refine ⟨b2.trans ((But.of_same s3).trans b4), ?_⟩
          rw [hl4, List.take_add_one, hdy, List.map_append, List.map_append]
          rfl
        · rintro H2 ⟨b2, hl2⟩
          rw [hlen, List.take_length] at hl2
          refine ⟨l, _, rfl, .of hl2, ?_⟩
          have e2 : (ds.map fun d => valB d (dep + 1)).all id = valsB ds (dep + 1) := by
            rw [valsB_all, List.all_map]; rfl
          rw [e2]
          rw [ev, decide_eq_true hd8', Bool.true_and] at k
          exact k H2 (by walk_at "sm")
      · rw [ev, decide_eq_false (by omega), Bool.false_and] at k
        exact k H fun _ _ e => e
    · repeat walk_at "s"
      refine ⟨x, S, d, rfl, hx, ?_⟩
      repeat walk_at "s"
      refine r_iteB (fun e => ?_) (fun e => ?_)
      · repeat walk_at "s"
        have e2 : valB d dep = true := by
          cases d <;> first | rfl | (simp [intB] at *; done)
        rw [e2] at k
        exact k H fun _ _ e => e
      · repeat walk_at "s"
        refine r_isStr hx ?_
        have e2 : valB d dep = isStrD d := by
          cases d <;> first | rfl | (simp [intB, isTupD] at *; done)
        rw [← e2]
        exact k H fun _ _ e => e
end
end L24

open PySem L2 PyProof.Rows J

namespace L24
section
variable {P : Program} {w : World} {K : PySem.W.Frag} {mg : Str → Option Value} {base : Heap} {CDisk : Addr}
theorem bet_iff {i lo hi : Int} : betB (.int i) lo hi = true ↔ lo ≤ i ∧ i ≤ hi := by simp [betB]
/-! ### disks -/
def spDiskInit (K : PySem.W.Frag) (CDisk : Addr) : Sp := fun vs H Q _ => ∃ (d dx : Addr) (n : Nat), vs = [.ref d, .int n] ∧ H d = some (.ins CDisk dx []) ∧ 1 ≤ n ∧ n ≤ 128 ∧
  ∀ ls H', Fr ls H → But [d] H H' → DiskAt K CDisk H' d (d :: ls) n 0 (DM.new n) → Q .non H'
theorem rep_zeros (n : Nat) : (List.replicate n [V.int 0]).flatten = List.replicate n (V.int 0) := by
  induction n with
  | zero => rfl
  | succ n ih => rw [List.replicate_succ, List.flatten_cons, ih]; rfl
theorem dn_zeros {S : List Addr} {H : Hp} : ∀ n : Nat, DnAll K S H (List.replicate n (V.int 0)) (zeros n)
  | 0 => .nil
  | n + 1 => by
    show DnAll K S H (List.replicate (n + 1) (V.int 0)) (List.replicate (n + 1) (PyData.int 0))
    rw [List.replicate_succ, List.replicate_succ]
    exact .cons (.int _) (dn_zeros n)
theorem r_rep {H : Hp} {Q : VK} {p : Addr} {n : Nat} {xs : List V} (h : H p = some (.lst xs)) (c : n < 1000000) (c2 : xs.length * n ≤ 16777216)
    (k : ∀ l H', H l = none → Same H H' → H' l = some (.lst (List.replicate n xs).flatten) → Q (.ref l) H') : rMulA K (.ref p) (.int n) H Q := by
  refine .inr (.inl ⟨p, n, xs, rfl, rfl, h, by omega, by omega, sz c2, fun l hl => ?_⟩)
  exact k l _ hl (But.new (S := []) hl).same upd_same
abbrev s_Disk_init : Stmt := inClass (top 14) 0
abbrev N_Disk_init : List Str := ["self", "blocks"]
theorem sc_Disk_init : FnScope N_Disk_init ["self", "blocks"] (defScope s_Disk_init) :=
  ⟨rfl, rfl, rfl, by decide +kernel, rfl, by decide +kernel, by decide +kernel⟩

theorem ok_Disk_init {f : Addr} {fd : FuncData} (F : Fun K "__init__" "Disk.__init__" s_Disk_init f fd) (G : Gi mg) (T : TDisk K CDisk) (C_is_between : ClK P w K mg base CX0 2 "is_between" 1 ["low", "high"] (spBet K)) :
    FnOk P w K mg base CX0 3 f fd ["self", "blocks"] (spDiskInit K CDisk) := by
  refine F.ok sc_Disk_init (fun vs H Q E h => ?_) (fun cdv A outer s H vs Q E hr h => ?_)
  · obtain ⟨_, _, _, rfl, _⟩ := h
    rfl
  · obtain ⟨d, dx, n, rfl, hd, hn1, hn2, k⟩ := h
    have hu := hu_of hr
    have nd := sc_Disk_init.nd
    obtain ⟨cl, n1, n2, n3, n4⟩ := T
    refine ⟨_, (pss_cons (ps_if (pt_not (pt_tru (K := K) (pe_clK C_is_between hr (by decide) (pa_cons (pv 1) pa_nil) (pk_cons pe_int (pk_cons (pe_gintE rfl G.MOST_BLOCKS) pk_nil))))) (pss_one (ps_dead)) pss_nil)
      (pss_cons (ps_fldA (K := K) (pv 0) (pe_op (op_mulA (K := K)) (pe_lst (pa_cons pe_int pa_nil)) (pv 1)))
      (pss_cons (ps_fldA (K := K) (pv 0) (pe_op (op_mulA (K := K)) (pe_lst (pa_cons pe_int pa_nil)) (pv 1)))
      (pss_cons (ps_fldA (K := K) (pv 0) (pe_lst pa_nil))
      (pss_one (ps_fldA (K := K) (pv 0) (pe_lst pa_nil))))))), ?_⟩
    repeat walk_at "s"
    refine ⟨_, [], .int n, 1, 128, rfl, .int _, ?_⟩
    repeat walk_at "s"
    rw [bet_iff.mpr ⟨by omega, by omega⟩]
    refine r_iteF rfl ?_
    repeat walk_at "s"
    refine r_newL (sz (Nat.le_of_ble_eq_true rfl)) (fun z1 H1 hz1 s1 hz11 => ?_)
    repeat walk_at "s"
    refine r_rep hz11 (by omega) (by simp; omega) (fun l1 H2 hl1 s2 hl12 => ?_)
    rw [rep_zeros] at hl12
    repeat walk_at "s"
    refine r_setAt (by walk_at "hp") cl n1 (Nat.le_of_ble_eq_true rfl) (fun H3 b3 hd3 => ?_)
    repeat walk_at "s"
    refine r_newL (sz (Nat.le_of_ble_eq_true rfl)) (fun z2 H4 hz2 s4 hz24 => ?_)
    repeat walk_at "s"
    refine r_rep hz24 (by omega) (by simp; omega) (fun l2 H5 hl2 s5 hl25 => ?_)
    rw [rep_zeros] at hl25
    repeat walk_at "s"
    refine r_setAt (by walk_at "hp") cl n2 (Nat.le_of_ble_eq_true rfl) (fun H6 b6 hd6 => ?_)
    repeat walk_at "s"
    refine r_newL (sz (Nat.le_of_ble_eq_true rfl)) (fun l3 H7 hl3 s7 hl37 => ?_)
    repeat walk_at "s"
    refine r_setAt (by walk_at "hp") cl n3 (Nat.le_of_ble_eq_true rfl) (fun H8 b8 hd8 => ?_)
    repeat walk_at "s"
    refine r_newL (sz (Nat.le_of_ble_eq_true rfl)) (fun l4 H9 hl4 s9 hl49 => ?_)
    repeat walk_at "s"
    refine r_setAt (by walk_at "hp") cl n4 (Nat.le_of_ble_eq_true rfl) (fun H10 b10 hd10 => ?_)
    have lvd : H d ≠ none := live_of hd
    have a1 : l1 ≠ d := by walk_at "ne"
    have a2 : l2 ≠ d := by walk_at "ne"
    have a3 : l3 ≠ d := by walk_at "ne"
    have a4 : l4 ≠ d := by walk_at "ne"
    have f1 : H10 l1 = some (.lst (List.replicate n (V.int 0))) := by walk_at "hp"
    have f2 : H10 l2 = some (.lst (List.replicate n (V.int 0))) := by walk_at "hp"
    have f3 : H10 l3 = some (.lst []) := by walk_at "hp"
    have f4 : H10 l4 = some (.lst []) := by walk_at "hp"
    have d12 : l1 ≠ l2 := by walk_at "ne"
    have d13 : l1 ≠ l3 := by walk_at "ne"
    have d14 : l1 ≠ l4 := by walk_at "ne"
    have d23 : l2 ≠ l3 := by walk_at "ne"
    have d24 : l2 ≠ l4 := by walk_at "ne"
    have d34 : l3 ≠ l4 := by walk_at "ne"
    refine k [l1, l2, l3, l4] H10 ?_ (by walk_at "bt") ⟨DOk.new hn1 hn2, dx, l1, l2, l3, l4, _, _, _, _, rfl, ?_, hd10, f1, f2, f3, f4, dn_zeros n, dn_zeros n, .nil, .nil⟩
    · intro t ht
      simp only [List.mem_cons, List.not_mem_nil, or_false] at ht
      rcases ht with rfl | rfl | rfl | rfl <;> walk_at "fr"
    · simp only [List.nodup_cons, List.mem_cons, List.not_mem_nil, or_false, not_or, not_false_eq_true, List.nodup_nil, and_true]
      exact ⟨⟨a1.symm, a2.symm, a3.symm, a4.symm⟩, ⟨d12, d13, d14⟩, ⟨d23, d24⟩, d34⟩
def spCheck (K : PySem.W.Frag) (CDisk : Addr) : Sp := fun vs H Q _ => ∃ (d : Addr) (fd : List Addr) (n m : Nat) (D : DM) (b : Int), vs = [.ref d, .int b] ∧ DiskAt K CDisk H d fd n m D ∧ 0 ≤ b ∧ b < n ∧ Q .non H
abbrev s_Disk_check_block : Stmt := inClass (top 14) 2
abbrev N_Disk_check_block : List Str := ["self", "block"]
theorem sc_Disk_check_block : FnScope N_Disk_check_block ["self", "block"] (defScope s_Disk_check_block) :=
  ⟨rfl, rfl, rfl, by decide +kernel, rfl, by decide +kernel, by decide +kernel⟩

theorem ok_Disk_check {f : Addr} {fd : FuncData} (F : Fun K "check_block" "Disk.check_block" s_Disk_check_block f fd) (B : Bl mg) (T : TDisk K CDisk) (C_is_between : ClK P w K mg base CX0 2 "is_between" 1 ["low", "high"] (spBet K)) :
    FnOk P w K mg base CX0 3 f fd ["self", "block"] (spCheck K CDisk) := by
  refine F.ok sc_Disk_check_block (fun vs H Q E h => ?_) (fun cdv A outer s H vs Q E hr h => ?_)
  · obtain ⟨_, _, _, _, _, _, rfl, _⟩ := h
    rfl
  · obtain ⟨d, fd, n, m, D, b, rfl, ⟨ok, dx, l1, l2, l3, l4, x1, x2, x3, x4, rfl, hnd, h0, h1, h2, h3, h4, v1, v2, v3, v4⟩, hb0, hb1, k⟩ := h
    have hu := hu_of hr
    have nd := sc_Disk_check_block.nd
    obtain ⟨cl, n1, n2, n3, n4⟩ := T
    refine ⟨_, (pss_one (ps_if (pt_not (pt_tru (K := K) (pe_clK C_is_between hr (by decide) (pa_cons (pv 1) pa_nil) (pk_cons pe_int (pk_cons (pe_op op_sub (pe_callB (call_lenA (K := K)) rfl B.len PySem.boot_len (pa_cons (pe_fldA (K := K) (pv 0)) pa_nil)) pe_int) pk_nil))))) (pss_one (ps_dead)) pss_nil)), ?_⟩
    repeat walk_at "s"
    have e : x1.length = n := by rw [v1.length, ok.fl]
    refine ⟨_, [], .int b, 0, _, rfl, .int _, ?_⟩
    rw [bet_iff.mpr ⟨hb0, by omega⟩]
    repeat walk_at "s"
    refine r_iteF rfl ?_
    repeat walk_at "s"
    exact k
def spRead (K : PySem.W.Frag) (CDisk : Addr) : Sp := fun vs H Q _ => ∃ (d : Addr) (fd : List Addr) (n m : Nat) (D : DM) (b : Int), vs = [.ref d, .int b] ∧ DiskAt K CDisk H d fd n m D ∧ 0 ≤ b ∧ b < n ∧
  ∀ v, Dn K [] H v (D.read b) → Q v H
theorem wr_inv {S : List Addr} {H : Hp} {v : V} {u : Int × PyData} (h : Dn K S H v (dWr u)) : ∃ p x, v = .ref p ∧ SqT K H p [.int u.1, x] ∧ Dn K S H x u.2 := by
  obtain ⟨p, xs, rfl, h1, h2⟩ := h.tup_inv
  obtain ⟨n, _, rfl, h3, h4⟩ := h2.cons_inv
  obtain ⟨x, _, rfl, h5, h6⟩ := h4.cons_inv
  obtain rfl := h6.nil_inv
  obtain rfl := h3.int_inv
  exact ⟨p, x, rfl, h1, h5⟩
theorem map_getG {α β : Type} {f : α → β} {l : List α} {i : Nat} {d : β} (h : (l.map f)[i]? = some d) : ∃ x, l[i]? = some x ∧ d = f x := by
  rw [List.getElem?_map] at h
  obtain ⟨x, h1, h2⟩ := Option.map_eq_some_iff.mp h
  exact ⟨x, h1, h2.symm⟩
theorem foldl_takeG {α β : Type} {f : β → α → β} {b : β} {l : List α} {i : Nat} {x : α} (h : l[i]? = some x) : (l.take (i + 1)).foldl f b = f ((l.take i).foldl f b) x := by
  rw [List.take_add_one, h, List.foldl_append]; rfl
abbrev s_Disk_read : Stmt := inClass (top 14) 3
abbrev N_Disk_read : List Str := ["self", "block", "newest", "place", "value"]
theorem sc_Disk_read : FnScope N_Disk_read ["self", "block"] (defScope s_Disk_read) :=
  ⟨rfl, rfl, rfl, by decide +kernel, rfl, by decide +kernel, by decide +kernel⟩

theorem ok_Disk_read {f : Addr} {fd : FuncData} (F : Fun K "read" "Disk.read" s_Disk_read f fd) (T : TDisk K CDisk) (M_Disk_check_block : C8.Met P w K mg base 3 CDisk "check_block" (spCheck K CDisk) []) :
    FnOk P w K mg base CX0 4 f fd ["self", "block"] (spRead K CDisk) := by
  refine F.ok sc_Disk_read (fun vs H Q E h => ?_) (fun cdv A outer s H vs Q E hr h => ?_)
  · obtain ⟨_, _, _, _, _, _, rfl, _⟩ := h
    rfl
  · obtain ⟨d, fd, n, m, D, b, rfl, hD, hb0, hb1, k⟩ := h
    obtain ⟨ok, dx, l1, l2, l3, l4, x1, x2, x3, x4, rfl, hnd, h0, h1, h2, h3, h4, v1, v2, v3, v4⟩ := id hD
    have hu := hu_of hr
    have nd := sc_Disk_read.nd
    obtain ⟨cl, n1, n2, n3, n4⟩ := T
    refine ⟨_, (pss_cons (ps_expr (C8.pe_mt M_Disk_check_block hr (by decide) (pv 0) (pa_cons (pv 1) pa_nil)))
      (pss_cons (ps_set (i := 2) nd rfl (by first | exact Or.inl rfl | exact Or.inr rfl) (pe_ix (ix_any (K := K)) (pe_fldA (K := K) (pv 0)) (pv 1) (fun _ _ => rfl)))
      (pss_cons (ps_for PassesOwn.never rfl (pi_lst (K := K) (pe_fldA (K := K) (pv 0))) (pg_tpl (K := K) rfl (pgs_cons (pg_name (i := 3) nd rfl (by first | exact Or.inl rfl | exact Or.inr rfl)) (pgs_cons (pg_name (i := 4) nd rfl (by first | exact Or.inl rfl | exact Or.inr rfl)) pgs_nil)))
      (pss_one (ps_if (pt_cmpR (op_eqA (K := K) hr.units) (pv 3) (pv 1) (nomark _)) (pss_one (ps_set (i := 2) nd rfl (by first | exact Or.inl rfl | exact Or.inr rfl) (pv 4))) pss_nil)))
      (pss_one (ps_ret (pv 2)))))), ?_⟩
    repeat walk_at "s"
    refine r_methAt h0 (by with_unfolding_all rfl) ?_
    repeat walk_at "s"
    refine ⟨d, _, n, m, D, b, rfl, hD, hb0, hb1, ?_⟩
    repeat walk_at "s"
    obtain ⟨bn, rfl⟩ := Int.eq_ofNat_of_zero_le hb0
    have e2 : x2.length = n := by rw [v2.length, ok.sl]
    have hbl : bn < x2.length := by omega
    refine r_ixL (.of h2) (atI_nat (List.getElem?_eq_getElem hbl)) ?_
    repeat walk_at "s"
    obtain ⟨dd, hdd, hdn⟩ := v2.get (List.getElem?_eq_getElem hbl)
    refine forL (.of h3) (fun i σ H' => ∃ v o3 o4, σ = [some (.ref d), some (.int bn), some v, o3, o4] ∧ H' = H ∧ Dn K [] H v (lastW (D.writes.take i) bn dd))
      ⟨_, _, _, rfl, rfl, hdn⟩ ?_ ?_ ?_
    · rintro i σ H' hi ⟨v, o3, o4, rfl, rfl, hv⟩
      exact .of h3
    · rintro i x σ H' hi ⟨v, o3, o4, rfl, rfl, hv⟩
      obtain ⟨du, hdu, hu2⟩ := v3.get hi
      obtain ⟨u, hu1, rfl⟩ := map_getG hdu
      obtain ⟨p, y, rfl, hp, hy⟩ := wr_inv hu2
      have step : lastW (D.writes.take (i + 1)) bn dd = if u.1 = bn then u.2 else lastW (D.writes.take i) bn dd := foldl_takeG hu1
      repeat walk_at "s"
      refine r_ite (fun e => ?_) (fun e => ?_)
      · repeat walk_at "s"
        refine ⟨_, _, _, rfl, rfl, ?_⟩
        rw [step, if_pos e]; exact hy
      · repeat walk_at "s"
        refine ⟨_, _, _, rfl, rfl, ?_⟩
        rw [step, if_neg e]; exact hv
    · rintro σ H' ⟨v, o3, o4, rfl, rfl, hv⟩
      have e3 : x3.length = D.writes.length := by rw [v3.length, List.length_map]
      rw [e3, List.take_length] at hv
      repeat walk_at "s"
      refine k v ?_
      have e4 : dd = D.safe.getD ((bn : Int)).toNat .none := by
        rw [List.getD_eq_getElem?_getD, Int.toNat_natCast, hdd]; rfl
      unfold DM.read
      rw [← e4]; exact hv
end
end L24

open PySem L2 PyProof.Rows J

namespace L24
section
variable {P : Program} {w : World} {K : PySem.W.Frag} {mg : Str → Option Value} {base : Heap} {CDisk : Addr}
def spWrite (K : PySem.W.Frag) (CDisk : Addr) : Sp := fun vs H Q _ => ∃ (d : Addr) (fd : List Addr) (n m : Nat) (D : DM) (b : Int) (v : V) (S : List Addr) (dv : PyData), vs = [.ref d, .int b, v] ∧ DiskAt K CDisk H d fd n m D ∧ m < 1000000 ∧ 0 ≤ b ∧ b < n ∧
  Dn K S H v dv ∧ blockB dv = true ∧ ∀ H', But fd H H' → DiskAt K CDisk H' d fd n (m + 1) (D.write b dv) → Q .non H'
abbrev s_Disk_write : Stmt := inClass (top 14) 4
abbrev N_Disk_write : List Str := ["self", "block", "value"]
theorem sc_Disk_write : FnScope N_Disk_write ["self", "block", "value"] (defScope s_Disk_write) :=
  ⟨rfl, rfl, rfl, by decide +kernel, rfl, by decide +kernel, by decide +kernel⟩

theorem ok_Disk_write {f : Addr} {fd : FuncData} (F : Fun K "write" "Disk.write" s_Disk_write f fd) (T : TDisk K CDisk) (M_Disk_check_block : C8.Met P w K mg base 3 CDisk "check_block" (spCheck K CDisk) [])
    (D_is_value : C8.Cal P w K mg base 11 "is_value" (spVal K 9) [.int 0]) :
    FnOk P w K mg base CX0 12 f fd ["self", "block", "value"] (spWrite K CDisk) := by
  refine F.ok sc_Disk_write (fun vs H Q E h => ?_) (fun cdv A outer s H vs Q E hr h => ?_)
  · obtain ⟨_, _, _, _, _, _, _, _, _, rfl, _⟩ := h
    rfl
  · obtain ⟨d, fd, n, m, D, b, v, S, dv, rfl, hD, hm, hb0, hb1, hv, hbl, k⟩ := h
    obtain ⟨ok, dx, l1, l2, l3, l4, x1, x2, x3, x4, rfl, hnd, h0, h1, h2, h3, h4, v1, v2, v3, v4⟩ := id hD
    have hu := hu_of hr
    have nd := sc_Disk_write.nd
    obtain ⟨cl, n1, n2, n3, n4⟩ := T
    simp only [List.nodup_cons, List.mem_cons, List.not_mem_nil, or_false, not_or, not_false_eq_true, List.nodup_nil, and_true] at hnd
    obtain ⟨⟨a1, a2, a3, a4⟩, ⟨a12, a13, a14⟩, ⟨a23, a24⟩, a34⟩ := hnd
    have hval := blockB_val hbl
    have hsl := blockB_slim hbl
    have nlv := blockB_nol hbl
    have wl : x3.length ≤ m := by rw [v3.length, List.length_map]; exact Nat.le_trans ok.wl ok.dl
    have dl : x4.length ≤ m := by rw [v4.length, List.length_map]; exact ok.dl
    refine ⟨_, (pss_cons (ps_expr (C8.pe_mt M_Disk_check_block hr (by decide) (pv 0) (pa_cons (pv 1) pa_nil)))
      (pss_cons (ps_if (pt_not (pt_tru (K := K) (pe_cld D_is_value hr (by decide) (pa_cons (pv 2) pa_nil)))) (pss_one (ps_dead)) pss_nil)
      (pss_cons (ps_expr (pe_bm PySem.F.plainAttrs_list PySem.F.slot_list_append PySem.F.type_list_append mt_append (pe_fldA (K := K) (pv 0)) (pa_cons (pe_tup (pa_cons (pv 1) (pa_cons (pv 2) pa_nil))) pa_nil)))
      (pss_one (ps_expr (pe_bm PySem.F.plainAttrs_list PySem.F.slot_list_append PySem.F.type_list_append mt_append (pe_fldA (K := K) (pv 0)) (pa_cons (pe_tup (pa_cons pe_str (pa_cons (pv 1) (pa_cons (pv 2) pa_nil)))) pa_nil))))))), ?_⟩
    repeat walk_at "s"
    refine r_methAt h0 (by with_unfolding_all rfl) ?_
    repeat walk_at "s"
    refine ⟨d, _, n, m, D, b, rfl, hD, hb0, hb1, ?_⟩
    repeat walk_at "s"
    refine ⟨v, S, dv, 0, rfl, hv, hsl, by decide, by decide, fun H1 s1 => ?_⟩
    rw [hval]
    repeat walk_at "s"
    refine r_iteF rfl ?_
    repeat walk_at "s"
    refine r_newT (sz (Nat.le_of_ble_eq_true rfl)) (fun T1 H2 hT1 s2 hT12 => ?_)
    repeat walk_at "s"
    have h32 : H2 l3 = some (.lst x3) := by walk_at "hp"
    refine r_app h32 (szl (by omega)) (fun H3 b3 hl33 => ?_)
    repeat walk_at "s"
    refine r_newT (sz (Nat.le_of_ble_eq_true rfl)) (fun T2 H4 hT2 s4 hT24 => ?_)
    repeat walk_at "s"
    have h44 : H4 l4 = some (.lst x4) := by walk_at "hp"
    refine r_app h44 (szl (by omega)) (fun H5 b5 hl45 => ?_)
    repeat walk_at "s"
    have v2' : Dn K [] H2 v dv := hv.nlb nlv ((But.of_same (S := []) s1).trans (But.of_same s2))
    have v5' : Dn K [] H5 v dv := v2'.nlb nlv (show But [l3, l4] H2 H5 by walk_at "bt")
    have t15 : SqT K H5 T1 [.int b, v] := by walk_at "sq"
    have t25 : SqT K H5 T2 [.str "write", .int b, v] := by walk_at "sq"
    have f0 : H5 d = some (.ins CDisk dx (diskF l1 l2 l3 l4)) := by walk_at "hp"
    have f1 : H5 l1 = some (.lst x1) := by walk_at "hp"
    have f2 : H5 l2 = some (.lst x2) := by walk_at "hp"
    have f3 : H5 l3 = some (.lst (x3 ++ [.ref T1])) := by walk_at "hp"
    have bAll : But [d, l1, l2, l3, l4] H H5 := by walk_at "bt"
    refine k H5 bAll ⟨ok.write hb0 hb1 hbl, dx, l1, l2, l3, l4, _, _, _, _, rfl, ?_, f0, f1, f2, f3, hl45, v1.nlb ok.nl1 bAll, v2.nlb ok.nl2 bAll, ?_, ?_⟩
    · simp only [List.nodup_cons, List.mem_cons, List.not_mem_nil, or_false, not_or, not_false_eq_true, List.nodup_nil, and_true]
      exact ⟨⟨a1, a2, a3, a4⟩, ⟨a12, a13, a14⟩, ⟨a23, a24⟩, a34⟩
    · have e : (D.write b dv).writes.map dWr = D.writes.map dWr ++ [dWr (b, dv)] := by simp [DM.write]
      rw [e]
      exact (v3.nlb ok.nl3 bAll).snoc (.tup t15 (.cons (.int _) (.one v5')))
    · have e : (D.write b dv).deeds.map dEv = D.deeds.map dEv ++ [dEv (some (b, dv))] := by simp [DM.write]
      rw [e]
      exact (v4.nlb ok.nl4 bAll).snoc (.tup t25 (.cons (.str _) (.cons (.int _) (.one v5'))))
def spFlush (K : PySem.W.Frag) (CDisk : Addr) : Sp := fun vs H Q _ => ∃ (d : Addr) (fd : List Addr) (n m : Nat) (D : DM), vs = [.ref d] ∧ DiskAt K CDisk H d fd n m D ∧ m < 1000000 ∧
  ∀ H', But fd H H' → DiskAt K CDisk H' d fd n (m + 1) D.flush → Q .non H'
theorem DnAll.set {S : List Addr} {H : Hp} : ∀ {xs : List V} {ds : List PyData} {v : V} {d : PyData} (i : Nat), DnAll K S H xs ds → Dn K S H v d → DnAll K S H (xs.set i v) (ds.set i d)
  | _, _, _, _, _, .nil, _ => .nil
  | _, _, _, _, 0, .cons _ t, h => .cons h t
  | _, _, _, _, i + 1, .cons h0 t, h => .cons h0 (DnAll.set i t h)
theorem noLs_set {xs : List PyData} {i : Nat} {d : PyData} (h : noLs xs = true) (hd : noL d = true) : noLs (xs.set i d) = true :=
  noLs_all.mpr fun x hx => by
    rcases List.mem_or_eq_of_mem_set hx with hx | hx
    · exact noLs_all.mp h x hx
    · rw [hx]; exact hd
theorem ixN_nat {n i : Nat} (h : i < n) : ixN n (i : Int) = some i := by
  simp [ixN, h]
theorem r_clear {H : Hp} {Q : VK} {l : Addr} {xs : List V} (h : H l = some (.lst xs)) (k : ∀ H', But [l] H H' → H' l = some (.lst []) → Q .non H') : rClear (.ref l) [] H Q :=
  ⟨l, xs, rfl, rfl, h, k _ (But.write h (fun z => z) (by simp)) upd_same⟩
abbrev s_Disk_flush : Stmt := inClass (top 14) 5
abbrev N_Disk_flush : List Str := ["self", "block", "value"]
theorem sc_Disk_flush : FnScope N_Disk_flush ["self"] (defScope s_Disk_flush) :=
  ⟨rfl, rfl, rfl, by decide +kernel, rfl, by decide +kernel, by decide +kernel⟩

theorem ok_Disk_flush {f : Addr} {fd : FuncData} (F : Fun K "flush" "Disk.flush" s_Disk_flush f fd) (T : TDisk K CDisk) :
    FnOk P w K mg base CX0 1 f fd ["self"] (spFlush K CDisk) := by
  refine F.ok sc_Disk_flush (fun vs H Q E h => ?_) (fun cdv A outer s H vs Q E hr h => ?_)
  · obtain ⟨_, _, _, _, _, rfl, _⟩ := h
    rfl
  · obtain ⟨d, fd, n, m, D, rfl, hD, hm, k⟩ := h
    obtain ⟨ok, dx, l1, l2, l3, l4, x1, x2, x3, x4, rfl, hnd, h0, h1, h2, h3, h4, v1, v2, v3, v4⟩ := id hD
    have hu := hu_of hr
    have nd := sc_Disk_flush.nd
    obtain ⟨cl, n1, n2, n3, n4⟩ := T
    simp only [List.nodup_cons, List.mem_cons, List.not_mem_nil, or_false, not_or, not_false_eq_true, List.nodup_nil, and_true] at hnd
    obtain ⟨⟨a1, a2, a3, a4⟩, ⟨a12, a13, a14⟩, ⟨a23, a24⟩, a34⟩ := hnd
    have dl : x4.length ≤ m := by rw [v4.length, List.length_map]; exact ok.dl
    refine ⟨_, (pss_cons (ps_for PassesOwn.never rfl (pi_lst (K := K) (pe_fldA (K := K) (pv 0))) (pg_tpl (K := K) rfl (pgs_cons (pg_name (i := 1) nd rfl (by first | exact Or.inl rfl | exact Or.inr rfl)) (pgs_cons (pg_name (i := 2) nd rfl (by first | exact Or.inl rfl | exact Or.inr rfl)) pgs_nil)))
      (pss_one (ps_asg (pv 2) (pg_sub (pe_fldA (K := K) (pv 0)) (pv 1) set_list))))
      (pss_cons (ps_expr (pe_bm0 PySem.F.plainAttrs_list PySem.F.slot_list_clear PySem.F.type_list_clear mt_clear (pe_fldA (K := K) (pv 0))))
      (pss_one (ps_expr (pe_bm PySem.F.plainAttrs_list PySem.F.slot_list_append PySem.F.type_list_append mt_append (pe_fldA (K := K) (pv 0)) (pa_cons (pe_tup (pa_cons pe_str pa_nil)) pa_nil)))))), ?_⟩
    repeat walk_at "s"
    have nlw : ∀ u ∈ D.writes, noL u.2 = true := fun u hu => blockB_nol (ok.wv u hu).2.2
    refine forL (.of h3) (fun i σ H' => ∃ o1 o2 ys, σ = [some (.ref d), o1, o2] ∧ But [l2] H H' ∧ H' l2 = some (.lst ys) ∧ DnAll K [] H' ys (putAll (D.writes.take i) D.safe))
      ⟨_, _, _, rfl, .refl, h2, v2⟩ ?_ ?_ ?_
    · rintro i σ H1 hi ⟨o1, o2, ys, rfl, b1, hl2, hys⟩
      exact .of (b1.at h3 (by walk_at "ni"))
    · rintro i x σ H1 hi ⟨o1, o2, ys, rfl, b1, hl2, hys⟩
      obtain ⟨du, hdu, hu2⟩ := v3.get hi
      obtain ⟨u, hu1, rfl⟩ := map_getG hdu
      obtain ⟨p, y, rfl, hp, hy⟩ := wr_inv hu2
      have hum := List.mem_of_getElem? hu1
      obtain ⟨hb0, hb1, hvv⟩ := ok.wv u hum
      obtain ⟨bn, hbn⟩ := Int.eq_ofNat_of_zero_le hb0
      have step : putAll (D.writes.take (i + 1)) D.safe = (putAll (D.writes.take i) D.safe).set u.1.toNat u.2 := foldl_takeG hu1
      have yl : ys.length = n := by rw [hys.length, putAll_length, ok.sl]
      repeat walk_at "s"
      rw [hbn]
      refine s_lst hl2 (ixN_nat (by omega)) (fun H2 b2 hl22 => ?_)
      refine ⟨_, _, _, rfl, b1.trans b2, hl22, ?_⟩
      rw [step, hbn, Int.toNat_natCast]
      have nls : noLs (putAll (D.writes.take i) D.safe) = true := noLs_all.mpr fun z hz => by
        rcases putAll_mem hz with hz | ⟨q, hq, rfl⟩
        · exact blockB_nol (ok.sv z hz)
        · exact nlw q (List.mem_of_mem_take hq)
      exact DnAll.set bn (hys.nlb nls b2) (hy.nlb (nlw u hum) (b1.trans b2))
    · rintro σ H1 ⟨o1, o2, ys, rfl, b1, hl2, hys⟩
      have e3 : x3.length = D.writes.length := by rw [v3.length, List.length_map]
      rw [e3, List.take_length] at hys
      repeat walk_at "s"
      have h31 : H1 l3 = some (.lst x3) := by walk_at "hp"
      refine r_clear h31 (fun H2 b2 hl32 => ?_)
      repeat walk_at "s"
      refine r_newT (sz (Nat.le_of_ble_eq_true rfl)) (fun T2 H3 hT2 s3 hT23 => ?_)
      repeat walk_at "s"
      have h43 : H3 l4 = some (.lst x4) := by walk_at "hp"
      refine r_app h43 (szl (by omega)) (fun H4 b4 hl44 => ?_)
      repeat walk_at "s"
      have t25 : SqT K H4 T2 [.str "flush"] := by walk_at "sq"
      have f0 : H4 d = some (.ins CDisk dx (diskF l1 l2 l3 l4)) := by walk_at "hp"
      have f1 : H4 l1 = some (.lst x1) := by walk_at "hp"
      have f2 : H4 l2 = some (.lst ys) := by walk_at "hp"
      have f3 : H4 l3 = some (.lst []) := by walk_at "hp"
      have b14 : But [l3, l4] H1 H4 := by walk_at "bt"
      have bAll : But [d, l1, l2, l3, l4] H H4 := (b1.sub (by simp)).trans (b14.sub (by simp))
      have okf := ok.flush
      refine k H4 bAll ⟨okf, dx, l1, l2, l3, l4, _, _, _, _, rfl, ?_, f0, f1, f2, f3, hl44, v1.nlb ok.nl1 bAll, hys.nlb okf.nl2 b14, .nil, ?_⟩
      · simp only [List.nodup_cons, List.mem_cons, List.not_mem_nil, or_false, not_or, not_false_eq_true, List.nodup_nil, and_true]
        exact ⟨⟨a1, a2, a3, a4⟩, ⟨a12, a13, a14⟩, ⟨a23, a24⟩, a34⟩
      · have e : D.flush.deeds.map dEv = D.deeds.map dEv ++ [dEv none] := by simp [DM.flush]
        rw [e]
        exact (v4.nlb ok.nl4 bAll).snoc (.tup t25 (.one (.str _)))
def spCopyOf (K : PySem.W.Frag) (CDisk : Addr) (g : DM → List PyData) : Sp := fun vs H Q _ => ∃ (d : Addr) (fd : List Addr) (n m : Nat) (D : DM), vs = [.ref d] ∧ DiskAt K CDisk H d fd n m D ∧
  ∀ l xs H', H l = none → Same H H' → H' l = some (.lst xs) → DnAll K [] H' xs (g D) → Q (.ref l) H'
abbrev s_Disk_durable : Stmt := inClass (top 14) 7
abbrev N_Disk_durable : List Str := ["self"]
theorem sc_Disk_durable : FnScope N_Disk_durable ["self"] (defScope s_Disk_durable) :=
  ⟨rfl, rfl, rfl, by decide +kernel, rfl, by decide +kernel, by decide +kernel⟩

theorem ok_Disk_durable {f : Addr} {fd : FuncData} (F : Fun K "durable" "Disk.durable" s_Disk_durable f fd) (B : Bl mg) (T : TDisk K CDisk) :
    FnOk P w K mg base CX0 1 f fd ["self"] (spCopyOf K CDisk DM.safe) := by
  refine F.ok sc_Disk_durable (fun vs H Q E h => ?_) (fun cdv A outer s H vs Q E hr h => ?_)
  · obtain ⟨_, _, _, _, _, rfl, _⟩ := h
    rfl
  · obtain ⟨d, fd, n, m, D, rfl, ⟨ok, dx, l1, l2, l3, l4, x1, x2, x3, x4, rfl, hnd, h0, h1, h2, h3, h4, v1, v2, v3, v4⟩, k⟩ := h
    have nd := sc_Disk_durable.nd
    obtain ⟨cl, n1, n2, n3, n4⟩ := T
    refine ⟨_, (pss_one (ps_ret (pe_callTy (call_listA (K := K)) rfl B.list (by decide +kernel) (pa_cons (pe_fldA (K := K) (pv 0)) pa_nil)))), ?_⟩
    repeat walk_at "s"
    refine r_listL (.of h2) (fun l H1 hl s1 hl1 => ?_)
    exact k l x2 H1 hl s1 hl1 (v2.same s1)
abbrev s_Disk_events : Stmt := inClass (top 14) 8
abbrev N_Disk_events : List Str := ["self"]
theorem sc_Disk_events : FnScope N_Disk_events ["self"] (defScope s_Disk_events) :=
  ⟨rfl, rfl, rfl, by decide +kernel, rfl, by decide +kernel, by decide +kernel⟩

theorem ok_Disk_events {f : Addr} {fd : FuncData} (F : Fun K "events" "Disk.events" s_Disk_events f fd) (B : Bl mg) (T : TDisk K CDisk) :
    FnOk P w K mg base CX0 1 f fd ["self"] (spCopyOf K CDisk fun D => D.deeds.map dEv) := by
  refine F.ok sc_Disk_events (fun vs H Q E h => ?_) (fun cdv A outer s H vs Q E hr h => ?_)
  · obtain ⟨_, _, _, _, _, rfl, _⟩ := h
    rfl
  · obtain ⟨d, fd, n, m, D, rfl, ⟨ok, dx, l1, l2, l3, l4, x1, x2, x3, x4, rfl, hnd, h0, h1, h2, h3, h4, v1, v2, v3, v4⟩, k⟩ := h
    have nd := sc_Disk_events.nd
    obtain ⟨cl, n1, n2, n3, n4⟩ := T
    refine ⟨_, (pss_one (ps_ret (pe_callTy (call_listA (K := K)) rfl B.list (by decide +kernel) (pa_cons (pe_fldA (K := K) (pv 0)) pa_nil)))), ?_⟩
    repeat walk_at "s"
    refine r_listL (.of h4) (fun l H1 hl s1 hl1 => ?_)
    exact k l x4 H1 hl s1 hl1 (v4.same s1)
end
end L24

open PySem L2 PyProof.Rows J

namespace L24
structure TLay (K : PySem.W.Frag) (C : Addr) : Prop where
  cl : Cls K C
  n1 : NoAttr K C "ring"
  n2 : NoAttr K C "places"
def layF (s h : Nat) : List (Str × V) := [("ring", .int s), ("places", .int h)]
structure LayAt (C : Addr) (H : Hp) (L : Addr) (s h : Nat) : Prop where
  s1 : 8 ≤ s
  s2 : s ≤ 64
  h1 : 4 ≤ h
  h2 : h ≤ 32
  ex : ∃ dx, H L = some (.ins C dx (layF s h))
section
variable {P : Program} {w : World} {K : PySem.W.Frag} {mg : Str → Option Value} {base : Heap} {CDisk CLayout : Addr}
theorem LayAt.but {H H' : Hp} {L : Addr} {s h : Nat} {T : List Addr} (l : LayAt CLayout H L s h) (b : But T H H') (n : L ∉ T) : LayAt CLayout H' L s h := by
  obtain ⟨a, b1, c, d, dx, e⟩ := l
  exact ⟨a, b1, c, d, dx, b.at e n⟩
theorem LayAt.same {H H' : Hp} {L : Addr} {s h : Nat} (l : LayAt CLayout H L s h) (b : Same H H') : LayAt CLayout H' L s h := l.but (But.of_same (S := []) b) List.not_mem_nil
theorem LayAt.live {H : Hp} {L : Addr} {s h : Nat} (l : LayAt CLayout H L s h) : H L ≠ none := by
  obtain ⟨a, b1, c, d, dx, e⟩ := l
  exact live_of e
def spLayInit (CLayout : Addr) : Sp := fun vs H Q _ => ∃ (L dx : Addr) (s h : Nat), vs = [.ref L, .int s, .int h] ∧ H L = some (.ins CLayout dx []) ∧ 8 ≤ s ∧ s ≤ 64 ∧ 4 ≤ h ∧ h ≤ 32 ∧
  ∀ H', But [L] H H' → LayAt CLayout H' L s h → Q .non H'
abbrev s_Layout_init : Stmt := inClass (top 22) 0
abbrev N_Layout_init : List Str := ["self", "slots", "homes"]
theorem sc_Layout_init : FnScope N_Layout_init ["self", "slots", "homes"] (defScope s_Layout_init) :=
  ⟨rfl, rfl, rfl, by decide +kernel, rfl, by decide +kernel, by decide +kernel⟩

theorem ok_Layout_init {f : Addr} {fd : FuncData} (F : Fun K "__init__" "Layout.__init__" s_Layout_init f fd) (G : Gi mg) (T : TLay K CLayout) (C_is_between : ClK P w K mg base CX0 2 "is_between" 1 ["low", "high"] (spBet K)) :
    FnOk P w K mg base CX0 3 f fd ["self", "slots", "homes"] (spLayInit CLayout) := by
  refine F.ok sc_Layout_init (fun vs H Q E h => ?_) (fun cdv A outer s H vs Q E hr h => ?_)
  · obtain ⟨_, _, _, _, rfl, _⟩ := h
    rfl
  · obtain ⟨L, dx, sl, ho, rfl, hL, h1, h2, h3, h4, k⟩ := h
    have nd := sc_Layout_init.nd
    obtain ⟨cl, n1, n2⟩ := T
    refine ⟨_, (pss_cons (ps_if (pt_not (pt_tru (K := K) (pe_clK C_is_between hr (by decide) (pa_cons (pv 1) pa_nil) (pk_cons (pe_gintE rfl G.LEAST_SLOTS) (pk_cons (pe_gintE rfl G.MOST_SLOTS) pk_nil))))) (pss_one (ps_dead)) pss_nil)
      (pss_cons (ps_if (pt_not (pt_tru (K := K) (pe_clK C_is_between hr (by decide) (pa_cons (pv 2) pa_nil) (pk_cons (pe_gintE rfl G.LEAST_HOMES) (pk_cons (pe_gintE rfl G.MOST_HOMES) pk_nil))))) (pss_one (ps_dead)) pss_nil)
      (pss_cons (ps_fldA (K := K) (pv 0) (pv 1))
      (pss_one (ps_fldA (K := K) (pv 0) (pv 2)))))), ?_⟩
    repeat walk_at "s"
    refine ⟨_, [], .int sl, 8, 64, rfl, .int _, ?_⟩
    rw [bet_iff.mpr ⟨by omega, by omega⟩]
    repeat walk_at "s"
    refine r_iteF rfl ?_
    repeat walk_at "s"
    refine ⟨_, [], .int ho, 4, 32, rfl, .int _, ?_⟩
    rw [bet_iff.mpr ⟨by omega, by omega⟩]
    repeat walk_at "s"
    refine r_iteF rfl ?_
    repeat walk_at "s"
    refine r_setAt hL cl n1 (Nat.le_of_ble_eq_true rfl) (fun H1 b1 hL1 => ?_)
    repeat walk_at "s"
    refine r_setAt hL1 cl n2 (Nat.le_of_ble_eq_true rfl) (fun H2 b2 hL2 => ?_)
    exact k H2 (b1.trans b2) ⟨h1, h2, h3, h4, dx, hL2⟩
def spLayI (CLayout : Addr) (g : Nat → Nat → Nat) : Sp := fun vs H Q _ => ∃ (L : Addr) (s h : Nat), vs = [.ref L] ∧ LayAt CLayout H L s h ∧ Q (.int (g s h)) H
abbrev s_Layout_slots : Stmt := inClass (top 22) 1
abbrev N_Layout_slots : List Str := ["self"]
theorem sc_Layout_slots : FnScope N_Layout_slots ["self"] (defScope s_Layout_slots) :=
  ⟨rfl, rfl, rfl, by decide +kernel, rfl, by decide +kernel, by decide +kernel⟩

theorem ok_Layout_slots {f : Addr} {fd : FuncData} (F : Fun K "slots" "Layout.slots" s_Layout_slots f fd) (T : TLay K CLayout) :
    FnOk P w K mg base CX0 1 f fd ["self"] (spLayI CLayout fun s _ => s) := by
  refine F.ok sc_Layout_slots (fun vs H Q E h => ?_) (fun cdv A outer s H vs Q E hr h => ?_)
  · obtain ⟨_, _, _, rfl, _⟩ := h
    rfl
  · obtain ⟨L, sl, ho, rfl, ⟨h1, h2, h3, h4, dx, hL⟩, k⟩ := h
    have nd := sc_Layout_slots.nd
    obtain ⟨cl, n1, n2⟩ := T
    refine ⟨_, (pss_one (ps_ret (pe_fldA (K := K) (pv 0)))), ?_⟩
    repeat walk_at "s"
    exact k
def spSlotBlock (CLayout : Addr) : Sp := fun vs H Q _ => ∃ (L : Addr) (s h : Nat) (b : Int), vs = [.ref L, .int b] ∧ LayAt CLayout H L s h ∧ 0 ≤ b ∧ b < s ∧ Q (.int (1 + b)) H
abbrev s_Layout_slot_block : Stmt := inClass (top 22) 4
abbrev N_Layout_slot_block : List Str := ["self", "slot"]
theorem sc_Layout_slot_block : FnScope N_Layout_slot_block ["self", "slot"] (defScope s_Layout_slot_block) :=
  ⟨rfl, rfl, rfl, by decide +kernel, rfl, by decide +kernel, by decide +kernel⟩

theorem ok_Layout_slot_block {f : Addr} {fd : FuncData} (F : Fun K "slot_block" "Layout.slot_block" s_Layout_slot_block f fd) (T : TLay K CLayout) (C_is_between : ClK P w K mg base CX0 2 "is_between" 1 ["low", "high"] (spBet K)) :
    FnOk P w K mg base CX0 3 f fd ["self", "slot"] (spSlotBlock CLayout) := by
  refine F.ok sc_Layout_slot_block (fun vs H Q E h => ?_) (fun cdv A outer s H vs Q E hr h => ?_)
  · obtain ⟨_, _, _, _, rfl, _⟩ := h
    rfl
  · obtain ⟨L, sl, ho, b, rfl, ⟨h1, h2, h3, h4, dx, hL⟩, hb0, hb1, k⟩ := h
    have nd := sc_Layout_slot_block.nd
    obtain ⟨cl, n1, n2⟩ := T
    refine ⟨_, (pss_cons (ps_if (pt_not (pt_tru (K := K) (pe_clK C_is_between hr (by decide) (pa_cons (pv 1) pa_nil) (pk_cons pe_int (pk_cons (pe_op op_sub (pe_fldA (K := K) (pv 0)) pe_int) pk_nil))))) (pss_one (ps_dead)) pss_nil)
      (pss_one (ps_ret (pe_op (op_addA (K := K)) pe_int (pv 1))))), ?_⟩
    repeat walk_at "s"
    refine ⟨_, [], .int b, 0, _, rfl, .int _, ?_⟩
    rw [bet_iff.mpr ⟨hb0, by omega⟩]
    repeat walk_at "s"
    refine r_iteF rfl ?_
    repeat walk_at "s"
    exact k
/-! ### is_group -/
def spGroup (K : PySem.W.Frag) : Sp := fun vs H Q _ => ∃ (x : V) (d : PyData), vs = [x] ∧ Dn K [] H x d ∧ noL d = true ∧ ∀ H', Same H H' → Q (.bl (groupB d)) H'
abbrev s_is_group : Stmt := top 25
abbrev N_is_group : List Str := ["thing", "home", "one", "other"]
theorem sc_is_group : FnScope N_is_group ["thing"] (defScope s_is_group) :=
  ⟨rfl, rfl, rfl, by decide +kernel, rfl, by decide +kernel, by decide +kernel⟩

theorem ok_is_group {f : Addr} {fd : FuncData} (F : Fun K "is_group" "is_group" s_is_group f fd) (B : Bl mg) (G : Gi mg) (C_is_between : ClK P w K mg base CX0 2 "is_between" 1 ["low", "high"] (spBet K)) :
    FnOk P w K mg base CX0 3 f fd ["thing"] (spGroup K) := by
  refine F.ok sc_is_group (fun vs H Q E h => ?_) (fun cdv A outer s H vs Q E hr h => ?_)
  · obtain ⟨_, _, rfl, _⟩ := h
    rfl
  · obtain ⟨x, d, rfl, hx, hnl, k⟩ := h
    have hu := hu_of hr
    have nd := sc_is_group.nd
    refine ⟨_, (pss_cons (ps_if (PW.pt (pw_or (pt_not (pt_tru (K := K) (pe_callB (call_isiA (K := K)) rfl B.isinstance (by decide +kernel) (pa_cons (pv 0) (pa_cons (pe_tyN (T := "tuple") rfl B.tuple (by decide +kernel)) pa_nil))))) (pw_or1 (pt_not (pt_chain op_le op_le pe_int (pe_callB (call_lenA (K := K)) rfl B.len PySem.boot_len (pa_cons (pv 0) pa_nil)) (pe_gintE rfl G.GROUP)))))) (pss_one (ps_ret pe_bl)) pss_nil)
      (pss_cons (ps_if (pt_not (pt_tru (K := K) (pe_callB (call_allA (K := K) rfl) rfl B.all (by decide +kernel) (pa_cons (pe_lc (own := [("home", 1)]) (g := (gName 1)) (tt := tYes) rfl nd (pi_tpl (K := K) (pv 0)) (blkOk_by (own := [("home", 1)]) (N := N_is_group) (sc := defScope s_is_group) (by decide +kernel)) (fun _ _ _ _ _ => (pg_name (i := 1) nd rfl (by first | exact Or.inl rfl | exact Or.inr rfl))) (fun _ _ _ _ _ => pts_nil) (fun _ _ _ _ _ => pe_clK C_is_between hr (by decide) (pa_cons (pv 1) pa_nil) (pk_cons pe_int (pk_cons (pe_op op_sub (pe_gintE rfl G.MOST_HOMES) pe_int) pk_nil)))) pa_nil)))) (pss_one (ps_ret pe_bl)) pss_nil)
      (pss_one (ps_ret (pe_callB (call_allA (K := K) rfl) rfl B.all (by decide +kernel) (pa_cons (pe_lc (own := [("one", 2), ("other", 3)]) (g := (gTup K 2 (gCons (gName 2) (gCons (gName 3) gNil)))) (tt := tYes) rfl nd (pi_zipB (K := K) rfl B.zip (pa_cons (pv 0) (pa_cons (pe_slice (sl_any (K := K)) (pv 0) (po_some pe_int) po_none) pa_nil))) (blkOk_by (own := [("one", 2), ("other", 3)]) (N := N_is_group) (sc := defScope s_is_group) (by decide +kernel)) (fun _ _ _ _ _ => (pg_tpl (K := K) rfl (pgs_cons (pg_name (i := 2) nd rfl (by first | exact Or.inl rfl | exact Or.inr rfl)) (pgs_cons (pg_name (i := 3) nd rfl (by first | exact Or.inl rfl | exact Or.inr rfl)) pgs_nil)))) (fun _ _ _ _ _ => pts_nil) (fun _ _ _ _ _ => pe_cmpR op_ltA (pv 2) (pv 3) (nomark _))) pa_nil)))))), ?_⟩
    repeat walk_at "s"
    refine r_isTup hx ?_
    repeat walk_at "s"
    by_cases ht : isTupD d = true
    rotate_left
    · rw [show isTupD d = false by simpa using ht]
      have eg : groupB d = false := by cases d <;> first | rfl | (simp [isTupD] at ht; done)
      rw [eg] at k
      refine r_iteT rfl ?_
      refine r_iteT rfl ?_
      repeat walk_at "s"
      exact k H fun _ _ e => e
    obtain ⟨ds, rfl⟩ : ∃ ds, d = .tuple ds := by
      cases d <;> first | exact ⟨_, rfl⟩ | (simp [isTupD] at ht; done)
    obtain ⟨a, xs, rfl, ha, hxs⟩ := hx.tup_inv
    have hlen : xs.length = ds.length := hxs.length
    rw [ht]
    refine r_iteF rfl ?_
    repeat walk_at "s"
    refine r_lenT ha ?_
    repeat walk_at "s"
    rw [hlen]
    have eg : groupB (.tuple ds) = (decide (1 ≤ ds.length) && decide (ds.length ≤ 8) && (ds.all (fun d => betB d 0 31) && ((ds.zip (ds.drop 1)).all fun q => match q with
      | (.int a, .int b) => decide (a < b)
      | _ => false))) := rfl
    refine r_ite (fun hl1 => ?_) (fun hl1 => ?_)
    rotate_left
    · rw [eg, decide_eq_false (by omega), Bool.false_and, Bool.false_and] at k
      repeat walk_at "s"
      refine r_iteT rfl ?_
      repeat walk_at "s"
      exact k H fun _ _ e => e
    repeat walk_at "s"
    refine r_iteN (fun hl2 => ?_) (fun hl2 => ?_)
    · rw [eg, decide_eq_false (p := ds.length ≤ 8) (by omega), Bool.and_false, Bool.false_and] at k
      repeat walk_at "s"
      exact k H fun _ _ e => e
    rw [eg, decide_eq_true (p := 1 ≤ ds.length) (by omega), decide_eq_true (p := ds.length ≤ 8) (by omega), Bool.true_and, Bool.true_and] at k
    repeat walk_at "s"
    refine lcT ha (fun l H1 hl s1 hl1 => ?_)
    refine ⟨fun j H' => But [l] H1 H' ∧ H' l = some (.lst (((ds.take j).map fun d => betB d 0 31).map V.bl)), ⟨.refl, hl1⟩, ?_, ?_, ?_⟩
    · rintro j H2 hj ⟨b2, hl2⟩
      exact b2.sqT ((But.of_same (S := []) s1).sqT ha)
    · rintro j y H2 hj ⟨b2, hl2⟩
      obtain ⟨dy, hdy, hy⟩ := hxs.get hj
      have hjl : j < xs.length := (List.getElem?_eq_some_iff.mp hj).1
      have hy2 : Dn K [l] H2 y dy := ((hy.fresh hl).same s1).but b2 (by walk_at "nis")
      repeat walk_at "s"
      refine ⟨rfl, ?_⟩
      refine r_yes ?_
      refine r_iteT rfl ?_
      repeat walk_at "s"
      refine ⟨y, [l], dy, 0, _, rfl, hy2, ?_⟩
      refine ⟨_, hl2, szl (by simp only [List.length_map, List.length_take]; omega), ?_⟩
      obtain ⟨H4, e4, b4, hl4⟩ := upd_ex (o' := .lst ((((ds.take j).map fun d => betB d 0 31).map V.bl) ++ [.bl (betB dy 0 31)])) hl2
      have e32 : ((32 : Int) - 1) = 31 := rfl
      rw [e32, e4]
      refine ⟨b2.trans b4, ?_⟩
      rw [hl4, List.take_add_one, hdy, List.map_append, List.map_append]
      rfl
    rintro H2 ⟨b2, hl2⟩
    rw [hlen, List.take_length] at hl2
    refine ⟨l, _, rfl, .of hl2, ?_⟩
    have e2 : (ds.map fun d => betB d 0 31).all id = ds.all fun d => betB d 0 31 := by
      rw [List.all_map]; rfl
    rw [e2]
    have s02 : Same H H2 := by walk_at "sm"
    repeat walk_at "s"
    by_cases hall : (ds.all fun d => betB d 0 31) = true
    rotate_left
    · rw [show (ds.all fun d => betB d 0 31) = false by simpa using hall, Bool.false_and] at k
      rw [show (ds.all fun d => betB d 0 31) = false by simpa using hall]
      refine r_iteT rfl ?_
      repeat walk_at "s"
      exact k H2 s02
    rw [hall]
    rw [hall, Bool.true_and] at k
    refine r_iteF rfl ?_
    repeat walk_at "s"
    have ha2 : SqT K H2 a xs := (But.of_same (S := []) s02).sqT ha
    have hx2 : DnAll K [] H2 xs ds := hxs.same s02
    have allInt : ∀ (j : Nat) (y : V) (dy : PyData), xs[j]? = some y → ds[j]? = some dy → ∃ i, y = .int i ∧ dy = .int i := by
      intro j y dy h1 h2
      obtain ⟨d2, h3, h4⟩ := hx2.get h1
      rw [h2] at h3
      cases h3
      have hb := List.all_eq_true.mp hall dy (List.mem_of_getElem? h2)
      cases dy <;> first | exact ⟨_, h4.int_inv, rfl⟩ | (simp [betB] at hb; done)
    refine r_slT ha2 (fun b H3 s3 hb3 => ?_)
    have ec : cutV xs (some 1) none = xs.drop 1 := cut_from (n := 1)
    rw [ec] at hb3
    have ha3 : SqT K H3 a xs := (But.of_same (S := []) s3).sqT ha2
    repeat walk_at "s"
    have s03 : Same H H3 := fun b o e => s3 b o (s02 b o e)
    clear s3 s02 b2 s1
    refine lcZT ha3 hb3 (fun q H4 hq s4 hq4 => ?_)
    refine ⟨fun j H' => But [q] H4 H' ∧ H' q = some (.lst ((((ds.zip (ds.drop 1)).take j).map fun q => match q with
      | (.int a, .int b) => decide (a < b)
      | _ => false).map V.bl)), ⟨.refl, hq4⟩, ?_, ?_, ?_⟩
    · rintro j H5 ⟨b5, hq5⟩
      exact ⟨b5.sqT ((But.of_same (S := []) s4).sqT ha3), b5.sqT ((But.of_same (S := []) s4).sqT hb3)⟩
    · rintro j y z T H5 H6 hy hz ⟨b5, hq5⟩ hT s6 hT6
      have hjl : j < xs.length := (List.getElem?_eq_some_iff.mp hy).1
      have hz2 : xs[j + 1]? = some z := by
        rw [List.getElem?_drop, Nat.add_comm] at hz; exact hz
      have hjl2 : j + 1 < xs.length := (List.getElem?_eq_some_iff.mp hz2).1
      have e1 : ds[j]? = some (ds[j]'(by omega)) := List.getElem?_eq_getElem _
      have e2 : ds[j + 1]? = some (ds[j + 1]'(by omega)) := List.getElem?_eq_getElem _
      obtain ⟨i1, rfl, f1⟩ := allInt j y _ hy e1
      obtain ⟨i2, rfl, f2⟩ := allInt (j + 1) z _ hz2 e2
      have ez : (ds.zip (ds.drop 1))[j]? = some (.int i1, .int i2) := by
        rw [List.getElem?_zip_eq_some]
        refine ⟨by rw [e1, f1], ?_⟩
        rw [List.getElem?_drop, Nat.add_comm, e2, f2]
      have nqT : q ≠ T := ne_of_none hq5 hT
      repeat walk_at "s"
      refine ⟨rfl, ?_⟩
      refine r_yes ?_
      refine r_iteT rfl ?_
      repeat walk_at "s"
      refine ⟨_, s6 _ _ hq5, szl (by simp only [List.length_map, List.length_take, List.length_zip, List.length_drop]; omega), ?_⟩
      obtain ⟨H7, e7, b7, hq7⟩ := upd_ex (o' := .lst (((((ds.zip (ds.drop 1)).take j).map fun q => match q with
        | (.int a, .int b) => decide (a < b)
        | _ => false).map V.bl) ++ [.bl (decide (i1 < i2))])) (s6 _ _ hq5)
      rw [e7]
      refine ⟨b5.trans ((But.of_same s6).trans b7), ?_⟩
      rw [hq7, List.take_add_one, ez, List.map_append, List.map_append]
      rfl
    · rintro H5 ⟨b5, hq5⟩
      have eln : min xs.length (xs.drop 1).length = (ds.zip (ds.drop 1)).length := by
        rw [List.length_zip, List.length_drop, List.length_drop, hlen]
      rw [eln, List.take_length] at hq5
      refine ⟨q, _, rfl, .of hq5, ?_⟩
      rw [List.all_map]
      exact k H5 (by walk_at "sm")
/-! ### record_at -/
def spRecAt (K : PySem.W.Frag) (CDisk CLayout : Addr) : Sp := fun vs H Q _ => ∃ (L d : Addr) (fd : List Addr) (s h n m : Nat) (D : DM) (num : Int) (slot : Nat), vs = [.ref L, .ref d, .int num, .int slot] ∧ LayAt CLayout H L s h ∧ DiskAt K CDisk H d fd n m D ∧ 1 + s ≤ n ∧ slot < s ∧
  ∀ v H', Same H H' → (match D.rc num slot with | none => v = .non | some r => Dn K [] H' v (rcD num r) ∧ noL (rcD num r) = true) → Q v H'
theorem parse_at1 {num : Int} {ds : List PyData} (h : ds.length < 2) : parse num (.tuple ds) = none := by
  match ds, h with
  | [], _ => rfl
  | [_], _ => rfl
theorem parse_num {num : Int} {k n : PyData} {r : List PyData} (h : (PyData.eqv n (.int num) && intB n) = false) : parse num (.tuple (k :: n :: r)) = none := by
  match r with
  | [] => simp [parse, h]
  | [x] => simp [parse, h]
  | _ :: _ :: _ => rfl
abbrev s_record_at : Stmt := top 26
abbrev N_record_at : List Str := ["layout", "disk", "number", "slot", "thing"]
theorem sc_record_at : FnScope N_record_at ["layout", "disk", "number", "slot"] (defScope s_record_at) :=
  ⟨rfl, rfl, rfl, by decide +kernel, rfl, by decide +kernel, by decide +kernel⟩

theorem ok_record_at {f : Addr} {fd : FuncData} (F : Fun K "record_at" "record_at" s_record_at f fd) (B : Bl mg) (C_is_integer : Cl P w K mg base CX0 1 "is_integer" (spIsInt K)) (C_is_group : Cl P w K mg base CX0 3 "is_group" (spGroup K))
    (M_Disk_read : C8.Met P w K mg base 4 CDisk "read" (spRead K CDisk) []) (M_Layout_slot_block : C8.Met P w K mg base 3 CLayout "slot_block" (spSlotBlock CLayout) []) :
    FnOk P w K mg base CX0 5 f fd ["layout", "disk", "number", "slot"] (spRecAt K CDisk CLayout) := by
  refine F.ok sc_record_at (fun vs H Q E h => ?_) (fun cdv A outer s H vs Q E hr h => ?_)
  · obtain ⟨_, _, _, _, _, _, _, _, _, _, rfl, _⟩ := h
    rfl
  · obtain ⟨L, d, fd, sl, ho, n, m, D, num, slot, rfl, hL, hD, hn, hsl, k⟩ := h
    have hu := hu_of hr
    have nd := sc_record_at.nd
    obtain ⟨dl, hLx⟩ := hL.ex
    obtain ⟨dx, l1, l2, l3, l4, x1, x2, x3, x4, efd, hnd, h0, _⟩ := hD.ex
    refine ⟨_, (pss_cons (ps_set (i := 4) nd rfl (by first | exact Or.inl rfl | exact Or.inr rfl) (C8.pe_mt M_Disk_read hr (by decide) (pv 1) (pa_cons (C8.pe_mt M_Layout_slot_block hr (by decide) (pv 0) (pa_cons (pv 3) pa_nil)) pa_nil)))
      (pss_cons (ps_if (PW.pt (pw_or (pt_not (pt_tru (K := K) (pe_callB (call_isiA (K := K)) rfl B.isinstance (by decide +kernel) (pa_cons (pv 4) (pa_cons (pe_tyN (T := "tuple") rfl B.tuple (by decide +kernel)) pa_nil))))) (pw_or (pt_cmpR op_ltA (pe_callB (call_lenA (K := K)) rfl B.len PySem.boot_len (pa_cons (pv 4) pa_nil)) pe_int (nomark _)) (pw_or (pt_not (pt_tru (K := K) (pe_cl (E := fun _ => E0) C_is_integer hr (by decide) pass00 (pa_cons (pe_ix (ix_any (K := K)) (pv 4) pe_int (fun _ _ => rfl)) pa_nil)))) (pw_or1 (pt_cmpR (op_neA (K := K) hr.units) (pe_ix (ix_any (K := K)) (pv 4) pe_int (fun _ _ => rfl)) (pv 2) (nomark _))))))) (pss_one (ps_ret pe_non)) pss_nil)
      (pss_cons (ps_if (pt_cmpR (op_eqA (K := K) hr.units) (pe_callB (call_lenA (K := K)) rfl B.len PySem.boot_len (pa_cons (pv 4) pa_nil)) pe_int (nomark _)) (pss_one (ps_ret (pe_ifExp (pt_cmpR (op_eqA (K := K) hr.units) (pe_ix (ix_any (K := K)) (pv 4) pe_int (fun _ _ => rfl)) pe_str (nomark _)) (pv 4) pe_non))) pss_nil)
      (pss_cons (ps_if (PW.pt (pw_or (pt_cmpR (op_neA (K := K) hr.units) (pe_callB (call_lenA (K := K)) rfl B.len PySem.boot_len (pa_cons (pv 4) pa_nil)) pe_int (nomark _)) (pw_or1 (pt_cmpR (op_niA (K := K) (units65 hr)) (pe_ix (ix_any (K := K)) (pv 4) pe_int (fun _ _ => rfl)) (pe_tup (pa_cons pe_str (pa_cons pe_str (pa_cons pe_str pa_nil)))) (by rfl))))) (pss_one (ps_ret pe_non)) pss_nil)
      (pss_one (ps_ret (pe_ifExp (PW.pt (pw_or (pt_cmpR (op_eqA (K := K) hr.units) (pe_ix (ix_any (K := K)) (pv 4) pe_int (fun _ _ => rfl)) pe_str (nomark _)) (pw_or1 (pt_tru (K := K) (pe_cl (E := fun _ => E0) C_is_group hr (by decide) pass00 (pa_cons (pe_ix (ix_any (K := K)) (pv 4) pe_int (fun _ _ => rfl)) pa_nil)))))) (pv 4) pe_non))))))), ?_⟩
    repeat walk_at "s"
    refine r_methAt h0 (by with_unfolding_all rfl) ?_
    repeat walk_at "s"
    refine r_methAt hLx (by with_unfolding_all rfl) ?_
    repeat walk_at "s"
    refine ⟨L, sl, ho, slot, rfl, hL, by omega, by omega, ?_⟩
    repeat walk_at "s"
    refine ⟨d, fd, n, m, D, _, rfl, hD, by omega, by omega, fun v hv => ?_⟩
    have hbl := hD.ok.read (b := 1 + (slot : Int)) (by omega) (by omega)
    unfold DM.rc at k
    generalize D.read (1 + (slot : Int)) = e at hv hbl k
    repeat walk_at "s"
    refine r_isTup hv ?_
    repeat walk_at "s"
    by_cases ht : isTupD e = true
    rotate_left
    · rw [show isTupD e = false by simpa using ht]
      have eg : parse num e = none := by cases e <;> first | rfl | (simp [isTupD] at ht; done)
      rw [eg] at k
      refine r_iteT rfl ?_
      refine r_iteT rfl ?_
      repeat walk_at "s"
      exact k .non H (fun _ _ e => e) rfl
    obtain ⟨ds, rfl⟩ : ∃ ds, e = .tuple ds := by
      cases e <;> first | exact ⟨_, rfl⟩ | (simp [isTupD] at ht; done)
    obtain ⟨a, xs, rfl, ha, hxs⟩ := hv.tup_inv
    have hlen : xs.length = ds.length := hxs.length
    rw [ht]
    refine r_iteF rfl ?_
    repeat walk_at "s"
    refine r_lenT ha ?_
    repeat walk_at "s"
    refine r_ite (fun hl2 => ?_) (fun hl2 => ?_)
    · rw [parse_at1 (by omega)] at k
      refine r_iteT rfl ?_
      repeat walk_at "s"
      exact k .non H (fun _ _ e => e) rfl
    obtain ⟨dk, dn, dr, rfl⟩ : ∃ dk dn dr, ds = dk :: dn :: dr := by
      match ds, hlen with
      | [], h => exfalso; simp at h; simp [h] at hl2
      | [_], h => exfalso; rw [h] at hl2; simp at hl2
      | a :: b :: c, _ => exact ⟨a, b, c, rfl⟩
    obtain ⟨vk, _, rfl, hk, hxs⟩ := hxs.cons_inv
    obtain ⟨vn, vr, rfl, hvn, hvr⟩ := hxs.cons_inv
    have hnl := blockB_nol hbl
    have lay : PyData.canLayAll0 (dk :: dn :: dr) = true := blockB_lay hbl
    have dep := (valB_dep _ 0 (blockB_val hbl)).1
    have edep : (PyData.tuple (dk :: dn :: dr)).depth = max dk.depth (max dn.depth (PyData.depthAll dr)) + 1 := rfl
    have layk : dk.canLay0 = true ∧ PyData.canLayAll0 (dn :: dr) = true := by
      have h : (dk.canLay0 && PyData.canLayAll0 (dn :: dr)) = true := lay
      rwa [Bool.and_eq_true] at h
    have shk : SeqAt.shaped dk = true := by
      unfold SeqAt.shaped
      rw [layk.1, decide_eq_true (by omega)]; rfl
    repeat walk_at "s"
    refine ⟨vn, [], dn, rfl, hvn, ?_⟩
    repeat walk_at "s"
    by_cases hi : intB dn = true
    rotate_left
    · have hf : intB dn = false := by simpa using hi
      rw [parse_num (by rw [hf, Bool.and_false])] at k
      rw [hf]
      refine r_iteT rfl ?_
      repeat walk_at "s"
      exact k .non H (fun _ _ e => e) rfl
    obtain ⟨ni, rfl⟩ : ∃ ni, dn = .int ni := by
      cases dn <;> first | exact ⟨_, rfl⟩ | (simp [intB] at hi; done)
    obtain rfl := hvn.int_inv
    rw [hi]
    refine r_iteF rfl ?_
    repeat walk_at "s"
    refine r_iteN (fun hne => ?_) (fun hne => ?_)
    · rw [parse_num (by simp [PyData.eqv, hne])] at k
      repeat walk_at "s"
      exact k .non H (fun _ _ e => e) rfl
    subst hne
    repeat walk_at "s"
    refine r_lenT ha ?_
    repeat walk_at "s"
    have shc : ∀ z : Str, PyData.strOk z = true → SeqAt.shaped (.str z) = true := fun z hz => by
      unfold SeqAt.shaped
      rw [show (PyData.str z).canLay0 = true from hz]; rfl
    refine r_ite (fun hl2 => ?_) (fun hl2 => ?_)
    · have er : vr = [] := by
        cases vr with
        | nil => rfl
        | cons _ _ => simp at hl2; omega
      subst er
      have er2 : dr = [] := by
        cases dr with
        | nil => rfl
        | cons _ _ => cases hvr
      subst er2
      have ep : parse ni (.tuple [dk, .int ni]) = if PyData.eqv dk (.str "commit") then some .commit else none := by
        simp [parse, PyData.eqv, intB]
      rw [ep] at k
      repeat walk_at "s"
      refine r_eqD hk.dp (Dn.str (K := K) (S := []) "commit").dp shk (shc _ (by decide +kernel)) ?_
      repeat walk_at "s"
      refine r_iteB (fun e => ?_) (fun e => ?_)
      · rw [if_pos e] at k
        have := eqv_str.mp e
        subst this
        repeat walk_at "s"
        exact k _ H (fun _ _ e => e) ⟨hv, hnl⟩
      · rw [if_neg (by rw [e]; exact Bool.false_ne_true)] at k
        repeat walk_at "s"
        exact k .non H (fun _ _ e => e) rfl
    repeat walk_at "s"
    refine r_lenT ha ?_
    repeat walk_at "s"
    refine r_iteN (fun hl3 => ?_) (fun hl3 => ?_)
    · have ep : parse ni (.tuple (dk :: .int ni :: dr)) = none := by
        match dr, hvr.length with
        | [], h => exfalso; simp at h; subst h; simp at hl2
        | [_], h =>
          exfalso
          match vr, h with
          | [_], _ => simp at hl3
        | _ :: _ :: _, _ => rfl
      rw [ep] at k
      refine r_iteT rfl ?_
      repeat walk_at "s"
      exact k .non H (fun _ _ e => e) rfl
    obtain ⟨vx, rfl⟩ : ∃ vx, vr = [vx] := by
      match vr, hl3 with
      | [], h => simp at h
      | [x], _ => exact ⟨x, rfl⟩
      | _ :: _ :: _, h => simp at h; omega
    obtain ⟨dX, rfl⟩ : ∃ dX, dr = [dX] := by
      match dr, hvr with
      | [x], _ => exact ⟨x, rfl⟩
      | _ :: _ :: _, h =>
        obtain ⟨_, _, e, _, h2⟩ := h.cons_inv
        cases e
        cases h2
      | [], h => cases h
    have hvx : Dn K [] H vx dX := by
      obtain ⟨_, _, e, h1, _⟩ := hvr.cons_inv
      cases e
      exact h1
    have nlx : noL dX = true := noLs_all.mp (show noLs [dk, .int ni, dX] = true from hnl) dX (by simp)
    repeat walk_at "s"
    refine r_newT (sz (Nat.le_of_ble_eq_true rfl)) (fun T H1 hT s1 hT1 => ?_)
    have dT : Dn K [] H1 (.ref T) (.tuple [.str "revoke", .str "descriptor", .str "copy"]) := .tup (.of hT1) (.cons (.str _) (.cons (.str _) (.one (.str _))))
    refine .inr (.inr ⟨dk, _, (hk.same s1).dp, dT.dp, shk, by decide +kernel, ?_⟩)
    have ea : ([PyData.str "revoke", .str "descriptor", .str "copy"].any fun z => PyData.eqv z dk) = (PyData.eqv dk (.str "copy") || (PyData.eqv dk (.str "revoke") || PyData.eqv dk (.str "descriptor"))) := by
      have sw : ∀ z : Str, PyData.eqv (.str z) dk = PyData.eqv dk (.str z) := fun z => by
        cases dk <;> simp [PyData.eqv, Bool.beq_comm]
      simp only [List.any_cons, List.any_nil, Bool.or_false, sw]
      cases PyData.eqv dk (.str "copy") <;> cases PyData.eqv dk (.str "revoke") <;> cases PyData.eqv dk (.str "descriptor") <;> rfl
    rw [ea]
    have ep : parse ni (.tuple [dk, .int ni, dX]) = (if PyData.eqv dk (.str "copy") then some (.copy dX)
      else if PyData.eqv dk (.str "revoke") && groupB dX then (match dX with | .tuple ds => some (.revoke (intsOf ds)) | _ => none)
      else if PyData.eqv dk (.str "descriptor") && groupB dX then (match dX with | .tuple ds => some (.desc (intsOf ds)) | _ => none)
      else none) := by
      have e0 : (PyData.eqv (.int ni) (.int ni) && intB (.int ni)) = true := by simp [PyData.eqv, intB]
      unfold parse
      exact if_pos e0
    repeat walk_at "s"
    by_cases hc : PyData.eqv dk (.str "copy") = true
    · rw [hc]
      rw [ep, if_pos hc] at k
      refine r_iteF rfl ?_
      repeat walk_at "s"
      refine r_eqD ((hk.same s1).dp) (Dn.str (K := K) (S := []) "copy").dp shk (shc _ (by decide +kernel)) ?_
      repeat walk_at "s"
      rw [hc]
      refine r_iteT rfl ?_
      refine r_iteT rfl ?_
      repeat walk_at "s"
      have := eqv_str.mp hc
      subst this
      exact k _ H1 s1 ⟨hv.same s1, hnl⟩
    have hcf : PyData.eqv dk (.str "copy") = false := by simpa using hc
    rw [ep, if_neg hc] at k
    rw [hcf]
    by_cases hrd : (PyData.eqv dk (.str "revoke") || PyData.eqv dk (.str "descriptor")) = true
    rotate_left
    · have hf : (PyData.eqv dk (.str "revoke") || PyData.eqv dk (.str "descriptor")) = false := by simpa using hrd
      rw [Bool.or_eq_false_iff] at hf
      rw [hf.1, hf.2] at k
      rw [hf.1, hf.2]
      refine r_iteT rfl ?_
      repeat walk_at "s"
      exact k .non H1 s1 rfl
    rw [hrd]
    refine r_iteF rfl ?_
    repeat walk_at "s"
    refine r_eqD ((hk.same s1).dp) (Dn.str (K := K) (S := []) "copy").dp shk (shc _ (by decide +kernel)) ?_
    repeat walk_at "s"
    rw [hcf]
    refine r_iteF rfl ?_
    repeat walk_at "s"
    refine ⟨vx, dX, rfl, hvx.same s1, nlx, fun H2 s2 => ?_⟩
    have s02 : Same H H2 := fun b o e => s2 b o (s1 b o e)
    repeat walk_at "s"
    by_cases hg : groupB dX = true
    rotate_left
    · have hf : groupB dX = false := by simpa using hg
      rw [hf, Bool.and_false, Bool.and_false] at k
      rw [hf]
      refine r_iteF rfl ?_
      repeat walk_at "s"
      exact k .non H2 s02 rfl
    rw [hg, Bool.and_true, Bool.and_true] at k
    rw [hg]
    refine r_iteT rfl ?_
    repeat walk_at "s"
    have hv2 : Dn K [] H2 (.ref a) (.tuple [dk, .int ni, dX]) := hv.same s02
    obtain ⟨dsx, rfl⟩ : ∃ ds, dX = .tuple ds := by
      cases dX <;> first | exact ⟨_, rfl⟩ | (simp [groupB] at hg; done)
    have hgi : dsx = (intsOf dsx).map .int := by
      unfold groupB at hg
      simp only [Bool.and_eq_true] at hg
      exact intsOf_map hg.2.1
    refine k _ H2 s02 ?_
    by_cases h1 : PyData.eqv dk (.str "revoke") = true
    · rw [if_pos h1]
      have := eqv_str.mp h1
      subst this
      have e : rcD ni (.revoke (intsOf dsx)) = .tuple [.str "revoke", .int ni, .tuple dsx] := by
        show PyData.tuple [.str "revoke", .int ni, .tuple ((intsOf dsx).map .int)] = _
        rw [← hgi]
      show Dn K [] H2 (.ref a) (rcD ni (.revoke (intsOf dsx))) ∧ noL (rcD ni (.revoke (intsOf dsx))) = true
      rw [e]
      exact ⟨hv2, hnl⟩
    · have h2 : PyData.eqv dk (.str "descriptor") = true := by
        rw [Bool.or_eq_true] at hrd
        exact hrd.resolve_left h1
      rw [if_neg h1, if_pos h2]
      have := eqv_str.mp h2
      subst this
      have e : rcD ni (.desc (intsOf dsx)) = .tuple [.str "descriptor", .int ni, .tuple dsx] := by
        show PyData.tuple [.str "descriptor", .int ni, .tuple ((intsOf dsx).map .int)] = _
        rw [← hgi]
      show Dn K [] H2 (.ref a) (rcD ni (.desc (intsOf dsx))) ∧ noL (rcD ni (.desc (intsOf dsx))) = true
      rw [e]
      exact ⟨hv2, hnl⟩
end
end L24

open PySem L2 PyProof.Rows J

namespace L24
structure TRd (K : PySem.W.Frag) (C : Addr) : Prop where
  cl : Cls K C
  n1 : NoAttr K C "plan"
  n2 : NoAttr K C "medium"
  n3 : NoAttr K C "serial"
  n4 : NoAttr K C "place"
  n5 : NoAttr K C "left"
  n6 : NoAttr K C "copies"
  n7 : NoAttr K C "revokes"
def rdF (L d : Addr) (num : Int) (place left : Nat) (lc lr : Addr) : List (Str × V) :=
  [("plan", .ref L), ("medium", .ref d), ("serial", .int num), ("place", .int place), ("left", .int left), ("copies", .ref lc), ("revokes", .ref lr)]
section
variable {P : Program} {w : World} {K : PySem.W.Frag} {mg : Str → Option Value} {base : Heap} {CDisk CLayout CReading : Addr}
/-- a Reading at r, its lists at lc, lr -/
structure RdAt (K : PySem.W.Frag) (CReading : Addr) (H : Hp) (r lc lr L d : Addr) (num : Int) (place left : Nat) (cs : List (Int × PyData)) (rs : List Int) : Prop where
  ex : ∃ dx xc, H r = some (.ins CReading dx (rdF L d num place left lc lr)) ∧ H lc = some (.lst xc) ∧ DnAll K [] H xc (cs.map dWr)
  lr_ : H lr = some (.lst (rs.map V.int))
  d1 : r ≠ lc
  d2 : r ≠ lr
  d3 : lc ≠ lr
  nl : ∀ c ∈ cs, noL c.2 = true
  b1 : cs.length + left ≤ 64
  b2 : rs.length + 8 * left ≤ 512
/-- what a Reading reads from -/
structure RdEnv (K : PySem.W.Frag) (CDisk CLayout : Addr) (H : Hp) (fr : List Addr) (L d : Addr) (fd : List Addr) (s h n m : Nat) (D : DM) : Prop where
  lay : LayAt CLayout H L s h
  disk : DiskAt K CDisk H d fd n m D
  hn : 1 + s ≤ n
  nL : L ∉ fr
  nd : Dj fd fr
theorem RdEnv.but {H H' : Hp} {fr T fd : List Addr} {L d : Addr} {s h n m : Nat} {D : DM} (e : RdEnv K CDisk CLayout H fr L d fd s h n m D) (b : But T H H') (hT : ∀ t ∈ T, t ∈ fr) : RdEnv K CDisk CLayout H' fr L d fd s h n m D :=
  ⟨e.lay.but (b.sub hT) e.nL, e.disk.but (b.sub hT) e.nd, e.hn, e.nL, e.nd⟩
def spRdInit (K : PySem.W.Frag) (CDisk CLayout CReading : Addr) : Sp := fun vs H Q _ => ∃ (r dx L d : Addr) (num : Int) (slot s h : Nat), vs = [.ref r, .ref L, .ref d, .int num, .int slot] ∧ H r = some (.ins CReading dx []) ∧ LayAt CLayout H L s h ∧ r ≠ L ∧
  ∀ lc lr H', H lc = none → H lr = none → But [r] H H' → RdAt K CReading H' r lc lr L d num slot s [] [] → Q .non H'
abbrev s_Reading_init : Stmt := inClass (top 27) 0
abbrev N_Reading_init : List Str := ["self", "layout", "disk", "number", "slot"]
theorem sc_Reading_init : FnScope N_Reading_init ["self", "layout", "disk", "number", "slot"] (defScope s_Reading_init) :=
  ⟨rfl, rfl, rfl, by decide +kernel, rfl, by decide +kernel, by decide +kernel⟩

theorem ok_Reading_init {f : Addr} {fd : FuncData} (F : Fun K "__init__" "Reading.__init__" s_Reading_init f fd) (T : TRd K CReading) (M_Layout_slots : C8.Met P w K mg base 1 CLayout "slots" (spLayI CLayout fun s _ => s) []) :
    FnOk P w K mg base CX0 2 f fd ["self", "layout", "disk", "number", "slot"] (spRdInit K CDisk CLayout CReading) := by
  refine F.ok sc_Reading_init (fun vs H Q E h => ?_) (fun cdv A outer s H vs Q E hr h => ?_)
  · obtain ⟨_, _, _, _, _, _, _, _, rfl, _⟩ := h
    rfl
  · obtain ⟨r, dx, L, d, num, slot, sl, ho, rfl, hR, hL, hne, k⟩ := h
    have nd := sc_Reading_init.nd
    obtain ⟨cl, n1, n2, n3, n4, n5, n6, n7⟩ := T
    refine ⟨_, (pss_cons (ps_fldA (K := K) (pv 0) (pv 1))
      (pss_cons (ps_fldA (K := K) (pv 0) (pv 2))
      (pss_cons (ps_fldA (K := K) (pv 0) (pv 3))
      (pss_cons (ps_fldA (K := K) (pv 0) (pv 4))
      (pss_cons (ps_fldA (K := K) (pv 0) (C8.pe_mt0 M_Layout_slots hr (by decide) (pv 1)))
      (pss_cons (ps_fldA (K := K) (pv 0) (pe_lst pa_nil))
      (pss_one (ps_fldA (K := K) (pv 0) (pe_lst pa_nil))))))))), ?_⟩
    repeat walk_at "s"
    refine r_setAt hR cl n1 (Nat.le_of_ble_eq_true rfl) (fun H1 b1 hR1 => ?_)
    repeat walk_at "s"
    refine r_setAt hR1 cl n2 (Nat.le_of_ble_eq_true rfl) (fun H2 b2 hR2 => ?_)
    repeat walk_at "s"
    refine r_setAt hR2 cl n3 (Nat.le_of_ble_eq_true rfl) (fun H3 b3 hR3 => ?_)
    repeat walk_at "s"
    refine r_setAt hR3 cl n4 (Nat.le_of_ble_eq_true rfl) (fun H4 b4 hR4 => ?_)
    have b04 : But [r] H H4 := by walk_at "bt"
    have hL4 := hL.but b04 (by simpa using hne.symm)
    obtain ⟨dl, hLx⟩ := hL4.ex
    repeat walk_at "s"
    refine r_methAt hLx (by with_unfolding_all rfl) ?_
    repeat walk_at "s"
    refine ⟨L, sl, ho, rfl, hL4, ?_⟩
    repeat walk_at "s"
    refine r_setAt hR4 cl n5 (Nat.le_of_ble_eq_true rfl) (fun H5 b5 hR5 => ?_)
    clear b04
    repeat walk_at "s"
    refine r_newL (sz (Nat.le_of_ble_eq_true rfl)) (fun lc H6 hlc s6 hlc6 => ?_)
    repeat walk_at "s"
    refine r_setAt (by walk_at "hp") cl n6 (Nat.le_of_ble_eq_true rfl) (fun H7 b7 hR7 => ?_)
    repeat walk_at "s"
    refine r_newL (sz (Nat.le_of_ble_eq_true rfl)) (fun lr H8 hlr s8 hlr8 => ?_)
    repeat walk_at "s"
    refine r_setAt (by walk_at "hp") cl n7 (Nat.le_of_ble_eq_true rfl) (fun H9 b9 hR9 => ?_)
    have lvr : H r ≠ none := live_of hR
    have a1 : lc ≠ r := by walk_at "ne"
    have a2 : lr ≠ r := by walk_at "ne"
    have a3 : lc ≠ lr := by walk_at "ne"
    have f1 : H9 lc = some (.lst []) := by walk_at "hp"
    have f2 : H9 lr = some (.lst []) := by walk_at "hp"
    have s2 := hL.s2
    exact k lc lr H9 (by walk_at "fr") (by walk_at "fr") (by walk_at "bt") ⟨⟨dx, [], hR9, f1, .nil⟩, f2, a1.symm, a2.symm, a3, by simp, by simpa using s2, by simp; omega⟩
def spTake (K : PySem.W.Frag) (CDisk CLayout CReading : Addr) : Sp := fun vs H Q _ => ∃ (r lc lr L d : Addr) (fd : List Addr) (num : Int) (place left s h n m : Nat) (D : DM) (cs : List (Int × PyData)) (rs : List Int), vs = [.ref r] ∧
  RdAt K CReading H r lc lr L d num place left cs rs ∧ RdEnv K CDisk CLayout H [r, lc, lr] L d fd s h n m D ∧ place < s ∧
  (left = 0 → Q .non H) ∧ (0 < left → ∀ v H', But [r] H H' → RdAt K CReading H' r lc lr L d num ((place + 1) % s) (left - 1) cs rs →
    (match D.rc num place with | none => v = .non | some rc => Dn K [] H' v (rcD num rc) ∧ noL (rcD num rc) = true) → Q v H')
abbrev s_Reading_take : Stmt := inClass (top 27) 1
abbrev N_Reading_take : List Str := ["self", "record"]
theorem sc_Reading_take : FnScope N_Reading_take ["self"] (defScope s_Reading_take) :=
  ⟨rfl, rfl, rfl, by decide +kernel, rfl, by decide +kernel, by decide +kernel⟩

theorem ok_Reading_take {f : Addr} {fd : FuncData} (F : Fun K "take" "Reading.take" s_Reading_take f fd) (T : TRd K CReading) (M_Layout_slots : C8.Met P w K mg base 1 CLayout "slots" (spLayI CLayout fun s _ => s) [])
    (C_record_at : Cl P w K mg base CX0 5 "record_at" (spRecAt K CDisk CLayout)) :
    FnOk P w K mg base CX0 6 f fd ["self"] (spTake K CDisk CLayout CReading) := by
  refine F.ok sc_Reading_take (fun vs H Q E h => ?_) (fun cdv A outer s H vs Q E hr h => ?_)
  · obtain ⟨_, _, _, _, _, _, _, _, _, _, _, _, _, _, _, _, rfl, _⟩ := h
    rfl
  · obtain ⟨r, lc, lr, L, d, fd, num, place, left, sl, ho, n, m, D, cs, rs, rfl, ⟨⟨dx, xc, hR, hlc, hxc⟩, hlr, d1, d2, d3, nl, b1, b2⟩, env, hp, k0, k1⟩ := h
    have nd := sc_Reading_take.nd
    obtain ⟨cl, n1, n2, n3, n4, n5, n6, n7⟩ := T
    refine ⟨_, (pss_cons (ps_if (pt_cmpR (op_eqA (K := K) hr.units) (pe_fldA (K := K) (pv 0)) pe_int (nomark _)) (pss_one (ps_ret pe_non)) pss_nil)
      (pss_cons (ps_set (i := 1) nd rfl (by first | exact Or.inl rfl | exact Or.inr rfl) (pe_cl (E := fun _ => E0) C_record_at hr (by decide) pass00 (pa_cons (pe_fldA (K := K) (pv 0)) (pa_cons (pe_fldA (K := K) (pv 0)) (pa_cons (pe_fldA (K := K) (pv 0)) (pa_cons (pe_fldA (K := K) (pv 0)) pa_nil))))))
      (pss_cons (ps_fldA (K := K) (pv 0) (pe_op op_mod (pe_op (op_addA (K := K)) (pe_fldA (K := K) (pv 0)) pe_int) (C8.pe_mt0 M_Layout_slots hr (by decide) (pe_fldA (K := K) (pv 0)))))
      (pss_cons (ps_fldaugA (K := K) (pv 0) pe_int (in_ofR ip_subA))
      (pss_one (ps_ret (pv 1))))))), ?_⟩
    repeat walk_at "s"
    refine r_ite (fun hl => ?_) (fun hl => ?_)
    · repeat walk_at "s"
      exact k0 (by omega)
    repeat walk_at "s"
    refine ⟨L, d, fd, sl, ho, n, m, D, num, place, rfl, env.lay, env.disk, env.hn, hp, fun v H1 s1 hv => ?_⟩
    have hR1 := s1 _ _ hR
    repeat walk_at "s"
    have hL1 := env.lay.same s1
    obtain ⟨dl, hLx⟩ := hL1.ex
    refine r_methAt hLx (by with_unfolding_all rfl) ?_
    repeat walk_at "s"
    refine ⟨L, sl, ho, rfl, hL1, ?_⟩
    dsimp only
    have hsl := hL1.s1
    repeat walk_at "s"
    have epl : ((place : Int) + 1) % (sl : Int) = (((place + 1) % sl : Nat) : Int) := (Int.natCast_emod (place + 1) sl).symm
    rw [epl]
    refine r_setAt hR1 cl n4 (Nat.le_of_ble_eq_true rfl) (fun H2 b2' hR2 => ?_)
    repeat walk_at "s"
    refine r_augAt hR2 cl n5 (by with_unfolding_all rfl) ?_
    repeat walk_at "s"
    refine r_putAt hR2 (Nat.le_of_ble_eq_true rfl) (fun H3 b3 hR3 => ?_)
    repeat walk_at "s"
    have ell : ((left : Int) - 1) = (((left - 1 : Nat)) : Int) := by omega
    rw [ell] at hR3
    have b13 : But [r] H1 H3 := b2'.trans b3
    have b03 : But [r] H H3 := (But.of_same s1).trans b13
    refine k1 (by omega) v H3 b03 ⟨⟨dx, xc, hR3, b03.at hlc (by simpa using d1.symm), hxc.nlb (noLs_map fun c hc => nol_dWr (nl c hc)) b03⟩, b03.at hlr (by simpa using d2.symm), d1, d2, d3, nl, by omega, by omega⟩ ?_
    revert hv
    cases D.rc num place with
    | none => exact id
    | some rc => exact fun hv => ⟨hv.1.nlb hv.2 b13, hv.2⟩
/-! ### take_copies -/
theorem RdAt.live {H : Hp} {r lc lr L d : Addr} {num : Int} {place left : Nat} {cs : List (Int × PyData)} {rs : List Int} (h : RdAt K CReading H r lc lr L d num place left cs rs) : Live [r, lc, lr] H := by
  obtain ⟨⟨dx, xc, hR, hlc, hxc⟩, hlr, _⟩ := h
  exact .cons hR (.cons hlc (.cons hlr .nil))
theorem RdAt.but {H H' : Hp} {r lc lr L d : Addr} {num : Int} {place left : Nat} {cs : List (Int × PyData)} {rs : List Int} {T : List Addr} (h : RdAt K CReading H r lc lr L d num place left cs rs) (b : But T H H') (n : Dj [r, lc, lr] T) :
    RdAt K CReading H' r lc lr L d num place left cs rs := by
  obtain ⟨⟨dx, xc, hR, hlc, hxc⟩, hlr, d1, d2, d3, nl, b1, b2⟩ := h
  exact ⟨⟨dx, xc, b.at hR (n _ (by simp)), b.at hlc (n _ (by simp)), hxc.nlb (noLs_map fun c hc => nol_dWr (nl c hc)) b⟩, b.at hlr (n _ (by simp)), d1, d2, d3, nl, b1, b2⟩
def spTakeCs (K : PySem.W.Frag) (CDisk CLayout CReading : Addr) : Sp := fun vs H Q _ => ∃ (r lc lr L d t : Addr) (fd : List Addr) (num : Int) (place left s h n m : Nat) (D : DM) (cs : List (Int × PyData)) (rs hs : List Int), vs = [.ref r, .ref t] ∧
  RdAt K CReading H r lc lr L d num place left cs rs ∧ RdEnv K CDisk CLayout H [r, lc, lr] L d fd s h n m D ∧ place < s ∧ SqT K H t (hs.map V.int) ∧
  (match takeC s (D.rc num) hs place left cs with
    | none => ∀ H', But [r, lc, lr] H H' → Q (.bl false) H'
    | some (p', l', cs') => ∀ H', But [r, lc, lr] H H' → p' < s → l' ≤ left → RdAt K CReading H' r lc lr L d num p' l' cs' rs → Q (.bl true) H')
theorem rc_fst {H : Hp} {v : V} {num : Int} {rc : Rc} (h : Dn K [] H v (rcD num rc)) : ∃ p k x, v = .ref p ∧ SqT K H p (V.str k :: V.int num :: x) ∧
    (match rc with | .commit => k = "commit" ∧ x = [] | .revoke hs => k = "revoke" ∧ ∃ t, x = [.ref t] ∧ SqT K H t (hs.map V.int) | .desc hs => k = "descriptor" ∧ ∃ t, x = [.ref t] ∧ SqT K H t (hs.map V.int) | .copy d => k = "copy" ∧ ∃ y, x = [y] ∧ Dn K [] H y d) := by
  cases rc with
  | commit =>
    obtain ⟨p, xs, rfl, h1, h2⟩ := Dn.tup_inv (ds := [.str "commit", .int num]) h
    obtain ⟨a, _, rfl, h3, h4⟩ := h2.cons_inv
    obtain ⟨b, _, rfl, h5, h6⟩ := h4.cons_inv
    obtain rfl := h6.nil_inv
    obtain rfl := h3.str_inv
    obtain rfl := h5.int_inv
    exact ⟨p, _, _, rfl, h1, rfl, rfl⟩
  | revoke hs =>
    obtain ⟨p, xs, rfl, h1, h2⟩ := Dn.tup_inv (ds := [.str "revoke", .int num, dHs hs]) h
    obtain ⟨a, _, rfl, h3, h4⟩ := h2.cons_inv
    obtain ⟨b, _, rfl, h5, h6⟩ := h4.cons_inv
    obtain ⟨c, _, rfl, h7, h8⟩ := h6.cons_inv
    obtain rfl := h8.nil_inv
    obtain rfl := h3.str_inv
    obtain rfl := h5.int_inv
    obtain ⟨t, ys, rfl, h9, h10⟩ := Dn.tup_inv (ds := hs.map .int) h7
    obtain rfl := h10.ints_of
    exact ⟨p, _, _, rfl, h1, rfl, t, rfl, h9⟩
  | desc hs =>
    obtain ⟨p, xs, rfl, h1, h2⟩ := Dn.tup_inv (ds := [.str "descriptor", .int num, dHs hs]) h
    obtain ⟨a, _, rfl, h3, h4⟩ := h2.cons_inv
    obtain ⟨b, _, rfl, h5, h6⟩ := h4.cons_inv
    obtain ⟨c, _, rfl, h7, h8⟩ := h6.cons_inv
    obtain rfl := h8.nil_inv
    obtain rfl := h3.str_inv
    obtain rfl := h5.int_inv
    obtain ⟨t, ys, rfl, h9, h10⟩ := Dn.tup_inv (ds := hs.map .int) h7
    obtain rfl := h10.ints_of
    exact ⟨p, _, _, rfl, h1, rfl, t, rfl, h9⟩
  | copy d =>
    obtain ⟨p, xs, rfl, h1, h2⟩ := Dn.tup_inv (ds := [.str "copy", .int num, d]) h
    obtain ⟨a, _, rfl, h3, h4⟩ := h2.cons_inv
    obtain ⟨b, _, rfl, h5, h6⟩ := h4.cons_inv
    obtain ⟨c, _, rfl, h7, h8⟩ := h6.cons_inv
    obtain rfl := h8.nil_inv
    obtain rfl := h3.str_inv
    obtain rfl := h5.int_inv
    exact ⟨p, _, _, rfl, h1, rfl, c, rfl, h7⟩
theorem takeC_at {s : Nat} {rec : Nat → Option Rc} {hs : List Int} {i p l : Nat} {cs : List (Int × PyData)} {h : Int} (e : hs[i]? = some h) :
    takeC s rec (hs.drop i) p l cs = if l = 0 then none else match rec p with
      | some (.copy v) => takeC s rec (hs.drop (i + 1)) ((p + 1) % s) (l - 1) (cs ++ [(h, v)])
      | _ => none := by
  obtain ⟨hi, rfl⟩ := List.getElem?_eq_some_iff.mp e
  rw [List.drop_eq_getElem_cons hi]
  rfl
abbrev s_Reading_take_copies : Stmt := inClass (top 27) 2
abbrev N_Reading_take_copies : List Str := ["self", "homes", "home", "record"]
theorem sc_Reading_take_copies : FnScope N_Reading_take_copies ["self", "homes"] (defScope s_Reading_take_copies) :=
  ⟨rfl, rfl, rfl, by decide +kernel, rfl, by decide +kernel, by decide +kernel⟩

theorem ok_Reading_take_copies {f : Addr} {fd : FuncData} (F : Fun K "take_copies" "Reading.take_copies" s_Reading_take_copies f fd) (T : TRd K CReading) (M_Reading_take : C8.Met P w K mg base 6 CReading "take" (spTake K CDisk CLayout CReading) []) :
    FnOk P w K mg base CX0 7 f fd ["self", "homes"] (spTakeCs K CDisk CLayout CReading) := by
  refine F.ok sc_Reading_take_copies (fun vs H Q E h => ?_) (fun cdv A outer s H vs Q E hr h => ?_)
  · obtain ⟨_, _, _, _, _, _, _, _, _, _, _, _, _, _, _, _, _, _, rfl, _⟩ := h
    rfl
  · obtain ⟨r, lc, lr, L, d, t, fd, num, place, left, sl, ho, n, m, D, cs, rs, hs, rfl, hRd, env, hp, ht, k⟩ := h
    have nd := sc_Reading_take_copies.nd
    obtain ⟨cl, n1, n2, n3, n4, n5, n6, n7⟩ := T
    have hsl := env.lay.s1
    refine ⟨_, (pss_cons (ps_for PassesOwn.never rfl (pi_tpl (K := K) (pv 1)) (pg_name (i := 2) nd rfl (by first | exact Or.inl rfl | exact Or.inr rfl))
      (pss_cons (ps_set (i := 3) nd rfl (by first | exact Or.inl rfl | exact Or.inr rfl) (C8.pe_mt0 M_Reading_take hr (by decide) (pv 0)))
      (pss_cons (ps_if (PW.pt (pw_or (pt_cmpR op_isNA (pv 3) pe_non (nomark _)) (pw_or1 (pt_cmpR (op_neA (K := K) hr.units) (pe_ix (ix_any (K := K)) (pv 3) pe_int (fun _ _ => rfl)) pe_str (nomark _))))) (pss_one (ps_ret pe_bl)) pss_nil)
      (pss_one (ps_expr (pe_bm PySem.F.plainAttrs_list PySem.F.slot_list_append PySem.F.type_list_append mt_append (pe_fldA (K := K) (pv 0)) (pa_cons (pe_tup (pa_cons (pv 2) (pa_cons (pe_ix (ix_any (K := K)) (pv 3) pe_int (fun _ _ => rfl)) pa_nil))) pa_nil)))))))
      (pss_one (ps_ret pe_bl))), ?_⟩
    repeat walk_at "s"
    refine forT ht (fun i σ H' => ∃ o2 o3 p l cs', σ = [some (.ref r), some (.ref t), o2, o3] ∧ But [r, lc, lr] H H' ∧ RdAt K CReading H' r lc lr L d num p l cs' rs ∧ p < sl ∧ l ≤ left ∧
        takeC sl (D.rc num) (hs.drop i) p l cs' = takeC sl (D.rc num) hs place left cs)
      ⟨_, _, place, left, cs, rfl, .refl, hRd, hp, Nat.le_refl _, rfl⟩ ?_ ?_ ?_
    · rintro i σ H1 hi ⟨o2, o3, p, l, cs', rfl, b1, hR1, hp1, hl1, e1⟩
      exact b1.sqT ht
    · rintro i x σ H1 hi ⟨o2, o3, p, l, cs', rfl, b1, hR1, hp1, hl1, e1⟩
      obtain ⟨hm, hhm, rfl⟩ := map_getG hi
      rw [takeC_at hhm] at e1
      rw [← e1] at k
      have env1 := env.but b1 (fun _ q => q)
      obtain ⟨⟨dx, xc, hRx, hlc, hxc⟩, hlr, d1, d2, d3, nl, bb1, bb2⟩ := id hR1
      repeat walk_at "s"
      refine r_methAt hRx (by with_unfolding_all rfl) ?_
      repeat walk_at "s"
      refine ⟨r, lc, lr, L, d, fd, num, p, l, sl, ho, n, m, D, cs', rs, rfl, hR1, env1, hp1, fun hl => ?_, fun hl v H2 b2 hR2 hv => ?_⟩
      · rw [if_pos hl] at k
        repeat walk_at "s"
        refine r_iteT rfl ?_
        refine r_iteT rfl ?_
        repeat walk_at "s"
        exact k H1 b1
      · rw [if_neg (by omega)] at k e1
        repeat walk_at "s"
        have b12 : But [r, lc, lr] H H2 := b1.trans (b2.sub (by simp))
        cases hrc : D.rc num p with
        | none =>
          rw [hrc] at hv k
          subst hv
          refine r_iteT rfl ?_
          refine r_iteT rfl ?_
          repeat walk_at "s"
          exact k H2 b12
        | some rc =>
          rw [hrc] at hv k e1
          obtain ⟨q, kd, tl, rfl, hq, hm⟩ := rc_fst hv.1
          refine r_iteF rfl ?_
          repeat walk_at "s"
          cases rc with
          | commit =>
            obtain ⟨rfl, rfl⟩ := hm
            refine r_iteT (by decide +kernel) ?_
            repeat walk_at "s"
            exact k H2 b12
          | revoke hs' =>
            obtain ⟨rfl, _⟩ := hm
            refine r_iteT (by decide +kernel) ?_
            repeat walk_at "s"
            exact k H2 b12
          | desc hs' =>
            obtain ⟨rfl, _⟩ := hm
            refine r_iteT (by decide +kernel) ?_
            repeat walk_at "s"
            exact k H2 b12
          | copy dv =>
            obtain ⟨rfl, y, rfl, hy⟩ := hm
            refine r_iteF (by decide +kernel) ?_
            obtain ⟨⟨dx2, xc2, hRx2, hlc2, hxc2⟩, hlr2, _, _, _, _, bb12, bb22⟩ := hR2
            have cl2 : xc2.length ≤ 64 := by rw [hxc2.length, List.length_map]; omega
            repeat walk_at "s"
            refine r_newT (sz (Nat.le_of_ble_eq_true rfl)) (fun T H3 hT s3 hT3 => ?_)
            repeat walk_at "s"
            refine r_app (s3 _ _ hlc2) (szl (by omega)) (fun H4 b4 hlc4 => ?_)
            have b24 : But [lc] H2 H4 := (But.of_same s3).trans b4
            have nly : noL dv = true := by
              have := hv.2
              have e : noL (rcD num (.copy dv)) = (true && (true && (noL dv && true))) := rfl
              rw [e] at this
              simpa using this
            have yd : Dn K [] H4 y dv := hy.nlb nly b24
            refine ⟨_, _, (p + 1) % sl, l - 1, cs' ++ [(hm, dv)], rfl, b12.trans (b24.sub (by simp)), ⟨⟨dx2, _, b24.at hRx2 (by simpa using d1), hlc4, ?_⟩, b24.at hlr2 (by simpa using d3.symm), d1, d2, d3, ?_, ?_, ?_⟩, Nat.mod_lt _ (by omega), by omega, e1⟩
            · rw [List.map_append]
              exact (hxc2.nlb (noLs_map fun c hc => nol_dWr (nl c hc)) b24).snoc (.tup (SqT.of (b4.tup hT3)) (.cons (.int _) (.one yd)))
            · intro c hc
              rcases List.mem_append.mp hc with hc | hc
              · exact nl c hc
              · rw [List.mem_singleton.mp hc]; exact nly
            · rw [List.length_append, List.length_singleton]; omega
            · omega
    · rintro σ H1 ⟨o2, o3, p, l, cs', rfl, b1, hR1, hp1, hl1, e1⟩
      rw [List.length_map, List.drop_length] at e1
      rw [← e1] at k
      repeat walk_at "s"
      exact k H1 b1 hp1 hl1 hR1
end
end L24

open PySem L2 PyProof.Rows J

namespace L24
section
variable {P : Program} {w : World} {K : PySem.W.Frag} {mg : Str → Option Value} {base : Heap} {CDisk CLayout CReading : Addr}
def spComplete (K : PySem.W.Frag) (CDisk CLayout CReading : Addr) : Sp := fun vs H Q _ => ∃ (r lc lr L d : Addr) (fd : List Addr) (num : Int) (place left s h n m fuel : Nat) (D : DM) (cs : List (Int × PyData)) (rs : List Int), vs = [.ref r] ∧
  RdAt K CReading H r lc lr L d num place left cs rs ∧ RdEnv K CDisk CLayout H [r, lc, lr] L d fd s h n m D ∧ place < s ∧ left < fuel ∧
  (match complete s (D.rc num) fuel place left cs rs with
    | none => ∀ H', But [r, lc, lr] H H' → Q (.bl false) H'
    | some (cs', rs', next) => ∀ H' l', But [r, lc, lr] H H' → next < s → RdAt K CReading H' r lc lr L d num next l' cs' rs' → Q (.bl true) H')
theorem complete_eq {s : Nat} {rec : Nat → Option Rc} {fuel p l : Nat} {cs : List (Int × PyData)} {rs : List Int} (h : l < fuel) : complete s rec fuel p l cs rs = if l = 0 then none else match rec p with
    | some .commit => some (cs, rs, (p + 1) % s)
    | some (.revoke hs) => complete s rec (fuel - 1) ((p + 1) % s) (l - 1) cs (rs ++ hs)
    | some (.desc hs) => (match takeC s rec hs ((p + 1) % s) (l - 1) cs with
      | some (p', l', cs') => complete s rec (fuel - 1) p' l' cs' rs
      | none => none)
    | _ => none := by
  obtain ⟨f, rfl⟩ : ∃ f, fuel = f + 1 := ⟨fuel - 1, by omega⟩
  rfl
abbrev s_Reading_is_complete : Stmt := inClass (top 27) 3
abbrev N_Reading_is_complete : List Str := ["self", "record"]
theorem sc_Reading_is_complete : FnScope N_Reading_is_complete ["self"] (defScope s_Reading_is_complete) :=
  ⟨rfl, rfl, rfl, by decide +kernel, rfl, by decide +kernel, by decide +kernel⟩

theorem ok_Reading_is_complete {f : Addr} {fd : FuncData} (F : Fun K "is_complete" "Reading.is_complete" s_Reading_is_complete f fd) (T : TRd K CReading) (M_Reading_take : C8.Met P w K mg base 6 CReading "take" (spTake K CDisk CLayout CReading) [])
    (M_Reading_take_copies : C8.Met P w K mg base 7 CReading "take_copies" (spTakeCs K CDisk CLayout CReading) []) :
    FnOk P w K mg base CX0 8 f fd ["self"] (spComplete K CDisk CLayout CReading) := by
  refine F.ok sc_Reading_is_complete (fun vs H Q E h => ?_) (fun cdv A outer s H vs Q E hr h => ?_)
  · obtain ⟨_, _, _, _, _, _, _, _, _, _, _, _, _, _, _, _, _, rfl, _⟩ := h
    rfl
  · obtain ⟨r, lc, lr, L, d, fd, num, place, left, sl, ho, n, m, fuel, D, cs, rs, rfl, hRd, env, hp, hf, k⟩ := h
    have nd := sc_Reading_is_complete.nd
    obtain ⟨cl, n1, n2, n3, n4, n5, n6, n7⟩ := T
    have hsl := env.lay.s1
    refine ⟨_, (pss_one (ps_while PassesOwn.never (pt_tru (K := K) pe_bl)
      (pss_cons (ps_set (i := 1) nd rfl (by first | exact Or.inl rfl | exact Or.inr rfl) (C8.pe_mt0 M_Reading_take hr (by decide) (pv 0)))
      (pss_cons (ps_if (PW.pt (pw_or (pt_cmpR op_isNA (pv 1) pe_non (nomark _)) (pw_or1 (pt_cmpR (op_eqA (K := K) hr.units) (pe_ix (ix_any (K := K)) (pv 1) pe_int (fun _ _ => rfl)) pe_str (nomark _))))) (pss_one (ps_ret pe_bl)) pss_nil)
      (pss_cons (ps_if (pt_cmpR (op_eqA (K := K) hr.units) (pe_ix (ix_any (K := K)) (pv 1) pe_int (fun _ _ => rfl)) pe_str (nomark _)) (pss_one (ps_ret pe_bl)) pss_nil)
      (pss_one (ps_if (pt_cmpR (op_eqA (K := K) hr.units) (pe_ix (ix_any (K := K)) (pv 1) pe_int (fun _ _ => rfl)) pe_str (nomark _)) (pss_one (ps_fldaugA (K := K) (pv 0) (pe_ix (ix_any (K := K)) (pv 1) pe_int (fun _ _ => rfl)) (in_ofR (ip_addTA (K := K))))) (pss_one (ps_if (pt_not (pt_tru (K := K) (C8.pe_mt M_Reading_take_copies hr (by decide) (pv 0) (pa_cons (pe_ix (ix_any (K := K)) (pv 1) pe_int (fun _ _ => rfl)) pa_nil)))) (pss_one (ps_ret pe_bl)) pss_nil))))))))), ?_⟩
    repeat walk_at "s"
    refine whileT (m0 := left) (fun l σ H' => ∃ o1 p cs' rs' fuel', σ = [some (.ref r), o1] ∧ But [r, lc, lr] H H' ∧ RdAt K CReading H' r lc lr L d num p l cs' rs' ∧ p < sl ∧ l < fuel' ∧
        complete sl (D.rc num) fuel' p l cs' rs' = complete sl (D.rc num) fuel place left cs rs)
      ⟨_, place, cs, rs, fuel, rfl, .refl, hRd, hp, hf, rfl⟩ ?_
    rintro l σ H1 ⟨o1, p, cs', rs', fuel', rfl, b1, hR1, hp1, hf1, e1⟩
    rw [complete_eq hf1] at e1
    rw [← e1] at k
    have env1 := env.but b1 (fun _ q => q)
    obtain ⟨⟨dx, xc, hRx, hlc, hxc⟩, hlr, d1, d2, d3, nl, bb1, bb2⟩ := id hR1
    repeat walk_at "s"
    refine r_methAt hRx (by with_unfolding_all rfl) ?_
    repeat walk_at "s"
    refine ⟨r, lc, lr, L, d, fd, num, p, l, sl, ho, n, m, D, cs', rs', rfl, hR1, env1, hp1, fun hl => ?_, fun hl v H2 b2 hR2 hv => ?_⟩
    · rw [if_pos hl] at k
      repeat walk_at "s"
      refine r_iteT rfl ?_
      refine r_iteT rfl ?_
      repeat walk_at "s"
      exact k H1 b1
    rw [if_neg (by omega)] at k e1
    repeat walk_at "s"
    have b12 : But [r, lc, lr] H H2 := b1.trans (b2.sub (by simp))
    cases hrc : D.rc num p with
    | none =>
      rw [hrc] at hv k
      subst hv
      refine r_iteT rfl ?_
      refine r_iteT rfl ?_
      repeat walk_at "s"
      exact k H2 b12
    | some rc =>
      rw [hrc] at hv k e1
      obtain ⟨q, kd, tl, rfl, hq, hm⟩ := rc_fst hv.1
      refine r_iteF rfl ?_
      repeat walk_at "s"
      cases rc with
      | copy dv =>
        obtain ⟨rfl, _⟩ := hm
        refine r_iteT (by decide +kernel) ?_
        repeat walk_at "s"
        exact k H2 b12
      | commit =>
        obtain ⟨rfl, rfl⟩ := hm
        refine r_iteF (by decide +kernel) ?_
        repeat walk_at "s"
        refine r_iteT (by decide +kernel) ?_
        repeat walk_at "s"
        exact k H2 (l - 1) b12 (Nat.mod_lt _ (by omega)) hR2
      | revoke hs =>
        obtain ⟨rfl, t, rfl, ht⟩ := hm
        have hs8 : hs.length ≤ 8 := parse_len (.inl hrc)
        refine r_iteF (by decide +kernel) ?_
        repeat walk_at "s"
        refine r_iteF (by decide +kernel) ?_
        repeat walk_at "s"
        refine r_iteT (by decide +kernel) ?_
        obtain ⟨⟨dx2, xc2, hRx2, hlc2, hxc2⟩, hlr2, _, _, _, _, bb12, bb22⟩ := hR2
        repeat walk_at "s"
        refine r_augAt hRx2 cl n7 (by with_unfolding_all rfl) ?_
        repeat walk_at "s"
        refine r_extT hlr2 ht (sz (by simp only [List.length_map]; omega)) (fun H3 b3 hlr3 => ?_)
        refine r_putAt (b3.at hRx2 (by simpa using d2)) (Nat.le_of_ble_eq_true rfl) (fun H4 b4 hR4 => ?_)
        rw [← List.map_append] at hlr3
        have b24 : But [r, lc, lr] H2 H4 := (b3.sub (by simp)).trans (b4.sub (by simp))
        refine ⟨l - 1, by omega, _, (p + 1) % sl, cs', rs' ++ hs, fuel' - 1, rfl, b12.trans b24, ⟨⟨dx2, xc2, hR4, b4.at (b3.at hlc2 (by simpa using d3)) (by simpa using d1.symm), hxc2.nlb (noLs_map fun c hc => nol_dWr (nl c hc)) b24⟩, b4.at hlr3 (by simpa using d2.symm), d1, d2, d3, nl, by omega, by rw [List.length_append]; omega⟩, Nat.mod_lt _ (by omega), by omega, e1⟩
      | desc hs =>
        obtain ⟨rfl, t, rfl, ht⟩ := hm
        refine r_iteF (by decide +kernel) ?_
        repeat walk_at "s"
        refine r_iteF (by decide +kernel) ?_
        repeat walk_at "s"
        refine r_iteF (by decide +kernel) ?_
        obtain ⟨⟨dx2, xc2, hRx2, hlc2, hxc2⟩, hlr2, _, _, _, _, bb12, bb22⟩ := id hR2
        repeat walk_at "s"
        refine r_methAt hRx2 (by with_unfolding_all rfl) ?_
        repeat walk_at "s"
        refine ⟨r, lc, lr, L, d, t, fd, num, (p + 1) % sl, l - 1, sl, ho, n, m, D, cs', rs', hs, rfl, hR2, env.but b12 (fun _ q => q), Nat.mod_lt _ (by omega), ht, ?_⟩
        cases htk : takeC sl (D.rc num) hs ((p + 1) % sl) (l - 1) cs' with
        | none =>
          simp only [htk] at k
          intro H3 b3
          repeat walk_at "s"
          refine r_iteT rfl ?_
          repeat walk_at "s"
          exact k H3 (b12.trans b3)
        | some pr =>
          obtain ⟨p', l', cs2⟩ := pr
          simp only [htk] at e1
          intro H3 b3 hp' hl' hR3
          repeat walk_at "s"
          refine r_iteF rfl ?_
          repeat walk_at "s"
          exact ⟨l', by omega, _, p', cs2, rs', fuel' - 1, rfl, b12.trans b3, hR3, hp', by omega, e1⟩
/-! ### transaction_at -/
def spTxAt (K : PySem.W.Frag) (CDisk CLayout : Addr) : Sp := fun vs H Q _ => ∃ (L d : Addr) (fd : List Addr) (num : Int) (slot s h n m : Nat) (D : DM), vs = [.ref L, .ref d, .int num, .int slot] ∧ LayAt CLayout H L s h ∧ DiskAt K CDisk H d fd n m D ∧ 1 + s ≤ n ∧ slot < s ∧ 1 ≤ num ∧
  (match txAt s D num slot with
    | none => ∀ H', Same H H' → Q .non H'
    | some (cs, rs, next) => ∀ t lc lr xc H', Same H H' → H lc = none → H lr = none → lc ≠ lr → SqT K H' t [.ref lc, .ref lr, .int next] → next < s → H' lc = some (.lst xc) → DnAll K [] H' xc (cs.map dWr) → (∀ c ∈ cs, noL c.2 = true) → cs.length ≤ 64 → rs.length ≤ 512 →
        H' lr = some (.lst (rs.map V.int)) → Q (.ref t) H')
abbrev s_transaction_at : Stmt := top 28
abbrev N_transaction_at : List Str := ["layout", "disk", "number", "slot", "reading"]
theorem sc_transaction_at : FnScope N_transaction_at ["layout", "disk", "number", "slot"] (defScope s_transaction_at) :=
  ⟨rfl, rfl, rfl, by decide +kernel, rfl, by decide +kernel, by decide +kernel⟩

theorem ok_transaction_at {f : Addr} {fd : FuncData} (F : Fun K "transaction_at" "transaction_at" s_transaction_at f fd) (T : TRd K CReading) (C_is_integer : Cl P w K mg base CX0 1 "is_integer" (spIsInt K))
    (M_Layout_slot_block : C8.Met P w K mg base 3 CLayout "slot_block" (spSlotBlock CLayout) []) (N_Reading : C8.Mak P w K mg base 2 "Reading" CReading (spRdInit K CDisk CLayout CReading) [])
    (M_Reading_is_complete : C8.Met P w K mg base 8 CReading "is_complete" (spComplete K CDisk CLayout CReading) []) :
    FnOk P w K mg base CX0 9 f fd ["layout", "disk", "number", "slot"] (spTxAt K CDisk CLayout) := by
  refine F.ok sc_transaction_at (fun vs H Q E h => ?_) (fun cdv A outer s H vs Q E hr h => ?_)
  · obtain ⟨_, _, _, _, _, _, _, _, _, _, rfl, _⟩ := h
    rfl
  · obtain ⟨L, d, fd, num, slot, sl, ho, n, m, D, rfl, hL, hD, hn, hslot, hnum, k⟩ := h
    have nd := sc_transaction_at.nd
    obtain ⟨cl, n1, n2, n3, n4, n5, n6, n7⟩ := T
    obtain ⟨dl, hLx⟩ := hL.ex
    refine ⟨_, (pss_cons (ps_expr (C8.pe_mt M_Layout_slot_block hr (by decide) (pv 0) (pa_cons (pv 3) pa_nil)))
      (pss_cons (ps_if (PW.pt (pw_or (pt_not (pt_tru (K := K) (pe_cl (E := fun _ => E0) C_is_integer hr (by decide) pass00 (pa_cons (pv 2) pa_nil)))) (pw_or1 (pt_cmpR op_ltA (pv 2) pe_int (nomark _))))) (pss_one (ps_dead)) pss_nil)
      (pss_cons (ps_set (i := 4) nd rfl (by first | exact Or.inl rfl | exact Or.inr rfl) (C8.pe_mk N_Reading hr (by decide) rfl (pa_cons (pv 0) (pa_cons (pv 1) (pa_cons (pv 2) (pa_cons (pv 3) pa_nil))))))
      (pss_cons (ps_if (pt_not (pt_tru (K := K) (C8.pe_mt0 M_Reading_is_complete hr (by decide) (pv 4)))) (pss_one (ps_ret pe_non)) pss_nil)
      (pss_one (ps_ret (pe_tup (pa_cons (pe_fldA (K := K) (pv 4)) (pa_cons (pe_fldA (K := K) (pv 4)) (pa_cons (pe_fldA (K := K) (pv 4)) pa_nil)))))))))), ?_⟩
    repeat walk_at "s"
    refine r_methAt hLx (by with_unfolding_all rfl) ?_
    repeat walk_at "s"
    refine ⟨L, sl, ho, slot, rfl, hL, by omega, by omega, ?_⟩
    repeat walk_at "s"
    refine ⟨_, [], .int num, rfl, .int _, ?_⟩
    repeat walk_at "s"
    refine r_iteF rfl ?_
    repeat walk_at "s"
    refine r_iteF (decide_eq_false (by omega)) ?_
    repeat walk_at "s"
    refine r_makeAt (fun r dx H1 hr0 s1 hr1 => ?_)
    have hrL : r ≠ L := fun z => hL.live (z ▸ hr0)
    refine ⟨r, dx, L, d, num, slot, sl, ho, rfl, hr1, hL.same s1, hrL, fun lc lr H2 hlc hlr b2 hRd => ?_⟩
    refine ⟨rfl, ?_⟩
    have f1 : H lc = none := fr_le (le_same .refl s1) hlc
    have f2 : H lr = none := fr_le (le_same .refl s1) hlr
    have s02 : Same H H2 := (bt_but (bt_same .refl s1) b2 (bc_fr hr0 bc_nil)).same
    have env2 : RdEnv K CDisk CLayout H2 [r, lc, lr] L d fd sl ho n m D := by
      refine ⟨hL.same s02, hD.same s02, hn, ?_, ?_⟩
      · intro z
        simp only [List.mem_cons, List.not_mem_nil, or_false] at z
        rcases z with rfl | rfl | rfl
        · exact hrL rfl
        · exact hL.live f1
        · exact hL.live f2
      · intro t ht z
        have lv := hD.live t ht
        simp only [List.mem_cons, List.not_mem_nil, or_false] at z
        rcases z with rfl | rfl | rfl
        · exact lv hr0
        · exact lv f1
        · exact lv f2
    obtain ⟨⟨dx2, xc, hRx, _⟩, _⟩ := id hRd
    repeat walk_at "s"
    refine r_methAt hRx (by with_unfolding_all rfl) ?_
    repeat walk_at "s"
    refine ⟨r, lc, lr, L, d, fd, num, slot, sl, sl, ho, n, m, sl + 1, D, [], [], rfl, hRd, env2, hslot, by omega, ?_⟩
    have bfr : ∀ {H3 : Hp}, But [r, lc, lr] H2 H3 → Same H H3 := fun b => (bt_but (bt_same .refl s02) b (bc_fr hr0 (bc_fr f1 (bc_fr f2 bc_nil)))).same
    unfold txAt at k
    cases hc : complete sl (D.rc num) (sl + 1) slot sl [] [] with
    | none =>
      rw [hc] at k
      intro H3 b3
      repeat walk_at "s"
      refine r_iteT rfl ?_
      repeat walk_at "s"
      exact k H3 (bfr b3)
    | some pr =>
      obtain ⟨cs, rs, next⟩ := pr
      rw [hc] at k
      intro H3 l' b3 hnx hR3
      obtain ⟨⟨dx3, xc3, hRx3, hlc3, hxc3⟩, hlr3, d1, d2, d3, nl, bb1, bb2⟩ := hR3
      have s03 := bfr b3
      clear b3
      repeat walk_at "s"
      refine r_iteF rfl ?_
      repeat walk_at "s"
      refine r_newT (sz (Nat.le_of_ble_eq_true rfl)) (fun t H4 ht s4 ht4 => ?_)
      exact k t lc lr xc3 H4 (fun b o e => s4 b o (s03 b o e)) f1 f2 d3 (.of ht4) hnx (s4 _ _ hlc3) (hxc3.same s4) nl (by omega) (by omega) (s4 _ _ hlr3)
end
end L24

open PySem L2 PyProof.Rows J

namespace L24
abbrev Tx := Int × List (Int × PyData) × List Int
def dTx (t : Tx) : PyData := .tuple [.int t.1, .list (t.2.1.map dWr), .list (t.2.2.map .int)]
section
variable {P : Program} {w : World} {K : PySem.W.Frag} {mg : Str → Option Value} {base : Heap} {CDisk CLayout CReading : Addr}
def hdD (num : Int) (slot : Nat) : PyData := .tuple [.str "tail", .int num, .int slot]
def spTail (K : PySem.W.Frag) (CDisk CLayout : Addr) : Sp := fun vs H Q _ => ∃ (L d : Addr) (fd : List Addr) (num : Int) (slot s h n m : Nat) (D : DM), vs = [.ref L, .ref d] ∧ LayAt CLayout H L s h ∧ DiskAt K CDisk H d fd n m D ∧ D.read 0 = hdD num slot ∧ slot < s ∧ 1 ≤ num ∧
  ∀ t H', Same H H' → SqT K H' t [.int num, .int slot] → Q (.ref t) H'
abbrev s_tail_of : Stmt := top 30
abbrev N_tail_of : List Str := ["layout", "disk", "thing", "number", "slot"]
theorem sc_tail_of : FnScope N_tail_of ["layout", "disk"] (defScope s_tail_of) :=
  ⟨rfl, rfl, rfl, by decide +kernel, rfl, by decide +kernel, by decide +kernel⟩

theorem ok_tail_of {f : Addr} {fd : FuncData} (F : Fun K "tail_of" "tail_of" s_tail_of f fd) (B : Bl mg) (C_is_integer : Cl P w K mg base CX0 1 "is_integer" (spIsInt K))
    (C_is_between : ClK P w K mg base CX0 2 "is_between" 1 ["low", "high"] (spBet K)) (M_Disk_read : C8.Met P w K mg base 4 CDisk "read" (spRead K CDisk) []) (M_Layout_slots : C8.Met P w K mg base 1 CLayout "slots" (spLayI CLayout fun s _ => s) []) :
    FnOk P w K mg base CX0 5 f fd ["layout", "disk"] (spTail K CDisk CLayout) := by
  refine F.ok sc_tail_of (fun vs H Q E h => ?_) (fun cdv A outer s H vs Q E hr h => ?_)
  · obtain ⟨_, _, _, _, _, _, _, _, _, _, rfl, _⟩ := h
    rfl
  · obtain ⟨L, d, fd, num, slot, sl, ho, n, m, D, rfl, hL, hD, hh, hslot, hnum, k⟩ := h
    have nd := sc_tail_of.nd
    obtain ⟨dl, hLx⟩ := hL.ex
    obtain ⟨dx, l1, l2, l3, l4, x1, x2, x3, x4, efd, hnd, h0, _⟩ := hD.ex
    have hn1 := hD.ok.n1
    refine ⟨_, (pss_cons (ps_set (i := 2) nd rfl (by first | exact Or.inl rfl | exact Or.inr rfl) (C8.pe_mt M_Disk_read hr (by decide) (pv 1) (pa_cons pe_int pa_nil)))
      (pss_cons (ps_if (PW.pt (pw_or (pt_not (pt_tru (K := K) (pe_callB (call_isiA (K := K)) rfl B.isinstance (by decide +kernel) (pa_cons (pv 2) (pa_cons (pe_tyN (T := "tuple") rfl B.tuple (by decide +kernel)) pa_nil))))) (pw_or (pt_cmpR (op_neA (K := K) hr.units) (pe_callB (call_lenA (K := K)) rfl B.len PySem.boot_len (pa_cons (pv 2) pa_nil)) pe_int (nomark _)) (pw_or1 (pt_cmpR (op_neA (K := K) hr.units) (pe_ix (ix_any (K := K)) (pv 2) pe_int (fun _ _ => rfl)) pe_str (nomark _)))))) (pss_one (ps_dead)) pss_nil)
      (pss_cons (ps_par (i := 3) (j := 4) rfl nd rfl rfl (by decide) rfl rfl (pa_cons (pe_ix (ix_any (K := K)) (pv 2) pe_int (fun _ _ => rfl)) (pa_cons (pe_ix (ix_any (K := K)) (pv 2) pe_int (fun _ _ => rfl)) pa_nil)) (by rfl))
      (pss_cons (ps_if (PW.pt (pw_or (pt_not (pt_tru (K := K) (pe_cl (E := fun _ => E0) C_is_integer hr (by decide) pass00 (pa_cons (pv 3) pa_nil)))) (pw_or (pt_cmpR op_ltA (pv 3) pe_int (nomark _)) (pw_or1 (pt_not (pt_tru (K := K) (pe_clK C_is_between hr (by decide) (pa_cons (pv 4) pa_nil) (pk_cons pe_int (pk_cons (pe_op op_sub (C8.pe_mt0 M_Layout_slots hr (by decide) (pv 0)) pe_int) pk_nil))))))))) (pss_one (ps_dead)) pss_nil)
      (pss_one (ps_ret (pe_tup (pa_cons (pv 3) (pa_cons (pv 4) pa_nil))))))))), ?_⟩
    repeat walk_at "s"
    refine r_methAt h0 (by with_unfolding_all rfl) ?_
    repeat walk_at "s"
    refine ⟨d, fd, n, m, D, 0, rfl, hD, by omega, by omega, fun v hv => ?_⟩
    rw [hh] at hv
    obtain ⟨p, xs, rfl, h1, h2⟩ := Dn.tup_inv (ds := [.str "tail", .int num, .int slot]) hv
    obtain ⟨a, _, rfl, h3, h4⟩ := h2.cons_inv
    obtain ⟨b, _, rfl, h5, h6⟩ := h4.cons_inv
    obtain ⟨c, _, rfl, h7, h8⟩ := h6.cons_inv
    obtain rfl := h8.nil_inv
    obtain rfl := h3.str_inv
    obtain rfl := h5.int_inv
    obtain rfl := h7.int_inv
    repeat walk_at "s"
    refine r_isTup hv ?_
    repeat walk_at "s"
    refine r_iteF rfl ?_
    repeat walk_at "s"
    refine r_lenT h1 ?_
    repeat walk_at "s"
    refine r_iteF rfl ?_
    repeat walk_at "s"
    refine r_iteF (by decide +kernel) ?_
    repeat walk_at "s"
    refine ⟨_, [], .int num, rfl, .int _, ?_⟩
    repeat walk_at "s"
    refine r_iteF rfl ?_
    repeat walk_at "s"
    refine r_iteF (decide_eq_false (by omega)) ?_
    repeat walk_at "s"
    refine r_methAt hLx (by with_unfolding_all rfl) ?_
    repeat walk_at "s"
    refine ⟨L, sl, ho, rfl, hL, ?_⟩
    dsimp only
    repeat walk_at "s"
    refine ⟨_, [], .int slot, 0, _, rfl, .int _, ?_⟩
    rw [bet_iff.mpr ⟨by omega, by omega⟩]
    repeat walk_at "s"
    refine r_iteF rfl ?_
    repeat walk_at "s"
    refine r_newT (sz (Nat.le_of_ble_eq_true rfl)) (fun t H1 ht s1 ht1 => ?_)
    exact k t H1 s1 (.of ht1)
def spScanned (K : PySem.W.Frag) (CDisk CLayout : Addr) : Sp := fun vs H Q _ => ∃ (L d : Addr) (fd : List Addr) (num : Int) (slot s h n m : Nat) (D : DM), vs = [.ref L, .ref d] ∧ LayAt CLayout H L s h ∧ DiskAt K CDisk H d fd n m D ∧ 1 + s ≤ n ∧ D.read 0 = hdD num slot ∧ slot < s ∧ 1 ≤ num ∧
  ∀ t l xs H', Same H H' → H l = none → SqT K H' t [.ref l, .int (scanGo s D (s + 1) num slot s []).2.1, .int (scanGo s D (s + 1) num slot s []).2.2] → H' l = some (.lst xs) → (∀ S, Live S H → DnAll K (l :: S) H' xs ((scanGo s D (s + 1) num slot s []).1.map dTx)) →
    (scanGo s D (s + 1) num slot s []).1.length ≤ 64 → Q (.ref t) H'
theorem scanGo_eq {s : Nat} {D : DM} {fuel slot left : Nat} {num : Int} {found : List Tx} (h : left < fuel) : scanGo s D fuel num slot left found = match txAt s D num slot with
    | none => (found, num, slot)
    | some (cs, rs, next) => if ((next : Int) - slot - 1) % s + 1 > left then (found, num, slot) else scanGo s D (fuel - 1) (num + 1) next (left - (((next : Int) - slot - 1) % s + 1).toNat) (found ++ [(num, cs, rs)]) := by
  obtain ⟨f, rfl⟩ : ∃ f, fuel = f + 1 := ⟨fuel - 1, by omega⟩
  rfl
abbrev s_scanned : Stmt := top 31
abbrev N_scanned : List Str := ["layout", "disk", "number", "slot", "left", "found", "told", "taken"]
theorem sc_scanned : FnScope N_scanned ["layout", "disk"] (defScope s_scanned) :=
  ⟨rfl, rfl, rfl, by decide +kernel, rfl, by decide +kernel, by decide +kernel⟩

theorem ok_scanned {f : Addr} {fd : FuncData} (F : Fun K "scanned" "scanned" s_scanned f fd) (C_tail_of : Cl P w K mg base CX0 5 "tail_of" (spTail K CDisk CLayout)) (C_transaction_at : Cl P w K mg base CX0 9 "transaction_at" (spTxAt K CDisk CLayout))
    (M_Layout_slots : C8.Met P w K mg base 1 CLayout "slots" (spLayI CLayout fun s _ => s) []) :
    FnOk P w K mg base CX0 10 f fd ["layout", "disk"] (spScanned K CDisk CLayout) := by
  refine F.ok sc_scanned (fun vs H Q E h => ?_) (fun cdv A outer s H vs Q E hr h => ?_)
  · obtain ⟨_, _, _, _, _, _, _, _, _, _, rfl, _⟩ := h
    rfl
  · obtain ⟨L, d, fd, num0, slot0, sl, ho, n, m, D, rfl, hL, hD, hn, hh, hslot, hnum, k⟩ := h
    have nd := sc_scanned.nd
    have hsl := hL.s1
    have hsl2 := hL.s2
    refine ⟨_, (pss_cons (ps_asg (pe_cl (E := fun _ => E0) C_tail_of hr (by decide) pass00 (pa_cons (pv 0) (pa_cons (pv 1) pa_nil))) (pg_tpl (K := K) rfl (pgs_cons (pg_name (i := 2) nd rfl (by first | exact Or.inl rfl | exact Or.inr rfl)) (pgs_cons (pg_name (i := 3) nd rfl (by first | exact Or.inl rfl | exact Or.inr rfl)) pgs_nil))))
      (pss_cons (ps_set (i := 4) nd rfl (by first | exact Or.inl rfl | exact Or.inr rfl) (C8.pe_mt0 M_Layout_slots hr (by decide) (pv 0)))
      (pss_cons (ps_set (i := 5) nd rfl (by first | exact Or.inl rfl | exact Or.inr rfl) (pe_lst pa_nil))
      (pss_one (ps_while PassesOwn.never (pt_tru (K := K) pe_bl)
      (pss_cons (ps_set (i := 6) nd rfl (by first | exact Or.inl rfl | exact Or.inr rfl) (pe_cl (E := fun _ => E0) C_transaction_at hr (by decide) pass00 (pa_cons (pv 0) (pa_cons (pv 1) (pa_cons (pv 2) (pa_cons (pv 3) pa_nil))))))
      (pss_cons (ps_if (pt_cmpR op_isNA (pv 6) pe_non (nomark _)) (pss_one (ps_ret (pe_tup (pa_cons (pv 5) (pa_cons (pv 2) (pa_cons (pv 3) pa_nil)))))) pss_nil)
      (pss_cons (ps_set (i := 7) nd rfl (by first | exact Or.inl rfl | exact Or.inr rfl) (pe_op (op_addA (K := K)) (pe_op op_mod (pe_op op_sub (pe_op op_sub (pe_ix (ix_any (K := K)) (pv 6) pe_int (fun _ _ => rfl)) (pv 3)) pe_int) (C8.pe_mt0 M_Layout_slots hr (by decide) (pv 0))) pe_int))
      (pss_cons (ps_if (pt_cmpR op_gt (pv 7) (pv 4) (nomark _)) (pss_one (ps_ret (pe_tup (pa_cons (pv 5) (pa_cons (pv 2) (pa_cons (pv 3) pa_nil)))))) pss_nil)
      (pss_cons (ps_expr (pe_bm PySem.F.plainAttrs_list PySem.F.slot_list_append PySem.F.type_list_append mt_append (pv 5) (pa_cons (pe_tup (pa_cons (pv 2) (pa_cons (pe_ix (ix_any (K := K)) (pv 6) pe_int (fun _ _ => rfl)) (pa_cons (pe_ix (ix_any (K := K)) (pv 6) pe_int (fun _ _ => rfl)) pa_nil)))) pa_nil)))
      (pss_cons (ps_aug (i := 4) nd rfl (by first | exact Or.inl rfl | exact Or.inr rfl) (pv 7) ip_subA)
      (pss_cons (ps_set (i := 3) nd rfl (by first | exact Or.inl rfl | exact Or.inr rfl) (pe_ix (ix_any (K := K)) (pv 6) pe_int (fun _ _ => rfl)))
      (pss_one (ps_aug (i := 2) nd rfl (by first | exact Or.inl rfl | exact Or.inr rfl) pe_int ip_addA)))))))))))))), ?_⟩
    repeat walk_at "s"
    refine ⟨L, d, fd, num0, slot0, sl, ho, n, m, D, rfl, hL, hD, hh, hslot, hnum, fun t H1 s1 ht1 => ?_⟩
    have hL1 := hL.same s1
    obtain ⟨dl, hLx⟩ := hL1.ex
    repeat walk_at "s"
    refine r_methAt hLx (by with_unfolding_all rfl) ?_
    repeat walk_at "s"
    refine ⟨L, sl, ho, rfl, hL1, ?_⟩
    dsimp only
    repeat walk_at "s"
    refine r_newL (sz (Nat.le_of_ble_eq_true rfl)) (fun l H2 hl s2 hl2 => ?_)
    repeat walk_at "s"
    have fl : H l = none := fr_le (le_same .refl s1) hl
    have s02 : Same H H2 := fun b o e => s2 b o (s1 b o e)
    clear s1 s2 hL1 hLx
    refine whileT (m0 := sl) (fun left σ H' => ∃ num slot found xs o6 o7 fuel, σ = [some (.ref L), some (.ref d), some (.int num), some (.int (slot : Nat)), some (.int (left : Nat)), some (.ref l), o6, o7] ∧ But [l] H2 H' ∧ H' l = some (.lst xs) ∧
        (∀ S, Live S H → DnAll K (l :: S) H' xs (found.map dTx)) ∧ found.length + left ≤ 64 ∧ slot < sl ∧ 1 ≤ num ∧ left < fuel ∧ scanGo sl D fuel num slot left found = scanGo sl D (sl + 1) num0 slot0 sl [])
      ⟨num0, slot0, [], [], _, _, sl + 1, rfl, .refl, hl2, fun _ _ => .nil, by simpa using hsl2, hslot, hnum, by omega, rfl⟩ ?_
    rintro left σ H3 ⟨num, slot, found, xs, o6, o7, fuel, rfl, b3, hl3, hxs, hfl, hsl3, hnum3, hfu, e1⟩
    rw [scanGo_eq hfu] at e1
    have s03 : Same H H3 := (bt_but (bt_same .refl s02) b3 (bc_fr fl bc_nil)).same
    have hL3 := hL.same s03
    have hD3 := hD.same s03
    have xl : xs.length = found.length := by rw [(hxs [] Live.nil).length, List.length_map]
    repeat walk_at "s"
    refine ⟨L, d, fd, num, slot, sl, ho, n, m, D, rfl, hL3, hD3, hn, hsl3, hnum3, ?_⟩
    cases htx : txAt sl D num slot with
    | none =>
      rw [htx] at e1
      intro H4 s4
      rw [← e1] at k
      repeat walk_at "s"
      refine r_iteT rfl ?_
      repeat walk_at "s"
      refine r_newT (sz (Nat.le_of_ble_eq_true rfl)) (fun t2 H5 ht2 s5 ht25 => ?_)
      exact k t2 l xs H5 (fun b o e => s5 b o (s4 b o (s03 b o e))) fl (.of ht25) (s5 _ _ (s4 _ _ hl3)) (fun S hS => ((hxs S hS).same s4).same s5) (by simp only; omega)
    | some pr =>
      obtain ⟨cs, rs, next⟩ := pr
      rw [htx] at e1
      dsimp only at e1
      intro t2 lc lr xc H4 s4 hlc hlr hcr ht2 hnx hlc4 hxc4 hnl hcl hrl hlr4
      obtain ⟨dl, hLx⟩ := (hL3.same s4).ex
      repeat walk_at "s"
      refine r_iteF rfl ?_
      repeat walk_at "s"
      refine r_methAt hLx (by with_unfolding_all rfl) ?_
      repeat walk_at "s"
      refine ⟨L, sl, ho, rfl, hL3.same s4, ?_⟩
      dsimp only
      repeat walk_at "s"
      refine r_ite (fun hgt => ?_) (fun hgt => ?_)
      · rw [if_pos hgt] at e1
        rw [← e1] at k
        repeat walk_at "s"
        refine r_newT (sz (Nat.le_of_ble_eq_true rfl)) (fun t3 H5 ht3 s5 ht35 => ?_)
        exact k t3 l xs H5 (fun b o e => s5 b o (s4 b o (s03 b o e))) fl (.of ht35) (s5 _ _ (s4 _ _ hl3)) (fun S hS => ((hxs S hS).same s4).same s5) (by simp only; omega)
      · rw [if_neg hgt] at e1
        have hmod := Int.emod_nonneg ((next : Int) - slot - 1) (b := (sl : Int)) (by omega)
        generalize hta : ((next : Int) - slot - 1) % sl + 1 = taken at e1 hgt
        repeat walk_at "s"
        refine r_newT (sz (Nat.le_of_ble_eq_true rfl)) (fun T H5 hT s5 hT5 => ?_)
        repeat walk_at "s"
        refine r_app (s5 _ _ (s4 _ _ hl3)) (szl (by omega)) (fun H6 b6 hl6 => ?_)
        repeat walk_at "s"
        have b46 : But [l] H4 H6 := (But.of_same s5).trans b6
        have lcl : lc ≠ l := fun z => by rw [z, hl3] at hlc; cases hlc
        have lrl : lr ≠ l := fun z => by rw [z, hl3] at hlr; cases hlr
        have el : ((left : Int) - taken) = ((left - taken.toNat : Nat) : Int) := by omega
        rw [el]
        refine ⟨left - taken.toNat, by omega, num + 1, next, found ++ [(num, cs, rs)], xs ++ [.ref T], _, _, fuel - 1, rfl, (b3.trans (But.of_same s4)).trans b46, hl6, fun S hS => ?_, by rw [List.length_append, List.length_singleton]; omega, hnx, by omega, by omega, e1⟩
        rw [List.map_append]
        have q1 : DnAll K (l :: S) H6 xs (found.map dTx) := ((hxs S hS).same s4).but b46 (by simp)
        have lvS : Live S H3 := hS.but (But.of_same s03 (S := []))
        have nlcS : lc ∉ l :: S := ni_cons lcl (lvS.ne hlc)
        have nlrS : lr ∉ l :: S := ni_cons lrl (lvS.ne hlr)
        refine q1.snoc (.tup (SqT.of (b6.tup hT5)) (.cons (.int _) (.cons (.lst (b46.at hlc4 (by simpa using lcl)) nlcS ?_) (.one (.lst (b46.at hlr4 (by simpa using lrl)) nlrS DnAll.ints)))))
        exact hxc4.nlb (noLs_map fun c hc => nol_dWr (hnl c hc)) b46
def spScan (K : PySem.W.Frag) (CDisk CLayout : Addr) : Sp := fun vs H Q _ => ∃ (L d : Addr) (fd : List Addr) (num : Int) (slot s h n m : Nat) (D : DM), vs = [.ref L, .ref d] ∧ LayAt CLayout H L s h ∧ DiskAt K CDisk H d fd n m D ∧ 1 + s ≤ n ∧ D.read 0 = hdD num slot ∧ slot < s ∧ 1 ≤ num ∧
  ∀ l xs H', Same H H' → H l = none → H' l = some (.lst xs) → (∀ S, Live S H → DnAll K (l :: S) H' xs ((scanGo s D (s + 1) num slot s []).1.map dTx)) →
    (scanGo s D (s + 1) num slot s []).1.length ≤ 64 → Q (.ref l) H'
abbrev s_scan : Stmt := top 32
abbrev N_scan : List Str := ["layout", "disk"]
theorem sc_scan : FnScope N_scan ["layout", "disk"] (defScope s_scan) :=
  ⟨rfl, rfl, rfl, by decide +kernel, rfl, by decide +kernel, by decide +kernel⟩

theorem ok_scan {f : Addr} {fd : FuncData} (F : Fun K "scan" "scan" s_scan f fd) (C_scanned : Cl P w K mg base CX0 10 "scanned" (spScanned K CDisk CLayout)) :
    FnOk P w K mg base CX0 11 f fd ["layout", "disk"] (spScan K CDisk CLayout) := by
  refine F.ok sc_scan (fun vs H Q E h => ?_) (fun cdv A outer s H vs Q E hr h => ?_)
  · obtain ⟨_, _, _, _, _, _, _, _, _, _, rfl, _⟩ := h
    rfl
  · obtain ⟨L, d, fd, num0, slot0, sl, ho, n, m, D, rfl, hL, hD, hn, hh, hslot, hnum, k⟩ := h
    have nd := sc_scan.nd
    refine ⟨_, (pss_one (ps_ret (pe_ix (ix_any (K := K)) (pe_cl (E := fun _ => E0) C_scanned hr (by decide) pass00 (pa_cons (pv 0) (pa_cons (pv 1) pa_nil))) pe_int (fun _ _ => rfl)))), ?_⟩
    repeat walk_at "s"
    refine ⟨L, d, fd, num0, slot0, sl, ho, n, m, D, rfl, hL, hD, hn, hh, hslot, hnum, fun t l xs H1 s1 hl ht hl1 hxs hle => ?_⟩
    repeat walk_at "s"
    exact k l xs H1 s1 hl hl1 hxs hle
end
end L24

open PySem L2 PyProof.Rows J

namespace L24
section
variable {P : Program} {w : World} {K : PySem.W.Frag} {mg : Str → Option Value} {base : Heap}
/-! ### the source of draws -/
def SrcAt (H : Hp) (p : Addr) (n : Int) : Prop :=
  ∃ a b c : Int, H p = some (.lst [.int a, .int b, .int c]) ∧ 0 ≤ b ∧ b < 2147483647 ∧ 0 ≤ c ∧ c ≤ n
theorem SrcAt.mono {H : Hp} {p : Addr} {n m : Int} (h : SrcAt H p n) (l : n ≤ m) : SrcAt H p m := by
  obtain ⟨a, b, c, h1, h2, h3, h4, h5⟩ := h
  exact ⟨a, b, c, h1, h2, h3, h4, by omega⟩
theorem SrcAt.but {H H' : Hp} {p : Addr} {n : Int} {S : List Addr} (h : SrcAt H p n) (b : But S H H') (hp : p ∉ S) : SrcAt H' p n := by
  obtain ⟨a, b1, c, h1, h2, h3, h4, h5⟩ := h
  exact ⟨a, b1, c, b.at h1 hp, h2, h3, h4, h5⟩
theorem SrcAt.same {H H' : Hp} {p : Addr} {n : Int} (h : SrcAt H p n) (b : Same H H') : SrcAt H' p n := h.but (But.of_same (S := []) b) (by simp)
theorem SrcAt.live {H : Hp} {p : Addr} {n : Int} (h : SrcAt H p n) : H p ≠ none := by
  obtain ⟨a, b1, c, h1, _⟩ := h
  exact live_of h1
theorem src_same {H H' : Hp} {p : Addr} {n : Int} (b : Same H H') (h : SrcAt H p n) : SrcAt H' p n := h.same b
theorem src_but {H H' : Hp} {p : Addr} {n : Int} {S : List Addr} (b : But S H H') (h : SrcAt H p n) (hp : p ∉ S) : SrcAt H' p n := h.but b hp
local macro_rules | `(tactic| walk_at "src") => `(tactic| first
  | assumption
  | (refine L24.src_same (by assumption) ?_; walk_at "src")
  | (refine L24.src_but (by assumption) ?_ ?_; walk_at "src"; walk_at "ni"))
def spDraw : Sp := fun vs H Q _ => ∃ (p : Addr) (n size : Int), vs = [.ref p, .int size] ∧ SrcAt H p n ∧ n ≤ 2 ^ 40 ∧
  0 < size ∧ size < 1073741824 ∧ ∀ d H', 0 ≤ d → d < size → But [p] H H' → SrcAt H' p (n + 1) → Q (.int d) H'
abbrev s_law_draw : Stmt := top 36
abbrev N_law_draw : List Str := ["_law_source_here", "_law_size", "_law_digit", "_law_number"]
theorem sc_law_draw : FnScope N_law_draw ["_law_source_here", "_law_size"] (defScope s_law_draw) :=
  ⟨rfl, rfl, rfl, by decide +kernel, rfl, by decide +kernel, by decide +kernel⟩

theorem ok_draw {f : Addr} {fd : FuncData} (F : Fun K "_law_draw" "_law_draw" s_law_draw f fd) :
    FnOk P w K mg base CX0 1 f fd ["_law_source_here", "_law_size"] spDraw := by
  refine F.ok sc_law_draw (fun vs H Q E h => ?_) (fun cdv A outer s H vs Q E hr h => ?_)
  · obtain ⟨_, _, _, rfl, _⟩ := h
    rfl
  · obtain ⟨p, n, size, rfl, ⟨a, b, c, hp, hb0, hb1, hc0, hc1⟩, hn, hs0, hs1, k⟩ := h
    have hu := hu_of hr
    have nd := sc_law_draw.nd
    refine ⟨_, (pss_cons (ps_if (pt_cmpR op_gt (pe_ix (ix_any (K := K)) (pv 0) pe_int (fun _ _ => rfl)) pe_int (nomark _)) (pss_cons (ps_set (i := 2) nd rfl (by first | exact Or.inl rfl | exact Or.inr rfl) (pe_op op_mod (pe_ix (ix_any (K := K)) (pv 0) pe_int (fun _ _ => rfl)) (pv 1)))
      (pss_cons (ps_asg (pe_op op_fdiv (pe_ix (ix_any (K := K)) (pv 0) pe_int (fun _ _ => rfl)) (pv 1)) (pg_sub (pv 0) pe_int set_list))
      (pss_one (ps_ret (pv 2))))) pss_nil)
      (pss_cons (ps_asg (pe_op (op_addA (K := K)) (pe_ix (ix_any (K := K)) (pv 0) pe_int (fun _ _ => rfl)) pe_int) (pg_sub (pv 0) pe_int set_list))
      (pss_cons (ps_set (i := 3) nd rfl (by first | exact Or.inl rfl | exact Or.inr rfl) (pe_op op_mod (pe_op op_pow (pe_op (op_addA (K := K)) (pe_op (op_addA (K := K)) (pe_ix (ix_any (K := K)) (pv 0) pe_int (fun _ _ => rfl)) (pe_op (op_mulA (K := K)) pe_int (pe_ix (ix_any (K := K)) (pv 0) pe_int (fun _ _ => rfl)))) pe_int) pe_int) pe_int))
      (pss_cons (ps_set (i := 3) nd rfl (by first | exact Or.inl rfl | exact Or.inr rfl) (pe_op op_mod (pe_op (op_mulA (K := K)) (pv 3) (pe_op (op_addA (K := K)) (pe_op (op_addA (K := K)) (pe_op op_fdiv (pv 3) pe_int) pe_int) (pe_ix (ix_any (K := K)) (pv 0) pe_int (fun _ _ => rfl)))) pe_int))
      (pss_one (ps_ret (pe_op op_mod (pe_op op_fdiv (pe_op op_mod (pe_op (op_mulA (K := K)) (pv 3) (pe_op (op_addA (K := K)) (pe_op op_fdiv (pv 3) pe_int) pe_int)) pe_int) pe_int) (pv 1)))))))), ?_⟩
    repeat walk_at "s"
    refine r_ite (fun ha => ?_) (fun ha => ?_)
    · repeat walk_at "s"
      refine s_lst hp (by rfl) (fun H' b' hp' => ?_)
      repeat walk_at "s"
      exact k _ _ (Int.emod_nonneg _ (by omega)) (Int.emod_lt_of_pos _ hs0) b' ⟨_, _, _, hp', hb0, hb1, hc0, by omega⟩
    · repeat walk_at "s"
      refine s_lst hp (by rfl) (fun H' b' hp' => ?_)
      repeat walk_at "s"
      exact k _ _ (Int.emod_nonneg _ (by omega)) (Int.emod_lt_of_pos _ hs0) b' ⟨_, _, _, hp', hb0, hb1, by omega, by omega⟩

def spCell (K : PySem.W.Frag) : Sp := fun vs H Q _ => ∃ (a : Addr) (ns : List Int) (k : Int), vs = [.ref a, .int k] ∧ SqL K H a (ns.map V.int) ∧ 0 ≤ k ∧
  ns.length ≤ 100 ∧ ∀ z, Q (.int z) H
abbrev s_law_cell_at : Stmt := top 34
abbrev N_law_cell_at : List Str := ["_law_script", "_law_k"]
theorem sc_law_cell_at : FnScope N_law_cell_at ["_law_script", "_law_k"] (defScope s_law_cell_at) :=
  ⟨rfl, rfl, rfl, by decide +kernel, rfl, by decide +kernel, by decide +kernel⟩

theorem ok_cell {f : Addr} {fd : FuncData} (F : Fun K "_law_cell_at" "_law_cell_at" s_law_cell_at f fd) (B : Bl mg) :
    FnOk P w K mg base CX0 1 f fd ["_law_script", "_law_k"] (spCell K) := by
  refine F.ok sc_law_cell_at (fun vs H Q E h => ?_) (fun cdv A outer s H vs Q E hr h => ?_)
  · obtain ⟨_, _, _, rfl, _⟩ := h
    rfl
  · obtain ⟨a, ns, i, rfl, ha, h0, hl, k⟩ := h
    have hu := hu_of hr
    have nd := sc_law_cell_at.nd
    refine ⟨_, (pss_cons (ps_if (pt_cmpR op_ltA (pv 1) (pe_callB (call_lenA (K := K)) rfl B.len PySem.boot_len (pa_cons (pv 0) pa_nil)) (nomark _)) (pss_one (ps_ret (pe_ix (ix_any (K := K)) (pv 0) (pv 1) (fun _ _ => rfl)))) pss_nil)
      (pss_one (ps_ret pe_int))), ?_⟩
    repeat walk_at "s"
    refine r_ite (fun hi => ?_) (fun hi => ?_)
    · repeat walk_at "s"
      obtain ⟨n, rfl⟩ := Int.eq_ofNat_of_zero_le h0
      rw [List.length_map] at hi
      have hn : n < ns.length := by omega
      refine r_ixL (v := .int (ns[n])) ha (atI_nat (by simp [hn])) ?_
      exact k _
    · repeat walk_at "s"
      exact k _

def spSource : Sp := fun vs H Q _ => ∃ c : Int, vs = [.int c] ∧ ∀ p H', H p = none → Same H H' → SrcAt H' p 0 → Q (.ref p) H'
abbrev s_law_source : Stmt := top 35
abbrev N_law_source : List Str := ["_law_cell"]
theorem sc_law_source : FnScope N_law_source ["_law_cell"] (defScope s_law_source) :=
  ⟨rfl, rfl, rfl, by decide +kernel, rfl, by decide +kernel, by decide +kernel⟩

theorem ok_source {f : Addr} {fd : FuncData} (F : Fun K "_law_source" "_law_source" s_law_source f fd) (B : Bl mg) :
    FnOk P w K mg base CX0 1 f fd ["_law_cell"] spSource := by
  refine F.ok sc_law_source (fun vs H Q E h => ?_) (fun cdv A outer s H vs Q E hr h => ?_)
  · obtain ⟨_, rfl, _⟩ := h
    rfl
  · obtain ⟨c, rfl, k⟩ := h
    have hu := hu_of hr
    have nd := sc_law_source.nd
    refine ⟨_, (pss_one (ps_ret (pe_lst (pa_cons (pe_op (op_mulA (K := K)) (pv 0) (pe_callTy call_int1 rfl B.int (by decide +kernel) (pa_cons (pe_cmpR op_ge (pv 0) (pe_op op_pow pe_int pe_int) (nomark _)) pa_nil))) (pa_cons (pe_op op_mod (pv 0) pe_int) (pa_cons pe_int pa_nil)))))), ?_⟩
    repeat walk_at "s"
    refine .inr ⟨_, rfl, ?_⟩
    refine r_mulI (mulR (by split <;> decide) (by split <;> decide)) ?_
    repeat walk_at "s"
    refine r_newL (sz (by simp)) (fun p H' hp s' hp' => ?_)
    exact k p H' hp s' ⟨_, _, _, hp', Int.emod_nonneg _ (by decide), Int.emod_lt_of_pos _ (by decide), by decide, by decide⟩

def spPick (K : PySem.W.Frag) : Sp := fun vs H Q _ => ∃ (p l : Addr) (n : Int) (xs : List V), vs = [.ref p, .ref l] ∧ SrcAt H p n ∧ n ≤ 2 ^ 40 ∧ l ≠ p ∧
  SqL K H l xs ∧ xs ≠ [] ∧ xs.length ≤ 100000 ∧ ∀ (i : Nat) v H', xs[i]? = some v → But [p] H H' → SrcAt H' p (n + 1) → Q v H'
abbrev s_law_pick : Stmt := top 37
abbrev N_law_pick : List Str := ["_law_source_here", "_law_items"]
theorem sc_law_pick : FnScope N_law_pick ["_law_source_here", "_law_items"] (defScope s_law_pick) :=
  ⟨rfl, rfl, rfl, by decide +kernel, rfl, by decide +kernel, by decide +kernel⟩

theorem ok_pick {f : Addr} {fd : FuncData} (F : Fun K "_law_pick" "_law_pick" s_law_pick f fd) (B : Bl mg)
    (C_law_draw : Cl P w K mg base CX0 1 "_law_draw" spDraw) :
    FnOk P w K mg base CX0 2 f fd ["_law_source_here", "_law_items"] (spPick K) := by
  refine F.ok sc_law_pick (fun vs H Q E h => ?_) (fun cdv A outer s H vs Q E hr h => ?_)
  · obtain ⟨_, _, _, _, rfl, _⟩ := h
    rfl
  · obtain ⟨p, l, n, xs, rfl, hp, hn, hlp, hl, hne, hz, k⟩ := h
    have hu := hu_of hr
    have nd := sc_law_pick.nd
    refine ⟨_, (pss_one (ps_ret (pe_ix (ix_any (K := K)) (pv 1) (pe_cl (E := fun _ => E0) C_law_draw hr (by decide) pass00 (pa_cons (pv 0) (pa_cons (pe_callB (call_lenA (K := K)) rfl B.len PySem.boot_len (pa_cons (pv 1) pa_nil)) pa_nil))) (fun _ _ => rfl)))), ?_⟩
    repeat walk_at "s"
    have hpos : 0 < xs.length := List.length_pos_iff.mpr hne
    refine ⟨p, n, xs.length, rfl, hp, hn, by omega, by omega, fun d H' h0 h1 b' hp' => ?_⟩
    obtain ⟨m, rfl⟩ := Int.eq_ofNat_of_zero_le h0
    have hm : m < xs.length := by omega
    refine r_ixL (b'.sqL hl (by simpa using hlp)) (atI_nat (List.getElem?_eq_getElem hm)) ?_
    exact k m _ _ (List.getElem?_eq_getElem hm) b' hp'
/-! ### values -/
structure VOk (d : PyData) : Prop where
  ok : Ok 60 3 d
  nol : noL d = true
  blk : blockB d = true
theorem vok_int {i : Int} (h : i.natAbs < 2 ^ 32) : VOk (.int i) := ⟨(okInt h (by decide)).mono (by decide) (by decide), rfl, rfl⟩
theorem vok_of {d : PyData} (h : (d.canLay0 && d.showable && decide (d.depth ≤ 3) && decide (d.shown.length ≤ 60) && (noL d && blockB d)) = true) : VOk d := by
  simp only [Bool.and_eq_true, decide_eq_true_eq] at h
  exact ⟨⟨h.1.1.1.1, h.1.1.1.2, h.1.1.2, h.1.2⟩, h.2.1, h.2.2⟩
def spValue (K : PySem.W.Frag) : Sp := fun vs H Q _ => ∃ (p : Addr) (n : Int), vs = [.ref p] ∧ SrcAt H p n ∧ n ≤ 2 ^ 39 ∧
  ∀ v d H', VOk d → But [p] H H' → SrcAt H' p (n + 3) → Dn K [] H' v d → Q v H'
abbrev s_law_value : Stmt := top 38
abbrev N_law_value : List Str := ["_law_source_here", "_law_some"]
theorem sc_law_value : FnScope N_law_value ["_law_source_here"] (defScope s_law_value) :=
  ⟨rfl, rfl, rfl, by decide +kernel, rfl, by decide +kernel, by decide +kernel⟩

theorem ok_value {f : Addr} {fd : FuncData} (F : Fun K "_law_value" "_law_value" s_law_value f fd)
    (C_law_draw : Cl P w K mg base CX0 1 "_law_draw" spDraw) (C_law_pick : Cl P w K mg base CX0 2 "_law_pick" (spPick K)) :
    FnOk P w K mg base CX0 3 f fd ["_law_source_here"] (spValue K) := by
  refine F.ok sc_law_value (fun vs H Q E h => ?_) (fun cdv A outer s H vs Q E hr h => ?_)
  · obtain ⟨_, _, rfl, _⟩ := h
    rfl
  · obtain ⟨p, n, rfl, hp, hn, k⟩ := h
    have hu := hu_of hr
    have nd := sc_law_value.nd
    have lv := hp.live
    refine ⟨_, (pss_cons (ps_set (i := 1) nd rfl (by first | exact Or.inl rfl | exact Or.inr rfl) (pe_lst (pa_cons pe_int (pa_cons (pe_cl (E := fun _ => E0) C_law_draw hr (by decide) pass00 (pa_cons (pv 0) (pa_cons pe_int pa_nil))) (pa_cons (pe_op op_sub pe_int (pe_cl (E := fun _ => E0) C_law_draw hr (by decide) pass00 (pa_cons (pv 0) (pa_cons (pe_op op_pow pe_int pe_int) pa_nil)))) (pa_cons pe_str (pa_cons pe_str (pa_cons (pe_tup (pa_cons pe_str pa_nil)) (pa_cons (pe_tup pa_nil) (pa_cons (pe_tup (pa_cons pe_int (pa_cons (pe_tup (pa_cons pe_str (pa_cons (pe_tup (pa_cons pe_int (pa_cons pe_int pa_nil))) pa_nil))) pa_nil))) pa_nil))))))))))
      (pss_one (ps_ret (pe_cl (E := fun _ => E0) C_law_pick hr (by decide) pass00 (pa_cons (pv 0) (pa_cons (pv 1) pa_nil)))))), ?_⟩
    repeat walk_at "s"
    refine ⟨p, n, 9, rfl, hp, by omega, by decide, by decide, fun a H1 ha0 ha1 b1 hp1 => ?_⟩
    repeat walk_at "s"
    refine ⟨p, _, _, rfl, hp1, by omega, by decide, by decide, fun b H2 hb0 hb1 b2 hp2 => ?_⟩
    repeat walk_at "st"
    refine r_newL (sz (Nat.le_of_ble_eq_true rfl)) (fun l H3 hl s3 hl3 => ?_)
    repeat walk_at "s"
    refine ⟨p, l, n + 1 + 1, _, rfl, by walk_at "src", by omega, by walk_at "ne", SqL.of hl3, by simp, by simp, fun i v H4 hi b4 hp4 => ?_⟩
    have hv := List.mem_of_getElem? hi
    simp only [List.mem_cons, List.not_mem_nil, or_false] at hv
    have fin : ∀ v d, VOk d → Dn K [] H4 v d → Q v H4 := fun v d h1 h2 => k v d H4 h1 (by walk_at "bt") (by
      have e : n + 1 + 1 + 1 = n + 3 := by omega
      rw [← e]; exact hp4) h2
    rcases hv with rfl | rfl | rfl | rfl | rfl | rfl | rfl | rfl
    · exact fin _ _ (vok_int (by decide)) (.int _)
    · exact fin _ _ (vok_int (by omega)) (.int _)
    · have hb2 : b < 1000000000 := hb1
      exact fin _ _ (vok_int (by omega)) (.int _)
    · exact fin _ _ (vok_of (by decide +kernel)) (.str _)
    · exact fin _ _ (vok_of (by decide +kernel)) (.str _)
    · exact fin _ (.tuple [.str "x"]) (vok_of (by decide +kernel)) (by walk_at "dn")
    · exact fin _ (.tuple []) (vok_of (by decide +kernel)) (by walk_at "dn")
    · exact fin _ (.tuple [.int 1, .tuple [.str "y", .tuple [.int 2, .int 3]]]) (vok_of (by decide +kernel)) (by walk_at "dn")
/-! ### subsets -/
/-- ascending numbers from 0 to count - 1 -/
structure Asc (count : Int) (ns : List Int) : Prop where
  up : ns.Pairwise (· < ·)
  lo : ∀ x ∈ ns, 0 ≤ x
  hi : ∀ x ∈ ns, x < count
theorem asc_snoc {c : Int} {ns : List Int} (h : Asc c ns) (h0 : 0 ≤ c) : Asc (c + 1) (ns ++ [c]) := by
  refine ⟨List.pairwise_append.mpr ⟨h.up, List.pairwise_singleton _ _, fun a ha b hb => ?_⟩, fun x hx => ?_, fun x hx => ?_⟩
  · rw [List.mem_singleton.mp hb]; exact h.hi a ha
  · rcases List.mem_append.mp hx with hx | hx
    · exact h.lo x hx
    · rw [List.mem_singleton.mp hx]; exact h0
  · rcases List.mem_append.mp hx with hx | hx
    · have := h.hi x hx; omega
    · rw [List.mem_singleton.mp hx]; omega
theorem Asc.mono {c d : Int} {ns : List Int} (h : Asc c ns) (l : c ≤ d) : Asc d ns := ⟨h.up, h.lo, fun x hx => Int.lt_of_lt_of_le (h.hi x hx) l⟩
def spSubset (K : PySem.W.Frag) : Sp := fun vs H Q _ => ∃ (p : Addr) (n count most : Int), vs = [.ref p, .int count, .int most] ∧ SrcAt H p n ∧ n ≤ 2 ^ 39 ∧ 0 ≤ count ∧ count ≤ 100 ∧
  ∀ l (ns : List Int) H', H l = none → But [p] H H' → SrcAt H' p (n + count) → H' l = some (.lst (ns.map V.int)) → Asc count ns → (ns.length : Int) ≤ count → Q (.ref l) H'
abbrev s_law_subset : Stmt := top 39
abbrev N_law_subset : List Str := ["_law_source_here", "_law_count", "_law_most", "_law_found", "_law_home"]
theorem sc_law_subset : FnScope N_law_subset ["_law_source_here", "_law_count", "_law_most"] (defScope s_law_subset) :=
  ⟨rfl, rfl, rfl, by decide +kernel, rfl, by decide +kernel, by decide +kernel⟩

theorem ok_subset {f : Addr} {fd : FuncData} (F : Fun K "_law_subset" "_law_subset" s_law_subset f fd) (B : Bl mg)
    (C_law_draw : Cl P w K mg base CX0 1 "_law_draw" spDraw) :
    FnOk P w K mg base CX0 2 f fd ["_law_source_here", "_law_count", "_law_most"] (spSubset K) := by
  refine F.ok sc_law_subset (fun vs H Q E h => ?_) (fun cdv A outer s H vs Q E hr h => ?_)
  · obtain ⟨_, _, _, _, rfl, _⟩ := h
    rfl
  · obtain ⟨p, n, count, most, rfl, hp, hn, hc0, hc1, k⟩ := h
    have hu := hu_of hr
    have nd := sc_law_subset.nd
    have lv := hp.live
    refine ⟨_, (pss_cons (ps_set (i := 3) nd rfl (by first | exact Or.inl rfl | exact Or.inr rfl) (pe_lst pa_nil))
      (pss_cons (ps_for PassesOwn.never rfl (pi_range1 rfl B.range (pa_cons (pv 1) pa_nil)) (pg_name (i := 4) nd rfl (by first | exact Or.inl rfl | exact Or.inr rfl))
      (pss_one (ps_if (PW.pt (pw_and (pt_cmpR op_ltA (pe_callB (call_lenA (K := K)) rfl B.len PySem.boot_len (pa_cons (pv 3) pa_nil)) (pv 2) (nomark _)) (pw_and1 (pt_cmpR op_ltA (pe_cl (E := fun _ => E0) C_law_draw hr (by decide) pass00 (pa_cons (pv 0) (pa_cons (pv 1) pa_nil))) (pv 2) (nomark _))))) (pss_one (ps_expr (pe_bm PySem.F.plainAttrs_list PySem.F.slot_list_append PySem.F.type_list_append mt_append (pv 3) (pa_cons (pv 4) pa_nil)))) pss_nil)))
      (pss_one (ps_ret (pv 3))))), ?_⟩
    repeat walk_at "s"
    refine r_newL (sz (Nat.le_of_ble_eq_true rfl)) (fun l H1 hl s1 hl1 => ?_)
    repeat walk_at "s"
    refine forR (by omega) (fun i σ H' => ∃ (ns : List Int) (v : Option V), σ = [some (.ref p), some (.int count), some (.int most), some (.ref l), v] ∧
      But [p] H H' ∧ SrcAt H' p (n + i) ∧ H' l = some (.lst (ns.map V.int)) ∧ Asc i ns ∧ ns.length ≤ i)
      ⟨[], none, rfl, by walk_at "bt", by simpa using SrcAt.same hp s1, hl1, ⟨List.Pairwise.nil, by simp, by simp⟩, Nat.le_refl _⟩ ?_ ?_
    · rintro i σ H2 hi ⟨ns, v, rfl, b2, hp2, hl2, ha, hz⟩
      have npl : l ≠ p := by walk_at "ne"
      repeat walk_at "s"
      rw [List.length_map]
      refine r_ite (fun hm => ?_) (fun hm => ?_)
      · repeat walk_at "s"
        refine ⟨p, n + i, count, rfl, hp2, by omega, by omega, by omega, fun d H3 h0 h1 b3 hp3 => ?_⟩
        have hl3 : H3 l = some (.lst (ns.map V.int)) := b3.at hl2 (by walk_at "ni")
        have e1 : n + (i : Int) + 1 = n + ((i + 1 : Nat) : Int) := by omega
        rw [e1] at hp3
        repeat walk_at "s"
        refine r_ite (fun hd => ?_) (fun hd => ?_)
        · repeat walk_at "s"
          refine r_app hl3 (szl (by rw [List.length_map]; omega)) (fun H4 b4 hl4 => ?_)
          refine ⟨ns ++ [(i : Int)], _, rfl, by walk_at "bt", src_but b4 hp3 (by walk_at "ni"), by rw [hl4, List.map_append]; rfl, ?_, ?_⟩
          · exact asc_snoc ha (by omega)
          · rw [List.length_append, List.length_singleton]; omega
        · repeat walk_at "s"
          exact ⟨ns, _, rfl, by walk_at "bt", hp3, hl3, ha.mono (by omega), by omega⟩
      · refine r_iteF rfl ?_
        repeat walk_at "s"
        exact ⟨ns, _, rfl, b2, hp2.mono (by omega), hl2, ha.mono (by omega), by omega⟩
    · rintro σ H2 ⟨ns, v, rfl, b2, hp2, hl2, ha, hz⟩
      have e1 : ((count.toNat : Nat) : Int) = count := Int.toNat_of_nonneg hc0
      rw [e1] at ha hp2
      repeat walk_at "s"
      exact k l ns H2 hl b2 hp2 hl2 ha (by omega)
/-! ### the parts of a transaction -/
def dParts (cs : List (Int × PyData)) (rs : List Int) : List PyData := [.list (cs.map dWr), .list (rs.map .int)]
structure CopiesOk (n : Int) (cs : List (Int × PyData)) : Prop where
  asc : Asc n (cs.map (·.1))
  val : ∀ c ∈ cs, VOk c.2
  len : (cs.length : Int) ≤ n
theorem noLs_copies {cs : List (Int × PyData)} (h : ∀ c ∈ cs, VOk c.2) : noLs (cs.map dWr) = true := by
  induction cs with
  | nil => rfl
  | cons c cs ih =>
    have h1 := (h c List.mem_cons_self).nol
    have h2 := ih fun d hd => h d (List.mem_cons_of_mem _ hd)
    simp only [List.map_cons, noLs, dWr, noL, h1, h2, Bool.and_self, Bool.and_true]
def spParts (K : PySem.W.Frag) : Sp := fun vs H Q _ => ∃ (p : Addr) (n homes : Int), vs = [.ref p, .int homes] ∧ SrcAt H p n ∧ n ≤ 2 ^ 38 ∧ 1 ≤ homes ∧ homes ≤ 100 ∧
  ∀ t c r xc (cs : List (Int × PyData)) (rs : List Int) H', But [p] H H' → SrcAt H' p (n + 600) → CopiesOk homes cs → Asc homes rs → (rs.length : Int) ≤ homes →
    H' t = some (.tup [.ref c, .ref r]) → H' c = some (.lst xc) → DnAll K [] H' xc (cs.map dWr) → H' r = some (.lst (rs.map V.int)) → H c = none → H r = none → c ≠ r → Q (.ref t) H'
abbrev s_law_parts : Stmt := top 40
abbrev N_law_parts : List Str := ["_law_source_here", "_law_homes", "_law_most", "_law_copies", "_law_home"]
theorem sc_law_parts : FnScope N_law_parts ["_law_source_here", "_law_homes"] (defScope s_law_parts) :=
  ⟨rfl, rfl, rfl, by decide +kernel, rfl, by decide +kernel, by decide +kernel⟩

theorem ok_parts {f : Addr} {fd : FuncData} (F : Fun K "_law_parts" "_law_parts" s_law_parts f fd)
    (C_law_pick : Cl P w K mg base CX0 2 "_law_pick" (spPick K)) (C_law_subset : Cl P w K mg base CX0 2 "_law_subset" (spSubset K))
    (C_law_value : Cl P w K mg base CX0 3 "_law_value" (spValue K)) :
    FnOk P w K mg base CX0 4 f fd ["_law_source_here", "_law_homes"] (spParts K) := by
  refine F.ok sc_law_parts (fun vs H Q E h => ?_) (fun cdv A outer s H vs Q E hr h => ?_)
  · obtain ⟨_, _, _, rfl, _⟩ := h
    rfl
  · obtain ⟨p, n, homes, rfl, hp, hn, hc0, hc1, k⟩ := h
    have hu := hu_of hr
    have nd := sc_law_parts.nd
    have lv := hp.live
    refine ⟨_, (pss_cons (ps_set (i := 2) nd rfl (by first | exact Or.inl rfl | exact Or.inr rfl) (pe_cl (E := fun _ => E0) C_law_pick hr (by decide) pass00 (pa_cons (pv 0) (pa_cons (pe_lst (pa_cons pe_int (pa_cons pe_int (pa_cons pe_int (pa_cons pe_int (pa_cons pe_int pa_nil)))))) pa_nil))))
      (pss_cons (ps_setLc (i := 3) (own := [("_law_home", 4)]) (g := (gName 4)) (tt := tYes) rfl nd rfl rfl (sw_true rfl rfl rfl (by decide +kernel)) (pi_lst (K := K) (pe_cl (E := fun _ => E0) C_law_subset hr (by decide) pass00 (pa_cons (pv 0) (pa_cons (pv 1) (pa_cons (pv 2) pa_nil))))) (blkOk_by (own := [("_law_home", 4)]) (N := N_law_parts) (sc := defScope s_law_parts) (by decide +kernel)) (fun _ _ _ _ _ => (pg_name (i := 4) nd rfl (by first | exact Or.inl rfl | exact Or.inr rfl))) (fun _ _ _ _ _ => pts_nil) (fun _ _ _ _ _ => pe_tup (pa_cons (pv 4) (pa_cons (pe_cl (E := fun _ => E0) C_law_value hr (by decide) pass00 (pa_cons (pv 0) pa_nil)) pa_nil))))
      (pss_one (ps_ret (pe_tup (pa_cons (pv 3) (pa_cons (pe_cl (E := fun _ => E0) C_law_subset hr (by decide) pass00 (pa_cons (pv 0) (pa_cons (pv 1) (pa_cons (pe_cl (E := fun _ => E0) C_law_pick hr (by decide) pass00 (pa_cons (pv 0) (pa_cons (pe_lst (pa_cons pe_int (pa_cons pe_int (pa_cons pe_int (pa_cons pe_int (pa_cons pe_int pa_nil)))))) pa_nil))) pa_nil)))) pa_nil))))))), ?_⟩
    repeat walk_at "s"
    refine r_newL (sz (Nat.le_of_ble_eq_true rfl)) (fun l0 H1 hl0 s1 hl01 => ?_)
    repeat walk_at "s"
    refine ⟨p, l0, n, _, rfl, hp.same s1, by omega, by walk_at "ne", SqL.of hl01, by simp, by simp, fun i0 v0 H2 hi0 b2 hp2 => ?_⟩
    obtain ⟨most, rfl⟩ : ∃ m, v0 = .int m := by
      have hv := List.mem_of_getElem? hi0
      simp only [List.mem_cons, List.not_mem_nil, or_false] at hv
      rcases hv with rfl | rfl | rfl | rfl | rfl <;> exact ⟨_, rfl⟩
    repeat walk_at "s"
    refine ⟨p, n + 1, homes, most, rfl, hp2, by omega, by omega, by omega, fun a ns H3 ha b3 hp3 ha3 hasc hz => ?_⟩
    have npa : a ≠ p := by walk_at "ne"
    refine lcL (SqL.of ha3) (fun l H4 hl s4 hl4 => ?_)
    have npl : l ≠ p := by walk_at "ne"
    have npal : a ≠ l := ne_of_none ha3 hl
    refine ⟨fun i H' => ∃ (acc : List V) (cs : List (Int × PyData)), H' l = some (.lst acc) ∧ But [p] H3 H' ∧ SrcAt H' p (n + 1 + homes + 3 * i) ∧
      DnAll K [] H' acc (cs.map dWr) ∧ cs.map (·.1) = ns.take i ∧ ∀ c ∈ cs, VOk c.2,
      ⟨[], [], hl4, by walk_at "bt", by simpa using hp3.same s4, .nil, by simp, by simp⟩, ?_, ?_, ?_⟩
    · rintro i H5 hi ⟨acc, cs, h1, b5, hp5, hd, he, hv⟩
      exact SqL.of (b5.at ha3 (by walk_at "ni"))
    · rintro i x H5 hi ⟨acc, cs, h1, b5, hp5, hd, he, hv⟩
      rw [List.getElem?_map] at hi
      obtain ⟨m, hm, rfl⟩ := Option.map_eq_some_iff.mp hi
      have hil : i < ns.length := (List.getElem?_eq_some_iff.mp hm).1
      have elen : acc.length = i := by
        rw [hd.length, List.length_map, ← List.length_map (f := Prod.fst), he, List.length_take]
        omega
      repeat walk_at "s"
      refine ⟨rfl, ?_⟩
      refine r_yes ?_
      refine r_iteT rfl ?_
      repeat walk_at "s"
      refine ⟨p, _, rfl, hp5, by omega, fun v d H6 hvd b6 hp6 hdn => ?_⟩
      repeat walk_at "s"
      refine r_newT (sz (Nat.le_of_ble_eq_true rfl)) (fun t H7 ht s7 ht7 => ?_)
      have h6 : H6 l = some (.lst acc) := b6.at h1 (by walk_at "ni")
      refine ⟨acc, s7 _ _ h6, szl (by omega), ?_⟩
      obtain ⟨H8, e8, b8, h8⟩ := upd_ex (o' := .lst (acc ++ [.ref t])) (s7 _ _ h6)
      rw [e8]
      have dd : Dn K [] H8 (.ref t) (dWr (m, d)) := .tup (SqT.of (b8.tup ht7)) (.cons (.int _) (.one (((hdn.same s7).any (T := [l]) hvd.nol).but b8 (by walk_at "nis") |>.any hvd.nol)))
      refine ⟨acc ++ [.ref t], cs ++ [(m, d)], h8, by walk_at "bt", ?_, ?_, ?_, ?_⟩
      · exact (src_but b8 (hp6.same s7) (by walk_at "ni")).mono (by omega)
      · rw [List.map_append]
        have d0 : DnAll K [p, l] H5 acc (cs.map dWr) := hd.any (noLs_copies hv)
        have d1 : DnAll K [p, l] H8 acc (cs.map dWr) := by walk_at "da"
        exact (d1.any (noLs_copies hv)).snoc dd
      · rw [List.map_append, he, List.take_add_one, hm]; rfl
      · intro c hc
        rcases List.mem_append.mp hc with hc | hc
        · exact hv c hc
        · rw [List.mem_singleton.mp hc]; exact hvd
    · rintro H5 ⟨acc, cs, h1, b5, hp5, hd, he, hv⟩
      rw [List.length_map] at he hp5
      rw [List.take_length] at he
      have elen : cs.length = ns.length := by rw [← List.length_map (f := Prod.fst), he]
      have cok : CopiesOk homes cs := ⟨by rw [he]; exact hasc, hv, by omega⟩
      repeat walk_at "s"
      refine r_newL (sz (Nat.le_of_ble_eq_true rfl)) (fun l1 H6 hl1 s6 hl16 => ?_)
      repeat walk_at "s"
      refine ⟨p, l1, _, _, rfl, hp5.same s6, by omega, by walk_at "ne", SqL.of hl16, by simp, by simp, fun i1 v1 H7 hi1 b7 hp7 => ?_⟩
      obtain ⟨most1, rfl⟩ : ∃ m, v1 = .int m := by
        have hv := List.mem_of_getElem? hi1
        simp only [List.mem_cons, List.not_mem_nil, or_false] at hv
        rcases hv with rfl | rfl | rfl | rfl | rfl <;> exact ⟨_, rfl⟩
      repeat walk_at "s"
      refine ⟨p, _, homes, most1, rfl, hp7, by omega, by omega, by omega, fun r rs H8 hr8 b8 hp8 hr81 hasc8 hz8 => ?_⟩
      repeat walk_at "s"
      refine r_newT (sz (Nat.le_of_ble_eq_true rfl)) (fun t H9 ht s9 ht9 => ?_)
      have npr : r ≠ p := by walk_at "ne"
      have h8 : H8 l = some (.lst acc) := b8.at (b7.at (s6 _ _ h1) (by walk_at "ni")) (by walk_at "ni")
      have nlr : l ≠ r := by walk_at "ne"
      have hlH : H l = none := by walk_at "fr"
      have hrH : H r = none := by walk_at "fr"
      have d1 : DnAll K [p] H5 acc (cs.map dWr) := hd.any (noLs_copies hv)
      have d2 : DnAll K [p] H9 acc (cs.map dWr) := by walk_at "da"
      exact k t l r acc cs rs H9 (by walk_at "bt") ((hp8.same s9).mono (by omega)) cok hasc8 hz8 ht9 (s9 _ _ h8) (d2.any (noLs_copies hv)) (s9 _ _ hr81) hlH hrH nlr
end
end L24

open PySem L2 PyProof.Rows J

namespace L24
/-! ### the records of a transaction -/
def cut8 {α : Type} (xs : List α) (k : Nat) : List α := (xs.drop (8 * k)).take 8
def n8 {α : Type} (xs : List α) : Nat := (xs.length + 7) / 8
def revUp (rs : List Int) (i : Nat) : List Rc := (List.range i).map fun k => .revoke (cut8 rs k)
def descG (g : List (Int × PyData)) : List Rc := .desc (g.map (·.1)) :: g.map fun c => .copy c.2
def descUp (cs : List (Int × PyData)) (i : Nat) : List Rc := (List.range i).flatMap fun k => descG (cut8 cs k)
def recs (cs : List (Int × PyData)) (rs : List Int) : List Rc := revUp rs (n8 rs) ++ descUp cs (n8 cs) ++ [.commit]
theorem revUp_succ (rs : List Int) (i : Nat) : revUp rs (i + 1) = revUp rs i ++ [.revoke (cut8 rs i)] := by
  unfold revUp
  rw [List.range_succ, List.map_append]; rfl
theorem descUp_succ (cs : List (Int × PyData)) (i : Nat) : descUp cs (i + 1) = descUp cs i ++ descG (cut8 cs i) := by
  unfold descUp
  rw [List.range_succ, List.flatMap_append]; simp
theorem nol_rcD {num : Int} {rc : Rc} (h : ∀ v, rc = .copy v → noL v = true) : noL (rcD num rc) = true := by
  cases rc with
  | commit => rfl
  | revoke hs =>
    show (true && (true && (noL (dHs hs) && true))) = true
    have : noLs (hs.map PyData.int) = true := noLs_map fun _ _ => rfl
    rw [show noL (dHs hs) = noLs (hs.map .int) from rfl, this]; rfl
  | desc hs =>
    show (true && (true && (noL (dHs hs) && true))) = true
    have : noLs (hs.map PyData.int) = true := noLs_map fun _ _ => rfl
    rw [show noL (dHs hs) = noLs (hs.map .int) from rfl, this]; rfl
  | copy v =>
    show (true && (true && (noL v && true))) = true
    rw [h v rfl]; rfl
theorem cut8_len {α : Type} (xs : List α) (k : Nat) : (cut8 xs k).length ≤ 8 := by
  unfold cut8; rw [List.length_take]; omega
theorem revUp_len (rs : List Int) (i : Nat) : (revUp rs i).length = i := by simp [revUp]
theorem descUp_len (cs : List (Int × PyData)) (i : Nat) : (descUp cs i).length ≤ 9 * i := by
  induction i with
  | zero => simp [descUp]
  | succ i ih =>
    rw [descUp_succ, List.length_append]
    have := cut8_len cs i
    simp only [descG, List.length_cons, List.length_map]
    omega
theorem nol_recs {num : Int} {cs : List (Int × PyData)} (h : ∀ c ∈ cs, noL c.2 = true) {l : List Rc} (hl : ∀ v, .copy v ∈ l → ∃ c ∈ cs, v = c.2) : noLs (l.map (rcD num)) = true :=
  noLs_map fun rc hrc => nol_rcD fun v e => by
    obtain ⟨c, hc, rfl⟩ := hl v (e ▸ hrc)
    exact h c hc
theorem copy_revUp {rs : List Int} {i : Nat} {v : PyData} (h : .copy v ∈ revUp rs i) : False := by
  obtain ⟨k, _, e⟩ := List.mem_map.mp h
  cases e
theorem cut8_mem {α : Type} {xs : List α} {k : Nat} {x : α} (h : x ∈ cut8 xs k) : x ∈ xs := List.mem_of_mem_drop (List.mem_of_mem_take h)
theorem copy_descUp {cs : List (Int × PyData)} {i : Nat} {v : PyData} (h : .copy v ∈ descUp cs i) : ∃ c ∈ cs, v = c.2 := by
  obtain ⟨k, _, h⟩ := List.mem_flatMap.mp h
  rcases List.mem_cons.mp h with h | h
  · cases h
  · obtain ⟨c, hc, e⟩ := List.mem_map.mp h
    cases e
    exact ⟨c, cut8_mem hc, rfl⟩
section
variable {P : Program} {w : World} {K : PySem.W.Frag} {mg : Str → Option Value} {base : Heap}
def spRecs (K : PySem.W.Frag) : Sp := fun vs H Q _ => ∃ (num : Int) (c r : Addr) (xc : List V) (cs : List (Int × PyData)) (rs : List Int), vs = [.int num, .ref c, .ref r] ∧ H c = some (.lst xc) ∧ DnAll K [] H xc (cs.map dWr) ∧ H r = some (.lst (rs.map V.int)) ∧
  (∀ c ∈ cs, noL c.2 = true) ∧ cs.length ≤ 100 ∧ rs.length ≤ 100 ∧ ∀ l xs H', H l = none → Same H H' → H' l = some (.lst xs) → DnAll K [] H' xs ((recs cs rs).map (rcD num)) → Q (.ref l) H'
abbrev s_law_records : Stmt := top 41
abbrev N_law_records : List Str := ["_law_number", "_law_copies", "_law_revokes", "_law_found", "_law_at", "_law_home", "_law_value_here"]
theorem sc_law_records : FnScope N_law_records ["_law_number", "_law_copies", "_law_revokes"] (defScope s_law_records) :=
  ⟨rfl, rfl, rfl, by decide +kernel, rfl, by decide +kernel, by decide +kernel⟩

theorem ok_records {f : Addr} {fd : FuncData} (F : Fun K "_law_records" "_law_records" s_law_records f fd) (B : Bl mg) :
    FnOk P w K mg base CX0 1 f fd ["_law_number", "_law_copies", "_law_revokes"] (spRecs K) := by
  refine F.ok sc_law_records (fun vs H Q E h => ?_) (fun cdv A outer s H vs Q E hr h => ?_)
  · obtain ⟨_, _, _, _, _, _, rfl, _⟩ := h
    rfl
  · obtain ⟨num, c, r, xc, cs, rs, rfl, hc, hxc, hrr, hnl, hcl, hrl, k⟩ := h
    have nd := sc_law_records.nd
    refine ⟨_, (pss_cons (ps_set (i := 3) nd rfl (by first | exact Or.inl rfl | exact Or.inr rfl) (pe_lst pa_nil))
      (pss_cons (ps_for PassesOwn.never rfl (pi_range3 rfl B.range (pa_cons pe_int (pa_cons (pe_callB (call_lenA (K := K)) rfl B.len PySem.boot_len (pa_cons (pv 2) pa_nil)) (pa_cons pe_int pa_nil)))) (pg_name (i := 4) nd rfl (by first | exact Or.inl rfl | exact Or.inr rfl))
      (pss_one (ps_expr (pe_bm PySem.F.plainAttrs_list PySem.F.slot_list_append PySem.F.type_list_append mt_append (pv 3) (pa_cons (pe_tup (pa_cons pe_str (pa_cons (pv 0) (pa_cons (pe_callTy (call_tupleA (K := K)) rfl B.tuple (by decide +kernel) (pa_cons (pe_slice (sl_any (K := K)) (pv 2) (po_some (pv 4)) (po_some (pe_op (op_addA (K := K)) (pv 4) pe_int))) pa_nil)) pa_nil)))) pa_nil)))))
      (pss_cons (ps_for PassesOwn.never rfl (pi_range3 rfl B.range (pa_cons pe_int (pa_cons (pe_callB (call_lenA (K := K)) rfl B.len PySem.boot_len (pa_cons (pv 1) pa_nil)) (pa_cons pe_int pa_nil)))) (pg_name (i := 4) nd rfl (by first | exact Or.inl rfl | exact Or.inr rfl))
      (pss_cons (ps_expr (pe_bm PySem.F.plainAttrs_list PySem.F.slot_list_append PySem.F.type_list_append mt_append (pv 3) (pa_cons (pe_tup (pa_cons pe_str (pa_cons (pv 0) (pa_cons (pe_callTy (call_tupleA (K := K)) rfl B.tuple (by decide +kernel) (pa_cons (pe_lc (own := [("_law_home", 5), ("_law_value_here", 6)]) (g := (gTup K 2 (gCons (gName 5) (gCons (gName 6) gNil)))) (tt := tYes) rfl nd (pi_lst (K := K) (pe_slice (sl_any (K := K)) (pv 1) (po_some (pv 4)) (po_some (pe_op (op_addA (K := K)) (pv 4) pe_int)))) (blkOk_by (own := [("_law_home", 5), ("_law_value_here", 6)]) (N := N_law_records) (sc := defScope s_law_records) (by decide +kernel)) (fun _ _ _ _ _ => (pg_tpl (K := K) rfl (pgs_cons (pg_name (i := 5) nd rfl (by first | exact Or.inl rfl | exact Or.inr rfl)) (pgs_cons (pg_name (i := 6) nd rfl (by first | exact Or.inl rfl | exact Or.inr rfl)) pgs_nil)))) (fun _ _ _ _ _ => pts_nil) (fun _ _ _ _ _ => pv 5)) pa_nil)) pa_nil)))) pa_nil)))
      (pss_one (ps_for PassesOwn.never rfl (pi_lst (K := K) (pe_slice (sl_any (K := K)) (pv 1) (po_some (pv 4)) (po_some (pe_op (op_addA (K := K)) (pv 4) pe_int)))) (pg_tpl (K := K) rfl (pgs_cons (pg_name (i := 5) nd rfl (by first | exact Or.inl rfl | exact Or.inr rfl)) (pgs_cons (pg_name (i := 6) nd rfl (by first | exact Or.inl rfl | exact Or.inr rfl)) pgs_nil)))
      (pss_one (ps_expr (pe_bm PySem.F.plainAttrs_list PySem.F.slot_list_append PySem.F.type_list_append mt_append (pv 3) (pa_cons (pe_tup (pa_cons pe_str (pa_cons (pv 0) (pa_cons (pv 6) pa_nil)))) pa_nil))))))))
      (pss_one (ps_ret (pe_op (op_addA (K := K)) (pv 3) (pe_lst (pa_cons (pe_tup (pa_cons pe_str (pa_cons (pv 0) pa_nil))) pa_nil)))))))), ?_⟩
    repeat walk_at "s"
    refine r_newL (sz (Nat.le_of_ble_eq_true rfl)) (fun l H1 hl s1 hl1 => ?_)
    repeat walk_at "s"
    have ncl : c ≠ l := ne_of_none hc hl
    have nrl : r ≠ l := ne_of_none hrr hl
    have clen : xc.length = cs.length := by rw [hxc.length, List.length_map]
    refine r_forR3 ?_
    repeat walk_at "s"
    rw [List.length_map]
    have ecut : ∀ {xs : List V} {i : Nat}, cutV xs (some ((8 * i : Nat) : Int)) (some (((8 * i : Nat) : Int) + 8)) = cut8 xs i := fun {xs i} => by
      have h := cut_fromTo (xs := xs) (n := 8 * i) (m := 8 * i + 8)
      rw [Nat.add_sub_cancel_left] at h
      exact h
    have cutM : ∀ {α : Type} {f : α → V} {xs : List α} {i : Nat}, cut8 (xs.map f) i = (cut8 xs i).map f := fun {α f xs i} => by
      unfold cut8
      rw [List.map_take, List.map_drop]
    refine forR8 (by omega) (fun i σ H' => ∃ o4 o5 o6 xs, σ = [some (.int num), some (.ref c), some (.ref r), some (.ref l), o4, o5, o6] ∧ But [l] H1 H' ∧ H' l = some (.lst xs) ∧ DnAll K [] H' xs ((revUp rs i).map (rcD num)))
      ⟨_, _, _, [], rfl, .refl, hl1, .nil⟩ ?_ ?_
    · rintro i σ H2 hi ⟨o4, o5, o6, xs, rfl, b2, hl2, hxs⟩
      have hr2 : H2 r = some (.lst (rs.map V.int)) := b2.at (s1 _ _ hrr) (by walk_at "ni")
      have xl : xs.length ≤ 100 := by rw [hxs.length, List.length_map, revUp_len]; omega
      repeat walk_at "s"
      refine r_slL (.of hr2) (fun q H3 hq s3 hq3 => ?_)
      rw [ecut, cutM] at hq3
      repeat walk_at "s"
      refine r_tupleL (.of hq3) (fun t H4 ht s4 ht4 => ?_)
      repeat walk_at "s"
      refine r_newT (sz (Nat.le_of_ble_eq_true rfl)) (fun T H5 hT s5 hT5 => ?_)
      repeat walk_at "s"
      refine r_app (s5 _ _ (s4 _ _ (s3 _ _ hl2))) (szl (by omega)) (fun H6 b6 hl6 => ?_)
      have b26 : But [l] H2 H6 := by walk_at "bt"
      refine ⟨_, _, _, _, rfl, b2.trans b26, hl6, ?_⟩
      rw [revUp_succ, List.map_append]
      have nl1 : noLs ((revUp rs i).map (rcD num)) = true := noLs_map fun rc hrc => nol_rcD fun v e => (copy_revUp (e ▸ hrc)).elim
      refine (hxs.nlb nl1 b26).snoc (.tup (SqT.of (b6.tup hT5)) (.cons (.str _) (.cons (.int _) (.one (.tup (SqT.of (b6.tup (s5 _ _ ht4))) DnAll.ints)))))
    rintro σ H2 ⟨o4, o5, o6, xs, rfl, b2, hl2, hxs⟩
    have hc2 : H2 c = some (.lst xc) := b2.at (s1 _ _ hc) (by walk_at "ni")
    repeat walk_at "s"
    refine r_forR3 ?_
    repeat walk_at "s"
    rw [clen]
    have nl0 : noLs (xc.map fun _ => PyData.none) = true := noLs_map fun _ _ => rfl
    refine forR8 (by omega) (fun i σ H' => ∃ o4 o5 o6 xs, σ = [some (.int num), some (.ref c), some (.ref r), some (.ref l), o4, o5, o6] ∧ But [l] H2 H' ∧ H' l = some (.lst xs) ∧ DnAll K [] H' xs ((revUp rs (n8 rs) ++ descUp cs i).map (rcD num)))
      ⟨_, _, _, _, rfl, .refl, hl2, by simpa [n8, descUp] using hxs⟩ ?_ ?_
    · rintro i σ H3 hi ⟨o4, o5, o6, xs, rfl, b3, hl3, hxs⟩
      have b03 : But [l] H1 H3 := b2.trans b3
      have hc3 : H3 c = some (.lst xc) := b3.at hc2 (by walk_at "ni")
      have nlc : noLs (cs.map dWr) = true := noLs_map fun c hc => nol_dWr (hnl c hc)
      have hcut : ∀ {H' : Hp} {T : List Addr}, But T H H' → DnAll K [] H' (cut8 xc i) ((cut8 cs i).map dWr) := fun b => by
        have h := ((hxc.nlb nlc b (S' := [])).drop (8 * i)).take 8
        rw [← List.map_drop, ← List.map_take] at h
        exact h
      have bH3 : But [l] H H3 := (But.of_same s1).trans b03
      have clen8 : (cut8 xc i).length = (cut8 cs i).length := by rw [(hcut bH3).length, List.length_map]
      have c8 := cut8_len cs i
      have xl : xs.length ≤ 1000 := by
        rw [hxs.length, List.length_map, List.length_append, revUp_len]
        have := descUp_len cs i
        unfold n8
        omega
      have nlx : noLs ((revUp rs (n8 rs) ++ descUp cs i).map (rcD num)) = true := nol_recs hnl fun v hv => by
        rcases List.mem_append.mp hv with hv | hv
        · exact (copy_revUp hv).elim
        · exact copy_descUp hv
      clear b2 b03
      repeat walk_at "s"
      refine r_slL (.of hc3) (fun q H4 hq s4 hq4 => ?_)
      rw [ecut] at hq4
      refine lcL (.of hq4) (fun m H5 hm s5 hm5 => ?_)
      have nqm : q ≠ m := ne_of_none hq4 hm
      have bH5 : But [l] H H5 := bH3.trans ((But.of_same s4).trans (But.of_same s5))
      refine ⟨fun j H' => But [m] H5 H' ∧ H' m = some (.lst ((((cut8 cs i).take j).map (·.1)).map V.int)), ⟨.refl, hm5⟩, ?_, ?_, ?_⟩
      · rintro j H6 hj ⟨b6, hm6⟩
        exact .of (b6.at (s5 _ _ hq4) (by walk_at "ni"))
      · rintro j x H6 hj ⟨b6, hm6⟩
        obtain ⟨dd, hdd, hdn⟩ := (hcut bH5).get hj
        obtain ⟨u, hu, rfl⟩ := map_getG hdd
        obtain ⟨pp, y, rfl, hpp, hy⟩ := wr_inv hdn
        have hpp6 : SqT K H6 pp [.int u.1, y] := b6.sqT hpp
        repeat walk_at "s"
        refine ⟨rfl, ?_⟩
        refine r_yes ?_
        refine r_iteT rfl ?_
        repeat walk_at "s"
        refine ⟨_, hm6, szl (by simp only [List.length_map, List.length_take]; omega), ?_⟩
        obtain ⟨H7, e7, b7, hm7⟩ := upd_ex (o' := .lst (((((cut8 cs i).take j).map (·.1)).map V.int) ++ [.int u.1])) hm6
        rw [e7]
        refine ⟨b6.trans b7, ?_⟩
        rw [hm7, List.take_add_one, hu, List.map_append, List.map_append]
        rfl
      rintro H6 ⟨b6, hm6⟩
      rw [clen8, List.take_length] at hm6
      have b36 : But [] H3 H6 := by walk_at "bt"
      clear b6 s4 s5
      repeat walk_at "s"
      refine r_tupleL (.of hm6) (fun t H7 ht s7 ht7 => ?_)
      repeat walk_at "s"
      refine r_newT (sz (Nat.le_of_ble_eq_true rfl)) (fun T H8 hT s8 hT8 => ?_)
      repeat walk_at "s"
      have hl8 : H8 l = some (.lst xs) := s8 _ _ (s7 _ _ (b36.at hl3 (by simp)))
      refine r_app hl8 (szl (by omega)) (fun H9 b9 hl9 => ?_)
      have b39 : But [l] H3 H9 := (b36.sub (by simp)).trans ((But.of_same s7).trans ((But.of_same s8).trans b9))
      have hc9 : H9 c = some (.lst xc) := b39.at hc3 (by simpa using ncl)
      have d9 : DnAll K [] H9 (xs ++ [.ref T]) ((revUp rs (n8 rs) ++ descUp cs i ++ [Rc.desc ((cut8 cs i).map (·.1))]).map (rcD num)) := by
        rw [List.map_append]
        exact (hxs.nlb nlx b39).snoc (.tup (SqT.of (b9.tup hT8)) (.cons (.str _) (.cons (.int _) (.one (.tup (SqT.of (b9.tup (s8 _ _ ht7))) DnAll.ints)))))
      have bH9 : But [l] H H9 := bH3.trans b39
      clear b36 s7 s8 b9
      repeat walk_at "s"
      refine r_slL (.of hc9) (fun q2 H10 hq2 s10 hq210 => ?_)
      rw [ecut] at hq210
      have nlq : l ≠ q2 := ne_of_none hl9 hq2
      refine forL (.of hq210) (fun j σ H' => ∃ o4 o5 o6 ys, σ = [some (.int num), some (.ref c), some (.ref r), some (.ref l), o4, o5, o6] ∧ But [l] H10 H' ∧ H' l = some (.lst ys) ∧
          DnAll K [] H' ys ((revUp rs (n8 rs) ++ descUp cs i ++ [Rc.desc ((cut8 cs i).map (·.1))] ++ (((cut8 cs i).take j).map fun c => Rc.copy c.2)).map (rcD num)))
        ⟨_, _, _, _, rfl, .refl, s10 _ _ hl9, by simpa using d9.same s10⟩ ?_ ?_ ?_
      · rintro j σ H11 hj ⟨o4, o5, o6, ys, rfl, b11, hl11, hys⟩
        exact .of (b11.at hq210 (by simpa using nlq.symm))
      · rintro j x σ H11 hj ⟨o4, o5, o6, ys, rfl, b11, hl11, hys⟩
        have bH11 : But [l] H H11 := bH9.trans ((But.of_same s10).trans b11)
        obtain ⟨dd, hdd, hdn⟩ := (hcut bH11).get hj
        obtain ⟨u, hu, rfl⟩ := map_getG hdd
        obtain ⟨pp, y, rfl, hpp, hy⟩ := wr_inv hdn
        have hum : u ∈ cs := cut8_mem (List.mem_of_getElem? hu)
        have yl : ys.length ≤ 2000 := by
          rw [hys.length, List.length_map, List.length_append, List.length_append, List.length_append, revUp_len, List.length_map, List.length_take]
          have := descUp_len cs i
          unfold n8
          simp only [List.length_singleton]
          omega
        have nly : noLs ((revUp rs (n8 rs) ++ descUp cs i ++ [Rc.desc ((cut8 cs i).map (·.1))] ++ (((cut8 cs i).take j).map fun c => Rc.copy c.2)).map (rcD num)) = true := nol_recs hnl fun v hv => by
          rcases List.mem_append.mp hv with hv | hv
          · rcases List.mem_append.mp hv with hv | hv
            · rcases List.mem_append.mp hv with hv | hv
              · exact (copy_revUp hv).elim
              · exact copy_descUp hv
            · cases List.mem_singleton.mp hv
          · obtain ⟨c, hc, e⟩ := List.mem_map.mp hv
            cases e
            exact ⟨c, cut8_mem (List.mem_of_mem_take hc), rfl⟩
        have yv : Dn K [] H11 y u.2 := hy
        clear s10 bH11
        repeat walk_at "s"
        refine r_newT (sz (Nat.le_of_ble_eq_true rfl)) (fun T2 H12 hT2 s12 hT212 => ?_)
        repeat walk_at "s"
        refine r_app (s12 _ _ hl11) (szl (by omega)) (fun H13 b13 hl13 => ?_)
        have b1113 : But [l] H11 H13 := (But.of_same s12).trans b13
        have y13 : Dn K [] H13 y u.2 := yv.nlb (hnl u hum) b1113
        refine ⟨_, _, _, _, rfl, b11.trans b1113, hl13, ?_⟩
        rw [List.take_add_one, hu]
        have e : revUp rs (n8 rs) ++ descUp cs i ++ [Rc.desc ((cut8 cs i).map (·.1))] ++ (((cut8 cs i).take j ++ (some u).toList).map fun c => Rc.copy c.2) =
            (revUp rs (n8 rs) ++ descUp cs i ++ [Rc.desc ((cut8 cs i).map (·.1))] ++ (((cut8 cs i).take j).map fun c => Rc.copy c.2)) ++ [Rc.copy u.2] := by simp
        rw [e, List.map_append]
        exact (hys.nlb nly b1113).snoc (.tup (SqT.of (b13.tup hT212)) (.cons (.str _) (.cons (.int _) (.one y13))))
      · rintro σ H11 ⟨o4, o5, o6, ys, rfl, b11, hl11, hys⟩
        rw [clen8, List.take_length] at hys
        have b311 : But [l] H3 H11 := b39.trans ((But.of_same s10).trans b11)
        refine ⟨_, _, _, ys, rfl, b3.trans b311, hl11, ?_⟩
        rw [descUp_succ]
        have e : revUp rs (n8 rs) ++ (descUp cs i ++ descG (cut8 cs i)) = revUp rs (n8 rs) ++ descUp cs i ++ [Rc.desc ((cut8 cs i).map (·.1))] ++ (((cut8 cs i)).map fun c => Rc.copy c.2) := by
          simp [descG]
        rw [e]
        exact hys
    · rintro σ H3 ⟨o4, o5, o6, xs, rfl, b3, hl3, hxs⟩
      have xl : xs.length ≤ 1000 := by
        rw [hxs.length, List.length_map, List.length_append, revUp_len]
        have := descUp_len cs ((cs.length + 7) / 8)
        unfold n8
        omega
      repeat walk_at "s"
      refine r_newT (sz (Nat.le_of_ble_eq_true rfl)) (fun T H4 hT s4 hT4 => ?_)
      repeat walk_at "s"
      refine r_newL (sz (Nat.le_of_ble_eq_true rfl)) (fun q H5 hq s5 hq5 => ?_)
      refine r_addL (s5 _ _ (s4 _ _ hl3)) hq5 (sz (by simp; omega)) (fun L H6 hL s6 hL6 => ?_)
      have b36 : But [] H3 H6 := by walk_at "bt"
      have b16 : But [l] H1 H6 := b2.trans (b3.trans (b36.sub (by simp)))
      have sAll : Same H H6 := (bt_but (bt_same .refl s1) b16 (bc_fr hl bc_nil)).same
      have fL : H L = none := by
        have le : Le H H5 := fun b e => by
          have e1 := (But.of_same (S := []) s1).live b e
          exact (But.of_same (S := []) s5).live b ((But.of_same (S := []) s4).live b (b3.live b (b2.live b e1)))
        exact fr_le le hL
      refine k L _ H6 fL sAll hL6 ?_
      have er : recs cs rs = revUp rs (n8 rs) ++ descUp cs (n8 cs) ++ [.commit] := rfl
      rw [er, List.map_append]
      have nlx : noLs ((revUp rs (n8 rs) ++ descUp cs (n8 cs)).map (rcD num)) = true := nol_recs hnl fun v hv => by
        rcases List.mem_append.mp hv with hv | hv
        · exact (copy_revUp hv).elim
        · exact copy_descUp hv
      refine (hxs.nlb nlx b36).snoc (.tup (SqT.of (s6 _ _ (s5 _ _ hT4))) (.cons (.str _) (.one (.int _))))
end
end L24

open PySem L2 PyProof.Rows J

local macro_rules | `(tactic| walk_at "src") => `(tactic| first
  | assumption
  | (refine L24.src_same (by assumption) ?_; walk_at "src")
  | (refine L24.src_but (by assumption) ?_ ?_; walk_at "src"; walk_at "ni"))
namespace L24
/-! ### a log that is drawn -/
structure TxB (homes : Int) (t : Tx) : Prop where
  cs : CopiesOk homes t.2.1
  rs : Asc homes t.2.2
  rl : (t.2.2.length : Int) ≤ homes
def szTx (t : Tx) : Nat := (recs t.2.1 t.2.2).length
def szLog (log : List Tx) : Nat := (log.map szTx).sum
structure LogB (number homes : Int) (log : List Tx) : Prop where
  tx : ∀ t ∈ log, TxB homes t
  num : ∀ (i : Nat) (t : Tx), log[i]? = some t → t.1 = number + i
theorem LogB.snoc {number homes : Int} {log : List Tx} {cs : List (Int × PyData)} {rs : List Int} (h : LogB number homes log) (ht : TxB homes (number + log.length, cs, rs)) : LogB number homes (log ++ [(number + log.length, cs, rs)]) := by
  refine ⟨fun t hh => ?_, fun i t hi => ?_⟩
  · rcases List.mem_append.mp hh with hh | hh
    · exact h.tx t hh
    · rw [List.mem_singleton.mp hh]; exact ht
  · by_cases hl : i < log.length
    · rw [List.getElem?_append_left hl] at hi
      exact h.num i t hi
    · have e : i = log.length := by
        have := (List.getElem?_eq_some_iff.mp hi).1
        rw [List.length_append, List.length_singleton] at this
        omega
      subst e
      rw [List.getElem?_append_right (Nat.le_refl _), Nat.sub_self] at hi
      cases hi
      rfl
theorem szLog_snoc (log : List Tx) (t : Tx) : szLog (log ++ [t]) = szLog log + szTx t := by
  simp [szLog]
section
variable {P : Program} {w : World} {K : PySem.W.Frag} {mg : Str → Option Value} {base : Heap}
theorem liveC {S : List Addr} {H : Hp} {a : Addr} (h : H a ≠ none) (k : Live S H) : Live (a :: S) H := fun s hs => (List.mem_cons.mp hs).elim (fun e => by rw [e]; exact h) (k s)
def spLog (K : PySem.W.Frag) : Sp := fun vs H Q _ => ∃ (p : Addr) (n : Int) (slots homes number : Int), vs = [.ref p, .int slots, .int homes, .int number] ∧ SrcAt H p n ∧ n ≤ 2 ^ 37 ∧ 1 ≤ homes ∧ homes ≤ 32 ∧ 0 ≤ slots ∧ slots ≤ 64 ∧
  ∀ t l xs log H', But [p] H H' → SrcAt H' p (n + 20000) → H l = none → SqT K H' t [.ref l, .int (szLog log : Nat)] → H' l = some (.lst xs) → (∀ S, Live S H → DnAll K S H' xs (log.map dTx)) → LogB number homes log → (szLog log : Int) ≤ slots → log.length ≤ 20 → Q (.ref t) H'
abbrev s_law_log : Stmt := top 42
abbrev N_law_log : List Str := ["_law_source_here", "_law_slots", "_law_homes", "_law_number", "_law_found", "_law_taken", "_law_k", "_law_more", "_law_copies", "_law_revokes"]
theorem sc_law_log : FnScope N_law_log ["_law_source_here", "_law_slots", "_law_homes", "_law_number"] (defScope s_law_log) :=
  ⟨rfl, rfl, rfl, by decide +kernel, rfl, by decide +kernel, by decide +kernel⟩

theorem ok_log {f : Addr} {fd : FuncData} (F : Fun K "_law_log" "_law_log" s_law_log f fd) (B : Bl mg) (C_law_pick : Cl P w K mg base CX0 2 "_law_pick" (spPick K)) (C_law_parts : Cl P w K mg base CX0 4 "_law_parts" (spParts K))
    (C_law_records : Cl P w K mg base CX0 1 "_law_records" (spRecs K)) :
    FnOk P w K mg base CX0 5 f fd ["_law_source_here", "_law_slots", "_law_homes", "_law_number"] (spLog K) := by
  refine F.ok sc_law_log (fun vs H Q E h => ?_) (fun cdv A outer s H vs Q E hr h => ?_)
  · obtain ⟨_, _, _, _, _, rfl, _⟩ := h
    rfl
  · obtain ⟨p, n, slots, homes, number, rfl, hp, hn, hh0, hh1, hs0, hs1, k⟩ := h
    have nd := sc_law_log.nd
    have lvp := hp.live
    refine ⟨_, (pss_cons (ps_set (i := 4) nd rfl (by first | exact Or.inl rfl | exact Or.inr rfl) (pe_lst pa_nil))
      (pss_cons (ps_set (i := 5) nd rfl (by first | exact Or.inl rfl | exact Or.inr rfl) pe_int)
      (pss_cons (ps_for PassesOwn.never rfl (pi_range1 rfl B.range (pa_cons (pe_cl (E := fun _ => E0) C_law_pick hr (by decide) pass00 (pa_cons (pv 0) (pa_cons (pe_lst (pa_cons pe_int (pa_cons pe_int (pa_cons pe_int (pa_cons pe_int (pa_cons pe_int pa_nil)))))) pa_nil))) pa_nil)) (pg_name (i := 6) nd rfl (by first | exact Or.inl rfl | exact Or.inr rfl))
      (pss_cons (ps_asg (pe_cl (E := fun _ => E0) C_law_parts hr (by decide) pass00 (pa_cons (pv 0) (pa_cons (pv 2) pa_nil))) (pg_tpl (K := K) rfl (pgs_cons (pg_name (i := 8) nd rfl (by first | exact Or.inl rfl | exact Or.inr rfl)) (pgs_cons (pg_name (i := 9) nd rfl (by first | exact Or.inl rfl | exact Or.inr rfl)) pgs_nil))))
      (pss_cons (ps_set (i := 7) nd rfl (by first | exact Or.inl rfl | exact Or.inr rfl) (pe_callB (call_lenA (K := K)) rfl B.len PySem.boot_len (pa_cons (pe_cl (E := fun _ => E0) C_law_records hr (by decide) pass00 (pa_cons pe_int (pa_cons (pv 8) (pa_cons (pv 9) pa_nil)))) pa_nil)))
      (pss_one (ps_if (pt_cmpR op_le (pe_op (op_addA (K := K)) (pv 5) (pv 7)) (pv 1) (nomark _)) (pss_cons (ps_expr (pe_bm PySem.F.plainAttrs_list PySem.F.slot_list_append PySem.F.type_list_append mt_append (pv 4) (pa_cons (pe_tup (pa_cons (pe_op (op_addA (K := K)) (pv 3) (pe_callB (call_lenA (K := K)) rfl B.len PySem.boot_len (pa_cons (pv 4) pa_nil))) (pa_cons (pv 8) (pa_cons (pv 9) pa_nil)))) pa_nil)))
      (pss_one (ps_set (i := 5) nd rfl (by first | exact Or.inl rfl | exact Or.inr rfl) (pe_op (op_addA (K := K)) (pv 5) (pv 7))))) pss_nil)))))
      (pss_one (ps_ret (pe_tup (pa_cons (pv 4) (pa_cons (pv 5) pa_nil)))))))), ?_⟩
    repeat walk_at "s"
    refine r_newL (sz (Nat.le_of_ble_eq_true rfl)) (fun l H1 hl s1 hl1 => ?_)
    repeat walk_at "s"
    refine r_newL (sz (Nat.le_of_ble_eq_true rfl)) (fun pk H2 hpk s2 hpk2 => ?_)
    repeat walk_at "s"
    have npl : l ≠ p := by walk_at "ne"
    refine ⟨p, pk, n, _, rfl, by walk_at "src", by omega, by walk_at "ne", SqL.of hpk2, by simp, by simp, fun i1 v1 H3 hi1 b3 hp3 => ?_⟩
    obtain ⟨cnt, rfl, hc0, hc1⟩ : ∃ m, v1 = .int m ∧ 0 ≤ m ∧ m ≤ 20 := by
      have hv := List.mem_of_getElem? hi1
      simp only [List.mem_cons, List.not_mem_nil, or_false] at hv
      rcases hv with rfl | rfl | rfl | rfl | rfl <;> exact ⟨_, rfl, by decide, by decide⟩
    repeat walk_at "s"
    have hl3 : H3 l = some (.lst []) := by walk_at "hp"
    have bH3 : But [p] H H3 := by walk_at "bt"
    clear b3 s1 s2
    refine forR (by omega) (fun i σ H' => ∃ o6 o7 o8 o9 xs log, σ = [some (.ref p), some (.int slots), some (.int homes), some (.int number), some (.ref l), some (.int (szLog log : Nat)), o6, o7, o8, o9] ∧ But [p] H H' ∧ SrcAt H' p (n + 1 + 900 * i) ∧ H' l = some (.lst xs) ∧
        (∀ S, Live S H → DnAll K (l :: S) H' xs (log.map dTx)) ∧ LogB number homes log ∧ (szLog log : Int) ≤ slots ∧ log.length ≤ i)
      ⟨_, _, _, _, [], [], rfl, bH3, by simpa using hp3, hl3, fun _ _ => .nil, ⟨by simp, by simp⟩, hs0, Nat.le_refl _⟩ ?_ ?_
    · rintro i σ H4 hi ⟨o6, o7, o8, o9, xs, log, rfl, b4, hp4, hl4, hxs, lb, hsz, hll⟩
      have lvp4 := hp4.live
      repeat walk_at "s"
      refine ⟨p, n + 1 + 900 * i, homes, rfl, hp4, by omega, by omega, by omega, fun t c r xc cs rs H5 b5 hp5 hcs hrs hrl ht hc5 hxc hr5 fc fr hcr => ?_⟩
      have nlc : ∀ c ∈ cs, noL c.2 = true := fun c hc => (hcs.val c hc).nol
      have csl := hcs.len
      repeat walk_at "s"
      refine ⟨1, c, r, xc, cs, rs, rfl, hc5, hxc, hr5, nlc, by omega, by omega, fun rl ys H6 hrl0 s6 hrl6 hys => ?_⟩
      have eyl : ys.length = szTx (number + log.length, cs, rs) := by rw [hys.length, List.length_map]; rfl
      have b46 : But [p] H4 H6 := b5.trans (But.of_same s6)
      have hl6 : H6 l = some (.lst xs) := b46.at hl4 (by simpa using npl)
      have hc6 := s6 _ _ hc5
      have hr6 := s6 _ _ hr5
      have xl : xs.length = log.length := by rw [(hxs [] Live.nil).length, List.length_map]
      have lvl : H4 l ≠ none := live_of hl4
      have ncl : c ≠ l := fun z => lvl (z ▸ fc)
      have nrl : r ≠ l := fun z => lvl (z ▸ fr)
      have ncp : c ≠ p := fun z => lvp4 (z ▸ fc)
      have nrp : r ≠ p := fun z => lvp4 (z ▸ fr)
      have hp6 : SrcAt H6 p (n + 1 + 900 * i + 600) := hp5.same s6
      have leH4 : ∀ S, Live S H → Live S H4 := fun S hS => hS.but b4
      have fH4 : Le H H4 := fun b e => b4.live b e
      have s6' := s6
      clear b5 s6
      repeat walk_at "s"
      refine r_ite (fun hle => ?_) (fun hle => ?_)
      · repeat walk_at "s"
        refine r_newT (sz (Nat.le_of_ble_eq_true rfl)) (fun T H7 hT s7 hT7 => ?_)
        repeat walk_at "s"
        refine r_app (s7 _ _ hl6) (szl (by omega)) (fun H8 b8 hl8 => ?_)
        repeat walk_at "s"
        have b68 : But [l] H6 H8 := (But.of_same s7).trans b8
        have esz : ((szLog log : Nat) : Int) + (ys.length : Int) = ((szLog (log ++ [(number + log.length, cs, rs)]) : Nat) : Int) := by
          rw [szLog_snoc, ← eyl]; omega
        rw [esz]
        have fl : H l = none := hl
        refine ⟨_, _, _, _, xs ++ [.ref T], log ++ [(number + log.length, cs, rs)], rfl, bt_but (b4.trans b46) b68 (bc_fr fl bc_nil), ?_, hl8, fun S hS => ?_, lb.snoc ⟨hcs, hrs, hrl⟩, by omega, by rw [List.length_append, List.length_singleton]; omega⟩
        · exact ((hp6.but b68 (by simpa using npl.symm)).mono (by omega))
        · rw [List.map_append]
          have q1 : DnAll K (l :: S) H8 xs (log.map dTx) :=
            (((hxs (p :: S) (liveC lvp hS)).but b46 (by simp)).but b68 (by simp)).sub fun z hz => by
              rcases List.mem_cons.mp hz with e | hz
              · rw [e]; exact List.mem_cons_self
              · exact List.mem_cons_of_mem _ (List.mem_cons_of_mem _ hz)
          have lv4 := leH4 S hS
          refine q1.snoc (.tup (SqT.of (b8.tup hT7)) (.cons ?_ (.cons (.lst (b68.at hc6 (by simpa using ncl)) (ni_cons ncl (lv4.ne fc)) ?_) (.one (.lst (b68.at hr6 (by simpa using nrl)) (ni_cons nrl (lv4.ne fr)) DnAll.ints)))))
          · rw [xl]; exact .int _
          · have h6 : DnAll K [] H6 xc (cs.map dWr) := hxc.same (fun b o e => s6' b o e)
            exact h6.nlb (noLs_map fun c hc => nol_dWr (nlc c hc)) b68
      · repeat walk_at "s"
        refine ⟨_, _, _, _, xs, log, rfl, b4.trans b46, hp6.mono (by omega), hl6, fun S hS => ?_, lb, hsz, by omega⟩
        exact ((hxs (p :: S) (liveC lvp hS)).but b46 (by simp)).sub fun z hz => by
          rcases List.mem_cons.mp hz with e | hz
          · rw [e]; exact List.mem_cons_self
          · exact List.mem_cons_of_mem _ (List.mem_cons_of_mem _ hz)
    · rintro σ H4 ⟨o6, o7, o8, o9, xs, log, rfl, b4, hp4, hl4, hxs, lb, hsz, hll⟩
      have e1 : ((cnt.toNat : Nat) : Int) = cnt := Int.toNat_of_nonneg hc0
      repeat walk_at "s"
      refine r_newT (sz (Nat.le_of_ble_eq_true rfl)) (fun t H5 ht s5 ht5 => ?_)
      have fl : H l = none := hl
      exact k t l xs log H5 (b4.trans (But.of_same s5)) ((hp4.same s5).mono (by omega)) fl (.of ht5) (s5 _ _ hl4) (fun S hS => ((hxs S hS).sub (by intro z hz; exact List.mem_cons_of_mem _ hz)).same s5) lb hsz (by omega)
end
end L24

open PySem L2 PyProof.Rows J

namespace L24
/-! ### records written into the ring -/
def wRec (s : Nat) (num : Int) (st : DM × Nat) (rc : Rc) : DM × Nat := (st.1.write (1 + (st.2 : Int)) (rcD num rc), (st.2 + 1) % s)
def wRecs (s : Nat) (num : Int) (st : DM × Nat) (l : List Rc) : DM × Nat := l.foldl (wRec s num) st
def wLog (s : Nat) (st : DM × Nat) (log : List Tx) : DM × Nat := log.foldl (fun st t => wRecs s t.1 st (recs t.2.1 t.2.2)) st
section
variable {P : Program} {w : World} {K : PySem.W.Frag} {mg : Str → Option Value} {base : Heap} {CDisk : Addr}
theorem recs_block {num : Int} {cs : List (Int × PyData)} {rs : List Int} (hv : ∀ c ∈ cs, VOk c.2) {rc : Rc} (h : rc ∈ recs cs rs) : blockB (rcD num rc) = true := by
  have vk : ∀ v, VOk v → v.depth ≤ 7 := fun v h => Nat.le_trans h.ok.dep (by decide)
  refine block_rcD (fun hs e => ?_) (fun v e => ?_)
  · unfold recs at h
    rcases List.mem_append.mp h with h | h
    · rcases List.mem_append.mp h with h | h
      · obtain ⟨k, _, q⟩ := List.mem_map.mp h
        rcases e with e | e
        · rw [← q] at e
          cases e
          have := cut8_len rs k
          omega
        · rw [← q] at e; cases e
      · obtain ⟨k, _, h⟩ := List.mem_flatMap.mp h
        rcases List.mem_cons.mp h with h | h
        · rw [h] at e
          rcases e with e | e
          · cases e
          · cases e
            have := cut8_len cs k
            rw [List.length_map]; omega
        · obtain ⟨c, _, q⟩ := List.mem_map.mp h
          rw [← q] at e
          rcases e with e | e <;> cases e
    · rw [List.mem_singleton.mp h] at e
      rcases e with e | e <;> cases e
  · subst e
    unfold recs at h
    rcases List.mem_append.mp h with h | h
    · rcases List.mem_append.mp h with h | h
      · exact (copy_revUp h).elim
      · obtain ⟨c, hc, rfl⟩ := copy_descUp h
        exact ⟨(hv c hc).blk, vk _ (hv c hc)⟩
    · cases List.mem_singleton.mp h
def spWritten (K : PySem.W.Frag) (CDisk : Addr) : Sp := fun vs H Q _ => ∃ (d a : Addr) (fd : List Addr) (s slot n m : Nat) (D : DM) (xs : List V) (log : List Tx), vs = [.ref d, .int s, .int slot, .ref a] ∧ DiskAt K CDisk H d fd n m D ∧ 1 ≤ s ∧ 1 + s ≤ n ∧ slot < s ∧
  H a = some (.lst xs) ∧ a ∉ fd ∧ DnAll K fd H xs (log.map dTx) ∧ (∀ t ∈ log, TxB 32 t) ∧ m + szLog log < 1000000 ∧
  ∀ H', But fd H H' → DiskAt K CDisk H' d fd n (m + szLog log) (wLog s (D, slot) log).1 → Q (.int ((wLog s (D, slot) log).2 : Nat)) H'
theorem tx_inv {S : List Addr} {H : Hp} {v : V} {t : Tx} (h : Dn K S H v (dTx t)) : ∃ p c r cs, v = .ref p ∧ SqT K H p [.int t.1, .ref c, .ref r] ∧
    H c = some (.lst cs) ∧ c ∉ S ∧ DnAll K S H cs (t.2.1.map dWr) ∧ H r = some (.lst (t.2.2.map V.int)) ∧ r ∉ S := by
  obtain ⟨p, xs, rfl, h1, h2⟩ := h.tup_inv
  obtain ⟨n, _, rfl, h3, h4⟩ := h2.cons_inv
  obtain ⟨c, _, rfl, h5, h6⟩ := h4.cons_inv
  obtain ⟨r, _, rfl, h7, h8⟩ := h6.cons_inv
  obtain rfl := h8.nil_inv
  obtain rfl := h3.int_inv
  obtain ⟨c, cs, rfl, h9, h10, h11⟩ := h5.lst_inv
  obtain ⟨r, rs, rfl, h12, h13, h14⟩ := h7.lst_inv
  obtain rfl := h14.ints_of
  exact ⟨p, c, r, cs, rfl, h1, h9, h10, h11, h12, h13⟩
theorem wRecs_slot {s : Nat} {num : Int} (hs : 1 ≤ s) : ∀ (l : List Rc) (st : DM × Nat), st.2 < s → (wRecs s num st l).2 < s
  | [], _, h => h
  | rc :: l, st, h => wRecs_slot hs l (wRec s num st rc) (Nat.mod_lt _ (by omega))
theorem wLog_slot {s : Nat} (hs : 1 ≤ s) : ∀ (l : List Tx) (st : DM × Nat), st.2 < s → (wLog s st l).2 < s
  | [], _, h => h
  | t :: l, st, h => wLog_slot hs l (wRecs s t.1 st (recs t.2.1 t.2.2)) (wRecs_slot hs _ _ h)
theorem szLog_take {log : List Tx} {i : Nat} {t : Tx} (h : log[i]? = some t) : szLog (log.take (i + 1)) = szLog (log.take i) + szTx t := by
  rw [List.take_add_one, h]
  exact szLog_snoc _ _
theorem szLog_le {log : List Tx} (i : Nat) : szLog (log.take i) ≤ szLog log := by
  have e : szLog log = szLog (log.take i) + szLog (log.drop i) := by
    unfold szLog
    rw [← List.sum_append, ← List.map_append, List.take_append_drop]
  omega
abbrev s_law_written : Stmt := top 43
abbrev N_law_written : List Str := ["_law_disk", "_law_slots", "_law_slot", "_law_log_here", "_law_number", "_law_copies", "_law_revokes", "_law_record"]
theorem sc_law_written : FnScope N_law_written ["_law_disk", "_law_slots", "_law_slot", "_law_log_here"] (defScope s_law_written) :=
  ⟨rfl, rfl, rfl, by decide +kernel, rfl, by decide +kernel, by decide +kernel⟩

theorem ok_written {f : Addr} {fd : FuncData} (F : Fun K "_law_written" "_law_written" s_law_written f fd) (C_law_records : Cl P w K mg base CX0 1 "_law_records" (spRecs K)) (M_Disk_write : C8.Met P w K mg base 12 CDisk "write" (spWrite K CDisk) []) :
    FnOk P w K mg base CX0 13 f fd ["_law_disk", "_law_slots", "_law_slot", "_law_log_here"] (spWritten K CDisk) := by
  refine F.ok sc_law_written (fun vs H Q E h => ?_) (fun cdv A outer s H vs Q E hr h => ?_)
  · obtain ⟨_, _, _, _, _, _, _, _, _, _, rfl, _⟩ := h
    rfl
  · obtain ⟨d, a, fd, sl, slot, n, m, D, xs, log, rfl, hD, hs1, hn, hslot, ha, haf, hxs, htx, hm, k⟩ := h
    have nd := sc_law_written.nd
    have hlen : xs.length = log.length := by rw [hxs.length, List.length_map]
    refine ⟨_, (pss_cons (ps_for PassesOwn.never rfl (pi_lst (K := K) (pv 3)) (pg_tpl (K := K) rfl (pgs_cons (pg_name (i := 4) nd rfl (by first | exact Or.inl rfl | exact Or.inr rfl)) (pgs_cons (pg_name (i := 5) nd rfl (by first | exact Or.inl rfl | exact Or.inr rfl)) (pgs_cons (pg_name (i := 6) nd rfl (by first | exact Or.inl rfl | exact Or.inr rfl)) pgs_nil))))
      (pss_one (ps_for PassesOwn.never rfl (pi_lst (K := K) (pe_cl (E := fun _ => E0) C_law_records hr (by decide) pass00 (pa_cons (pv 4) (pa_cons (pv 5) (pa_cons (pv 6) pa_nil))))) (pg_name (i := 7) nd rfl (by first | exact Or.inl rfl | exact Or.inr rfl))
      (pss_cons (ps_expr (C8.pe_mt M_Disk_write hr (by decide) (pv 0) (pa_cons (pe_op (op_addA (K := K)) pe_int (pv 2)) (pa_cons (pv 7) pa_nil))))
      (pss_one (ps_set (i := 2) nd rfl (by first | exact Or.inl rfl | exact Or.inr rfl) (pe_op op_mod (pe_op (op_addA (K := K)) (pv 2) pe_int) (pv 1))))))))
      (pss_one (ps_ret (pv 2)))), ?_⟩
    repeat walk_at "s"
    refine forL (.of ha) (fun i σ H' => ∃ o4 o5 o6 o7, σ = [some (.ref d), some (.int sl), some (.int ((wLog sl (D, slot) (log.take i)).2 : Nat)), some (.ref a), o4, o5, o6, o7] ∧ But fd H H' ∧
        DiskAt K CDisk H' d fd n (m + szLog (log.take i)) (wLog sl (D, slot) (log.take i)).1)
      ⟨_, _, _, _, rfl, .refl, hD⟩ ?_ ?_ ?_
    · rintro i σ H1 hi ⟨o4, o5, o6, o7, rfl, b1, hD1⟩
      exact .of (b1.at ha haf)
    · rintro i x σ H1 hi ⟨o4, o5, o6, o7, rfl, b1, hD1⟩
      obtain ⟨dd, hdd, hdn⟩ := hxs.get hi
      obtain ⟨t, ht, rfl⟩ := map_getG hdd
      obtain ⟨p, c, r, xc, rfl, hp, hc, hcS, hxc, hrr, hrS⟩ := tx_inv hdn
      have tok := htx t (List.mem_of_getElem? ht)
      have nlc : ∀ c ∈ t.2.1, noL c.2 = true := fun c hc => (tok.cs.val c hc).nol
      have csl := tok.cs.len
      have rsl := tok.rl
      have stake : wLog sl (D, slot) (log.take (i + 1)) = wRecs sl t.1 (wLog sl (D, slot) (log.take i)) (recs t.2.1 t.2.2) := foldl_takeG ht
      have sztake := szLog_take ht
      have szle := szLog_le (log := log) (i + 1)
      have sl0 : (wLog sl (D, slot) (log.take i)).2 < sl := wLog_slot hs1 _ _ hslot
      have hp1 : SqT K H1 p [.int t.1, .ref c, .ref r] := b1.sqT hp
      repeat walk_at "s"
      refine ⟨t.1, c, r, xc, t.2.1, t.2.2, rfl, b1.at hc hcS, (hxc.nlb (noLs_map fun c hc => nol_dWr (nlc c hc)) b1), b1.at hrr hrS, nlc, by omega, by omega, fun l ys H2 hl s2 hl2 hys => ?_⟩
      have ylen : ys.length = (recs t.2.1 t.2.2).length := by rw [hys.length, List.length_map]
      have nlf : l ∉ fd := fun z => hD1.live l z hl
      have nly : noLs ((recs t.2.1 t.2.2).map (rcD t.1)) = true := noLs_map fun rc hrc => blockB_nol (recs_block tok.cs.val hrc)
      refine forL (.of hl2) (fun j σ H' => ∃ o7, σ = [some (.ref d), some (.int sl), some (.int ((wRecs sl t.1 (wLog sl (D, slot) (log.take i)) ((recs t.2.1 t.2.2).take j)).2 : Nat)), some (.ref a), some (.int t.1), some (.ref c), some (.ref r), o7] ∧ But fd H2 H' ∧
          DiskAt K CDisk H' d fd n (m + szLog (log.take i) + j) (wRecs sl t.1 (wLog sl (D, slot) (log.take i)) ((recs t.2.1 t.2.2).take j)).1)
        ⟨_, rfl, .refl, hD1.same s2⟩ ?_ ?_ ?_
      · rintro j σ H3 hj ⟨o7, rfl, b3, hD3⟩
        exact .of (b3.at hl2 nlf)
      · rintro j y σ H3 hj ⟨o7, rfl, b3, hD3⟩
        obtain ⟨dr, hdr, hyr⟩ := hys.get hj
        obtain ⟨rc, hrc, rfl⟩ := map_getG hdr
        have hrm := List.mem_of_getElem? hrc
        have hjl : j < (recs t.2.1 t.2.2).length := (List.getElem?_eq_some_iff.mp hrc).1
        have hbl := recs_block (num := t.1) tok.cs.val hrm
        have rtake : wRecs sl t.1 (wLog sl (D, slot) (log.take i)) ((recs t.2.1 t.2.2).take (j + 1)) = wRec sl t.1 (wRecs sl t.1 (wLog sl (D, slot) (log.take i)) ((recs t.2.1 t.2.2).take j)) rc := foldl_takeG hrc
        have sl1 : (wRecs sl t.1 (wLog sl (D, slot) (log.take i)) ((recs t.2.1 t.2.2).take j)).2 < sl := wRecs_slot hs1 _ _ sl0
        have szd : szTx t = (recs t.2.1 t.2.2).length := rfl
        obtain ⟨dx, l1, l2, l3, l4, x1, x2, x3, x4, efd, hnd, h0, _⟩ := hD3.ex
        repeat walk_at "s"
        refine r_methAt h0 (by with_unfolding_all rfl) ?_
        repeat walk_at "s"
        refine ⟨d, fd, n, _, _, _, y, [], rcD t.1 rc, rfl, hD3, by omega, by omega, by omega, hyr.nlb (blockB_nol hbl) b3, hbl, fun H4 b4 hD4 => ?_⟩
        repeat walk_at "s"
        have epl : (((wRecs sl t.1 (wLog sl (D, slot) (log.take i)) ((recs t.2.1 t.2.2).take j)).2 : Nat) : Int) + 1 = (((wRecs sl t.1 (wLog sl (D, slot) (log.take i)) ((recs t.2.1 t.2.2).take j)).2 + 1 : Nat) : Int) := by omega
        rw [epl, ← Int.natCast_emod]
        refine ⟨some y, ?_, b3.trans b4, ?_⟩
        · rw [rtake]; rfl
        · rw [rtake]; exact hD4
      · rintro σ H3 ⟨o7, rfl, b3, hD3⟩
        rw [ylen, List.take_length] at hD3
        rw [ylen, List.take_length]
        refine ⟨some (.int t.1), some (.ref c), some (.ref r), o7, ?_, b1.trans ((But.of_same s2).trans b3), ?_⟩
        · rw [stake]
        · rw [stake, sztake]
          have szd : szTx t = (recs t.2.1 t.2.2).length := rfl
          rw [← szd] at hD3
          rw [← Nat.add_assoc]
          exact hD3
    · rintro σ H1 ⟨o4, o5, o6, o7, rfl, b1, hD1⟩
      rw [hlen, List.take_length] at hD1
      rw [hlen, List.take_length]
      repeat walk_at "s"
      exact k H1 b1 hD1
end
end L24

set_option Elab.async false
set_option linter.all false
set_option maxHeartbeats 4000000
open PySem L2 PyProof.Rows J
namespace L24
/-! ### what is read behind writes -/
theorem read_write (D : DM) (b c : Int) (v : PyData) : (D.write b v).read c = if b = c then v else D.read c := by
  unfold DM.read DM.write lastW
  rw [List.foldl_append]; rfl
theorem mod_inj {s p i j : Nat} (hs : 0 < s) (hi : i < s) (hj : j < s) (h : (p + i) % s = (p + j) % s) : i = j := by
  have e1 : ∀ k, k < s → (p + k) % s = if p % s + k < s then p % s + k else p % s + k - s := fun k hk => by
    rw [Nat.add_mod, Nat.mod_eq_of_lt hk]
    have hp := Nat.mod_lt p hs
    split
    · rename_i h; exact Nat.mod_eq_of_lt h
    · rename_i h
      rw [Nat.mod_eq_sub_mod (by omega)]
      exact Nat.mod_eq_of_lt (by omega)
  rw [e1 i hi, e1 j hj] at h
  have hp := Nat.mod_lt p hs
  split at h <;> split at h <;> omega
/-- behind the writing of l from slot p on: the slot p + k -/
theorem wRecs_read {s : Nat} {num : Int} (hs : 0 < s) : ∀ (l : List Rc) (D : DM) (p : Nat), p < s → l.length ≤ s → ∀ k, k < s →
    (wRecs s num (D, p) l).1.read (1 + (((p + k) % s : Nat) : Int)) = match l[k]? with | some rc => rcD num rc | none => D.read (1 + (((p + k) % s : Nat) : Int))
  | [], D, p, hp, hl, k, hk => rfl
  | rc :: l, D, p, hp, hl, k, hk => by
    have e : wRecs s num (D, p) (rc :: l) = wRecs s num (D.write (1 + (p : Int)) (rcD num rc), (p + 1) % s) l := rfl
    rw [e]
    rw [List.length_cons] at hl
    cases k with
    | zero =>
      have ih := wRecs_read (num := num) hs l (D.write (1 + (p : Int)) (rcD num rc)) ((p + 1) % s) (Nat.mod_lt _ hs) (by omega) (s - 1) (by omega)
      have e2 : ((p + 1) % s + (s - 1)) % s = p := by
        rw [Nat.mod_add_mod, show p + 1 + (s - 1) = p + s by omega, Nat.add_mod_right, Nat.mod_eq_of_lt hp]
      rw [e2] at ih
      have e3 : l[s - 1]? = none := List.getElem?_eq_none (by omega)
      rw [e3] at ih
      have e4 : (p + 0) % s = p := by rw [Nat.add_zero, Nat.mod_eq_of_lt hp]
      rw [e4, ih]
      show (D.write (1 + (p : Int)) (rcD num rc)).read (1 + (p : Int)) = rcD num rc
      rw [read_write, if_pos rfl]
    | succ k =>
      have ih := wRecs_read (num := num) hs l (D.write (1 + (p : Int)) (rcD num rc)) ((p + 1) % s) (Nat.mod_lt _ hs) (by omega) k (by omega)
      have e2 : ((p + 1) % s + k) % s = (p + (k + 1)) % s := by
        rw [Nat.mod_add_mod, show p + 1 + k = p + (k + 1) by omega]
      rw [e2] at ih
      rw [ih, List.getElem?_cons_succ]
      cases l[k]? with
      | some _ => rfl
      | none =>
        show (D.write (1 + (p : Int)) (rcD num rc)).read _ = D.read _
        rw [read_write, if_neg]
        intro z
        have z2 : (p + 0) % s = (p + (k + 1)) % s := by
          rw [Nat.add_zero, Nat.mod_eq_of_lt hp]; omega
        have := mod_inj hs (by omega) hk z2
        omega
theorem wRecs_pos {s : Nat} {num : Int} : ∀ (l : List Rc) (D : DM) (p : Nat), p < s → (wRecs s num (D, p) l).2 = (p + l.length) % s
  | [], D, p, hp => (Nat.mod_eq_of_lt hp).symm
  | rc :: l, D, p, hp => by
    have ih := wRecs_pos (num := num) l (D.write (1 + (p : Int)) (rcD num rc)) ((p + 1) % s) (Nat.mod_lt _ (by omega))
    have e : wRecs s num (D, p) (rc :: l) = wRecs s num (D.write (1 + (p : Int)) (rcD num rc), (p + 1) % s) l := rfl
    rw [e, ih, Nat.mod_add_mod, List.length_cons, show p + 1 + l.length = p + (l.length + 1) by omega]
/-! ### a transaction that is read -/
theorem takeC_seq {s : Nat} {rec : Nat → Option Rc} (hs : 0 < s) : ∀ (g : List (Int × PyData)) (p l : Nat) (cs : List (Int × PyData)), p < s → g.length ≤ l → (∀ k (c : Int × PyData), g[k]? = some c → rec ((p + k) % s) = some (.copy c.2)) →
    takeC s rec (g.map (·.1)) p l cs = some ((p + g.length) % s, l - g.length, cs ++ g)
  | [], p, l, cs, hp, _, _ => by
    show some (p, l, cs) = _
    rw [List.length_nil, Nat.add_zero, Nat.mod_eq_of_lt hp, List.append_nil]; rfl
  | c :: g, p, l, cs, hp, hl, h => by
    rw [List.length_cons] at hl
    have h0 := h 0 c rfl
    rw [Nat.add_zero, Nat.mod_eq_of_lt hp] at h0
    have ih := takeC_seq hs g ((p + 1) % s) (l - 1) (cs ++ [(c.1, c.2)]) (Nat.mod_lt _ hs) (by omega) fun k d hd => by
      have := h (k + 1) d (by rw [List.getElem?_cons_succ]; exact hd)
      rw [Nat.mod_add_mod, show p + 1 + k = p + (k + 1) by omega]; exact this
    show (if l = 0 then none else match rec p with | some (.copy v) => takeC s rec (g.map (·.1)) ((p + 1) % s) (l - 1) (cs ++ [(c.1, v)]) | _ => none) = _
    rw [if_neg (by omega), h0]
    show takeC s rec (g.map (·.1)) ((p + 1) % s) (l - 1) (cs ++ [(c.1, c.2)]) = _
    rw [ih, Nat.mod_add_mod, List.length_cons, show p + 1 + g.length = p + (g.length + 1) by omega, List.append_assoc]
    have : l - 1 - g.length = l - (g.length + 1) := by omega
    rw [this]; rfl
end L24

set_option Elab.async false
set_option linter.all false
set_option maxHeartbeats 4000000
open PySem L2 PyProof.Rows J
namespace L24
inductive Piece where
  | rev (hs : List Int)
  | desc (g : List (Int × PyData))
def pRecs : Piece → List Rc
  | .rev hs => [.revoke hs]
  | .desc g => descG g
def pCs : Piece → List (Int × PyData)
  | .rev _ => []
  | .desc g => g
def pRs : Piece → List Int
  | .rev hs => hs
  | .desc _ => []
def pieces (cs : List (Int × PyData)) (rs : List Int) : List Piece := ((List.range (n8 rs)).map fun k => .rev (cut8 rs k)) ++ (List.range (n8 cs)).map fun k => .desc (cut8 cs k)
theorem recs_pieces (cs : List (Int × PyData)) (rs : List Int) : recs cs rs = (pieces cs rs).flatMap pRecs ++ [.commit] := by
  unfold recs pieces revUp descUp
  rw [List.flatMap_append]
  congr 2
  · induction List.range (n8 rs) with
    | nil => rfl
    | cons a l ih => rw [List.map_cons, List.map_cons, List.flatMap_cons, ← ih]; rfl
  · induction List.range (n8 cs) with
    | nil => rfl
    | cons a l ih => rw [List.map_cons, List.flatMap_cons, List.flatMap_cons, ← ih]; rfl
theorem cut8_all {α : Type} (xs : List α) (i : Nat) : (List.range i).flatMap (cut8 xs) = xs.take (8 * i) := by
  induction i with
  | zero => simp
  | succ i ih =>
    rw [List.range_succ, List.flatMap_append, ih, show 8 * (i + 1) = 8 * i + 8 by omega, List.take_add]
    simp [cut8]
theorem cut8_whole {α : Type} (xs : List α) : (List.range (n8 xs)).flatMap (cut8 xs) = xs := by
  rw [cut8_all]
  exact List.take_of_length_le (by unfold n8; omega)
theorem pieces_cs (cs : List (Int × PyData)) (rs : List Int) : (pieces cs rs).flatMap pCs = cs := by
  unfold pieces
  rw [List.flatMap_append]
  have e1 : (List.map (fun k => Piece.rev (cut8 rs k)) (List.range (n8 rs))).flatMap pCs = [] := by
    induction List.range (n8 rs) with
    | nil => rfl
    | cons a l ih => rw [List.map_cons, List.flatMap_cons, ih]; rfl
  have e2 : (List.map (fun k => Piece.desc (cut8 cs k)) (List.range (n8 cs))).flatMap pCs = (List.range (n8 cs)).flatMap (cut8 cs) := by
    induction List.range (n8 cs) with
    | nil => rfl
    | cons a l ih => rw [List.map_cons, List.flatMap_cons, List.flatMap_cons, ih]; rfl
  rw [e1, e2, cut8_whole]; rfl
theorem pieces_rs (cs : List (Int × PyData)) (rs : List Int) : (pieces cs rs).flatMap pRs = rs := by
  unfold pieces
  rw [List.flatMap_append]
  have e1 : (List.map (fun k => Piece.rev (cut8 rs k)) (List.range (n8 rs))).flatMap pRs = (List.range (n8 rs)).flatMap (cut8 rs) := by
    induction List.range (n8 rs) with
    | nil => rfl
    | cons a l ih => rw [List.map_cons, List.flatMap_cons, List.flatMap_cons, ih]; rfl
  have e2 : (List.map (fun k => Piece.desc (cut8 cs k)) (List.range (n8 cs))).flatMap pRs = [] := by
    induction List.range (n8 cs) with
    | nil => rfl
    | cons a l ih => rw [List.map_cons, List.flatMap_cons, ih]; rfl
  rw [e1, e2, cut8_whole, List.append_nil]
/-- the records l stand from slot p on -/
def Stand (s : Nat) (rec : Nat → Option Rc) (p : Nat) (l : List Rc) : Prop := ∀ k (rc : Rc), l[k]? = some rc → rec ((p + k) % s) = some rc
theorem Stand.left {s p : Nat} {rec : Nat → Option Rc} {l m : List Rc} (h : Stand s rec p (l ++ m)) : Stand s rec p l := fun k rc e =>
  h k rc (by rw [List.getElem?_append_left (List.getElem?_eq_some_iff.mp e).1]; exact e)
theorem Stand.right {s p : Nat} {rec : Nat → Option Rc} {l m : List Rc} (h : Stand s rec p (l ++ m)) : Stand s rec ((p + l.length) % s) m := fun k rc e => by
  rw [Nat.mod_add_mod, Nat.add_assoc]
  exact h (l.length + k) rc (by rw [List.getElem?_append_right (by omega), Nat.add_sub_cancel_left]; exact e)
theorem complete_step {s : Nat} {rec : Nat → Option Rc} {fuel p l : Nat} {cs : List (Int × PyData)} {rs : List Int} (hl : l ≠ 0) : complete s rec (fuel + 1) p l cs rs = match rec p with
    | some .commit => some (cs, rs, (p + 1) % s)
    | some (.revoke hs) => complete s rec fuel ((p + 1) % s) (l - 1) cs (rs ++ hs)
    | some (.desc hs) => (match takeC s rec hs ((p + 1) % s) (l - 1) cs with
      | some (p', l', cs') => complete s rec fuel p' l' cs' rs
      | none => none)
    | _ => none := if_neg hl
theorem complete_pieces {s : Nat} {rec : Nat → Option Rc} (hs : 0 < s) (tl : List Rc) : ∀ (ps : List Piece) (fuel p l : Nat) (cs : List (Int × PyData)) (rs : List Int), p < s → l < fuel → (ps.flatMap pRecs).length + 1 ≤ l → Stand s rec p (ps.flatMap pRecs ++ [.commit]) →
    complete s rec fuel p l cs rs = some (cs ++ ps.flatMap pCs, rs ++ ps.flatMap pRs, (p + (ps.flatMap pRecs).length + 1) % s)
  | [], fuel, p, l, cs, rs, hp, hf, hl, h => by
    obtain ⟨f, rfl⟩ : ∃ f, fuel = f + 1 := ⟨fuel - 1, by omega⟩
    have h0 := h 0 .commit rfl
    rw [Nat.add_zero, Nat.mod_eq_of_lt hp] at h0
    rw [complete_step (by omega), h0]
    simp
  | .rev hs' :: ps, fuel, p, l, cs, rs, hp, hf, hl, h => by
    obtain ⟨f, rfl⟩ : ∃ f, fuel = f + 1 := ⟨fuel - 1, by omega⟩
    rw [List.flatMap_cons] at h hl
    have e : pRecs (.rev hs') = [.revoke hs'] := rfl
    rw [e] at h hl
    rw [List.length_append, List.length_singleton] at hl
    have h0 := h 0 (.revoke hs') rfl
    rw [Nat.add_zero, Nat.mod_eq_of_lt hp] at h0
    rw [List.append_assoc] at h
    have ih := complete_pieces hs tl ps f ((p + 1) % s) (l - 1) cs (rs ++ hs') (Nat.mod_lt _ hs) (by omega) (by omega) h.right
    rw [complete_step (by omega), h0]
    show complete s rec f ((p + 1) % s) (l - 1) cs (rs ++ hs') = _
    rw [ih, List.flatMap_cons, List.flatMap_cons, List.flatMap_cons, e]
    show some (_, rs ++ hs' ++ _, _) = some (cs ++ ([] ++ _), rs ++ (hs' ++ _), _)
    rw [List.nil_append, List.append_assoc, List.length_append, List.length_singleton, show (p + 1) % s + (ps.flatMap pRecs).length + 1 = (p + 1) % s + ((ps.flatMap pRecs).length + 1) by omega, Nat.mod_add_mod,
      show p + 1 + ((ps.flatMap pRecs).length + 1) = p + (1 + (ps.flatMap pRecs).length) + 1 by omega]
  | .desc g :: ps, fuel, p, l, cs, rs, hp, hf, hl, h => by
    obtain ⟨f, rfl⟩ : ∃ f, fuel = f + 1 := ⟨fuel - 1, by omega⟩
    rw [List.flatMap_cons] at h hl
    have e : pRecs (.desc g) = .desc (g.map (·.1)) :: g.map fun c => .copy c.2 := rfl
    rw [e] at h hl
    rw [List.length_append, List.length_cons, List.length_map] at hl
    have h0 := h 0 (.desc (g.map (·.1))) rfl
    rw [Nat.add_zero, Nat.mod_eq_of_lt hp] at h0
    rw [List.append_assoc] at h
    have hcop : ∀ k (c : Int × PyData), g[k]? = some c → rec (((p + 1) % s + k) % s) = some (.copy c.2) := fun k c hk => by
      rw [Nat.mod_add_mod, show p + 1 + k = p + (k + 1) by omega]
      refine h (k + 1) (.copy c.2) ?_
      rw [List.cons_append, List.getElem?_cons_succ, List.getElem?_append_left (by rw [List.length_map]; exact (List.getElem?_eq_some_iff.mp hk).1), List.getElem?_map, hk]; rfl
    have ht := takeC_seq hs g ((p + 1) % s) (l - 1) cs (Nat.mod_lt _ hs) (by omega) hcop
    have hr := h.right
    rw [List.length_cons, List.length_map] at hr
    have ih := complete_pieces hs tl ps f ((p + (g.length + 1)) % s) (l - 1 - g.length) (cs ++ g) rs (Nat.mod_lt _ hs) (by omega) (by omega) hr
    rw [complete_step (by omega), h0]
    simp only [ht]
    have e5 : ((p + 1) % s + g.length) % s = (p + (g.length + 1)) % s := by rw [Nat.mod_add_mod, show p + 1 + g.length = p + (g.length + 1) by omega]
    rw [e5, ih, List.flatMap_cons, List.flatMap_cons, List.flatMap_cons, e]
    show some (cs ++ g ++ _, rs ++ _, _) = some (cs ++ (g ++ _), rs ++ ([] ++ _), _)
    rw [List.nil_append, List.append_assoc, List.length_append, List.length_cons, List.length_map, show (p + (g.length + 1)) % s + (ps.flatMap pRecs).length + 1 = (p + (g.length + 1)) % s + ((ps.flatMap pRecs).length + 1) by omega, Nat.mod_add_mod,
      show p + (g.length + 1) + ((ps.flatMap pRecs).length + 1) = p + (g.length + 1 + (ps.flatMap pRecs).length) + 1 by omega]
/-- a whole transaction -/
theorem complete_recs {s : Nat} {rec : Nat → Option Rc} (hs : 0 < s) {p l : Nat} {cs : List (Int × PyData)} {rs : List Int} (hp : p < s) (hl : (recs cs rs).length ≤ l) (h : Stand s rec p (recs cs rs)) :
    complete s rec (l + 1) p l [] [] = some (cs, rs, (p + (recs cs rs).length) % s) := by
  rw [recs_pieces] at h hl ⊢
  rw [List.length_append, List.length_singleton] at hl ⊢
  rw [complete_pieces hs [] _ _ _ _ _ _ hp (by omega) hl h, pieces_cs, pieces_rs, List.nil_append, List.nil_append, Nat.add_assoc]
end L24

set_option Elab.async false
set_option linter.all false
set_option maxHeartbeats 4000000
open PySem L2 PyProof.Rows J
namespace L24
def StandLog (s : Nat) (D : DM) : Nat → List Tx → Prop
  | _, [] => True
  | p, t :: r => Stand s (D.rc t.1) p (recs t.2.1 t.2.2) ∧ StandLog s D ((p + szTx t) % s) r
theorem taken_eq {s p len : Nat} (hp : p < s) (h1 : 1 ≤ len) (h2 : len ≤ s) : ((((p + len) % s : Nat) : Int) - p - 1) % (s : Int) + 1 = len := by
  by_cases h : p + len < s
  · rw [Nat.mod_eq_of_lt h]
    have e : (((p + len : Nat) : Int) - p - 1) = ((len - 1 : Nat) : Int) := by omega
    rw [e, Int.emod_eq_of_lt (by omega) (by omega)]
    omega
  · have e0 : (p + len) % s = p + len - s := by
      rw [Nat.mod_eq_sub_mod (by omega)]
      exact Nat.mod_eq_of_lt (by omega)
    rw [e0]
    have e : (((p + len - s : Nat) : Int) - p - 1) = ((len - 1 : Nat) : Int) + (s : Int) * (-1) := by omega
    rw [e, Int.add_mul_emod_self_left, Int.emod_eq_of_lt (by omega) (by omega)]
    omega
theorem szTx_pos (t : Tx) : 1 ≤ szTx t := by
  unfold szTx
  rw [recs_pieces, List.length_append, List.length_singleton]
  omega
theorem scan_log {s : Nat} {D : DM} (hs : 0 < s) : ∀ (log : List Tx) (fuel : Nat) (num : Int) (p left : Nat) (found : List Tx), p < s → left < fuel → left ≤ s → szLog log ≤ left → (∀ (i : Nat) (t : Tx), log[i]? = some t → t.1 = num + i) → StandLog s D p log →
    txAt s D (num + log.length) ((p + szLog log) % s) = none → (scanGo s D fuel num p left found).1 = found ++ log
  | [], fuel, num, p, left, found, hp, hf, hl, hz, hn, hst, hend => by
    rw [scanGo_eq hf]
    have e : (p + szLog []) % s = p := by
      show (p + 0) % s = p
      rw [Nat.add_zero, Nat.mod_eq_of_lt hp]
    rw [e] at hend
    have e2 : num + (([] : List Tx).length : Int) = num := by simp
    rw [e2] at hend
    rw [hend, List.append_nil]
  | t :: log, fuel, num, p, left, found, hp, hf, hl, hz, hn, hst, hend => by
    have ez : szLog (t :: log) = szTx t + szLog log := by simp [szLog]
    have hpos := szTx_pos t
    have e0 : t.1 = num := by
      have := hn 0 t rfl
      omega
    have htx : txAt s D num p = some (t.2.1, t.2.2, (p + szTx t) % s) := by
      unfold txAt
      rw [← e0]
      exact complete_recs hs hp (by show szTx t ≤ s; omega) hst.1
    have et := taken_eq hp hpos (show szTx t ≤ s by omega)
    rw [scanGo_eq hf, htx]
    dsimp only
    rw [et, if_neg (by omega), Int.toNat_natCast]
    have ih := scan_log (D := D) hs log (fuel - 1) (num + 1) ((p + szTx t) % s) (left - szTx t) (found ++ [(num, t.2.1, t.2.2)]) (Nat.mod_lt _ hs) (by omega) (by omega) (by omega)
      (fun i u hu => by
        have := hn (i + 1) u (by rw [List.getElem?_cons_succ]; exact hu)
        omega) hst.2 (by
        rw [Nat.mod_add_mod, Nat.add_assoc, ← ez]
        have e : num + 1 + (log.length : Int) = num + ((t :: log).length : Int) := by rw [List.length_cons]; omega
        rw [e]; exact hend)
    rw [ih, List.append_assoc]
    have e3 : (num, t.2.1, t.2.2) = t := by rw [← e0]
    rw [e3]; rfl
end L24

set_option Elab.async false
set_option linter.all false
set_option maxHeartbeats 4000000
open PySem L2 PyProof.Rows J
namespace L24
/-! ### values written one behind the other -/
def putV (s : Nat) : DM × Nat → List PyData → DM × Nat
  | st, [] => st
  | st, v :: l => putV s (st.1.write (1 + (st.2 : Int)) v, (st.2 + 1) % s) l
theorem putV_append {s : Nat} : ∀ (l m : List PyData) (st : DM × Nat), putV s st (l ++ m) = putV s (putV s st l) m
  | [], _, _ => rfl
  | v :: l, m, st => putV_append l m _
theorem wRecs_putV {s : Nat} {num : Int} : ∀ (l : List Rc) (st : DM × Nat), wRecs s num st l = putV s st (l.map (rcD num))
  | [], _ => rfl
  | rc :: l, st => wRecs_putV l (wRec s num st rc)
def logV (log : List Tx) : List PyData := log.flatMap fun t => (recs t.2.1 t.2.2).map (rcD t.1)
theorem wLog_putV {s : Nat} : ∀ (log : List Tx) (st : DM × Nat), wLog s st log = putV s st (logV log)
  | [], _ => rfl
  | t :: log, st => by
    have e : wLog s st (t :: log) = wLog s (wRecs s t.1 st (recs t.2.1 t.2.2)) log := rfl
    rw [e, wLog_putV log, wRecs_putV]
    show _ = putV s st ((recs t.2.1 t.2.2).map (rcD t.1) ++ logV log)
    rw [putV_append]
theorem logV_length (log : List Tx) : (logV log).length = szLog log := by
  induction log with
  | nil => rfl
  | cons t log ih =>
    show ((recs t.2.1 t.2.2).map (rcD t.1) ++ logV log).length = szLog (t :: log)
    rw [List.length_append, List.length_map, ih]
    simp [szLog, szTx]
theorem putV_pos {s : Nat} : ∀ (l : List PyData) (D : DM) (p : Nat), p < s → (putV s (D, p) l).2 = (p + l.length) % s
  | [], D, p, hp => (Nat.mod_eq_of_lt hp).symm
  | v :: l, D, p, hp => by
    have ih := putV_pos l (D.write (1 + (p : Int)) v) ((p + 1) % s) (Nat.mod_lt _ (by omega))
    show (putV s (D.write (1 + (p : Int)) v, (p + 1) % s) l).2 = _
    rw [ih, Nat.mod_add_mod, List.length_cons, show p + 1 + l.length = p + (l.length + 1) by omega]
theorem putV_read {s : Nat} (hs : 0 < s) : ∀ (l : List PyData) (D : DM) (p : Nat), p < s → l.length ≤ s → ∀ k, k < s →
    (putV s (D, p) l).1.read (1 + (((p + k) % s : Nat) : Int)) = match l[k]? with | some v => v | none => D.read (1 + (((p + k) % s : Nat) : Int))
  | [], D, p, hp, hl, k, hk => rfl
  | v :: l, D, p, hp, hl, k, hk => by
    have e : putV s (D, p) (v :: l) = putV s (D.write (1 + (p : Int)) v, (p + 1) % s) l := rfl
    rw [e]
    rw [List.length_cons] at hl
    cases k with
    | zero =>
      have ih := putV_read hs l (D.write (1 + (p : Int)) v) ((p + 1) % s) (Nat.mod_lt _ hs) (by omega) (s - 1) (by omega)
      have e2 : ((p + 1) % s + (s - 1)) % s = p := by
        rw [Nat.mod_add_mod, show p + 1 + (s - 1) = p + s by omega, Nat.add_mod_right, Nat.mod_eq_of_lt hp]
      rw [e2] at ih
      have e3 : l[s - 1]? = none := List.getElem?_eq_none (by omega)
      rw [e3] at ih
      have e4 : (p + 0) % s = p := by rw [Nat.add_zero, Nat.mod_eq_of_lt hp]
      rw [e4, ih]
      show (D.write (1 + (p : Int)) v).read (1 + (p : Int)) = v
      rw [read_write, if_pos rfl]
    | succ k =>
      have ih := putV_read hs l (D.write (1 + (p : Int)) v) ((p + 1) % s) (Nat.mod_lt _ hs) (by omega) k (by omega)
      have e2 : ((p + 1) % s + k) % s = (p + (k + 1)) % s := by
        rw [Nat.mod_add_mod, show p + 1 + k = p + (k + 1) by omega]
      rw [e2] at ih
      rw [ih, List.getElem?_cons_succ]
      cases l[k]? with
      | some _ => rfl
      | none =>
        show (D.write (1 + (p : Int)) v).read _ = D.read _
        rw [read_write, if_neg]
        intro z
        have z2 : (p + 0) % s = (p + (k + 1)) % s := by
          rw [Nat.add_zero, Nat.mod_eq_of_lt hp]; omega
        have := mod_inj hs (by omega) hk z2
        omega
/-! ### right records are read as such -/
theorem asc_zip : ∀ {hs : List Int}, hs.Pairwise (· < ·) → (((hs.map PyData.int).zip ((hs.map PyData.int).drop 1)).all fun q => match q with
      | (.int a, .int b) => decide (a < b)
      | _ => false) = true
  | [], _ => rfl
  | [_], _ => rfl
  | a :: b :: r, h => by
    have h1 := List.pairwise_cons.mp h
    have ih := asc_zip h1.2
    show (decide (a < b) && _) = true
    rw [decide_eq_true (h1.1 b List.mem_cons_self), Bool.true_and]
    exact ih
theorem groupB_of {hs : List Int} (h1 : 1 ≤ hs.length) (h2 : hs.length ≤ 8) (ha : hs.Pairwise (· < ·)) (hr : ∀ x ∈ hs, 0 ≤ x ∧ x ≤ 31) : groupB (dHs hs) = true := by
  have e1 : ((hs.map PyData.int).all fun d => betB d 0 31) = true := by
    rw [List.all_eq_true]
    intro d hd
    obtain ⟨x, hx, rfl⟩ := List.mem_map.mp hd
    exact bet_iff.mpr (hr x hx)
  show (decide (1 ≤ (hs.map PyData.int).length) && decide ((hs.map PyData.int).length ≤ 8) && (((hs.map PyData.int).all fun d => betB d 0 31) && _)) = true
  rw [List.length_map, decide_eq_true h1, decide_eq_true h2, e1, Bool.true_and, Bool.true_and]
  exact asc_zip ha
theorem intsOf_int : ∀ hs : List Int, intsOf (hs.map .int) = hs
  | [] => rfl
  | a :: r => by
    show a :: intsOf (r.map .int) = _
    rw [intsOf_int r]
theorem parse_rcD {num : Int} {rc : Rc} (h : ∀ hs, rc = .revoke hs ∨ rc = .desc hs → groupB (dHs hs) = true) : parse num (rcD num rc) = some rc := by
  have e0 : (PyData.eqv (.int num) (.int num) && intB (.int num)) = true := by simp [PyData.eqv, intB]
  cases rc with
  | commit =>
    have e : (PyData.eqv (.int num) (.int num) && intB (.int num) && PyData.eqv (.str "commit") (.str "commit")) = true := by rw [e0]; decide +kernel
    unfold parse rcD
    exact if_pos e
  | copy v =>
    unfold parse rcD
    refine (if_pos e0).trans ?_
    exact if_pos (by decide +kernel)
  | revoke hs =>
    have hg := h hs (.inl rfl)
    unfold parse rcD
    refine (if_pos e0).trans ((if_neg (by decide +kernel)).trans ?_)
    refine (if_pos (by rw [hg]; decide +kernel)).trans ?_
    show some (Rc.revoke (intsOf (hs.map .int))) = _
    rw [intsOf_int]
  | desc hs =>
    have hg := h hs (.inr rfl)
    unfold parse rcD
    refine (if_pos e0).trans ((if_neg (by decide +kernel)).trans ((if_neg ?_).trans ?_))
    · rw [hg]; decide +kernel
    refine (if_pos (by rw [hg]; decide +kernel)).trans ?_
    show some (Rc.desc (intsOf (hs.map .int))) = _
    rw [intsOf_int]
end L24

set_option Elab.async false
set_option linter.all false
set_option maxHeartbeats 4000000
open PySem L2 PyProof.Rows J
namespace L24
theorem cut8_pos {α : Type} {xs : List α} {k : Nat} (h : k < n8 xs) : 1 ≤ (cut8 xs k).length := by
  unfold n8 at h
  unfold cut8
  rw [List.length_take, List.length_drop]
  omega
theorem cut8_sub {α : Type} (xs : List α) (k : Nat) : (cut8 xs k).Sublist xs := (List.take_sublist _ _).trans (List.drop_sublist _ _)
theorem cut8_map {α β : Type} (f : α → β) (xs : List α) (k : Nat) : (cut8 xs k).map f = cut8 (xs.map f) k := by
  unfold cut8
  rw [List.map_take, List.map_drop]
theorem n8_map {α β : Type} (f : α → β) (xs : List α) : n8 (xs.map f) = n8 xs := by
  unfold n8
  rw [List.length_map]
theorem group_cut {hs : List Int} {k : Nat} (h : Asc 32 hs) (hk : k < n8 hs) : groupB (dHs (cut8 hs k)) = true :=
  groupB_of (cut8_pos hk) (cut8_len hs k) (h.up.sublist (cut8_sub hs k)) fun x hx => by
    have h1 := h.lo x (cut8_mem hx)
    have h2 := h.hi x (cut8_mem hx)
    omega
theorem recs_parse {num : Int} {cs : List (Int × PyData)} {rs : List Int} (hc : Asc 32 (cs.map (·.1))) (hr : Asc 32 rs) {rc : Rc} (h : rc ∈ recs cs rs) : parse num (rcD num rc) = some rc := by
  refine parse_rcD fun hs e => ?_
  unfold recs at h
  rcases List.mem_append.mp h with h | h
  · rcases List.mem_append.mp h with h | h
    · obtain ⟨k, hk, q⟩ := List.mem_map.mp h
      rcases e with e | e
      · rw [← q] at e
        cases e
        exact group_cut hr (List.mem_range.mp hk)
      · rw [← q] at e; cases e
    · obtain ⟨k, hk, h⟩ := List.mem_flatMap.mp h
      rcases List.mem_cons.mp h with h | h
      · rw [h] at e
        rcases e with e | e
        · cases e
        · cases e
          rw [cut8_map]
          exact group_cut hc (by rw [n8_map]; exact List.mem_range.mp hk)
      · obtain ⟨c, _, q⟩ := List.mem_map.mp h
        rw [← q] at e
        rcases e with e | e <;> cases e
  · rw [List.mem_singleton.mp h] at e
    rcases e with e | e <;> cases e
/-- the values l stand in the ring from slot p on -/
def ValsAt (s : Nat) (D : DM) (p : Nat) (l : List PyData) : Prop := ∀ k v, l[k]? = some v → D.read (1 + (((p + k) % s : Nat) : Int)) = v
theorem stand_of {s : Nat} {D : DM} {p : Nat} {num : Int} {cs : List (Int × PyData)} {rs : List Int} (hc : Asc 32 (cs.map (·.1))) (hr : Asc 32 rs) (h : ValsAt s D p ((recs cs rs).map (rcD num))) : Stand s (D.rc num) p (recs cs rs) := fun k rc e => by
  have h1 := h k (rcD num rc) (by rw [List.getElem?_map, e]; rfl)
  unfold DM.rc
  rw [h1]
  exact recs_parse hc hr (List.mem_of_getElem? e)
theorem ValsAt.left {s p : Nat} {D : DM} {l m : List PyData} (h : ValsAt s D p (l ++ m)) : ValsAt s D p l := fun k v e =>
  h k v (by rw [List.getElem?_append_left (List.getElem?_eq_some_iff.mp e).1]; exact e)
theorem ValsAt.right {s p : Nat} {D : DM} {l m : List PyData} (h : ValsAt s D p (l ++ m)) : ValsAt s D ((p + l.length) % s) m := fun k v e => by
  rw [Nat.mod_add_mod, Nat.add_assoc]
  exact h (l.length + k) v (by rw [List.getElem?_append_right (by omega), Nat.add_sub_cancel_left]; exact e)
theorem standLog_of {s : Nat} {D : DM} : ∀ (log : List Tx) (p : Nat), (∀ t ∈ log, TxB 32 t) → ValsAt s D p (logV log) → StandLog s D p log
  | [], _, _, _ => trivial
  | t :: log, p, ht, h => by
    have h' : ValsAt s D p ((recs t.2.1 t.2.2).map (rcD t.1) ++ logV log) := h
    have tb := ht t List.mem_cons_self
    have hr := h'.right
    rw [List.length_map] at hr
    exact ⟨stand_of tb.cs.asc tb.rs h'.left, standLog_of log _ (fun u hu => ht u (List.mem_cons_of_mem _ hu)) hr⟩
theorem putV_vals {s : Nat} (hs : 0 < s) {l : List PyData} {D : DM} {p : Nat} (hp : p < s) (hl : l.length ≤ s) : ValsAt s (putV s (D, p) l).1 p l := fun k v e => by
  have hk : k < l.length := (List.getElem?_eq_some_iff.mp e).1
  rw [putV_read hs l D p hp hl k (by omega), e]
end L24

set_option Elab.async false
set_option linter.all false
set_option maxHeartbeats 4000000
open PySem L2 PyProof.Rows J
namespace L24
theorem putAll_get {b : Nat} : ∀ (ws : List (Int × PyData)) (s : List PyData), b < s.length → (∀ w ∈ ws, 0 ≤ w.1) → (putAll ws s).getD b .none = lastW ws (b : Int) (s.getD b .none)
  | [], _, _, _ => rfl
  | w :: ws, s, hb, hw => by
    have e1 : putAll (w :: ws) s = putAll ws (s.set w.1.toNat w.2) := rfl
    have e2 : lastW (w :: ws) (b : Int) (s.getD b .none) = lastW ws (b : Int) (if w.1 = (b : Int) then w.2 else s.getD b .none) := rfl
    rw [e1, e2, putAll_get ws _ (by rw [List.length_set]; exact hb) fun u hu => hw u (List.mem_cons_of_mem _ hu)]
    congr 1
    have h0 := hw w List.mem_cons_self
    rw [List.getD_eq_getElem?_getD, List.getElem?_set]
    by_cases h : w.1 = (b : Int)
    · have e : w.1.toNat = b := by omega
      rw [if_pos h, if_pos e, if_pos (by omega)]; rfl
    · have e : w.1.toNat ≠ b := by omega
      rw [if_neg h, if_neg e, List.getD_eq_getElem?_getD]
theorem read_flush {n m : Nat} {D : DM} {b : Int} (h : DOk n m D) (h0 : 0 ≤ b) (h1 : b < n) : D.flush.read b = D.read b := by
  obtain ⟨k, rfl⟩ := Int.eq_ofNat_of_zero_le h0
  unfold DM.read
  show lastW [] _ ((putAll D.writes D.safe).getD ((k : Int)).toNat .none) = _
  rw [Int.toNat_natCast, putAll_get D.writes D.safe (by rw [h.sl]; omega) fun w hw => (h.wv w hw).1]
  rfl
/-- what stands in a slot is no record of the number -/
def NotRec (s : Nat) (D : DM) (num : Int) (p : Nat) : Prop := parse num (D.read (1 + ((p % s : Nat) : Int))) = none
theorem tx_none0 {s : Nat} {D : DM} {num : Int} {p : Nat} (hs : 0 < s) (hp : p < s) (h : NotRec s D num p) : txAt s D num p = none := by
  unfold txAt
  rw [complete_step (by omega)]
  unfold NotRec at h
  rw [Nat.mod_eq_of_lt hp] at h
  have e : D.rc num p = none := h
  rw [e]
/-- the records that are written behind the log: of two homes revoked, two copies -/
def endC : List (Int × PyData) := [(1, .str "lost"), (2, .int 7)]
def endR : List Int := [0, 3]
theorem recs_end : recs endC endR = [.revoke [0, 3], .desc [1, 2], .copy (.str "lost"), .copy (.int 7), .commit] := by
  rfl
theorem end_none {s : Nat} {rec : Nat → Option Rc} {p j : Nat} (hs : 8 ≤ s) (hp : p < s) (hj : j ≤ 4) (h : ∀ k, k < j → ∀ rc, (recs endC endR)[k]? = some rc → rec ((p + k) % s) = some rc) (hn : rec ((p + j) % s) = none) :
    complete s rec (s + 1) p s [] [] = none := by
  rw [recs_end] at h
  obtain ⟨s', rfl⟩ : ∃ s', s = s' + 5 := ⟨s - 5, by omega⟩
  have em : ∀ a b, ((p + a) % (s' + 5) + b) % (s' + 5) = (p + (a + b)) % (s' + 5) := fun a b => by rw [Nat.mod_add_mod, Nat.add_assoc]
  have ep : p = (p + 0) % (s' + 5) := by rw [Nat.add_zero, Nat.mod_eq_of_lt hp]
  match j, hj with
  | 0, _ =>
    rw [← ep] at hn
    rw [complete_step (by omega), hn]
  | 1, _ =>
    have h0 := h 0 (by omega) _ rfl
    rw [← ep] at h0
    rw [complete_step (by omega), h0]
    show complete _ rec (s' + 5) ((p + 1) % (s' + 5)) (s' + 5 - 1) [] ([] ++ [0, 3]) = none
    rw [complete_step (by omega), hn]
  | 2, _ =>
    have h0 := h 0 (by omega) _ rfl
    have h1 := h 1 (by omega) _ rfl
    rw [← ep] at h0
    rw [complete_step (by omega), h0]
    show complete _ rec (s' + 5) ((p + 1) % (s' + 5)) (s' + 5 - 1) [] ([] ++ [0, 3]) = none
    rw [complete_step (by omega), h1]
    have e : takeC (s' + 5) rec [1, 2] (((p + 1) % (s' + 5) + 1) % (s' + 5)) (s' + 5 - 1 - 1) [] = none := by
      rw [em 1 1]
      show (if s' + 5 - 1 - 1 = 0 then none else match rec ((p + 2) % (s' + 5)) with | some (.copy v) => _ | _ => none) = none
      rw [if_neg (by omega), hn]
    simp only [e]
  | 3, _ =>
    have h0 := h 0 (by omega) _ rfl
    have h1 := h 1 (by omega) _ rfl
    have h2 := h 2 (by omega) _ rfl
    rw [← ep] at h0
    rw [complete_step (by omega), h0]
    show complete _ rec (s' + 5) ((p + 1) % (s' + 5)) (s' + 5 - 1) [] ([] ++ [0, 3]) = none
    rw [complete_step (by omega), h1]
    have e : takeC (s' + 5) rec [1, 2] (((p + 1) % (s' + 5) + 1) % (s' + 5)) (s' + 5 - 1 - 1) [] = none := by
      rw [em 1 1]
      show (if s' + 5 - 1 - 1 = 0 then none else match rec ((p + 2) % (s' + 5)) with | some (.copy v) => takeC (s' + 5) rec [2] (((p + 2) % (s' + 5) + 1) % (s' + 5)) (s' + 5 - 1 - 1 - 1) ([] ++ [(1, v)]) | _ => none) = none
      rw [if_neg (by omega), h2]
      show takeC (s' + 5) rec [2] (((p + 2) % (s' + 5) + 1) % (s' + 5)) (s' + 5 - 1 - 1 - 1) _ = none
      rw [em 2 1]
      show (if s' + 5 - 1 - 1 - 1 = 0 then none else match rec ((p + 3) % (s' + 5)) with | some (.copy v) => _ | _ => none) = none
      rw [if_neg (by omega), hn]
    simp only [e]
  | 4, _ =>
    have h0 := h 0 (by omega) _ rfl
    have h1 := h 1 (by omega) _ rfl
    have h2 := h 2 (by omega) _ rfl
    have h3 := h 3 (by omega) _ rfl
    rw [← ep] at h0
    rw [complete_step (by omega), h0]
    show complete _ rec (s' + 5) ((p + 1) % (s' + 5)) (s' + 5 - 1) [] ([] ++ [0, 3]) = none
    rw [complete_step (by omega), h1]
    have e := takeC_seq (s := s' + 5) (rec := rec) (by omega) endC (((p + 1) % (s' + 5) + 1) % (s' + 5)) (s' + 5 - 1 - 1) [] (Nat.mod_lt _ (by omega)) (by show 2 ≤ _; omega) (fun k c hc => by
      rw [em 1 1, em 2 k]
      match k, hc with
      | 0, hc => cases hc; exact h2
      | 1, hc => cases hc; exact h3)
    have e' : takeC (s' + 5) rec [1, 2] (((p + 1) % (s' + 5) + 1) % (s' + 5)) (s' + 5 - 1 - 1) [] = some ((((p + 1) % (s' + 5) + 1) % (s' + 5) + 2) % (s' + 5), s' + 5 - 1 - 1 - 2, [] ++ endC) := e
    simp only [e']
    rw [em 1 1, em 2 2]
    show complete (s' + 5) rec (s' + 3 + 1) ((p + 4) % (s' + 5)) (s' + 5 - 1 - 1 - 2) _ _ = none
    rw [complete_step (by omega), hn]
end L24

open PySem L2 PyProof.Rows J

namespace L24
section
variable {P : Program} {w : World} {K : PySem.W.Frag} {mg : Str → Option Value} {base : Heap} {CDisk CLayout : Addr}
/-! ### pending, choices, disks behind a crash -/
abbrev s_Disk_pending : Stmt := inClass (top 14) 6
abbrev N_Disk_pending : List Str := ["self"]
theorem sc_Disk_pending : FnScope N_Disk_pending ["self"] (defScope s_Disk_pending) :=
  ⟨rfl, rfl, rfl, by decide +kernel, rfl, by decide +kernel, by decide +kernel⟩

theorem ok_Disk_pending {f : Addr} {fd : FuncData} (F : Fun K "pending" "Disk.pending" s_Disk_pending f fd) (B : Bl mg) (T : TDisk K CDisk) :
    FnOk P w K mg base CX0 1 f fd ["self"] (spCopyOf K CDisk fun D => D.writes.map dWr) := by
  refine F.ok sc_Disk_pending (fun vs H Q E h => ?_) (fun cdv A outer s H vs Q E hr h => ?_)
  · obtain ⟨_, _, _, _, _, rfl, _⟩ := h
    rfl
  · obtain ⟨d, fd, n, m, D, rfl, ⟨ok, dx, l1, l2, l3, l4, x1, x2, x3, x4, rfl, hnd, h0, h1, h2, h3, h4, v1, v2, v3, v4⟩, k⟩ := h
    have nd := sc_Disk_pending.nd
    obtain ⟨cl, n1, n2, n3, n4⟩ := T
    refine ⟨_, (pss_one (ps_ret (pe_callTy (call_listA (K := K)) rfl B.list (by decide +kernel) (pa_cons (pe_fldA (K := K) (pv 0)) pa_nil)))), ?_⟩
    repeat walk_at "s"
    refine r_listL (.of h3) (fun l H1 hl s1 hl1 => ?_)
    exact k l x3 H1 hl s1 hl1 (v3.same s1)
/-- ascending indices below a count -/
structure Choice (c : Nat) (ns : List Nat) : Prop where
  up : ns.Pairwise (· < ·)
  hi : ∀ x ∈ ns, x < c
def spChoice (K : PySem.W.Frag) : Sp := fun vs H Q _ => ∃ (a : Addr) (ns : List Nat) (c : Nat), vs = [.ref a, .int c] ∧ H a = some (.lst (ns.map fun i : Nat => V.int i)) ∧ Choice c ns ∧ ∀ H', Same H H' → Q .non H'
theorem choice_len : ∀ (ns : List Nat) (c k : Nat), ns.Pairwise (· < ·) → (∀ x ∈ ns, k ≤ x ∧ x < c) → ns.length + k ≤ c ∨ ns = []
  | [], _, _, _, _ => .inr rfl
  | a :: r, c, k, h, hi => by
    have h1 := List.pairwise_cons.mp h
    have ha := hi a List.mem_cons_self
    rcases choice_len r c (a + 1) h1.2 (fun x hx => ⟨h1.1 x hx, (hi x (List.mem_cons_of_mem _ hx)).2⟩) with e | e
    · rw [List.length_cons]; omega
    · subst e
      rw [List.length_singleton]; omega
theorem Choice.len {c : Nat} {ns : List Nat} (h : Choice c ns) : ns.length ≤ c := by
  rcases choice_len ns c 0 h.up (fun x hx => ⟨Nat.zero_le _, h.hi x hx⟩) with e | e
  · omega
  · rw [e]; exact Nat.zero_le _
abbrev s_check_choice : Stmt := top 15
abbrev N_check_choice : List Str := ["kept", "count", "last", "at", "index"]
theorem sc_check_choice : FnScope N_check_choice ["kept", "count"] (defScope s_check_choice) :=
  ⟨rfl, rfl, rfl, by decide +kernel, rfl, by decide +kernel, by decide +kernel⟩

theorem ok_check_choice {f : Addr} {fd : FuncData} (F : Fun K "check_choice" "check_choice" s_check_choice f fd) (B : Bl mg) (C_is_between : ClK P w K mg base CX0 2 "is_between" 1 ["low", "high"] (spBet K)) :
    FnOk P w K mg base CX0 3 f fd ["kept", "count"] (spChoice K) := by
  refine F.ok sc_check_choice (fun vs H Q E h => ?_) (fun cdv A outer s H vs Q E hr h => ?_)
  · obtain ⟨_, _, _, rfl, _⟩ := h
    rfl
  · obtain ⟨a, ns, c, rfl, ha, hc, k⟩ := h
    have hu := hu_of hr
    have nd := sc_check_choice.nd
    refine ⟨_, (pss_cons (ps_if (pt_not (pt_tru (K := K) (pe_callB (call_isiA (K := K)) rfl B.isinstance (by decide +kernel) (pa_cons (pv 0) (pa_cons (pe_tyN (T := "list") rfl B.list (by decide +kernel)) pa_nil))))) (pss_one (ps_dead)) pss_nil)
      (pss_cons (ps_set (i := 2) nd rfl (by first | exact Or.inl rfl | exact Or.inr rfl) (pe_un un_neg pe_int))
      (pss_one (ps_for PassesOwn.never rfl (pi_enum rfl B.enumerate (pa_cons (pv 0) pa_nil)) (pg_tpl (K := K) rfl (pgs_cons (pg_name (i := 3) nd rfl (by first | exact Or.inl rfl | exact Or.inr rfl)) (pgs_cons (pg_name (i := 4) nd rfl (by first | exact Or.inl rfl | exact Or.inr rfl)) pgs_nil)))
      (pss_cons (ps_if (pt_not (pt_tru (K := K) (pe_clK C_is_between hr (by decide) (pa_cons (pv 4) pa_nil) (pk_cons (pe_op (op_addA (K := K)) (pv 2) pe_int) (pk_cons (pe_op op_sub (pv 1) pe_int) pk_nil))))) (pss_one (ps_dead)) pss_nil)
      (pss_one (ps_set (i := 2) nd rfl (by first | exact Or.inl rfl | exact Or.inr rfl) (pv 4)))))))), ?_⟩
    repeat walk_at "s"
    refine r_isList (S := []) (d := .list ((ns.map fun i : Nat => (i : Int)).map .int)) ?_ ?_
    · refine .lst (xs := (ns.map fun i : Nat => (i : Int)).map V.int) ?_ List.not_mem_nil DnAll.ints
      rw [List.map_map]; exact ha
    repeat walk_at "s"
    refine r_iteF rfl ?_
    repeat walk_at "s"
    refine r_U ?_
    repeat walk_at "s"
    refine forE (.of ha) (fun i σ H' => ∃ last o3 o4, σ = [some (.ref a), some (.int c), some (.int last), o3, o4] ∧ Same H H' ∧ -1 ≤ last ∧ ∀ x ∈ ns.drop i, last < (x : Int))
      ⟨_, _, _, rfl, fun _ _ e => e, by decide, fun x _ => by omega⟩ ?_ ?_ ?_
    · rintro i σ H1 hi ⟨last, o3, o4, rfl, s1, _⟩
      exact .of (s1 _ _ ha)
    · rintro i x σ H1 hi ⟨last, o3, o4, rfl, s1, hl0, hl⟩ T H2 hT s2 hT2
      obtain ⟨n, hn, rfl⟩ := map_getG hi
      have hdr : ns.drop i = n :: ns.drop (i + 1) := by
        obtain ⟨hlt, rfl⟩ := List.getElem?_eq_some_iff.mp hn
        exact List.drop_eq_getElem_cons hlt
      have hln := hl n (by rw [hdr]; exact List.mem_cons_self)
      have hnc := hc.hi n (List.mem_of_getElem? hn)
      repeat walk_at "s"
      refine ⟨_, [], .int n, last + 1, _, rfl, .int _, ?_⟩
      rw [bet_iff.mpr ⟨by omega, by omega⟩]
      repeat walk_at "s"
      refine r_iteF rfl ?_
      repeat walk_at "s"
      refine ⟨_, _, _, rfl, fun b o e => s2 b o (s1 b o e), by omega, fun x hx => ?_⟩
      have hp := hc.up.sublist (List.drop_sublist i ns)
      rw [hdr] at hp
      have := (List.pairwise_cons.mp hp).1 x hx
      omega
    · rintro σ H1 ⟨last, o3, o4, rfl, s1, _⟩
      exact k H1 s1
def spBegin (K : PySem.W.Frag) (CDisk : Addr) : Sp := fun vs H Q _ => ∃ (a : Addr) (xs : List V) (vals : List PyData), vs = [.ref a] ∧ H a = some (.lst xs) ∧ DnAll K [] H xs vals ∧ (∀ v ∈ vals, blockB v = true) ∧ 1 ≤ vals.length ∧ vals.length ≤ 128 ∧
  ∀ d ls H', Fr (d :: ls) H → Same H H' → DiskAt K CDisk H' d (d :: ls) vals.length 0 ⟨vals, vals, [], []⟩ → Q (.ref d) H'
abbrev s_beginning_with : Stmt := top 16
abbrev N_beginning_with : List Str := ["values", "disk"]
theorem sc_beginning_with : FnScope N_beginning_with ["values"] (defScope s_beginning_with) :=
  ⟨rfl, rfl, rfl, by decide +kernel, rfl, by decide +kernel, by decide +kernel⟩

theorem ok_beginning_with {f : Addr} {fd : FuncData} (F : Fun K "beginning_with" "beginning_with" s_beginning_with f fd) (B : Bl mg) (T : TDisk K CDisk) (N_Disk : C8.Mak P w K mg base 3 "Disk" CDisk (spDiskInit K CDisk) []) :
    FnOk P w K mg base CX0 5 f fd ["values"] (spBegin K CDisk) := by
  refine F.ok sc_beginning_with (fun vs H Q E h => ?_) (fun cdv A outer s H vs Q E hr h => ?_)
  · obtain ⟨_, _, _, rfl, _⟩ := h
    rfl
  · obtain ⟨a, xs, vals, rfl, ha, hx, hb, h1, h2, k⟩ := h
    have nd := sc_beginning_with.nd
    obtain ⟨cl, n1, n2, n3, n4⟩ := T
    have xl : xs.length = vals.length := hx.length
    have nlv : noLs vals = true := noLs_all.mpr fun v hv => blockB_nol (hb v hv)
    refine ⟨_, (pss_cons (ps_set (i := 1) nd rfl (by first | exact Or.inl rfl | exact Or.inr rfl) (C8.pe_mk N_Disk hr (by decide) rfl (pa_cons (pe_callB (call_lenA (K := K)) rfl B.len PySem.boot_len (pa_cons (pv 0) pa_nil)) pa_nil)))
      (pss_cons (ps_fldA (K := K) (pv 1) (pe_callTy (call_listA (K := K)) rfl B.list (by decide +kernel) (pa_cons (pv 0) pa_nil)))
      (pss_cons (ps_fldA (K := K) (pv 1) (pe_callTy (call_listA (K := K)) rfl B.list (by decide +kernel) (pa_cons (pv 0) pa_nil)))
      (pss_one (ps_ret (pv 1)))))), ?_⟩
    repeat walk_at "s"
    rw [xl]
    refine r_makeAt (fun d dx H1 hd s1 hd1 => ?_)
    refine ⟨d, dx, vals.length, rfl, hd1, h1, h2, fun ls H2 hls b2 hD => ⟨rfl, ?_⟩⟩
    obtain ⟨ok, dx', l1, l2, l3, l4, x1, x2, x3, x4, efd, hnd, g0, g1, g2, g3, g4, v1, v2, v3, v4⟩ := hD
    obtain rfl : ls = [l1, l2, l3, l4] := (List.cons.inj efd).2
    simp only [List.nodup_cons, List.mem_cons, List.not_mem_nil, or_false, not_or, not_false_eq_true, List.nodup_nil, and_true] at hnd
    obtain ⟨⟨a1, a2, a3, a4⟩, ⟨a12, a13, a14⟩, ⟨a23, a24⟩, a34⟩ := hnd
    have b02 : But [] H H2 := bt_but (But.of_same s1) b2 (bc_fr hd bc_nil)
    have ha2 : H2 a = some (.lst xs) := b02.at ha List.not_mem_nil
    have fls : Fr [l1, l2, l3, l4] H := fun t ht => (But.of_same (S := []) s1).free (hls t ht)
    have na : a ≠ d := fun z => live_of ha (z ▸ hd)
    clear b2 s1
    repeat walk_at "s"
    refine r_listL (.of ha2) (fun l5 H3 hl5 s3 hl53 => ?_)
    repeat walk_at "s"
    refine r_setAt (s3 _ _ g0) cl n1 (Nat.le_of_ble_eq_true rfl) (fun H4 b4 g04 => ?_)
    repeat walk_at "s"
    have ha4 : H4 a = some (.lst xs) := b4.at (s3 _ _ ha2) (by simpa using na)
    refine r_listL (.of ha4) (fun l6 H5 hl6 s5 hl65 => ?_)
    repeat walk_at "s"
    refine r_setAt (s5 _ _ g04) cl n2 (Nat.le_of_ble_eq_true rfl) (fun H6 b6 g06 => ?_)
    repeat walk_at "s"
    have lvd : H2 d ≠ none := live_of g0
    have lvd4 : H4 d ≠ none := live_of g04
    have e53 : l5 ≠ d := fun z => lvd (z ▸ hl5)
    have e63 : l6 ≠ d := fun z => lvd4 (z ▸ hl6)
    have e56 : l5 ≠ l6 := fun z => live_of (b4.at hl53 (by simpa using e53)) (z ▸ hl6)
    have c3 : l3 ≠ d := Ne.symm a3
    have c4 : l4 ≠ d := Ne.symm a4
    have g34 : H4 l3 = some (.lst x3) := b4.at (s3 _ _ g3) (by simpa using c3)
    have g44 : H4 l4 = some (.lst x4) := b4.at (s3 _ _ g4) (by simpa using c4)
    have e35 : l5 ≠ l3 := fun z => live_of g3 (z ▸ hl5)
    have e45 : l5 ≠ l4 := fun z => live_of g4 (z ▸ hl5)
    have e36 : l6 ≠ l3 := fun z => live_of g34 (z ▸ hl6)
    have e46 : l6 ≠ l4 := fun z => live_of g44 (z ▸ hl6)
    have f5 : H6 l5 = some (.lst xs) := b6.at (s5 _ _ (b4.at hl53 (by simpa using e53))) (by simpa using e53)
    have f6 : H6 l6 = some (.lst xs) := b6.at hl65 (by simpa using e63)
    have f3 : H6 l3 = some (.lst x3) := b6.at (s5 _ _ g34) (by simpa using c3)
    have f4 : H6 l4 = some (.lst x4) := b6.at (s5 _ _ g44) (by simpa using c4)
    have b26 : But [d] H2 H6 := ((But.of_same s3).trans b4).trans ((But.of_same s5).trans b6)
    have b06 : But [] H H6 := bt_but b02 b26 (bc_fr hd bc_nil)
    have x30 : x3 = [] := v3.nil_inv
    have x40 : x4 = [] := v4.nil_inv
    subst x30
    subst x40
    have hx6 : DnAll K [] H6 xs vals := hx.nlb nlv b06
    have fr5 : H l5 = none := b02.free hl5
    have fr6 : H l6 = none := (bt_but b02 ((But.of_same s3).trans b4) (bc_fr hd bc_nil) : But [] H H4).free hl6
    refine k d [l5, l6, l3, l4] H6 ?_ b06.same ⟨⟨h1, h2, rfl, rfl, hb, hb, by simp, by simp, Nat.le_refl _, Nat.le_refl _⟩, dx', l5, l6, l3, l4, xs, xs, [], [], rfl, ?_, g06, f5, f6, f3, f4, hx6, hx6, .nil, .nil⟩
    · intro t ht
      simp only [List.mem_cons, List.not_mem_nil, or_false] at ht
      rcases ht with rfl | rfl | rfl | rfl | rfl
      · exact hd
      · exact fr5
      · exact fr6
      · exact fls _ (by simp)
      · exact fls _ (by simp)
    · simp only [List.nodup_cons, List.mem_cons, List.not_mem_nil, or_false, not_or, not_false_eq_true, List.nodup_nil, and_true]
      exact ⟨⟨e53.symm, e63.symm, a3, a4⟩, ⟨e56, e35, e45⟩, ⟨e36, e46⟩, a34⟩
def spCrashed (K : PySem.W.Frag) (CDisk : Addr) : Sp := fun vs H Q _ => ∃ (d a : Addr) (fd : List Addr) (n m : Nat) (D : DM) (ns : List Nat), vs = [.ref d, .ref a] ∧ DiskAt K CDisk H d fd n m D ∧ H a = some (.lst (ns.map fun i : Nat => V.int i)) ∧ Choice D.writes.length ns ∧ m ≤ 100000 ∧
  ∀ e ls H', Fr (e :: ls) H → Same H H' → DiskAt K CDisk H' e (e :: ls) n 0 (D.crash ns) → Q (.ref e) H'
theorem keepW_mem {D : DM} {ns : List Nat} (h : Choice D.writes.length ns) {u : Int × PyData} (hu : u ∈ D.keepW ns) : u ∈ D.writes := by
  obtain ⟨i, hi, rfl⟩ := List.mem_map.mp hu
  rw [List.getD_eq_getElem?_getD, List.getElem?_eq_getElem (h.hi i hi)]
  exact List.getElem_mem (h.hi i hi)
abbrev s_Disk_crashed : Stmt := inClass (top 14) 10
abbrev N_Disk_crashed : List Str := ["self", "kept", "values", "at", "block", "value"]
theorem sc_Disk_crashed : FnScope N_Disk_crashed ["self", "kept"] (defScope s_Disk_crashed) :=
  ⟨rfl, rfl, rfl, by decide +kernel, rfl, by decide +kernel, by decide +kernel⟩

theorem ok_Disk_crashed {f : Addr} {fd : FuncData} (F : Fun K "crashed" "Disk.crashed" s_Disk_crashed f fd) (B : Bl mg) (T : TDisk K CDisk) (C_check_choice : Cl P w K mg base CX0 3 "check_choice" (spChoice K)) (C_beginning_with : Cl P w K mg base CX0 5 "beginning_with" (spBegin K CDisk)) :
    FnOk P w K mg base CX0 6 f fd ["self", "kept"] (spCrashed K CDisk) := by
  refine F.ok sc_Disk_crashed (fun vs H Q E h => ?_) (fun cdv A outer s H vs Q E hr h => ?_)
  · obtain ⟨_, _, _, _, _, _, _, rfl, _⟩ := h
    rfl
  · obtain ⟨d, a, fd, n, m, D, ns, rfl, hD, ha, hc, hm, k⟩ := h
    obtain ⟨ok, dx, l1, l2, l3, l4, x1, x2, x3, x4, rfl, hnd, h0, h1, h2, h3, h4, v1, v2, v3, v4⟩ := id hD
    have nd := sc_Disk_crashed.nd
    obtain ⟨cl, n1, n2, n3, n4⟩ := T
    have x3l : x3.length = D.writes.length := by rw [v3.length, List.length_map]
    refine ⟨_, (pss_cons (ps_expr (pe_cl (E := fun _ => E0) C_check_choice hr (by decide) pass00 (pa_cons (pv 1) (pa_cons (pe_callB (call_lenA (K := K)) rfl B.len PySem.boot_len (pa_cons (pe_fldA (K := K) (pv 0)) pa_nil)) pa_nil))))
      (pss_cons (ps_set (i := 2) nd rfl (by first | exact Or.inl rfl | exact Or.inr rfl) (pe_callTy (call_listA (K := K)) rfl B.list (by decide +kernel) (pa_cons (pe_fldA (K := K) (pv 0)) pa_nil)))
      (pss_cons (ps_for PassesOwn.never rfl (pi_lst (K := K) (pv 1)) (pg_name (i := 3) nd rfl (by first | exact Or.inl rfl | exact Or.inr rfl))
      (pss_cons (ps_asg (pe_ix (ix_any (K := K)) (pe_fldA (K := K) (pv 0)) (pv 3) (fun _ _ => rfl)) (pg_tpl (K := K) rfl (pgs_cons (pg_name (i := 4) nd rfl (by first | exact Or.inl rfl | exact Or.inr rfl)) (pgs_cons (pg_name (i := 5) nd rfl (by first | exact Or.inl rfl | exact Or.inr rfl)) pgs_nil))))
      (pss_one (ps_asg (pv 5) (pg_sub (pv 2) (pv 4) set_list)))))
      (pss_one (ps_ret (pe_cl (E := fun _ => E0) C_beginning_with hr (by decide) pass00 (pa_cons (pv 2) pa_nil))))))), ?_⟩
    repeat walk_at "s"
    rw [x3l]
    refine ⟨a, ns, _, rfl, ha, hc, fun H1 s1 => ?_⟩
    repeat walk_at "s"
    refine r_listL (.of (s1 _ _ h2)) (fun l H2 hl s2 hl2 => ?_)
    have s02 : Same H H2 := fun b o e => s2 b o (s1 b o e)
    have fl : H l = none := (But.of_same (S := []) s1).free hl
    have nal : a ≠ l := ne_of_none ha fl
    have n3l : l3 ≠ l := ne_of_none h3 fl
    clear s1 s2
    repeat walk_at "s"
    refine forL (.of (s02 _ _ ha)) (fun i σ H' => ∃ o3 o4 o5 ys, σ = [some (.ref d), some (.ref a), some (.ref l), o3, o4, o5] ∧ But [l] H2 H' ∧ H' l = some (.lst ys) ∧ DnAll K [] H' ys (putAll ((D.keepW ns).take i) D.safe))
      ⟨_, _, _, _, rfl, .refl, hl2, v2.same s02⟩ ?_ ?_ ?_
    · rintro i σ H3 hi ⟨o3, o4, o5, ys, rfl, b3, hl3, hys⟩
      exact .of (b3.at (s02 _ _ ha) (by simpa using nal))
    · rintro i x σ H3 hi ⟨o3, o4, o5, ys, rfl, b3, hl3, hys⟩
      obtain ⟨j, hj, rfl⟩ := map_getG hi
      have hjm := List.mem_of_getElem? hj
      have hjl := hc.hi j hjm
      have hku : (D.keepW ns)[i]? = some (D.writes.getD j (0, .none)) := by
        unfold DM.keepW
        rw [List.getElem?_map, hj]; rfl
      generalize hu : D.writes.getD j (0, .none) = u at hku
      have hu2 : D.writes[j]? = some u := by
        rw [← hu, List.getD_eq_getElem?_getD, List.getElem?_eq_getElem hjl]; rfl
      obtain ⟨y, hy, hyd⟩ := v3.getD (i := j) (d := dWr u) (by rw [List.getElem?_map, hu2]; rfl)
      obtain ⟨p, z, rfl, hp, hz⟩ := wr_inv hyd
      obtain ⟨hb0, hb1, hvv⟩ := ok.wv u (List.mem_of_getElem? hu2)
      obtain ⟨bn, hbn⟩ := Int.eq_ofNat_of_zero_le hb0
      have yl : ys.length = n := by rw [hys.length, putAll_length, ok.sl]
      have b03 : But [l] H H3 := (But.of_same s02).trans b3
      have h33 : H3 l3 = some (.lst x3) := b3.at (s02 _ _ h3) (by simpa using n3l)
      have nd_ : d ≠ l := ne_of_none h0 fl
      have h03 : H3 d = some (.ins CDisk dx (diskF l1 l2 l3 l4)) := b3.at (s02 _ _ h0) (by simpa using nd_)
      have hp3 : SqT K H3 p [.int u.1, z] := b03.sqT hp
      have step : putAll ((D.keepW ns).take (i + 1)) D.safe = (putAll ((D.keepW ns).take i) D.safe).set u.1.toNat u.2 := foldl_takeG hku
      repeat walk_at "s"
      refine r_ixL (.of h33) (atI_nat hy) ?_
      repeat walk_at "s"
      rw [hbn]
      refine s_lst hl3 (ixN_nat (by omega)) (fun H4 b4 hl4 => ?_)
      refine ⟨_, _, _, _, rfl, b3.trans b4, hl4, ?_⟩
      rw [step, hbn, Int.toNat_natCast]
      have nls : noLs (putAll ((D.keepW ns).take i) D.safe) = true := noLs_all.mpr fun z hz => by
        rcases putAll_mem hz with hz | ⟨q, hq, rfl⟩
        · exact blockB_nol (ok.sv z hz)
        · exact blockB_nol (ok.wv q (keepW_mem hc (List.mem_of_mem_take hq))).2.2
      exact DnAll.set bn (hys.nlb nls b4) (hz.nlb (blockB_nol hvv) (b03.trans b4))
    · rintro σ H3 ⟨o3, o4, o5, ys, rfl, b3, hl3, hys⟩
      have e3 : (D.keepW ns).length = ns.length := List.length_map ..
      rw [List.length_map, ← e3, List.take_length] at hys
      have s03 : Same H H3 := (bt_but (But.of_same s02) b3 (bc_fr fl bc_nil) : But [] H H3).same
      clear b3 s02
      repeat walk_at "s"
      have vl : (putAll (D.keepW ns) D.safe).length = n := by rw [putAll_length, ok.sl]
      refine ⟨l, ys, _, rfl, hl3, hys, fun v hv => ?_, by have := ok.n1; omega, by have := ok.n2; omega, fun e ls H4 hf s4 hE => ?_⟩
      · rcases putAll_mem hv with hv | ⟨q, hq, rfl⟩
        · exact ok.sv v hv
        · exact (ok.wv q (keepW_mem hc hq)).2.2
      · rw [vl] at hE
        exact k e ls H4 (fun t ht => (But.of_same (S := []) s03).free (hf t ht)) (fun b o e => s4 b o (s03 b o e)) hE
end
end L24

open PySem L2 PyProof.Rows J

namespace L24
section
variable {P : Program} {w : World} {K : PySem.W.Frag} {mg : Str → Option Value} {base : Heap} {CDisk CLayout : Addr}
def spAfter (K : PySem.W.Frag) (CDisk : Addr) : Sp := fun vs H Q _ => ∃ (d : Addr) (fd : List Addr) (n m : Nat) (D : DM) (i : Nat), vs = [.ref d, .int i] ∧ DiskAt K CDisk H d fd n m D ∧ i ≤ D.deeds.length ∧ m ≤ 100000 ∧
  ∀ e ls H', Fr (e :: ls) H → Same H H' → DiskAt K CDisk H' e (e :: ls) n i (D.after i) → Q (.ref e) H'
theorem ev_inv {S : List Addr} {H : Hp} {v : V} {u : Option (Int × PyData)} (h : Dn K S H v (dEv u)) : ∃ p, v = .ref p ∧ match u with
    | some u => ∃ x, SqT K H p [.str "write", .int u.1, x] ∧ Dn K S H x u.2
    | none => SqT K H p [.str "flush"] := by
  cases u with
  | none =>
    obtain ⟨p, xs, rfl, h1, h2⟩ := Dn.tup_inv (ds := [.str "flush"]) h
    obtain ⟨a, _, rfl, h3, h4⟩ := h2.cons_inv
    obtain rfl := h4.nil_inv
    obtain rfl := h3.str_inv
    exact ⟨p, rfl, h1⟩
  | some u =>
    obtain ⟨p, xs, rfl, h1, h2⟩ := Dn.tup_inv (ds := [.str "write", .int u.1, u.2]) h
    obtain ⟨a, _, rfl, h3, h4⟩ := h2.cons_inv
    obtain ⟨b, _, rfl, h5, h6⟩ := h4.cons_inv
    obtain ⟨x, _, rfl, h7, h8⟩ := h6.cons_inv
    obtain rfl := h8.nil_inv
    obtain rfl := h3.str_inv
    obtain rfl := h5.int_inv
    exact ⟨p, rfl, x, h1, h7⟩
abbrev s_Disk_after : Stmt := inClass (top 14) 9
abbrev N_Disk_after : List Str := ["self", "many", "other", "event"]
theorem sc_Disk_after : FnScope N_Disk_after ["self", "many"] (defScope s_Disk_after) :=
  ⟨rfl, rfl, rfl, by decide +kernel, rfl, by decide +kernel, by decide +kernel⟩

theorem ok_Disk_after {f : Addr} {fd : FuncData} (F : Fun K "after" "Disk.after" s_Disk_after f fd) (B : Bl mg) (T : TDisk K CDisk) (C_is_between : ClK P w K mg base CX0 2 "is_between" 1 ["low", "high"] (spBet K)) (C_beginning_with : Cl P w K mg base CX0 5 "beginning_with" (spBegin K CDisk))
    (M_Disk_write : C8.Met P w K mg base 12 CDisk "write" (spWrite K CDisk) []) (M_Disk_flush : C8.Met P w K mg base 1 CDisk "flush" (spFlush K CDisk) []) :
    FnOk P w K mg base CX0 13 f fd ["self", "many"] (spAfter K CDisk) := by
  refine F.ok sc_Disk_after (fun vs H Q E h => ?_) (fun cdv A outer s H vs Q E hr h => ?_)
  · obtain ⟨_, _, _, _, _, _, rfl, _⟩ := h
    rfl
  · obtain ⟨d, fd, n, m, D, many, rfl, hD, hmany, hm, k⟩ := h
    obtain ⟨ok, dx, l1, l2, l3, l4, x1, x2, x3, x4, rfl, hnd, h0, h1, h2, h3, h4, v1, v2, v3, v4⟩ := id hD
    have hu := hu_of hr
    have nd := sc_Disk_after.nd
    obtain ⟨cl, n1, n2, n3, n4⟩ := T
    have x4l : x4.length = D.deeds.length := by rw [v4.length, List.length_map]
    have dl := ok.dl
    refine ⟨_, (pss_cons (ps_if (pt_not (pt_tru (K := K) (pe_clK C_is_between hr (by decide) (pa_cons (pv 1) pa_nil) (pk_cons pe_int (pk_cons (pe_callB (call_lenA (K := K)) rfl B.len PySem.boot_len (pa_cons (pe_fldA (K := K) (pv 0)) pa_nil)) pk_nil))))) (pss_one (ps_dead)) pss_nil)
      (pss_cons (ps_set (i := 2) nd rfl (by first | exact Or.inl rfl | exact Or.inr rfl) (pe_cl (E := fun _ => E0) C_beginning_with hr (by decide) pass00 (pa_cons (pe_fldA (K := K) (pv 0)) pa_nil)))
      (pss_cons (ps_for PassesOwn.never rfl (pi_lst (K := K) (pe_slice (sl_any (K := K)) (pe_fldA (K := K) (pv 0)) po_none (po_some (pv 1)))) (pg_name (i := 3) nd rfl (by first | exact Or.inl rfl | exact Or.inr rfl))
      (pss_one (ps_if (pt_cmpR (op_eqA (K := K) hr.units) (pe_ix (ix_any (K := K)) (pv 3) pe_int (fun _ _ => rfl)) pe_str (nomark _)) (pss_one (ps_expr (C8.pe_mt M_Disk_write hr (by decide) (pv 2) (pa_cons (pe_ix (ix_any (K := K)) (pv 3) pe_int (fun _ _ => rfl)) (pa_cons (pe_ix (ix_any (K := K)) (pv 3) pe_int (fun _ _ => rfl)) pa_nil))))) (pss_one (ps_expr (C8.pe_mt0 M_Disk_flush hr (by decide) (pv 2)))))))
      (pss_one (ps_ret (pv 2)))))), ?_⟩
    repeat walk_at "s"
    rw [x4l]
    refine ⟨_, [], .int many, 0, _, rfl, .int _, ?_⟩
    rw [bet_iff.mpr ⟨by omega, by omega⟩]
    repeat walk_at "s"
    refine r_iteF rfl ?_
    repeat walk_at "s"
    refine ⟨l1, x1, D.first, rfl, h1, v1, ok.fv, by rw [ok.fl]; exact ok.n1, by rw [ok.fl]; exact ok.n2, fun e ls H1 hf s1 hE => ?_⟩
    rw [ok.fl] at hE
    generalize hfe : e :: ls = fe at hf hE
    have nfe : ∀ {z : Addr}, H z ≠ none → z ∉ fe := fun h z => h (hf _ z)
    have h01 := s1 _ _ h0
    have h41 := s1 _ _ h4
    repeat walk_at "s"
    refine r_slL (.of h41) (fun q H2 hq s2 hq2 => ?_)
    rw [cut_to] at hq2
    have ql : (x4.take many).length = many := by rw [List.length_take]; omega
    have nqfe : q ∉ fe := fun z => hE.live q z hq
    have s02 : Same H H2 := fun b o h => s2 b o (s1 b o h)
    have v42 : DnAll K [] H2 (x4.take many) ((D.deeds.map dEv).take many) := (v4.same s02).take many
    have nl4 : noLs ((D.deeds.map dEv).take many) = true := noLs_all.mpr fun z hz => noLs_all.mp ok.nl4 z (List.mem_of_mem_take hz)
    refine forL (.of hq2) (fun i σ H' => ∃ o3, σ = [some (.ref d), some (.int many), some (.ref e), o3] ∧ But fe H2 H' ∧ DiskAt K CDisk H' e fe n i (DM.play ⟨D.first, D.first, [], []⟩ (D.deeds.take i)))
      ⟨_, rfl, .refl, hE.same s2⟩ ?_ ?_ ?_
    · rintro i σ H3 hi ⟨o3, rfl, b3, hE3⟩
      exact .of (b3.at hq2 nqfe)
    · rintro i x σ H3 hi ⟨o3, rfl, b3, hE3⟩
      have him : i < many := by
        have := (List.getElem?_eq_some_iff.mp hi).1
        omega
      obtain ⟨dd, hdd, hdn⟩ := v42.get hi
      rw [List.getElem?_take_of_lt him] at hdd
      obtain ⟨u, hu', rfl⟩ := map_getG hdd
      obtain ⟨p, rfl, hp⟩ := ev_inv hdn
      have step : DM.play ⟨D.first, D.first, [], []⟩ (D.deeds.take (i + 1)) = (DM.play ⟨D.first, D.first, [], []⟩ (D.deeds.take i)).ev u := foldl_takeG hu'
      obtain ⟨dx', k1, k2, k3, k4, y1, y2, y3, y4, efe, hnd', g0, _⟩ := hE3.ex
      cases u with
      | none =>
        have hp3 : SqT K H3 p [.str "flush"] := b3.sqT hp
        repeat walk_at "s"
        refine r_iteF (by decide +kernel) ?_
        repeat walk_at "s"
        refine r_methAt g0 (by with_unfolding_all rfl) ?_
        repeat walk_at "s"
        refine ⟨e, fe, _, _, _, rfl, hE3, by omega, fun H4 b4 hE4 => ?_⟩
        refine ⟨_, rfl, b3.trans b4, ?_⟩
        rw [step]
        exact hE4
      | some u =>
        obtain ⟨y, hp1, hy⟩ := hp
        have hp3 : SqT K H3 p [.str "write", .int u.1, y] := b3.sqT hp1
        obtain ⟨hb0, hb1, hbl⟩ := ok.dv u (List.mem_of_getElem? hu')
        repeat walk_at "s"
        refine r_iteT (by decide +kernel) ?_
        repeat walk_at "s"
        refine r_methAt g0 (by with_unfolding_all rfl) ?_
        repeat walk_at "s"
        refine ⟨e, fe, _, _, _, _, y, [], u.2, rfl, hE3, by omega, hb0, hb1, hy.nlb (blockB_nol hbl) b3, hbl, fun H4 b4 hE4 => ?_⟩
        refine ⟨_, rfl, b3.trans b4, ?_⟩
        rw [step]
        exact hE4
    · rintro σ H3 ⟨o3, rfl, b3, hE3⟩
      rw [ql] at hE3
      repeat walk_at "s"
      have s03 : Same H H3 := (bt_but (But.of_same s02) b3 (fun t ht => .inr (hf t ht)) : But [] H H3).same
      rw [← hfe] at hf hE3
      exact k e ls H3 hf s03 hE3
end
end L24

set_option Elab.async false
set_option linter.all false
set_option maxHeartbeats 4000000
open PySem L2 PyProof.Rows J
namespace L24
/-! ### a transaction that breaks off -/
/-- the first j records stand, the next slot has none -/
structure Cut (s : Nat) (rec : Nat → Option Rc) (p : Nat) (l : List Rc) (j : Nat) : Prop where
  st : ∀ k (rc : Rc), k < j → l[k]? = some rc → rec ((p + k) % s) = some rc
  no : rec ((p + j) % s) = none
  lt : j < l.length
theorem Cut.right {s p j : Nat} {rec : Nat → Option Rc} {l m : List Rc} (h : Cut s rec p (l ++ m) j) (hl : l.length ≤ j) : Cut s rec ((p + l.length) % s) m (j - l.length) := by
  refine ⟨fun k rc hk e => ?_, ?_, ?_⟩
  · rw [Nat.mod_add_mod, Nat.add_assoc]
    exact h.st (l.length + k) rc (by omega) (by rw [List.getElem?_append_right (by omega), Nat.add_sub_cancel_left]; exact e)
  · rw [Nat.mod_add_mod, Nat.add_assoc, show l.length + (j - l.length) = j by omega]
    exact h.no
  · have := h.lt
    rw [List.length_append] at this
    omega
theorem takeC_cut {s : Nat} {rec : Nat → Option Rc} (hs : 0 < s) : ∀ (g : List (Int × PyData)) (j p l : Nat) (cs : List (Int × PyData)), p < s → j < g.length → (∀ k (c : Int × PyData), k < j → g[k]? = some c → rec ((p + k) % s) = some (.copy c.2)) → rec ((p + j) % s) = none →
    takeC s rec (g.map (·.1)) p l cs = none
  | [], j, _, _, _, _, hj, _, _ => absurd hj (Nat.not_lt_zero _)
  | c :: g, 0, p, l, cs, hp, _, _, hn => by
    rw [Nat.add_zero, Nat.mod_eq_of_lt hp] at hn
    show (if l = 0 then none else match rec p with | some (.copy v) => takeC s rec (g.map (·.1)) ((p + 1) % s) (l - 1) (cs ++ [(c.1, v)]) | _ => none) = none
    rw [hn]
    split <;> rfl
  | c :: g, j + 1, p, l, cs, hp, hj, h, hn => by
    have h0 := h 0 c (Nat.succ_pos _) rfl
    rw [Nat.add_zero, Nat.mod_eq_of_lt hp] at h0
    have ih := takeC_cut hs g j ((p + 1) % s) (l - 1) (cs ++ [(c.1, c.2)]) (Nat.mod_lt _ hs) (by rw [List.length_cons] at hj; omega) (fun k d hk hd => by
      have := h (k + 1) d (by omega) (by rw [List.getElem?_cons_succ]; exact hd)
      rw [Nat.mod_add_mod, show p + 1 + k = p + (k + 1) by omega]; exact this) (by rw [Nat.mod_add_mod, show p + 1 + j = p + (j + 1) by omega]; exact hn)
    show (if l = 0 then none else match rec p with | some (.copy v) => takeC s rec (g.map (·.1)) ((p + 1) % s) (l - 1) (cs ++ [(c.1, v)]) | _ => none) = none
    rw [h0]
    split
    · rfl
    · exact ih
theorem complete_zero {s : Nat} {rec : Nat → Option Rc} {fuel p l : Nat} {cs : List (Int × PyData)} {rs : List Int} (h : rec p = none) : complete s rec fuel p l cs rs = none := by
  cases fuel with
  | zero => rfl
  | succ f =>
    by_cases hl : l = 0
    · show (if l = 0 then none else _) = none
      rw [if_pos hl]
    · rw [complete_step hl, h]
theorem complete_l0 {s : Nat} {rec : Nat → Option Rc} {fuel p : Nat} {cs : List (Int × PyData)} {rs : List Int} : complete s rec fuel p 0 cs rs = none := by
  cases fuel <;> rfl
theorem complete_cut {s : Nat} {rec : Nat → Option Rc} (hs : 0 < s) : ∀ (ps : List Piece) (fuel p l j : Nat) (cs : List (Int × PyData)) (rs : List Int), p < s → Cut s rec p (ps.flatMap pRecs ++ [.commit]) j → complete s rec fuel p l cs rs = none
  | [], fuel, p, l, j, cs, rs, hp, h => by
    have hlt := h.lt
    have hj : j = 0 := by
      have : ([] : List Piece).flatMap pRecs = [] := rfl
      rw [this, List.nil_append, List.length_singleton] at hlt
      omega
    have hn := h.no
    rw [hj, Nat.add_zero, Nat.mod_eq_of_lt hp] at hn
    exact complete_zero hn
  | .rev g :: ps, fuel, p, l, j, cs, rs, hp, h => by
    by_cases hj : j = 0
    · have hn := h.no
      rw [hj, Nat.add_zero, Nat.mod_eq_of_lt hp] at hn
      exact complete_zero hn
    have e : pRecs (.rev g) = [.revoke g] := rfl
    rw [List.flatMap_cons, e] at h
    have h0 := h.st 0 (.revoke g) (by omega) rfl
    rw [Nat.add_zero, Nat.mod_eq_of_lt hp] at h0
    rw [List.append_assoc] at h
    have hr := h.right (by rw [List.length_singleton]; omega)
    rw [List.length_singleton] at hr
    cases fuel with
    | zero => rfl
    | succ f =>
      by_cases hl : l = 0
      · rw [hl]; exact complete_l0
      · rw [complete_step hl, h0]
        exact complete_cut hs ps f _ _ _ _ _ (Nat.mod_lt _ hs) hr
  | .desc g :: ps, fuel, p, l, j, cs, rs, hp, h => by
    by_cases hj : j = 0
    · have hn := h.no
      rw [hj, Nat.add_zero, Nat.mod_eq_of_lt hp] at hn
      exact complete_zero hn
    have e : pRecs (.desc g) = .desc (g.map (·.1)) :: g.map fun c => .copy c.2 := rfl
    rw [List.flatMap_cons, e] at h
    have h0 := h.st 0 (.desc (g.map (·.1))) (by omega) rfl
    rw [Nat.add_zero, Nat.mod_eq_of_lt hp] at h0
    rw [List.append_assoc] at h
    cases fuel with
    | zero => rfl
    | succ f =>
      by_cases hl : l = 0
      · rw [hl]; exact complete_l0
      rw [complete_step hl, h0]
      by_cases hjg : j ≤ g.length
      · have hc := takeC_cut hs g (j - 1) ((p + 1) % s) (l - 1) cs (Nat.mod_lt _ hs) (by omega) (fun k c hk hkc => by
          rw [Nat.mod_add_mod, show p + 1 + k = p + (k + 1) by omega]
          refine h.st (k + 1) (.copy c.2) (by omega) ?_
          rw [List.cons_append, List.getElem?_cons_succ, List.getElem?_append_left (by rw [List.length_map]; omega), List.getElem?_map, hkc]; rfl) (by
          rw [Nat.mod_add_mod, show p + 1 + (j - 1) = p + j by omega]
          exact h.no)
        simp only [hc]
      · have hr := h.right (by rw [List.length_cons, List.length_map]; omega)
        rw [List.length_cons, List.length_map] at hr
        have hcop : ∀ k (c : Int × PyData), g[k]? = some c → rec (((p + 1) % s + k) % s) = some (.copy c.2) := fun k c hk => by
          have hkl := (List.getElem?_eq_some_iff.mp hk).1
          rw [Nat.mod_add_mod, show p + 1 + k = p + (k + 1) by omega]
          refine h.st (k + 1) (.copy c.2) (by omega) ?_
          rw [List.cons_append, List.getElem?_cons_succ, List.getElem?_append_left (by rw [List.length_map]; exact hkl), List.getElem?_map, hk]; rfl
        by_cases hlg : g.length ≤ l - 1
        · have ht := takeC_seq hs g ((p + 1) % s) (l - 1) cs (Nat.mod_lt _ hs) hlg hcop
          simp only [ht]
          have e5 : ((p + 1) % s + g.length) % s = (p + (g.length + 1)) % s := by rw [Nat.mod_add_mod, show p + 1 + g.length = p + (g.length + 1) by omega]
          rw [e5]
          exact complete_cut hs ps f _ _ _ _ _ (Nat.mod_lt _ hs) hr
        · have sh : ∀ (g : List (Int × PyData)) (q l : Nat) (cs : List (Int × PyData)), l < g.length → takeC s rec (g.map (·.1)) q l cs = none := by
            intro g
            induction g with
            | nil => intro q l cs h; exact absurd h (Nat.not_lt_zero _)
            | cons c g ih =>
              intro q l cs h
              show (if l = 0 then none else match rec q with | some (.copy v) => takeC s rec (g.map (·.1)) ((q + 1) % s) (l - 1) (cs ++ [(c.1, v)]) | _ => none) = none
              by_cases hl : l = 0
              · rw [if_pos hl]
              · rw [if_neg hl]
                split
                · exact ih _ _ _ (by rw [List.length_cons] at h; omega)
                · rfl
          simp only [sh g _ _ cs (show l - 1 < g.length by omega)]
theorem tx_cut {s : Nat} {D : DM} {num : Int} {p j : Nat} {cs : List (Int × PyData)} {rs : List Int} (hs : 0 < s) (hp : p < s) (h : Cut s (D.rc num) p (recs cs rs) j) : txAt s D num p = none := by
  unfold txAt
  rw [recs_pieces] at h
  exact complete_cut hs _ _ _ _ _ _ _ hp h
/-! ### what the law itself finds -/
/-- the longest run of transactions whose records stand (by their texts) -/
def shEq (rd : Nat → PyData) (s p : Nat) (vs : List PyData) : Bool := (List.range vs.length).all fun j => decide ((rd ((p + j) % s)).shown = (vs.getD j .none).shown)
def dueS (s : Nat) (rd : Nat → PyData) : List Tx → Nat → List Tx
  | [], _ => []
  | t :: r, p => if shEq rd s p ((recs t.2.1 t.2.2).map (rcD t.1)) then t :: dueS s rd r ((p + szTx t) % s) else []
/-- what stands in a slot is the record that was written there last, or an older thing -/
structure SlotsOk (s : Nat) (D : DM) (p : Nat) (num : Int) (V : List PyData) : Prop where
  at_ : ∀ k v, V[k]? = some v → D.read (1 + (((p + k) % s : Nat) : Int)) = v ∨ ((∀ n, num ≤ n → parse n (D.read (1 + (((p + k) % s : Nat) : Int))) = none) ∧ (D.read (1 + (((p + k) % s : Nat) : Int))).shown ≠ v.shown)
theorem SlotsOk.left {s p : Nat} {D : DM} {num : Int} {l m : List PyData} (h : SlotsOk s D p num (l ++ m)) : SlotsOk s D p num l := ⟨fun k v e => h.at_ k v (by rw [List.getElem?_append_left (List.getElem?_eq_some_iff.mp e).1]; exact e)⟩
theorem SlotsOk.right {s p : Nat} {D : DM} {num n2 : Int} {l m : List PyData} (h : SlotsOk s D p num (l ++ m)) (hn : num ≤ n2) : SlotsOk s D ((p + l.length) % s) n2 m := ⟨fun k v e => by
  rw [Nat.mod_add_mod, Nat.add_assoc]
  refine (h.at_ (l.length + k) v (by rw [List.getElem?_append_right (by omega), Nat.add_sub_cancel_left]; exact e)).imp id fun q => ⟨fun n h => q.1 n (Int.le_trans hn h), q.2⟩⟩
theorem scan_due {s : Nat} {D : DM} (hs : 0 < s) : ∀ (log : List Tx) (fuel : Nat) (num : Int) (p left : Nat) (found : List Tx), p < s → left < fuel → left ≤ s → szLog log ≤ left → (∀ (i : Nat) (t : Tx), log[i]? = some t → t.1 = num + i) → (∀ t ∈ log, TxB 32 t) → SlotsOk s D p num (logV log) →
    NotRec s D (num + log.length) (p + szLog log) → (scanGo s D fuel num p left found).1 = found ++ dueS s (fun q => D.read (1 + (q : Int))) log p
  | [], fuel, num, p, left, found, hp, hf, hl, hz, hn, ht, hst, hend => by
    rw [scanGo_eq hf]
    have e : p + szLog [] = p := rfl
    have e2 : num + (([] : List Tx).length : Int) = num := by simp
    rw [e, e2] at hend
    rw [tx_none0 hs hp hend]
    show found = found ++ []
    rw [List.append_nil]
  | t :: log, fuel, num, p, left, found, hp, hf, hl, hz, hn, ht, hst, hend => by
    have ez : szLog (t :: log) = szTx t + szLog log := by simp [szLog]
    have hpos := szTx_pos t
    have e0 : t.1 = num := by
      have := hn 0 t rfl
      omega
    have eV : logV (t :: log) = (recs t.2.1 t.2.2).map (rcD t.1) ++ logV log := rfl
    rw [eV] at hst
    have tb := ht t List.mem_cons_self
    have hlen : ((recs t.2.1 t.2.2).map (rcD t.1)).length = szTx t := by rw [List.length_map]; rfl
    have hl0 := hst.left
    have ed : dueS s (fun q => D.read (1 + (q : Int))) (t :: log) p = if shEq (fun q => D.read (1 + (q : Int))) s p ((recs t.2.1 t.2.2).map (rcD t.1)) then t :: dueS s (fun q => D.read (1 + (q : Int))) log ((p + szTx t) % s) else [] := rfl
    -- do all of its records stand?
    by_cases hall : ∀ k v, ((recs t.2.1 t.2.2).map (rcD t.1))[k]? = some v → D.read (1 + (((p + k) % s : Nat) : Int)) = v
    · have hsh : shEq (fun q => D.read (1 + (q : Int))) s p ((recs t.2.1 t.2.2).map (rcD t.1)) = true := by
        unfold shEq
        rw [List.all_eq_true]
        intro j hj
        have hj2 := List.mem_range.mp hj
        have := hall j _ (List.getElem?_eq_getElem hj2)
        refine decide_eq_true ?_
        rw [List.getD_eq_getElem?_getD, List.getElem?_eq_getElem hj2]
        exact congrArg PyData.shown this
      have stand : Stand s (D.rc t.1) p (recs t.2.1 t.2.2) := stand_of tb.cs.asc tb.rs hall
      have htx : txAt s D num p = some (t.2.1, t.2.2, (p + szTx t) % s) := by
        unfold txAt
        rw [← e0]
        exact complete_recs hs hp (by show szTx t ≤ s; omega) stand
      have et := taken_eq hp hpos (show szTx t ≤ s by omega)
      rw [scanGo_eq hf, htx]
      dsimp only
      rw [et, if_neg (by omega), Int.toNat_natCast]
      have hr := hst.right (n2 := num + 1) (by omega)
      rw [hlen] at hr
      have ih := scan_due (D := D) hs log (fuel - 1) (num + 1) ((p + szTx t) % s) (left - szTx t) (found ++ [(num, t.2.1, t.2.2)]) (Nat.mod_lt _ hs) (by omega) (by omega) (by omega)
        (fun i u hu => by
          have := hn (i + 1) u (by rw [List.getElem?_cons_succ]; exact hu)
          omega) (fun u hu => ht u (List.mem_cons_of_mem _ hu)) hr (by
          unfold NotRec at hend ⊢
          rw [Nat.mod_add_mod, Nat.add_assoc, ← ez]
          have e : num + 1 + (log.length : Int) = num + ((t :: log).length : Int) := by rw [List.length_cons]; omega
          rw [e]; exact hend)
      have e3 : (num, t.2.1, t.2.2) = t := by rw [← e0]
      rw [ih, ed, hsh, if_pos rfl, List.append_assoc, e3]; rfl
    · -- the first that does not
      have ex : ∃ j, j < szTx t ∧ (∀ k v, k < j → ((recs t.2.1 t.2.2).map (rcD t.1))[k]? = some v → D.read (1 + (((p + k) % s : Nat) : Int)) = v) ∧ ∃ v, ((recs t.2.1 t.2.2).map (rcD t.1))[j]? = some v ∧ D.read (1 + (((p + j) % s : Nat) : Int)) ≠ v := by
        have gen : ∀ m, m ≤ szTx t → (∀ k v, k < m → ((recs t.2.1 t.2.2).map (rcD t.1))[k]? = some v → D.read (1 + (((p + k) % s : Nat) : Int)) = v) ∨ ∃ j, j < m ∧ (∀ k v, k < j → ((recs t.2.1 t.2.2).map (rcD t.1))[k]? = some v → D.read (1 + (((p + k) % s : Nat) : Int)) = v) ∧ ∃ v, ((recs t.2.1 t.2.2).map (rcD t.1))[j]? = some v ∧ D.read (1 + (((p + j) % s : Nat) : Int)) ≠ v := by
          intro m
          induction m with
          | zero => intro _; exact .inl fun k v hk => absurd hk (Nat.not_lt_zero _)
          | succ m ih =>
            intro hm
            rcases ih (by omega) with q | ⟨j, h1, h2⟩
            · have hm2 : m < ((recs t.2.1 t.2.2).map (rcD t.1)).length := by rw [hlen]; omega
              by_cases hv : D.read (1 + (((p + m) % s : Nat) : Int)) = ((recs t.2.1 t.2.2).map (rcD t.1))[m]
              · refine .inl fun k v hk e => ?_
                by_cases hkm : k = m
                · subst hkm
                  rw [List.getElem?_eq_getElem hm2] at e
                  rw [hv]; exact Option.some.inj e
                · exact q k v (by omega) e
              · exact .inr ⟨m, by omega, q, _, List.getElem?_eq_getElem hm2, hv⟩
            · exact .inr ⟨j, by omega, h2⟩
        rcases gen (szTx t) (Nat.le_refl _) with q | ⟨j, h1, h2, h3⟩
        · exact absurd (fun k v e => q k v (by rw [← hlen]; exact (List.getElem?_eq_some_iff.mp e).1) e) hall
        · exact ⟨j, h1, h2, h3⟩
      obtain ⟨j, hj, hbef, v, hv, hne⟩ := ex
      have hold := (hl0.at_ j v hv).resolve_left hne
      have hcut : Cut s (D.rc num) p (recs t.2.1 t.2.2) j := by
        refine ⟨fun k rc hk e => ?_, ?_, hj⟩
        · have := hbef k (rcD t.1 rc) hk (by rw [List.getElem?_map, e]; rfl)
          unfold DM.rc
          rw [this, e0]
          exact recs_parse tb.cs.asc tb.rs (List.mem_of_getElem? e)
        · unfold DM.rc
          exact hold.1 num (Int.le_refl _)
      have hsh : shEq (fun q => D.read (1 + (q : Int))) s p ((recs t.2.1 t.2.2).map (rcD t.1)) = false := by
        unfold shEq
        rw [Bool.eq_false_iff]
        intro z
        rw [List.all_eq_true] at z
        have := of_decide_eq_true (z j (List.mem_range.mpr (by rw [hlen]; exact hj)))
        rw [List.getD_eq_getElem?_getD, hv] at this
        exact hold.2 this
      rw [scanGo_eq hf, tx_cut hs hp hcut, ed, hsh, if_neg Bool.false_ne_true, List.append_nil]
end L24

set_option Elab.async false
set_option linter.all false
set_option maxHeartbeats 4000000
set_option maxRecDepth 100000
open PySem L2 PyProof.Rows J
namespace L24
/-! ### texts of records of different numbers differ -/
def dig (o : Int) : Str := Str.ofString (toString o)
theorem tl_app (a b : Str) : (a ++ b).cps.toList = a.cps.toList ++ b.cps.toList := TL.tl_append a b
theorem join_cons (x : Str) (r : List Str) : ∃ T : List Nat, (Str.join ", " (x :: r)).cps.toList = x.cps.toList ++ T := by
  cases r with
  | nil => exact ⟨[], (List.append_nil _).symm⟩
  | cons y r =>
    refine ⟨((", " : Str) ++ Str.join ", " (y :: r)).cps.toList, ?_⟩
    have e : Str.join ", " (x :: y :: r) = x ++ ", " ++ Str.join ", " (y :: r) := rfl
    rw [e, tl_app, tl_app, tl_app, List.append_assoc]
def preK (k : Str) : List Nat := (("(" : Str) ++ reprText k ++ ", ").cps.toList
theorem shown_pre (k : Str) (o : Int) (rest : List PyData) : ∃ T : List Nat, (PyData.tuple (.str k :: .int o :: rest)).shown.cps.toList = preK k ++ ((dig o).cps.toList ++ T) := by
  have e1 : (PyData.tuple (.str k :: .int o :: rest)).shown = tupleText (reprText k :: dig o :: PyData.shownAll rest) := by
    simp only [PyData.shown, PyData.shownAll, dig]
  obtain ⟨T, hT⟩ := join_cons (dig o) (PyData.shownAll rest)
  rw [e1]
  unfold tupleText
  have e2 : Str.join ", " (reprText k :: dig o :: PyData.shownAll rest) = reprText k ++ ", " ++ Str.join ", " (dig o :: PyData.shownAll rest) := rfl
  rw [e2, tl_app, tl_app, tl_app, hT]
  refine ⟨T ++ ((if (reprText k :: dig o :: PyData.shownAll rest).length == 1 then ",)" else ")" : String) : Str).cps.toList, ?_⟩
  unfold preK
  rw [tl_app, tl_app, tl_app]
  simp only [List.append_assoc]
theorem dig_lo : ∀ i : Nat, i < 30 → ((dig ((100 + i : Nat) : Int)).cps.toList[1]?).any (fun c => decide (c ≤ 50)) = true := by decide +kernel
theorem dig_hi : ∀ i : Nat, i < 30 → ((dig ((150 + i : Nat) : Int)).cps.toList[1]?).any (fun c => decide (53 ≤ c)) = true := by decide +kernel
theorem dig_ne {o n : Int} (h0 : 100 ≤ o) (h1 : o < 130) (h2 : 150 ≤ n) (h3 : n < 180) {T T' : List Nat} : (dig o).cps.toList ++ T ≠ (dig n).cps.toList ++ T' := by
  obtain ⟨i, rfl⟩ : ∃ i : Nat, o = ((100 + i : Nat) : Int) := ⟨(o - 100).toNat, by omega⟩
  obtain ⟨j, rfl⟩ : ∃ j : Nat, n = ((150 + j : Nat) : Int) := ⟨(n - 150).toNat, by omega⟩
  have a := dig_lo i (by omega)
  have b := dig_hi j (by omega)
  intro e
  have hx : ((dig ((100 + i : Nat) : Int)).cps.toList ++ T)[1]? = ((dig ((150 + j : Nat) : Int)).cps.toList ++ T')[1]? := congrArg (fun l => l[1]?) e
  cases ha : (dig ((100 + i : Nat) : Int)).cps.toList[1]? with
  | none => rw [ha] at a; cases a
  | some c =>
    cases hb : (dig ((150 + j : Nat) : Int)).cps.toList[1]? with
    | none => rw [hb] at b; cases b
    | some d =>
      rw [ha] at a
      rw [hb] at b
      have la := (List.getElem?_eq_some_iff.mp ha).1
      have lb := (List.getElem?_eq_some_iff.mp hb).1
      rw [List.getElem?_append_left la, List.getElem?_append_left lb, ha, hb] at hx
      have h4 : c ≤ 50 := of_decide_eq_true a
      have h5 : 53 ≤ d := of_decide_eq_true b
      have h6 := Option.some.inj hx
      omega
def kinds : List Str := ["commit", "revoke", "descriptor", "copy"]
theorem pre_clash : ∀ k ∈ kinds, ∀ k' ∈ kinds, k ≠ k' → (preK k).take 6 ≠ (preK k').take 6 ∧ 6 ≤ (preK k).length := by decide +kernel
theorem rcD_parts (num : Int) (rc : Rc) : ∃ k rest, rcD num rc = .tuple (.str k :: .int num :: rest) ∧ k ∈ kinds := by
  cases rc with
  | commit => exact ⟨"commit", [], rfl, by decide⟩
  | revoke hs => exact ⟨"revoke", [dHs hs], rfl, by decide⟩
  | desc hs => exact ⟨"descriptor", [dHs hs], rfl, by decide⟩
  | copy v => exact ⟨"copy", [v], rfl, by decide⟩
theorem shown_ne {o n : Int} {rc rc' : Rc} (h0 : 100 ≤ o) (h1 : o < 130) (h2 : 150 ≤ n) (h3 : n < 180) : (rcD o rc).shown ≠ (rcD n rc').shown := by
  obtain ⟨k, rest, e1, hk⟩ := rcD_parts o rc
  obtain ⟨k', rest', e2, hk'⟩ := rcD_parts n rc'
  rw [e1, e2]
  intro e
  obtain ⟨T, hT⟩ := shown_pre k o rest
  obtain ⟨T', hT'⟩ := shown_pre k' n rest'
  have e3 : preK k ++ ((dig o).cps.toList ++ T) = preK k' ++ ((dig n).cps.toList ++ T') := by rw [← hT, ← hT', e]
  by_cases hkk : k = k'
  · subst hkk
    exact dig_ne h0 h1 h2 h3 (List.append_cancel_left e3)
  · obtain ⟨c1, l1⟩ := pre_clash k hk k' hk' hkk
    obtain ⟨_, l2⟩ := pre_clash k' hk' k hk (Ne.symm hkk)
    have e4 : (preK k ++ ((dig o).cps.toList ++ T)).take 6 = (preK k' ++ ((dig n).cps.toList ++ T')).take 6 := congrArg (fun l => l.take 6) e3
    rw [List.take_append_of_le_length l1, List.take_append_of_le_length l2] at e4
    exact c1 e4
theorem zero_ne {n : Int} {rc : Rc} : (PyData.int 0).shown ≠ (rcD n rc).shown := by
  obtain ⟨k, rest, e1, hk⟩ := rcD_parts n rc
  rw [e1]
  intro e
  obtain ⟨T, hT⟩ := shown_pre k n rest
  have e2 : ((PyData.int 0).shown.cps.toList)[0]? = (preK k ++ ((dig n).cps.toList ++ T))[0]? := by rw [e, hT]
  have e3 : (preK k)[0]? = some 40 := by
    have : ∀ k ∈ kinds, (preK k)[0]? = some 40 := by decide +kernel
    exact this k hk
  have l := (List.getElem?_eq_some_iff.mp e3).1
  rw [List.getElem?_append_left l, e3] at e2
  exact absurd e2 (by decide +kernel)
/-- a thing that stood there before -/
def OldAt (hi : Int) (v : PyData) : Prop := v = .int 0 ∨ ∃ o rc, v = rcD o rc ∧ 100 ≤ o ∧ o < hi
theorem OldAt.mono {a b : Int} {v : PyData} (h : OldAt a v) (l : a ≤ b) : OldAt b v := h.imp id fun ⟨o, rc, e, h1, h2⟩ => ⟨o, rc, e, h1, by omega⟩
theorem parse_o2 {num o : Int} {k : PyData} (h : o ≠ num) : parse num (.tuple [k, .int o]) = none := by
  have e : (PyData.eqv (.int o) (.int num) && intB (.int o) && PyData.eqv k (.str "commit")) = false := by simp [PyData.eqv, h]
  unfold parse
  exact if_neg (by rw [e]; exact Bool.false_ne_true)
theorem parse_o3 {num o : Int} {k x : PyData} (h : o ≠ num) : parse num (.tuple [k, .int o, x]) = none := by
  have e : (PyData.eqv (.int o) (.int num) && intB (.int o)) = false := by simp [PyData.eqv, h]
  unfold parse
  exact if_neg (by rw [e]; exact Bool.false_ne_true)
theorem parse_o {num o : Int} {rc : Rc} (h : o ≠ num) : parse num (rcD o rc) = none := by
  cases rc with
  | commit => exact parse_o2 h
  | revoke hs => exact parse_o3 h
  | desc hs => exact parse_o3 h
  | copy v => exact parse_o3 h
theorem OldAt.none {v : PyData} {n : Int} (h : OldAt 130 v) (hn : 150 ≤ n) : parse n v = none := by
  rcases h with rfl | ⟨o, rc, rfl, h1, h2⟩
  · rfl
  · exact parse_o (by omega)
theorem OldAt.ne {v : PyData} {n : Int} {rc : Rc} (h : OldAt 130 v) (h2 : 150 ≤ n) (h3 : n < 180) : v.shown ≠ (rcD n rc).shown := by
  rcases h with rfl | ⟨o, rc', rfl, h0, h1⟩
  · exact zero_ne
  · exact shown_ne h0 h1 h2 h3
/-! ### what may stand in a block -/
structure PV (P : Int → PyData → Prop) (D : DM) : Prop where
  fi : ∀ (b : Nat) v, D.first[b]? = some v → P b v
  sa : ∀ (b : Nat) v, D.safe[b]? = some v → P b v
  wr : ∀ w ∈ D.writes, 0 ≤ w.1 ∧ P w.1 w.2
  de : ∀ w, some w ∈ D.deeds → 0 ≤ w.1 ∧ P w.1 w.2
section
variable {P P' : Int → PyData → Prop} {D : DM}
theorem putAll_P {ws : List (Int × PyData)} (hw : ∀ w ∈ ws, 0 ≤ w.1 ∧ P w.1 w.2) : ∀ {s : List PyData}, (∀ (b : Nat) v, s[b]? = some v → P b v) → ∀ (b : Nat) v, (putAll ws s)[b]? = some v → P b v := by
  induction ws with
  | nil => exact fun h => h
  | cons w ws ih =>
    intro s h
    refine ih (fun u hu => hw u (List.mem_cons_of_mem _ hu)) (s := s.set w.1.toNat w.2) fun b v e => ?_
    obtain ⟨h0, h1⟩ := hw w List.mem_cons_self
    by_cases hb : w.1.toNat = b
    · subst hb
      have hl : w.1.toNat < s.length := by
        have := (List.getElem?_eq_some_iff.mp e).1
        rw [List.length_set] at this
        exact this
      rw [List.getElem?_set_self hl] at e
      have e2 : ((w.1.toNat : Nat) : Int) = w.1 := Int.toNat_of_nonneg h0
      rw [e2, ← Option.some.inj e]
      exact h1
    · rw [List.getElem?_set_ne hb] at e
      exact h b v e
theorem PV.mono (h : PV P D) (l : ∀ b v, 0 ≤ b → P b v → P' b v) : PV P' D := ⟨fun b v e => l _ _ (by omega) (h.fi b v e), fun b v e => l _ _ (by omega) (h.sa b v e), fun w hw => ⟨(h.wr w hw).1, l _ _ (h.wr w hw).1 (h.wr w hw).2⟩, fun w hw => ⟨(h.de w hw).1, l _ _ (h.de w hw).1 (h.de w hw).2⟩⟩
theorem PV.write (h : PV P D) {b : Int} {v : PyData} (h0 : 0 ≤ b) (hv : P b v) : PV P (D.write b v) := by
  refine ⟨h.fi, h.sa, fun w hw => ?_, fun w hw => ?_⟩
  · rcases List.mem_append.mp hw with hw | hw
    · exact h.wr w hw
    · rw [List.mem_singleton.mp hw]; exact ⟨h0, hv⟩
  · rcases List.mem_append.mp hw with hw | hw
    · exact h.de w hw
    · rw [Option.some.inj (List.mem_singleton.mp hw)]; exact ⟨h0, hv⟩
theorem PV.flush (h : PV P D) : PV P D.flush := by
  refine ⟨h.fi, putAll_P h.wr h.sa, fun w hw => by simp [DM.flush] at hw, fun w hw => ?_⟩
  rcases List.mem_append.mp hw with hw | hw
  · exact h.de w hw
  · exact nomatch List.mem_singleton.mp hw
theorem PV.ev {u : Option (Int × PyData)} (h : PV P D) (hu : ∀ w, u = some w → 0 ≤ w.1 ∧ P w.1 w.2) : PV P (D.ev u) := by
  cases u with
  | none => exact h.flush
  | some w => exact h.write (hu w rfl).1 (hu w rfl).2
theorem PV.play : ∀ {es : List (Option (Int × PyData))} {D : DM}, PV P D → (∀ w, some w ∈ es → 0 ≤ w.1 ∧ P w.1 w.2) → PV P (DM.play D es)
  | [], _, h, _ => h
  | u :: es, D, h, hu => PV.play (es := es) (D := D.ev u) (h.ev fun w e => hu w (e ▸ List.mem_cons_self)) fun w hw => hu w (List.mem_cons_of_mem _ hw)
theorem PV.after (h : PV P D) (k : Nat) : PV P (D.after k) :=
  PV.play ⟨h.fi, h.fi, fun w hw => by simp at hw, fun w hw => by simp at hw⟩ fun w hw => h.de w (List.mem_of_mem_take hw)
theorem PV.crash (h : PV P D) {ns : List Nat} (hc : Choice D.writes.length ns) : PV P (D.crash ns) := by
  have hk : ∀ w ∈ D.keepW ns, 0 ≤ w.1 ∧ P w.1 w.2 := fun w hw => h.wr w (keepW_mem hc hw)
  exact ⟨putAll_P hk h.sa, putAll_P hk h.sa, fun w hw => by simp [DM.crash] at hw, fun w hw => by simp [DM.crash] at hw⟩
theorem PV.putV {s : Nat} (hs : 0 < s) : ∀ {l : List PyData} {D : DM} {p : Nat}, p < s → PV P D → (∀ (k : Nat) v, l[k]? = some v → P (1 + (((p + k) % s : Nat) : Int)) v) → PV P (putV s (D, p) l).1
  | [], _, _, _, h, _ => h
  | v :: l, D, p, hp, h, hv => by
    have h0 := hv 0 v rfl
    rw [Nat.add_zero, Nat.mod_eq_of_lt hp] at h0
    refine PV.putV hs (l := l) (D := D.write (1 + (p : Int)) v) (p := (p + 1) % s) (Nat.mod_lt _ hs) (h.write (by omega) h0) fun k u e => ?_
    have := hv (k + 1) u (by rw [List.getElem?_cons_succ]; exact e)
    rw [Nat.mod_add_mod, show p + 1 + k = p + (k + 1) by omega]
    exact this
theorem PV.new {n : Nat} (h : ∀ b : Nat, P b (.int 0)) : PV P (DM.new n) := by
  have z : ∀ (b : Nat) v, (zeros n)[b]? = some v → P b v := fun b v e => by
    have := List.mem_of_getElem? e
    rw [List.eq_of_mem_replicate this]
    exact h b
  exact ⟨z, z, fun w hw => by simp [DM.new] at hw, fun w hw => by simp [DM.new] at hw⟩
end
/-- behind the first round -/
def Q24 (hi : Int) (s : Nat) : Int → PyData → Prop := fun b v => (b = 0 → v = .int 0) ∧ (1 ≤ b → b ≤ s → OldAt hi v)
/-- behind the second one: from slot p on the values V, or older things; block 0: nothing or the header -/
def P24 (s p : Nat) (V : List PyData) (hd : PyData) : Int → PyData → Prop := fun b v => (b = 0 → v = .int 0 ∨ v = hd) ∧ ∀ k, k < s → b = 1 + (((p + k) % s : Nat) : Int) → V[k]? = some v ∨ OldAt 130 v
theorem logV_mem {log : List Tx} {num : Int} (hn : ∀ (i : Nat) (t : Tx), log[i]? = some t → t.1 = num + i) (hl : log.length ≤ 20) {v : PyData} (h : v ∈ logV log) : ∃ n rc, v = rcD n rc ∧ num ≤ n ∧ n < num + 20 := by
  obtain ⟨t, htm, hd⟩ := List.mem_flatMap.mp h
  obtain ⟨rc, hrc, rfl⟩ := List.mem_map.mp hd
  obtain ⟨i, hi⟩ := List.mem_iff_getElem?.mp htm
  have e := hn i t hi
  have hil := (List.getElem?_eq_some_iff.mp hi).1
  exact ⟨t.1, rc, rfl, by omega, by omega⟩
theorem scan_law {s : Nat} {D : DM} {num : Int} {p : Nat} {log : List Tx} {hd : PyData} (hs : 0 < s) (hp : p < s) (hw : D.writes = []) (hl : D.safe.length ≥ 1 + s) (pv : PV (P24 s p (logV log) hd) D) (h1 : 150 ≤ num) (h2 : num < 160) (hz : szLog log ≤ s) (hn : ∀ (i : Nat) (t : Tx), log[i]? = some t → t.1 = num + i)
    (hll : log.length ≤ 20) (ht : ∀ t ∈ log, TxB 32 t) : (scanGo s D (s + 1) num p s []).1 = dueS s (fun q => D.read (1 + (q : Int))) log p := by
  have rd : ∀ k, k < s → (logV log)[k]? = some (D.read (1 + (((p + k) % s : Nat) : Int))) ∨ OldAt 130 (D.read (1 + (((p + k) % s : Nat) : Int))) := fun k hk => by
    have hm := Nat.mod_lt (p + k) hs
    have e : D.read (1 + (((p + k) % s : Nat) : Int)) = D.safe.getD (1 + (p + k) % s) .none := by
      unfold DM.read
      rw [hw]
      have e0 : (1 + (((p + k) % s : Nat) : Int)).toNat = 1 + (p + k) % s := by omega
      show D.safe.getD (1 + (((p + k) % s : Nat) : Int)).toNat .none = _
      rw [e0]
    have e2 : D.safe[1 + (p + k) % s]? = some (D.read (1 + (((p + k) % s : Nat) : Int))) := by
      rw [e, List.getD_eq_getElem?_getD, List.getElem?_eq_getElem (by omega)]; rfl
    exact (pv.sa _ _ e2).2 k hk (by omega)
  have vmem : ∀ k v, (logV log)[k]? = some v → ∃ n rc, v = rcD n rc ∧ num ≤ n ∧ n < num + 20 := fun k v e => logV_mem hn hll (List.mem_of_getElem? e)
  have := scan_due (D := D) hs log (s + 1) num p s [] hp (by omega) (Nat.le_refl _) hz hn ht ⟨fun k v e => ?_⟩ ?_
  · rw [this]; rfl
  · have hk : k < s := by
      have := (List.getElem?_eq_some_iff.mp e).1
      rw [logV_length] at this
      omega
    obtain ⟨n, rc, rfl, n1, n2⟩ := vmem k v e
    rcases rd k hk with q | q
    · rw [e] at q
      exact .inl (Option.some.inj q).symm
    · exact .inr ⟨fun m hm => q.none (by omega), q.ne (by omega) (by omega)⟩
  · unfold NotRec
    by_cases hlt : szLog log < s
    · rcases rd (szLog log) hlt with q | q
      · have := (List.getElem?_eq_some_iff.mp q).1
        rw [logV_length] at this
        omega
      · exact q.none (by omega)
    · have e0 : szLog log = s := by omega
      have e1 : (p + szLog log) % s = (p + 0) % s := by rw [e0, Nat.add_mod_right, Nat.add_zero]
      rw [e1]
      rcases rd 0 hs with q | q
      · have hne : log ≠ [] := fun z => by
          rw [z] at e0
          have : szLog [] = 0 := rfl
          omega
        match log, hn, q, hne with
        | t :: r, hn, q, _ =>
          have e3 : logV (t :: r) = (recs t.2.1 t.2.2).map (rcD t.1) ++ logV r := rfl
          have e4 : 1 ≤ (recs t.2.1 t.2.2).length := szTx_pos t
          obtain ⟨rc, hrc⟩ : ∃ rc, (recs t.2.1 t.2.2)[0]? = some rc := ⟨_, List.getElem?_eq_getElem (by omega)⟩
          rw [e3, List.getElem?_append_left (by rw [List.length_map]; omega), List.getElem?_map, hrc] at q
          have q2 : rcD t.1 rc = D.read (1 + (((p + 0) % s : Nat) : Int)) := Option.some.inj q
          rw [← q2]
          have e6 := hn 0 t rfl
          refine parse_o ?_
          rw [List.length_cons]
          omega
      · exact q.none (by omega)
end L24

set_option Elab.async false
set_option linter.all false
set_option maxHeartbeats 4000000
set_option maxRecDepth 100000
open PySem L2 PyProof.Rows J
namespace L24
/-! ### sizes, for repr -/
theorem okS {k : Str} (h : (PyData.strOk k && decide ((reprText k).length ≤ 20)) = true) : Ok 20 0 (.str k) := by
  rw [Bool.and_eq_true, decide_eq_true_iff] at h
  exact okStr h.1 h.2
theorem ok2 {k : PyData} {o : Int} (hk : Ok 20 0 k) (h0 : -1000000000000000000 < o) (h1 : o < 1000000000000000000) : Ok 300 3 (.tuple [k, .int o]) := by
  have hi : Ok 62 0 (.int o) := okInt (m := 60) (by omega) (by decide)
  exact (okTup (m := 2) (n := 62) (k := 0) (.cons (hk.mono (by decide) (Nat.le_refl _)) (.cons hi .nil)) (Nat.le_refl _)).mono (by decide) (by decide)
theorem ok3 {k x : PyData} {o : Int} (hk : Ok 20 0 k) (h0 : -1000000000000000000 < o) (h1 : o < 1000000000000000000) (hx : Ok 62 1 x) : Ok 300 3 (.tuple [k, .int o, x]) := by
  have hi : Ok 62 0 (.int o) := okInt (m := 60) (by omega) (by decide)
  exact (okTup (m := 3) (n := 62) (k := 1) (.cons (hk.mono (by decide) (by decide)) (.cons (hi.mono (Nat.le_refl _) (by decide)) (.cons hx .nil))) (Nat.le_refl _)).mono (by decide) (by decide)
theorem blk3 {k : Str} {o : Int} {x : PyData} (h : PyData.strOk k = true) (hx : valB x 1 = true ∧ slim x = true ∧ x.canLay0 = true) : blockB (.tuple [.str k, .int o, x]) = true := by
  unfold blockB
  have e1 : valB (.tuple [.str k, .int o, x]) 0 = valB x 1 := by
    show (decide (0 < 8) && (true && (true && (valB x 1 && true)))) = _
    simp
  have e2 : slim (.tuple [.str k, .int o, x]) = slim x := by
    show (decide (3 ≤ 1000000) && (true && (true && (slim x && true)))) = _
    simp
  have e3 : (PyData.tuple [.str k, .int o, x]).canLay0 = (PyData.strOk k && x.canLay0) := by
    show (PyData.strOk k && (true && (x.canLay0 && true))) = _
    simp
  rw [e1, e2, e3, hx.1, hx.2.1, hx.2.2, h]; rfl
theorem okNum {num : Int} (h0 : -1000000000000000000 < num) (h1 : num < 1000000000000000000) : Ok 62 0 (.int num) := okInt (m := 60) (by omega) (by decide)
theorem okHs {hs : List Int} (hl : hs.length ≤ 8) (hr : ∀ x ∈ hs, 0 ≤ x ∧ x ≤ 100) : Ok 91 1 (dHs hs) :=
  okTup (m := 8) (n := 9) (k := 0) (.map fun x hx => by
    have := hr x hx
    exact (okInt (m := 7) (by omega) (by decide)).mono (by decide) (Nat.le_refl _)) (by rw [List.length_map]; exact hl)
theorem okRc {num : Int} {rc : Rc} (h0 : -1000000000000000000 < num) (h1 : num < 1000000000000000000) (hh : ∀ hs, rc = .revoke hs ∨ rc = .desc hs → hs.length ≤ 8 ∧ ∀ x ∈ hs, 0 ≤ x ∧ x ≤ 100) (hv : ∀ v, rc = .copy v → Ok 60 3 v) : Ok 300 4 (rcD num rc) := by
  have hn := okNum h0 h1
  cases rc with
  | commit => exact (ok2 (okS (by decide +kernel)) h0 h1).mono (Nat.le_refl _) (by decide)
  | revoke hs =>
    obtain ⟨a, b⟩ := hh hs (.inl rfl)
    exact (okTup (m := 3) (n := 91) (k := 1) (.cons ((okS (k := "revoke") (by decide +kernel)).mono (by decide) (by decide)) (.cons (hn.mono (by decide) (by decide)) (.cons (okHs a b) .nil))) (Nat.le_refl _)).mono (by decide) (by decide)
  | desc hs =>
    obtain ⟨a, b⟩ := hh hs (.inr rfl)
    exact (okTup (m := 3) (n := 91) (k := 1) (.cons ((okS (k := "descriptor") (by decide +kernel)).mono (by decide) (by decide)) (.cons (hn.mono (by decide) (by decide)) (.cons (okHs a b) .nil))) (Nat.le_refl _)).mono (by decide) (by decide)
  | copy v =>
    exact (okTup (m := 3) (n := 62) (k := 3) (.cons ((okS (k := "copy") (by decide +kernel)).mono (by decide) (by decide)) (.cons (hn.mono (by decide) (by decide)) (.cons ((hv v rfl).mono (by decide) (Nat.le_refl _)) .nil))) (Nat.le_refl _)).mono (by decide) (by decide)
theorem recs_ok {num : Int} {cs : List (Int × PyData)} {rs : List Int} (h0 : -1000000000000000000 < num) (h1 : num < 1000000000000000000) (hc : Asc 32 (cs.map (·.1))) (hr : Asc 32 rs) (hv : ∀ c ∈ cs, VOk c.2) {rc : Rc} (h : rc ∈ recs cs rs) : Ok 300 4 (rcD num rc) := by
  refine okRc h0 h1 (fun hs e => ?_) (fun v e => ?_)
  · unfold recs at h
    rcases List.mem_append.mp h with h | h
    · rcases List.mem_append.mp h with h | h
      · obtain ⟨k, _, q⟩ := List.mem_map.mp h
        rcases e with e | e
        · rw [← q] at e
          cases e
          refine ⟨cut8_len rs k, fun x hx => ?_⟩
          have h1 := hr.lo x (cut8_mem hx)
          have h2 := hr.hi x (cut8_mem hx)
          omega
        · rw [← q] at e; cases e
      · obtain ⟨k, _, h⟩ := List.mem_flatMap.mp h
        rcases List.mem_cons.mp h with h | h
        · rw [h] at e
          rcases e with e | e
          · cases e
          · cases e
            rw [cut8_map]
            refine ⟨cut8_len _ k, fun x hx => ?_⟩
            have h1 := hc.lo x (cut8_mem hx)
            have h2 := hc.hi x (cut8_mem hx)
            omega
        · obtain ⟨c, _, q⟩ := List.mem_map.mp h
          rw [← q] at e
          rcases e with e | e <;> cases e
    · rw [List.mem_singleton.mp h] at e
      rcases e with e | e <;> cases e
  · subst e
    unfold recs at h
    rcases List.mem_append.mp h with h | h
    · rcases List.mem_append.mp h with h | h
      · exact (copy_revUp h).elim
      · obtain ⟨c, hc, rfl⟩ := copy_descUp h
        exact (hv c hc).ok
    · cases List.mem_singleton.mp h
theorem CopiesOk.mono {n m : Int} {cs : List (Int × PyData)} (h : CopiesOk n cs) (l : n ≤ m) : CopiesOk m cs := ⟨h.asc.mono l, h.val, Int.le_trans h.len l⟩
theorem TxB.mono {n m : Int} {t : Tx} (h : TxB n t) (l : n ≤ m) : TxB m t := ⟨h.cs.mono l, h.rs.mono l, Int.le_trans h.rl l⟩
theorem ok_zero : Ok 300 4 (.int 0) := (okInt (i := 0) (m := 10) (by decide) (by decide)).mono (by decide) (by decide)
theorem logV_ok {number : Int} {log : List Tx} (h0 : 0 ≤ number) (h1 : number < 10000000000000000) (ht : ∀ t ∈ log, TxB 32 t) (hn : ∀ (i : Nat) (t : Tx), log[i]? = some t → t.1 = number + i) (hl : log.length ≤ 20) : ∀ d ∈ logV log, Ok 300 4 d := by
  intro d hd
  obtain ⟨t, htm, hd⟩ := List.mem_flatMap.mp hd
  obtain ⟨rc, hrc, rfl⟩ := List.mem_map.mp hd
  obtain ⟨i, hi⟩ := List.mem_iff_getElem?.mp htm
  have e := hn i t hi
  have hil := (List.getElem?_eq_some_iff.mp hi).1
  have tb := ht t htm
  exact recs_ok (by omega) (by omega) tb.cs.asc tb.rs tb.cs.val hrc
theorem okLogD {number : Int} {log : List Tx} (h0 : 0 ≤ number) (h1 : number < 10000000000000000) (ht : ∀ t ∈ log, TxB 32 t) (hn : ∀ (i : Nat) (t : Tx), log[i]? = some t → t.1 = number + i) (hl : log.length ≤ 20) : Ok 400000 8 (.list (log.map dTx)) := by
  have tx : ∀ t ∈ log, Ok 12399 6 (dTx t) := fun t htm => by
    obtain ⟨i, hi⟩ := List.mem_iff_getElem?.mp htm
    have e := hn i t hi
    have hil := (List.getElem?_eq_some_iff.mp hi).1
    have tb := ht t htm
    have csl := tb.cs.len
    have rsl := tb.rl
    have hom : ∀ x : Int, 0 ≤ x → x < 32 → Ok 8 0 (.int x) := fun x a b => (okInt (m := 6) (by omega) (by decide)).mono (by decide) (by decide)
    have o1 : Ok 4130 5 (.list (t.2.1.map dWr)) := okList (m := 32) (n := 127) (k := 4) (.map fun c hc => by
      have hc2 : c.1 ∈ t.2.1.map (·.1) := List.mem_map.mpr ⟨c, hc, rfl⟩
      have := hom c.1 (tb.cs.asc.lo _ hc2) (tb.cs.asc.hi _ hc2)
      exact okTup (m := 2) (n := 60) (k := 3) (.cons (this.mono (by decide) (by decide)) (.cons (tb.cs.val c hc).ok .nil)) (Nat.le_refl _)) (by rw [List.length_map]; omega)
    have o2 : Ok 322 1 (.list (t.2.2.map .int)) := okList (m := 32) (n := 8) (k := 0) (.map fun x hx => hom x (tb.rs.lo _ hx) (tb.rs.hi _ hx)) (by rw [List.length_map]; omega)
    have on : Ok 62 0 (.int t.1) := okNum (by omega) (by omega)
    exact okTup (m := 3) (n := 4130) (k := 5) (.cons (on.mono (by decide) (by decide)) (.cons o1 (.cons (o2.mono (by decide) (by decide)) .nil))) (Nat.le_refl _)
  exact (okList (m := 20) (n := 12399) (k := 6) (.map tx) (by rw [List.length_map]; exact hl)).mono (by decide) (by decide)
/-! ### the rounds -/
def R1 (hi : Int) (s : Nat) : Int → PyData → Prop := fun b v => Q24 hi s b v ∧ Ok 300 4 v
def R2 (s p : Nat) (V : List PyData) (hd : PyData) : Int → PyData → Prop := fun b v => P24 s p V hd b v ∧ Ok 300 4 v
theorem R1.new {n s : Nat} : PV (R1 130 s) (DM.new n) := PV.new fun b => ⟨⟨fun _ => rfl, fun _ _ => .inl rfl⟩, ok_zero⟩
theorem r1_r2 {s p : Nat} {V : List PyData} {hd : PyData} {D : DM} (hs : 0 < s) (h : PV (R1 130 s) D) : PV (R2 s p V hd) D := h.mono fun b v b0 ⟨q, o⟩ => ⟨⟨fun z => .inl (q.1 z), fun k hk e => .inr (q.2 (by omega) (by have := Nat.mod_lt (p + k) hs; omega))⟩, o⟩
theorem logV_old {log : List Tx} {num : Int} (h0 : 100 ≤ num) (h1 : num ≤ 110) (hn : ∀ (i : Nat) (t : Tx), log[i]? = some t → t.1 = num + i) (hl : log.length ≤ 20) {v : PyData} (h : v ∈ logV log) : OldAt 130 v := by
  obtain ⟨n, rc, e, n1, n2⟩ := logV_mem hn hl h
  exact .inr ⟨n, rc, e, by omega, by omega⟩
theorem putV_deeds {s : Nat} : ∀ (l : List PyData) (st : DM × Nat) (u : Option (Int × PyData)), u ∈ st.1.deeds → u ∈ (putV s st l).1.deeds
  | [], _, _, h => h
  | v :: l, st, u, h => putV_deeds l _ u (List.mem_append_left _ h)
structure Turn (s ho : Nat) (i : Nat) (start : Nat) (num : Int) (log : List Tx) (D : DM) : Prop where
  r1 : i < 2 → PV (R1 130 s) D
  fl : 1 ≤ i → none ∈ D.deeds
  r2 : i = 2 → PV (R2 s ((start + 1) % s) (logV log) (hdD (50 + num) ((start + 1) % s))) D
  lb : i = 2 → LogB (50 + num) ho log ∧ szLog log ≤ s ∧ log.length ≤ 20
theorem Turn.zero {s ho start n : Nat} {num : Int} {log : List Tx} : Turn s ho 0 start num log (DM.new n) := ⟨fun _ => R1.new, fun h => absurd h (by omega), fun h => absurd h (by omega), fun h => absurd h (by omega)⟩
theorem Turn.step {s ho i start : Nat} {num : Int} {log log' : List Tx} {D D' : DM} (hs : 0 < s) (h : Turn s ho i start num log D) (hi : i < 2) (n0 : 100 ≤ num) (n1 : num ≤ 108) (hh : ho ≤ 32) (lb : LogB (50 * i + num) ho log') (hz : szLog log' ≤ s) (hl : log'.length ≤ 20)
    (e : D' = (wLog s (D, (start + i) % s) log').1 ∨ D' = (wLog s (D, (start + i) % s) log').1.flush) (e0 : i = 0 → D' = (wLog s (D, (start + i) % s) log').1.flush) : Turn s ho (i + 1) start num log' D' := by
  rw [wLog_putV] at e e0
  have tx32 : ∀ t ∈ log', TxB 32 t := fun t ht => (lb.tx t ht).mono (by omega)
  have okv := logV_ok (number := 50 * i + num) (by omega) (by omega) tx32 lb.num hl
  have hp := Nat.mod_lt (start + i) hs
  have lv := logV_length log'
  rcases (show i = 0 ∨ i = 1 by omega) with rfl | rfl
  · have r : PV (R1 130 s) D' := by
      rw [e0 rfl]
      refine PV.flush (PV.putV hs hp (h.r1 hi) fun k v ek => ?_)
      have vm := List.mem_of_getElem? ek
      exact ⟨⟨fun z => absurd z (by omega), fun _ _ => logV_old (num := 50 * (0 : Nat) + num) (by omega) (by omega) lb.num hl vm⟩, okv v vm⟩
    refine ⟨fun _ => r, fun _ => ?_, fun z => absurd z (by omega), fun z => absurd z (by omega)⟩
    rw [e0 rfl]
    exact List.mem_append_right _ List.mem_cons_self
  · have eb : (50 * ((1 : Nat) : Int) + num) = 50 + num := by omega
    rw [eb] at lb
    have r : PV (R2 s ((start + 1) % s) (logV log') (hdD (50 + num) ((start + 1) % s))) (putV s (D, (start + 1) % s) (logV log')).1 := by
      refine PV.putV hs hp (r1_r2 hs (h.r1 hi)) fun k v ek => ?_
      have vm := List.mem_of_getElem? ek
      refine ⟨⟨fun z => absurd z (by omega), fun k' hk' ek' => .inl ?_⟩, okv v vm⟩
      have hkl := (List.getElem?_eq_some_iff.mp ek).1
      have : k = k' := by
        have e3 : ((start + 1) % s + k) % s = ((start + 1) % s + k') % s := by omega
        have h1 : ((start + 1) % s + k) % s = if (start + 1) % s + k < s then (start + 1) % s + k else (start + 1) % s + k - s := by
          split
          · exact Nat.mod_eq_of_lt (by assumption)
          · rw [Nat.mod_eq_sub_mod (by omega), Nat.mod_eq_of_lt (by omega)]
        have h2 : ((start + 1) % s + k') % s = if (start + 1) % s + k' < s then (start + 1) % s + k' else (start + 1) % s + k' - s := by
          split
          · exact Nat.mod_eq_of_lt (by assumption)
          · rw [Nat.mod_eq_sub_mod (by omega), Nat.mod_eq_of_lt (by omega)]
        rw [h1, h2] at e3
        split at e3 <;> split at e3 <;> omega
      rw [← this]; exact ek
    refine ⟨fun z => absurd z (by omega), fun _ => ?_, fun _ => ?_, fun _ => ⟨lb, hz, hl⟩⟩
    · have hd := putV_deeds (s := s) (logV log') (D, (start + 1) % s) none (h.fl (Nat.le_refl _))
      rcases e with e | e
      · rw [e]; exact hd
      · rw [e]; exact List.mem_append_left _ hd
    · rcases e with e | e
      · rw [e]; exact r
      · rw [e]; exact r.flush
theorem R2.hd {s p : Nat} {V : List PyData} {hd : PyData} {D : DM} (h : PV (R2 s p V hd) D) (ok : Ok 300 4 hd) : PV (R2 s p V hd) (D.write 0 hd) :=
  h.write (by omega) ⟨⟨fun _ => .inr rfl, fun k _ e => absurd e (by omega)⟩, ok⟩
/-! ### the points -/
def wrOnly (es : List (Option (Int × PyData))) : List (Option (Int × PyData)) := es.filter Option.isSome
theorem play_app (D : DM) (a b : List (Option (Int × PyData))) : DM.play D (a ++ b) = DM.play (DM.play D a) b := List.foldl_append
theorem play_snoc (D : DM) (a : List (Option (Int × PyData))) (b : Int) (v : PyData) : (DM.play D (a ++ [some (b, v)])).read b = v := by
  rw [play_app]
  show ((DM.play D a).write b v).read b = v
  rw [read_write, if_pos rfl]
theorem point_head {D : DM} {v : PyData} : ((D.write 0 v).after (D.write 0 v).deeds.length).read 0 = v := by
  unfold DM.after
  rw [List.take_length]
  show (DM.play _ (D.deeds ++ [some (0, v)])).read 0 = v
  exact play_snoc _ _ _ _
/-- the early point: the first f events, flushed, then the writes of the rest -/
def early (D : DM) (f i : Nat) : DM := DM.play (D.after f).flush (wrOnly ((D.deeds.drop f).take i))
theorem early_zero {D : DM} {f : Nat} : early D f 0 = (D.after f).flush := by
  unfold early
  rw [List.take_zero]; rfl
theorem early_wr {D : DM} {f i : Nat} {b : Int} {v : PyData} (h : (D.deeds.drop f)[i]? = some (some (b, v))) : early D f (i + 1) = (early D f i).write b v := by
  unfold early
  rw [List.take_add_one, h]
  unfold wrOnly
  rw [List.filter_append, play_app]; rfl
theorem early_fl {D : DM} {f i : Nat} (h : (D.deeds.drop f)[i]? = some none) : early D f (i + 1) = early D f i := by
  unfold early
  rw [List.take_add_one, h]
  unfold wrOnly
  rw [List.filter_append, play_app]; rfl
theorem early_head {D : DM} {v : PyData} {f n m : Nat} (hf : f ≤ (D.write 0 v).deeds.length) (ok : DOk n m ((D.write 0 v).after f)) : (early (D.write 0 v) f ((D.write 0 v).deeds.length - f)).read 0 = v := by
  have hn := ok.n1
  have ed : (D.write 0 v).deeds = D.deeds ++ [some (0, v)] := rfl
  by_cases hfe : f = (D.write 0 v).deeds.length
  · rw [hfe, Nat.sub_self, early_zero, ← hfe, read_flush ok (by omega) (by omega), hfe]
    exact point_head
  · have hl : D.deeds.length + 1 = (D.write 0 v).deeds.length := by rw [ed, List.length_append]; rfl
    have e1 : ((D.write 0 v).deeds.drop f).take ((D.write 0 v).deeds.length - f) = D.deeds.drop f ++ [some (0, v)] := by
      rw [List.take_of_length_le (by rw [List.length_drop]; omega), ed, List.drop_append_of_le_length (by omega)]
    unfold early
    rw [e1]
    unfold wrOnly
    rw [List.filter_append]
    exact play_snoc _ _ _ _
theorem PV.early {P : Int → PyData → Prop} {D : DM} (h : PV P D) (f i : Nat) : PV P (early D f i) := by
  refine PV.play (h.after f).flush fun w hw => ?_
  exact h.de w (List.mem_of_mem_drop (List.mem_of_mem_take (List.mem_filter.mp hw).1))
/-! ### what is left by a crash that keeps block 0 -/
structure Keep0 (ws : List (Int × PyData)) (i : Nat) (ns : List Nat) : Prop where
  ch : Choice i ns
  last : ∀ x, lastW (ns.map fun k => ws.getD k (0, .none)) 0 x = lastW (ws.take i) 0 x
theorem lastW_app (a b : List (Int × PyData)) (k : Int) (x : PyData) : lastW (a ++ b) k x = lastW b k (lastW a k x) := List.foldl_append
theorem Keep0.nil {ws : List (Int × PyData)} : Keep0 ws 0 [] := ⟨⟨.nil, by simp⟩, fun x => by simp⟩
theorem Keep0.add {ws : List (Int × PyData)} {i : Nat} {ns : List Nat} (h : Keep0 ws i ns) (hi : i < ws.length) : Keep0 ws (i + 1) (ns ++ [i]) := by
  refine ⟨⟨List.pairwise_append.mpr ⟨h.ch.up, List.pairwise_singleton _ _, fun a ha b hb => ?_⟩, fun x hx => ?_⟩, fun x => ?_⟩
  · rw [List.mem_singleton.mp hb]; exact h.ch.hi a ha
  · rcases List.mem_append.mp hx with hx | hx
    · have := h.ch.hi x hx; omega
    · rw [List.mem_singleton.mp hx]; omega
  · rw [List.map_append, lastW_app, h.last, List.take_add_one, lastW_app, List.getElem?_eq_getElem hi, List.map_cons, List.map_nil, List.getD_eq_getElem?_getD, List.getElem?_eq_getElem hi]; rfl
theorem Keep0.skip {ws : List (Int × PyData)} {i : Nat} {ns : List Nat} (h : Keep0 ws i ns) {w : Int × PyData} (hi : ws[i]? = some w) (hw : w.1 ≠ 0) : Keep0 ws (i + 1) ns := by
  refine ⟨⟨h.ch.up, fun x hx => Nat.lt_succ_of_lt (h.ch.hi x hx)⟩, fun x => ?_⟩
  rw [h.last, List.take_add_one, lastW_app, hi]
  show _ = if w.1 = 0 then w.2 else _
  rw [if_neg hw]
theorem crash_head {n m : Nat} {A : DM} {ns : List Nat} (ok : DOk n m A) (h : Keep0 A.writes A.writes.length ns) : (A.crash ns).read 0 = A.read 0 := by
  have n1 := ok.n1
  have e1 : (A.crash ns).read 0 = (putAll (A.keepW ns) A.safe).getD 0 .none := rfl
  have e2 : A.read 0 = lastW A.writes 0 (A.safe.getD 0 .none) := rfl
  have h3 := putAll_get (b := 0) (A.keepW ns) A.safe (by rw [ok.sl]; omega) fun w hw => (ok.wv w (keepW_mem h.ch hw)).1
  have e4 : lastW (A.keepW ns) ((0 : Nat) : Int) (A.safe.getD 0 .none) = lastW A.writes 0 (A.safe.getD 0 .none) := by
    have := h.last (A.safe.getD 0 .none)
    rw [List.take_length] at this
    exact this
  rw [e1, e2, h3, e4]
/-- what one point must be -/
structure Pt (s p : Nat) (log : List Tx) (hd : PyData) (A : DM) : Prop where
  pv : PV (R2 s p (logV log) hd) A
  hd : A.read 0 = hd
theorem Pt.left {s p n m : Nat} {log : List Tx} {hd : PyData} {A : DM} {ns : List Nat} (h : Pt s p log hd A) (ok : DOk n m A) (k : Keep0 A.writes A.writes.length ns) : Pt s p log hd (A.crash ns) := ⟨h.pv.crash k.ch, by rw [crash_head ok k]; exact h.hd⟩
theorem dueS_pre {s : Nat} {rd : Nat → PyData} : ∀ (log : List Tx) (p : Nat), ∃ j, dueS s rd log p = log.take j
  | [], _ => ⟨0, rfl⟩
  | t :: r, p => by
    obtain ⟨j, hj⟩ := dueS_pre (s := s) (rd := rd) r ((p + szTx t) % s)
    have e : dueS s rd (t :: r) p = if shEq rd s p ((recs t.2.1 t.2.2).map (rcD t.1)) then t :: dueS s rd r ((p + szTx t) % s) else [] := rfl
    rw [e]
    split
    · exact ⟨j + 1, by rw [hj]; rfl⟩
    · exact ⟨0, rfl⟩
theorem due_ok {s : Nat} {rd : Nat → PyData} {log : List Tx} {p : Nat} {num : Int} (h0 : 0 ≤ num) (h1 : num < 10000000000000000) (ht : ∀ t ∈ log, TxB 32 t) (hn : ∀ (i : Nat) (t : Tx), log[i]? = some t → t.1 = num + i) (hl : log.length ≤ 20) : Ok 400000 8 (.list ((dueS s rd log p).map dTx)) := by
  obtain ⟨j, hj⟩ := dueS_pre (s := s) (rd := rd) log p
  rw [hj]
  refine okLogD h0 h1 (fun t h => ht t (List.mem_of_mem_take h)) (fun i t h => hn i t ?_) (by rw [List.length_take]; omega)
  rw [List.getElem?_take] at h
  split at h
  · exact h
  · cases h
theorem shEq_f {rd : Nat → PyData} {s p j : Nat} {vs : List PyData} {v : PyData} (h : vs[j]? = some v) (hne : (rd ((p + j) % s)).shown ≠ v.shown) : shEq rd s p vs = false := by
  rw [Bool.eq_false_iff]
  intro z
  unfold shEq at z
  rw [List.all_eq_true] at z
  have := of_decide_eq_true (z j (List.mem_range.mpr (List.getElem?_eq_some_iff.mp h).1))
  rw [List.getD_eq_getElem?_getD, h] at this
  exact hne this
theorem shEq_t {rd : Nat → PyData} {s p : Nat} {vs : List PyData} (h : ∀ j v, vs[j]? = some v → (rd ((p + j) % s)).shown = v.shown) : shEq rd s p vs = true := by
  unfold shEq
  rw [List.all_eq_true]
  intro j hj
  have hj2 := List.mem_range.mp hj
  refine decide_eq_true ?_
  rw [List.getD_eq_getElem?_getD, List.getElem?_eq_getElem hj2]
  exact h j _ (List.getElem?_eq_getElem hj2)
end L24

open PySem L2 PyProof.Rows J

namespace L24
section
variable {P : Program} {w : World} {K : PySem.W.Frag} {mg : Str → Option Value} {base : Heap} {CDisk CLayout : Addr}
/-! ### what the law itself finds -/
def spDue (K : PySem.W.Frag) : Sp := fun vs H Q _ => ∃ (lg bl : Addr) (s start : Nat) (num : Int) (xs ys : List V) (log : List Tx) (vals : List PyData), vs = [.ref lg, .int s, .int start, .ref bl] ∧ H lg = some (.lst xs) ∧ DnAll K [] H xs (log.map dTx) ∧ H bl = some (.lst ys) ∧ DnAll K [] H ys vals ∧
  start < s ∧ 1 + s ≤ vals.length ∧ (∀ v ∈ vals, Ok 300 4 v ∧ blockB v = true) ∧ (∀ t ∈ log, TxB 32 t) ∧ (∀ (i : Nat) (t : Tx), log[i]? = some t → t.1 = num + i) ∧ 0 ≤ num ∧ num ≤ 1000 ∧ log.length ≤ 20 ∧
  ∀ l zs H', Same H H' → H l = none → H' l = some (.lst zs) → DnAll K [] H' zs ((dueS s (fun q => vals.getD (1 + q) .none) log start).map dTx) → Q (.ref l) H'
theorem r_neSt {H : Hp} {Q : VK} {a b : Str} (q : a = b → Q (.bl false) H) (r : a ≠ b → Q (.bl true) H) : rNeA K (.str a) (.str b) H Q := by
  refine r_neS ?_
  by_cases h : a = b
  · rw [decide_eq_true h]; exact q h
  · rw [decide_eq_false h]; exact r h
abbrev s_law_due : Stmt := top 44
abbrev N_law_due : List Str := ["_law_log_here", "_law_slots", "_law_start", "_law_blocks", "_law_found", "_law_slot", "_law_number", "_law_copies", "_law_revokes", "_law_record"]
theorem sc_law_due : FnScope N_law_due ["_law_log_here", "_law_slots", "_law_start", "_law_blocks"] (defScope s_law_due) :=
  ⟨rfl, rfl, rfl, by decide +kernel, rfl, by decide +kernel, by decide +kernel⟩

theorem ok_due {f : Addr} {fd : FuncData} (F : Fun K "_law_due" "_law_due" s_law_due f fd) (B : Bl mg) (C_law_records : Cl P w K mg base CX0 1 "_law_records" (spRecs K)) :
    FnG P w K mg base CX0 2 f fd ["_law_log_here", "_law_slots", "_law_start", "_law_blocks"] (spDue K) := by
  refine okG F sc_law_due (fun vs H Q E h => ?_) (fun cdv A outer s H vs Q E hr hgd h => ?_)
  · obtain ⟨_, _, _, _, _, _, _, _, _, rfl, _⟩ := h
    rfl
  · obtain ⟨lg, bl, sl, start, num, xs, ys, log, vals, rfl, hlg, hxs, hbl, hys, hst, hvl, hok, htx, hnum, hn0, hn1, hll, k⟩ := h
    have hu := hu_of hr
    have nd := sc_law_due.nd
    have hlen : xs.length = log.length := by rw [hxs.length, List.length_map]
    obtain ⟨rd, hrd⟩ : ∃ rd : Nat → PyData, (fun q => vals.getD (1 + q) .none) = rd := ⟨_, rfl⟩
    rw [hrd] at k
    refine ⟨_, (pss_cons (ps_set (i := 4) nd rfl (by first | exact Or.inl rfl | exact Or.inr rfl) (pe_lst pa_nil))
      (pss_cons (ps_set (i := 5) nd rfl (by first | exact Or.inl rfl | exact Or.inr rfl) (pv 2))
      (pss_cons (ps_for PassesOwn.never rfl (pi_lst (K := K) (pv 0)) (pg_tpl (K := K) rfl (pgs_cons (pg_name (i := 6) nd rfl (by first | exact Or.inl rfl | exact Or.inr rfl)) (pgs_cons (pg_name (i := 7) nd rfl (by first | exact Or.inl rfl | exact Or.inr rfl)) (pgs_cons (pg_name (i := 8) nd rfl (by first | exact Or.inl rfl | exact Or.inr rfl)) pgs_nil))))
      (pss_cons (ps_for PassesOwn.never rfl (pi_lst (K := K) (pe_cl (E := fun _ => E0) C_law_records hr (by decide) pass00 (pa_cons (pv 6) (pa_cons (pv 7) (pa_cons (pv 8) pa_nil))))) (pg_name (i := 9) nd rfl (by first | exact Or.inl rfl | exact Or.inr rfl))
      (pss_cons (ps_if (pt_cmpR (op_neA (K := K) hr.units) (pe_callB (call_reprA (K := K) hgd hr.units) rfl B.repr (by decide +kernel) (pa_cons (pe_ix (ix_any (K := K)) (pv 3) (pe_op (op_addA (K := K)) pe_int (pv 5)) (fun _ _ => rfl)) pa_nil)) (pe_callB (call_reprA (K := K) hgd hr.units) rfl B.repr (by decide +kernel) (pa_cons (pv 9) pa_nil)) (nomark _)) (pss_one (ps_ret (pv 4))) pss_nil)
      (pss_one (ps_set (i := 5) nd rfl (by first | exact Or.inl rfl | exact Or.inr rfl) (pe_op op_mod (pe_op (op_addA (K := K)) (pv 5) pe_int) (pv 1))))))
      (pss_one (ps_expr (pe_bm PySem.F.plainAttrs_list PySem.F.slot_list_append PySem.F.type_list_append mt_append (pv 4) (pa_cons (pe_tup (pa_cons (pv 6) (pa_cons (pv 7) (pa_cons (pv 8) pa_nil)))) pa_nil))))))
      (pss_one (ps_ret (pv 4)))))), ?_⟩
    repeat walk_at "s"
    refine r_newL (sz (Nat.le_of_ble_eq_true rfl)) (fun l H1 hl s1 hl1 => ?_)
    repeat walk_at "s"
    have nlg : lg ≠ l := ne_of_none hlg hl
    have nbl : bl ≠ l := ne_of_none hbl hl
    have hlgA : H1 lg = some (.lst xs) := s1 _ _ hlg
    refine forL (.of hlgA) (fun i σ H' => ∃ (slot : Nat) (zs : List V) (o6 o7 o8 o9 : Option V), σ = [some (.ref lg), some (.int sl), some (.int start), some (.ref bl), some (.ref l), some (.int slot), o6, o7, o8, o9] ∧ But [l] H1 H' ∧ slot < sl ∧ H' l = some (.lst zs) ∧ DnAll K [l] H' zs ((log.take i).map dTx) ∧
        dueS sl rd log start = log.take i ++ dueS sl rd (log.drop i) slot)
      ⟨start, [], _, _, _, _, rfl, .refl, hst, hl1, .nil, rfl⟩ ?_ ?_ ?_
    · rintro i σ H2 hi ⟨slot, zs, o6, o7, o8, o9, rfl, b2, hsl, hl2, hzs, hdue⟩
      exact .of (b2.at hlgA (by simpa using nlg))
    · rintro i x σ H2 hi ⟨slot, zs, o6, o7, o8, o9, rfl, b2, hsl, hl2, hzs, hdue⟩
      obtain ⟨dd, hdd, hdn⟩ := (hxs.fresh hl).get hi
      obtain ⟨t, ht, rfl⟩ := map_getG hdd
      obtain ⟨p, c, r, xc, rfl, hp, hc, hcS, hxc, hrr, hrS⟩ := tx_inv hdn
      have tok := htx t (List.mem_of_getElem? ht)
      have tnum := hnum i t ht
      have til := (List.getElem?_eq_some_iff.mp ht).1
      have nlc : ∀ c ∈ t.2.1, noL c.2 = true := fun c hc => (tok.cs.val c hc).nol
      have csl := tok.cs.len
      have rsl := tok.rl
      have b02 : But [l] H H2 := (But.of_same s1).trans b2
      have hp2 : SqT K H2 p [.int t.1, .ref c, .ref r] := b02.sqT hp
      have ncl : c ≠ l := ne_of_none hc hl
      have nrl : r ≠ l := ne_of_none hrr hl
      have hc2 : H2 c = some (.lst xc) := b02.at hc (by simpa using ncl)
      have hr2 : H2 r = some (.lst (t.2.2.map V.int)) := b02.at hrr (by simpa using nrl)
      have hxc2 : DnAll K [] H2 xc (t.2.1.map dWr) := hxc.nlb (noLs_map fun c hc => nol_dWr (nlc c hc)) b02
      have hbl2 : H2 bl = some (.lst ys) := b02.at hbl (by simpa using nbl)
      have nlv : noLs vals = true := noLs_all.mpr fun v hv => blockB_nol (hok v hv).2
      have hys2 : DnAll K [] H2 ys vals := hys.nlb nlv b02
      have edue : dueS sl rd (log.drop i) slot = if shEq rd sl slot ((recs t.2.1 t.2.2).map (rcD t.1)) then t :: dueS sl rd (log.drop (i + 1)) ((slot + szTx t) % sl) else [] := by
        have e := List.drop_eq_getElem_cons til
        have e2 : log[i] = t := (List.getElem?_eq_some_iff.mp ht).2
        rw [e2] at e
        rw [e]; rfl
      rw [edue] at hdue
      have okr : ∀ rc ∈ recs t.2.1 t.2.2, Ok 300 4 (rcD t.1 rc) := fun rc h => recs_ok (by omega) (by omega) tok.cs.asc tok.rs tok.cs.val h
      clear s1 hl1 hlgA edue
      repeat walk_at "s"
      refine ⟨t.1, c, r, xc, t.2.1, t.2.2, rfl, hc2, hxc2, hr2, nlc, by omega, by omega, fun rl rs H3 hrl s3 hrl3 hrs => ?_⟩
      have rlen : rs.length = (recs t.2.1 t.2.2).length := by rw [hrs.length, List.length_map]
      refine forL (.of hrl3) (fun j σ H' => ∃ o9, σ = [some (.ref lg), some (.int sl), some (.int start), some (.ref bl), some (.ref l), some (.int ((slot + j) % sl : Nat)), some (.int t.1), some (.ref c), some (.ref r), o9] ∧ Same H3 H' ∧
          (∀ j' v, j' < j → ((recs t.2.1 t.2.2).map (rcD t.1))[j']? = some v → (rd ((slot + j') % sl)).shown = v.shown))
        ⟨_, by rw [Nat.add_zero, Nat.mod_eq_of_lt hsl]; rfl, fun _ _ e => e, fun j' v h => absurd h (Nat.not_lt_zero _)⟩ ?_ ?_ ?_
      · rintro j σ H4 hj ⟨o9, rfl, s4, hall⟩
        exact .of (s4 _ _ hrl3)
      · rintro j y σ H4 hj ⟨o9, rfl, s4, hall⟩
        obtain ⟨dr, hdr, hyr⟩ := hrs.get hj
        obtain ⟨rc, hrc, rfl⟩ := map_getG hdr
        have hml := Nat.mod_lt (slot + j) (show 0 < sl by omega)
        obtain ⟨q, hq⟩ : ∃ q, (slot + j) % sl = q := ⟨_, rfl⟩
        rw [hq] at hml
        have hgv : vals[1 + q]? = some (rd q) := by
          rw [← hrd]
          show _ = some (vals.getD (1 + q) .none)
          rw [List.getD_eq_getElem?_getD, List.getElem?_eq_getElem (by omega)]; rfl
        obtain ⟨y1, hy1, hyd1⟩ := hys2.getD hgv
        have s24 : Same H2 H4 := fun b o e => s4 b o (s3 b o e)
        have hbl4 : H4 bl = some (.lst ys) := s24 _ _ hbl2
        have hyd4 := hyd1.same s24
        have hyr4 := hyr.same s4
        have okv := (hok _ (List.mem_of_getElem? hgv)).1
        have okc := okr rc (List.mem_of_getElem? hrc)
        have hrj : ((recs t.2.1 t.2.2).map (rcD t.1))[j]? = some (rcD t.1 rc) := by rw [List.getElem?_map, hrc]; rfl
        have hl4 : H4 l = some (.lst zs) := s24 _ _ hl2
        have hzs4 := hzs.same s24
        have b14 : But [l] H1 H4 := b2.trans (But.of_same s24)
        rw [hq]
        repeat walk_at "s"
        have e1q : (1 : Int) + (q : Int) = ((1 + q : Nat) : Int) := by omega
        rw [e1q]
        refine r_ixL (.of hbl4) (atI_nat hy1) ?_
        repeat walk_at "s"
        refine r_reprOk hyd4 okv (by decide) (by decide) ?_
        repeat walk_at "s"
        refine r_reprOk hyr4 okc (by decide) (by decide) ?_
        repeat walk_at "s"
        refine r_iteN (fun hne => ?_) (fun he => ?_)
        · skip
          repeat walk_at "s"
          rw [if_neg (by rw [shEq_f hrj (by rw [hq]; exact hne)]; exact Bool.false_ne_true), List.append_nil] at hdue
          rw [← hdue] at hzs4
          have b04 : But [l] H H4 := b02.trans (But.of_same s24)
          exact k l zs H4 (bt_but .refl b04 (bc_fr hl bc_nil) : But [] H H4).same hl hl4 (hzs4.sub sub_nil)
        · skip
          repeat walk_at "s"
          have e2q : (q : Int) + 1 = ((q + 1 : Nat) : Int) := by omega
          rw [e2q, ← Int.natCast_emod]
          refine ⟨some y, ?_, s4, fun j' v hj' hv => ?_⟩
          · rw [← hq, Nat.mod_add_mod, Nat.add_assoc]; rfl
          · by_cases e : j' = j
            · subst e
              rw [hrj] at hv
              rw [hq, ← Option.some.inj hv]; exact he
            · exact hall j' v (by omega) hv
      · rintro σ H4 ⟨o9, rfl, s4, hall⟩
        rw [rlen]
        have s24 : Same H2 H4 := fun b o e => s4 b o (s3 b o e)
        have ett : shEq rd sl slot ((recs t.2.1 t.2.2).map (rcD t.1)) = true := shEq_t fun j v hv => hall j v (by
          have := (List.getElem?_eq_some_iff.mp hv).1
          rw [List.length_map] at this
          rw [rlen]; exact this) hv
        rw [ett, if_pos rfl] at hdue
        have szd : szTx t = (recs t.2.1 t.2.2).length := rfl
        have hl4 : H4 l = some (.lst zs) := s24 _ _ hl2
        have zl : zs.length ≤ 20 := by
          rw [hzs.length, List.length_map, List.length_take]; omega
        have hc4 : H4 c = some (.lst xc) := s24 _ _ hc2
        have hr4 : H4 r = some (.lst (t.2.2.map V.int)) := s24 _ _ hr2
        have hxc4 := (hxc.but b02 fun z h => h).same s24
        have hzs4 := hzs.same s24
        have b04 : But [l] H H4 := b02.trans (But.of_same s24)
        have b14 : But [l] H1 H4 := b2.trans (But.of_same s24)
        clear s3 s4 s24 hall hrs hrl3 hrl hxc2 hys2 hp2
        repeat walk_at "s"
        refine r_newT (sz (Nat.le_of_ble_eq_true rfl)) (fun T H5 hT s5 hT5 => ?_)
        have hl5 := s5 _ _ hl4
        repeat walk_at "s"
        refine r_app hl5 (szl (by omega)) (fun H6 b6 hl6 => ?_)
        have dT : Dn K [l] H5 (.ref T) (dTx t) := .tup (.of hT5) (.cons (.int _) (.cons (.lst (s5 _ _ hc4) (by simpa using ncl) (hxc4.same s5)) (.one (.lst (s5 _ _ hr4) (by simpa using nrl) .ints))))
        refine ⟨(slot + szTx t) % sl, _, _, _, _, _, by rw [szd], b14.trans ((But.of_same s5).trans b6), Nat.mod_lt _ (by omega), hl6, ?_, ?_⟩
        · rw [List.take_add_one, ht, List.map_append]
          exact ((hzs4.same s5).but b6 fun z h => h).snoc (dT.but b6 fun z h => h)
        · rw [hdue, List.take_add_one, ht, List.append_assoc]; rfl
    · rintro σ H2 ⟨slot, zs, o6, o7, o8, o9, rfl, b2, hsl, hl2, hzs, hdue⟩
      rw [hlen, List.take_length] at hzs
      rw [hlen, List.take_length, List.drop_length] at hdue
      have e0 : dueS sl rd [] slot = [] := rfl
      rw [e0, List.append_nil] at hdue
      rw [← hdue] at hzs
      repeat walk_at "s"
      exact k l zs H2 (bt_but (But.of_same s1) b2 (bc_fr hl bc_nil) : But [] H H2).same hl hl2 (hzs.sub sub_nil)
end
end L24

open PySem L2 PyProof.Rows J

namespace L24
section
variable {P : Program} {w : World} {K : PySem.W.Frag} {mg : Str → Option Value} {base : Heap} {CDisk CLayout : Addr}
theorem bt_frs {S T : List Addr} {H H1 H' : Hp} (h : But S H H1) (b : But T H1 H') (f : Fr T H) : But S H H' := bt_but h b fun t ht => .inr (f t ht)
theorem dk_butp {H H' : Hp} {p d : Addr} {fd : List Addr} {n m : Nat} {D : DM} (h : DiskAt K CDisk H d fd n m D) (b : But [p] H H') (hp : p ∉ fd) : DiskAt K CDisk H' d fd n m D :=
  h.but b fun t ht hz => hp (by rw [List.mem_singleton.mp hz] at ht; exact ht)
theorem fresh_all {S : List Addr} {H : Hp} {vs : List V} {ds : List PyData} : ∀ {T : List Addr}, Fr T H → DnAll K S H vs ds → DnAll K (T ++ S) H vs ds
  | [], _, h => h
  | _ :: _, f, h => (fresh_all (fun t ht => f t (List.mem_cons_of_mem _ ht)) h).fresh (f _ List.mem_cons_self)
def spLaw (K : PySem.W.Frag) : Sp := fun vs H Q _ => ∃ (a : Addr) (ns : List Int), vs = [.ref a] ∧ SqL K H a (ns.map V.int) ∧ ns.length ≤ 63 ∧ ∀ H', Q (.bl true) H'
abbrev s_law : Stmt := top 45
abbrev N_law : List Str := ["_law_script", "_law_cell", "_law_source_here", "_law_layout", "_law_disk", "_law_turn", "_law_events", "_law_at", "_law_point", "_law_flushed", "_law_early", "_law_event", "_law_one", "_law_slots", "_law_homes", "_law_number", "_law_start", "_law_pending", "_law_way", "_law_kept", "_law_k", "_law_left", "_law_log_here", "_law_taken", "_law_lost"]
theorem sc_law : FnScope N_law ["_law_script"] (defScope s_law) :=
  ⟨rfl, rfl, rfl, by decide +kernel, rfl, by decide +kernel, by decide +kernel⟩

theorem ok_law {f : Addr} {fd : FuncData} (F : Fun K "law" "law" s_law f fd) (B : Bl mg)
    (C_law_cell_at : Cl P w K mg base CX0 1 "_law_cell_at" (spCell K)) (C_law_source : Cl P w K mg base CX0 1 "_law_source" spSource)
    (C_law_draw : Cl P w K mg base CX0 1 "_law_draw" spDraw)
    (C_law_log : Cl P w K mg base CX0 5 "_law_log" (spLog K)) (C_law_written : Cl P w K mg base CX0 13 "_law_written" (spWritten K CDisk))
    (C_law_due : ClG P w K mg base CX0 2 "_law_due" (spDue K))
    (N_Layout : C8.Mak P w K mg base 3 "Layout" CLayout (spLayInit CLayout) []) (N_Disk : C8.Mak P w K mg base 3 "Disk" CDisk (spDiskInit K CDisk) [])
    (M_Disk_write : C8.Met P w K mg base 12 CDisk "write" (spWrite K CDisk) []) (M_Disk_flush : C8.Met P w K mg base 1 CDisk "flush" (spFlush K CDisk) [])
    (M_Disk_events : C8.Met P w K mg base 1 CDisk "events" (spCopyOf K CDisk fun D => D.deeds.map dEv) []) (M_Disk_durable : C8.Met P w K mg base 1 CDisk "durable" (spCopyOf K CDisk DM.safe) [])
    (M_Disk_pending : C8.Met P w K mg base 1 CDisk "pending" (spCopyOf K CDisk fun D => D.writes.map dWr) [])
    (M_Disk_crashed : C8.Met P w K mg base 6 CDisk "crashed" (spCrashed K CDisk) []) (M_Disk_after : C8.Met P w K mg base 13 CDisk "after" (spAfter K CDisk) [])
    (C_scan : Cl P w K mg base CX0 11 "scan" (spScan K CDisk CLayout)) :
    FnG P w K mg base CX0 14 f fd ["_law_script"] (spLaw K) := by
  refine okG F sc_law (fun vs H Q E h => ?_) (fun cdv A outer s H vs Q E hr hgd h => ?_)
  · obtain ⟨_, _, rfl, _⟩ := h
    rfl
  · obtain ⟨a, ns, rfl, ha, hns, k⟩ := h
    have hu := hu_of hr
    have nd := sc_law.nd
    refine ⟨_, (pss_cons (ps_for PassesOwn.never rfl (pi_lst (K := K) (pe_op (op_addA (K := K)) (pe_lst (pa_cons (pe_cl (E := fun _ => E0) C_law_cell_at hr (by decide) pass00 (pa_cons (pv 0) (pa_cons pe_int pa_nil))) pa_nil)) (pe_slice (sl_any (K := K)) (pv 0) (po_some pe_int) (po_some pe_int)))) (pg_name (i := 1) nd rfl (by first | exact Or.inl rfl | exact Or.inr rfl))
      (pss_cons (ps_set (i := 2) nd rfl (by first | exact Or.inl rfl | exact Or.inr rfl) (pe_cl (E := fun _ => E0) C_law_source hr (by decide) pass00 (pa_cons (pv 1) pa_nil)))
      (pss_cons (ps_par (i := 13) (j := 14) rfl nd rfl rfl (by decide) rfl rfl (pa_cons (pe_op (op_addA (K := K)) pe_int (pe_cl (E := fun _ => E0) C_law_draw hr (by decide) pass00 (pa_cons (pv 2) (pa_cons pe_int pa_nil)))) (pa_cons (pe_op (op_addA (K := K)) pe_int (pe_cl (E := fun _ => E0) C_law_draw hr (by decide) pass00 (pa_cons (pv 2) (pa_cons pe_int pa_nil)))) pa_nil)) (by rfl))
      (pss_cons (ps_set (i := 3) nd rfl (by first | exact Or.inl rfl | exact Or.inr rfl) (C8.pe_mk N_Layout hr (by decide) rfl (pa_cons (pv 13) (pa_cons (pv 14) pa_nil))))
      (pss_cons (ps_set (i := 4) nd rfl (by first | exact Or.inl rfl | exact Or.inr rfl) (C8.pe_mk N_Disk hr (by decide) rfl (pa_cons (pe_op (op_addA (K := K)) (pe_op (op_addA (K := K)) pe_int (pv 13)) (pv 14)) pa_nil)))
      (pss_cons (ps_par (i := 15) (j := 16) rfl nd rfl rfl (by decide) rfl rfl (pa_cons (pe_op (op_addA (K := K)) pe_int (pe_cl (E := fun _ => E0) C_law_draw hr (by decide) pass00 (pa_cons (pv 2) (pa_cons pe_int pa_nil)))) (pa_cons (pe_cl (E := fun _ => E0) C_law_draw hr (by decide) pass00 (pa_cons (pv 2) (pa_cons (pv 13) pa_nil))) pa_nil)) (by rfl))
      (pss_cons (ps_for PassesOwn.never rfl (pi_range1 rfl B.range (pa_cons pe_int pa_nil)) (pg_name (i := 5) nd rfl (by first | exact Or.inl rfl | exact Or.inr rfl))
      (pss_cons (ps_asg (pe_cl (E := fun _ => E0) C_law_log hr (by decide) pass00 (pa_cons (pv 2) (pa_cons (pv 13) (pa_cons (pv 14) (pa_cons (pe_op (op_addA (K := K)) (pe_op (op_mulA (K := K)) pe_int (pv 5)) (pv 15)) pa_nil))))) (pg_tpl (K := K) rfl (pgs_cons (pg_name (i := 22) nd rfl (by first | exact Or.inl rfl | exact Or.inr rfl)) (pgs_cons (pg_name (i := 23) nd rfl (by first | exact Or.inl rfl | exact Or.inr rfl)) pgs_nil))))
      (pss_cons (ps_expr (pe_cl (E := fun _ => E0) C_law_written hr (by decide) pass00 (pa_cons (pv 4) (pa_cons (pv 13) (pa_cons (pe_op op_mod (pe_op (op_addA (K := K)) (pv 16) (pv 5)) (pv 13)) (pa_cons (pv 22) pa_nil))))))
      (pss_one (ps_if (PW.pt (pw_or (pt_cmpR (op_eqA (K := K) hr.units) (pv 5) pe_int (nomark _)) (pw_or1 (pt_cmpR (op_eqA (K := K) hr.units) (pe_cl (E := fun _ => E0) C_law_draw hr (by decide) pass00 (pa_cons (pv 2) (pa_cons pe_int pa_nil))) pe_int (nomark _))))) (pss_one (ps_expr (C8.pe_mt0 M_Disk_flush hr (by decide) (pv 4)))) pss_nil)))))
      (pss_cons (ps_expr (C8.pe_mt M_Disk_write hr (by decide) (pv 4) (pa_cons pe_int (pa_cons (pe_tup (pa_cons pe_str (pa_cons (pe_op (op_addA (K := K)) pe_int (pv 15)) (pa_cons (pe_op op_mod (pe_op (op_addA (K := K)) (pv 16) pe_int) (pv 13)) pa_nil)))) pa_nil))))
      (pss_cons (ps_set (i := 6) nd rfl (by first | exact Or.inl rfl | exact Or.inr rfl) (C8.pe_mt0 M_Disk_events hr (by decide) (pv 4)))
      (pss_cons (ps_set (i := 7) nd rfl (by first | exact Or.inl rfl | exact Or.inr rfl) (pe_ix (ix_any (K := K)) (pe_lc (own := [("_law_k", 20)]) (g := (gName 20)) rfl nd (pi_range1 rfl B.range (pa_cons (pe_callB (call_lenA (K := K)) rfl B.len PySem.boot_len (pa_cons (pv 6) pa_nil)) pa_nil)) (blkOk_by (own := [("_law_k", 20)]) (N := N_law) (sc := defScope s_law) (by decide +kernel)) (fun _ _ _ _ _ => (pg_name (i := 20) nd rfl (by first | exact Or.inl rfl | exact Or.inr rfl))) (fun _ _ _ _ _ => pts_one (pt_cmpR (op_eqA (K := K) hr.units) (pe_ix (ix_any (K := K)) (pe_ix (ix_any (K := K)) (pv 6) (pv 20) (fun _ _ => rfl)) pe_int (fun _ _ => rfl)) pe_str (nomark _))) (fun _ _ _ _ _ => pv 20)) pe_int (fun _ _ => rfl)))
      (pss_cons (ps_set (i := 8) nd rfl (by first | exact Or.inl rfl | exact Or.inr rfl) (C8.pe_mt M_Disk_after hr (by decide) (pv 4) (pa_cons (pe_callB (call_lenA (K := K)) rfl B.len PySem.boot_len (pa_cons (pv 6) pa_nil)) pa_nil)))
      (pss_cons (ps_set (i := 9) nd rfl (by first | exact Or.inl rfl | exact Or.inr rfl) (pe_op (op_addA (K := K)) (pe_op (op_addA (K := K)) (pv 7) pe_int) (pe_cl (E := fun _ => E0) C_law_draw hr (by decide) pass00 (pa_cons (pv 2) (pa_cons (pe_op op_sub (pe_callB (call_lenA (K := K)) rfl B.len PySem.boot_len (pa_cons (pv 6) pa_nil)) (pv 7)) pa_nil)))))
      (pss_cons (ps_set (i := 10) nd rfl (by first | exact Or.inl rfl | exact Or.inr rfl) (C8.pe_mt M_Disk_after hr (by decide) (pv 4) (pa_cons (pv 9) pa_nil)))
      (pss_cons (ps_expr (C8.pe_mt0 M_Disk_flush hr (by decide) (pv 10)))
      (pss_cons (ps_for PassesOwn.never rfl (pi_lst (K := K) (pe_slice (sl_any (K := K)) (pv 6) (po_some (pv 9)) po_none)) (pg_name (i := 11) nd rfl (by first | exact Or.inl rfl | exact Or.inr rfl))
      (pss_one (ps_if (pt_cmpR (op_eqA (K := K) hr.units) (pe_ix (ix_any (K := K)) (pv 11) pe_int (fun _ _ => rfl)) pe_str (nomark _)) (pss_one (ps_expr (C8.pe_mt M_Disk_write hr (by decide) (pv 10) (pa_cons (pe_ix (ix_any (K := K)) (pv 11) pe_int (fun _ _ => rfl)) (pa_cons (pe_ix (ix_any (K := K)) (pv 11) pe_int (fun _ _ => rfl)) pa_nil))))) pss_nil)))
      (pss_one (ps_for PassesOwn.never rfl (pi_tpl (K := K) (pe_tup (pa_cons (pv 8) (pa_cons (pv 10) pa_nil)))) (pg_name (i := 12) nd rfl (by first | exact Or.inl rfl | exact Or.inr rfl))
      (pss_cons (ps_set (i := 17) nd rfl (by first | exact Or.inl rfl | exact Or.inr rfl) (C8.pe_mt0 M_Disk_pending hr (by decide) (pv 12)))
      (pss_cons (ps_set (i := 18) nd rfl (by first | exact Or.inl rfl | exact Or.inr rfl) (pe_cl (E := fun _ => E0) C_law_draw hr (by decide) pass00 (pa_cons (pv 2) (pa_cons pe_int pa_nil))))
      (pss_cons (ps_set (i := 19) nd rfl (by first | exact Or.inl rfl | exact Or.inr rfl) (pe_lst pa_nil))
      (pss_cons (ps_for PassesOwn.never rfl (pi_range1 rfl B.range (pa_cons (pe_callB (call_lenA (K := K)) rfl B.len PySem.boot_len (pa_cons (pv 17) pa_nil)) pa_nil)) (pg_name (i := 20) nd rfl (by first | exact Or.inl rfl | exact Or.inr rfl))
      (pss_cons (ps_set (i := 24) nd rfl (by first | exact Or.inl rfl | exact Or.inr rfl) (pe_ix (ix_any (K := K)) (pe_lst (pa_cons (pe_cmpR (op_eqA (K := K) hr.units) (pe_cl (E := fun _ => E0) C_law_draw hr (by decide) pass00 (pa_cons (pv 2) (pa_cons pe_int pa_nil))) pe_int (nomark _)) (pa_cons (pe_cmpR (op_eqA (K := K) hr.units) (pe_cl (E := fun _ => E0) C_law_draw hr (by decide) pass00 (pa_cons (pv 2) (pa_cons (pe_callB (call_lenA (K := K)) rfl B.len PySem.boot_len (pa_cons (pv 17) pa_nil)) pa_nil))) pe_int (nomark _)) (pa_cons pe_bl pa_nil)))) (pv 18) (fun _ _ => rfl)))
      (pss_one (ps_if (PW.pt (pw_or (pt_cmpR (op_eqA (K := K) hr.units) (pe_ix (ix_any (K := K)) (pe_ix (ix_any (K := K)) (pv 17) (pv 20) (fun _ _ => rfl)) pe_int (fun _ _ => rfl)) pe_int (nomark _)) (pw_or1 (pt_not (pt_tru (K := K) (pv 24)))))) (pss_one (ps_expr (pe_bm PySem.F.plainAttrs_list PySem.F.slot_list_append PySem.F.type_list_append mt_append (pv 19) (pa_cons (pv 20) pa_nil)))) pss_nil))))
      (pss_cons (ps_set (i := 21) nd rfl (by first | exact Or.inl rfl | exact Or.inr rfl) (C8.pe_mt M_Disk_crashed hr (by decide) (pv 12) (pa_cons (pv 19) pa_nil)))
      (pss_one (ps_if (pt_cmpR (op_neA (K := K) hr.units) (pe_callB (call_reprA (K := K) hgd hr.units) rfl B.repr (by decide +kernel) (pa_cons (pe_cl (E := fun _ => E0) C_scan hr (by decide) pass00 (pa_cons (pv 3) (pa_cons (pv 21) pa_nil))) pa_nil)) (pe_callB (call_reprA (K := K) hgd hr.units) rfl B.repr (by decide +kernel) (pa_cons (pe_clG (E := fun _ => E0) C_law_due hr (by decide) hgd pass00 (pa_cons (pv 22) (pa_cons (pv 13) (pa_cons (pe_op op_mod (pe_op (op_addA (K := K)) (pv 16) pe_int) (pv 13)) (pa_cons (C8.pe_mt0 M_Disk_durable hr (by decide) (pv 21)) pa_nil))))) pa_nil)) (nomark _)) (pss_one (ps_ret pe_bl)) pss_nil))))))))))))))))))))))))
      (pss_one (ps_ret pe_bl))), ?_⟩
    repeat walk_at "s"
    refine ⟨a, ns, 0, rfl, ha, by omega, by omega, fun z0 => ?_⟩
    repeat walk_at "s"
    refine r_newL (sz (Nat.le_of_ble_eq_true rfl)) (fun l0 H1 hl0 s1 hl01 => ?_)
    repeat walk_at "s"
    refine r_slL (s1.seq ha) (fun l1 H2 hl1 s2 hl12 => ?_)
    have ec : cutV (ns.map V.int) (some 1) (some 5) = ((ns.map V.int).drop 1).take (5 - 1) := cut_fromTo (n := 1) (m := 5)
    rw [ec, ← List.map_drop, ← List.map_take] at hl12
    refine r_addL (s2 _ _ hl01) hl12 (sz (by simp; omega)) (fun L H3 hL s3 hL3 => ?_)
    have eL : [V.int z0] ++ ((ns.drop 1).take (5 - 1)).map V.int = (z0 :: (ns.drop 1).take (5 - 1)).map V.int := rfl
    rw [eL] at hL3
    generalize z0 :: (ns.drop 1).take (5 - 1) = cells at hL3
    refine forL (SqL.of hL3) (fun i σ H' => ∃ o1 o2 o3 o4 o5 o6 o7 o8 o9 o10 o11 o12 o13 o14 o15 o16 o17 o18 o19 o20 o21 o22 o23 o24, σ = [some (.ref a), o1, o2, o3, o4, o5, o6, o7, o8, o9, o10, o11, o12, o13, o14, o15, o16, o17, o18, o19, o20, o21, o22, o23, o24] ∧ H' L = some (.lst (cells.map V.int)))
      ⟨_, _, _, _, _, _, _, _, _, _, _, _, _, _, _, _, _, _, _, _, _, _, _, _, rfl, hL3⟩ ?_ ?_ ?_
    · rintro i σ H4 hi ⟨o1, o2, o3, o4, o5, o6, o7, o8, o9, o10, o11, o12, o13, o14, o15, o16, o17, o18, o19, o20, o21, o22, o23, o24, rfl, hL4⟩
      exact SqL.of hL4
    · rintro i x σ H4 hi ⟨o1, o2, o3, o4, o5, o6, o7, o8, o9, o10, o11, o12, o13, o14, o15, o16, o17, o18, o19, o20, o21, o22, o23, o24, rfl, hL4⟩
      rw [List.getElem?_map] at hi
      obtain ⟨cell, hcell, rfl⟩ := Option.map_eq_some_iff.mp hi
      clear hL3 hl12 hl01 s1 s2 s3 ha hi hL hl0 hl1
      repeat walk_at "s"
      refine ⟨cell, rfl, fun p H5 hp s5 hp5 => ?_⟩
      repeat walk_at "s"
      refine ⟨p, 0, 57, rfl, hp5, by omega, by decide, by decide, fun u1 H6 hu0 hu1 b6 hp6 => ?_⟩
      repeat walk_at "s"
      refine ⟨p, 1, 29, rfl, hp6, by omega, by decide, by decide, fun u2 H7 hv0 hv1 b7 hp7 => ?_⟩
      obtain ⟨sl, hsl⟩ : ∃ sl : Nat, (8 : Int) + u1 = (sl : Int) := ⟨(8 + u1).toNat, by omega⟩
      obtain ⟨ho, hho⟩ : ∃ ho : Nat, (4 : Int) + u2 = (ho : Int) := ⟨(4 + u2).toNat, by omega⟩
      have hs8 : 8 ≤ sl := by omega
      have hs64 : sl ≤ 64 := by omega
      have hh4 : 4 ≤ ho := by omega
      have hh32 : ho ≤ 32 := by omega
      have b47 : But [] H4 H7 := bt_frs ((But.of_same s5).trans .refl) (b6.trans b7) (by
        intro t ht
        rw [List.mem_singleton.mp ht]; exact hp)
      have lvp7 := hp7.live
      have fp4 : H4 p = none := hp
      have hp7' : SrcAt H7 p 2 := hp7
      clear b6 b7 s5
      repeat walk_at "s"
      rw [hsl, hho]
      refine r_makeAt (fun LA dx H8 hLA s8 hLA8 => ?_)
      refine ⟨LA, dx, sl, ho, rfl, hLA8, hs8, hs64, hh4, hh32, fun H9 b9 hLay => ⟨rfl, ?_⟩⟩
      have fLA : H4 LA = none := b47.free hLA
      have b49 : But [] H4 H9 := bt_frs (b47.trans (But.of_same s8)) b9 (by
        intro t ht
        rw [List.mem_singleton.mp ht]; exact fLA)
      have nLp : LA ≠ p := fun z => lvp7 (z ▸ hLA)
      have hp9 : SrcAt H9 p 2 := (hp7'.same s8).but b9 (by simpa using nLp.symm)
      clear b47 s8 b9 hLA8
      repeat walk_at "s"
      have esz : (1 : Int) + (sl : Int) + (ho : Int) = ((1 + sl + ho : Nat) : Int) := by omega
      rw [esz]
      refine r_makeAt (fun d dx H10 hd s10 hd10 => ?_)
      refine ⟨d, dx, 1 + sl + ho, rfl, hd10, by omega, by omega, fun ls H11 hls b11 hD => ⟨rfl, ?_⟩⟩
      have fd4 : H4 d = none := b49.free hd
      have fls : Fr (d :: ls) H4 := fun t ht => by
        rcases List.mem_cons.mp ht with e | ht
        · rw [e]; exact fd4
        · exact b49.free ((But.of_same (S := []) s10).free (hls t ht))
      have fls9 : Fr (d :: ls) H9 := fun t ht => by
        rcases List.mem_cons.mp ht with e | ht
        · rw [e]; exact hd
        · exact (But.of_same (S := []) s10).free (hls t ht)
      have b411 : But [] H4 H11 := bt_frs (b49.trans (But.of_same s10)) b11 (by
        intro t ht
        rw [List.mem_singleton.mp ht]; exact fd4)
      have npf : p ∉ d :: ls := fun z => hp9.live (fls9 p z)
      have nLf : LA ∉ d :: ls := fun z => hLay.live (fls9 LA z)
      have b911 : But [d] H9 H11 := (But.of_same s10).trans b11
      have hp11 : SrcAt H11 p 2 := hp9.but b911 (fun z => npf (by rw [List.mem_singleton.mp z]; exact List.mem_cons_self))
      have hLay11 : LayAt CLayout H11 LA sl ho := hLay.but b911 (fun z => nLf (by rw [List.mem_singleton.mp z]; exact List.mem_cons_self))
      clear b49 b911 s10 b11 hp9 hLay hls hd10
      generalize hfd : d :: ls = fd at *
      have nLLfd : L ∉ fd := fun z => live_of hL4 (fls L z)
      have nLLp : L ≠ p := fun z => live_of hL4 (z ▸ fp4)
      have hLL11 : H11 L = some (.lst (cells.map V.int)) := b411.at hL4 List.not_mem_nil
      clear b411
      repeat walk_at "s"
      refine ⟨p, 2, 9, rfl, hp11, by omega, by decide, by decide, fun u3 H12 hu30 hu31 b12 hp12 => ?_⟩
      repeat walk_at "s"
      refine ⟨p, _, sl, rfl, hp12, by omega, by omega, by omega, fun st H13 hst0 hst1 b13 hp13 => ?_⟩
      obtain ⟨start, rfl⟩ := Int.eq_ofNat_of_zero_le hst0
      have hst : start < sl := by omega
      obtain ⟨num, hnum⟩ : ∃ num : Int, 100 + u3 = num := ⟨_, rfl⟩
      rw [hnum]
      have hn0 : 100 ≤ num := by omega
      have hn1 : num ≤ 108 := by omega
      have b1113 : But [p] H11 H13 := b12.trans b13
      have hD13 := dk_butp hD b1113 npf
      have hL13 : LayAt CLayout H13 LA sl ho := hLay11.but b1113 (by simpa using nLp)
      have hLL13 := b1113.at hLL11 (by simpa using nLLp)
      clear b12 b13 b1113 hD hLay11 hLL11
      repeat walk_at "s"
      refine forR (by omega) (fun i σ H' => ∃ o5 o22 o23 D m log, σ = [some (.ref a), some (.int cell), some (.ref p), some (.ref LA), some (.ref d), o5, o6, o7, o8, o9, o10, o11, o12, some (.int sl), some (.int ho), some (.int num), some (.int start), o17, o18, o19, o20, o21, o22, o23, o24] ∧
          But (p :: fd) H13 H' ∧ SrcAt H' p (4 + 20001 * i) ∧ DiskAt K CDisk H' d fd (1 + sl + ho) m D ∧ m ≤ 65 * i ∧ Turn sl ho i start num log D ∧
          (1 ≤ i → ∃ lg xs, o22 = some (.ref lg) ∧ lg ∉ fd ∧ lg ≠ p ∧ H' lg = some (.lst xs) ∧ DnAll K (p :: fd) H' xs (log.map dTx)))
        ⟨_, _, _, _, 0, [], rfl, .refl, hp13, hD13, Nat.le_refl _, .zero, fun h => absurd h (by omega)⟩ ?_ ?_
      · rintro i σ H14 hi ⟨o5, o22, o23, D, m, log0, rfl, b14, hp14, hD14, hm, tn, hlg0⟩
        repeat walk_at "s"
        refine ⟨p, _, sl, ho, _, rfl, hp14, by omega, by omega, by omega, by omega, by omega, fun t lg xs log H15 b15 hp15 hlg ht hlg15 hxs hlb hsz hll => ?_⟩
        have hD15 := dk_butp hD14 b15 npf
        have nlgf : lg ∉ fd := fun z => hD14.live lg z hlg
        have nlgp : lg ≠ p := fun z => hp14.live (z ▸ hlg)
        have xs15 : DnAll K (p :: fd) H15 xs (log.map dTx) := hxs (p :: fd) (liveC hp14.live hD14.live)
        have tx32 : ∀ t ∈ log, TxB 32 t := fun t h => (hlb.tx t h).mono (by omega)
        have hszn : szLog log ≤ sl := by omega
        have b1315 : But (p :: fd) H13 H15 := b14.trans (b15.sub (by simp))
        clear b15 b14 hxs hD14 hlg0
        repeat walk_at "s"
        have eadd : ((start : Int) + (i : Int)) % (sl : Int) = (((start + i) % sl : Nat) : Int) := by rw [Int.natCast_emod, Int.natCast_add]
        rw [eadd]
        refine ⟨d, lg, fd, sl, (start + i) % sl, _, _, D, xs, log, rfl, hD15, by omega, by omega, Nat.mod_lt _ (by omega), hlg15, nlgf, xs15.sub (fun z hz => List.mem_cons_of_mem _ hz), tx32, by omega, fun H16 b16 hD16 => ?_⟩
        have hlg16 := b16.at hlg15 nlgf
        have xs16 : DnAll K (p :: fd) H16 xs (log.map dTx) := xs15.but b16 (fun z hz => List.mem_cons_of_mem _ hz)
        have hp16 := hp15.but b16 npf
        have b1316 : But (p :: fd) H13 H16 := b1315.trans (b16.sub fun z hz => List.mem_cons_of_mem _ hz)
        clear b16 b1315 xs15 hlg15 hD15 hp15
        obtain ⟨D2, hD2⟩ : ∃ D2, (wLog sl (D, (start + i) % sl) log).1 = D2 := ⟨_, rfl⟩
        rw [hD2] at hD16
        repeat walk_at "s"
        have tstep : ∀ D' : DM, (D' = D2 ∨ D' = D2.flush) → (i = 0 → D' = D2.flush) → Turn sl ho (i + 1) start num log D' := fun D' e e0 => tn.step (by omega) (by omega) hn0 hn1 hh32 hlb hszn hll (by rw [hD2]; exact e) (by rw [hD2]; exact e0)
        have hm2 : m + szLog log ≤ 65 * i + 64 := by omega
        obtain ⟨dx, l1, l2, l3, l4, x1, x2, x3, x4, efd, hnd, h0, _⟩ := id hD16.ex
        refine r_ite (fun hi0 => ?_) (fun hi0 => ?_)
        · refine r_iteT rfl ?_
          repeat walk_at "s"
          refine r_methAt h0 (by with_unfolding_all rfl) ?_
          repeat walk_at "s"
          refine ⟨d, fd, _, _, D2, rfl, hD16, by omega, fun H17 b17 hD17 => ?_⟩
          exact ⟨_, _, _, _, _, log, rfl, b1316.trans (b17.sub fun z hz => List.mem_cons_of_mem _ hz), (hp16.but b17 npf).mono (by omega), hD17, by omega, tstep _ (.inr rfl) fun _ => rfl, fun _ => ⟨lg, xs, rfl, nlgf, nlgp, b17.at hlg16 nlgf, xs16.but b17 fun z hz => List.mem_cons_of_mem _ hz⟩⟩
        · repeat walk_at "s"
          refine ⟨p, _, 4, rfl, hp16, by omega, by decide, by decide, fun z H17 hz0 hz1 b17 hp17 => ?_⟩
          have hD17 := dk_butp hD16 b17 npf
          have hlg17 := b17.at hlg16 (by simpa using nlgp)
          have xs17 : DnAll K (p :: fd) H17 xs (log.map dTx) := xs16.but b17 (by simp)
          have b1317 : But (p :: fd) H13 H17 := b1316.trans (b17.sub (by simp))
          have h017 := b17.at h0 (by
            intro z
            rw [efd] at npf
            exact npf (by rw [List.mem_singleton.mp z]; exact List.mem_cons_self))
          clear b17 b1316 xs16
          repeat walk_at "s"
          refine r_ite (fun hz => ?_) (fun hz => ?_)
          · repeat walk_at "s"
            refine r_methAt h017 (by with_unfolding_all rfl) ?_
            repeat walk_at "s"
            refine ⟨d, fd, _, _, D2, rfl, hD17, by omega, fun H18 b18 hD18 => ?_⟩
            exact ⟨_, _, _, _, _, log, rfl, b1317.trans (b18.sub fun z hz => List.mem_cons_of_mem _ hz), (hp17.but b18 npf).mono (by omega), hD18, by omega, tstep _ (.inr rfl) fun _ => rfl, fun _ => ⟨lg, xs, rfl, nlgf, nlgp, b18.at hlg17 nlgf, xs17.but b18 fun z hz => List.mem_cons_of_mem _ hz⟩⟩
          · exact ⟨_, _, _, _, _, log, rfl, b1317, hp17.mono (by omega), hD17, by omega, tstep _ (.inl rfl) fun z => absurd (by omega) hi0, fun _ => ⟨lg, xs, rfl, nlgf, nlgp, hlg17, xs17⟩⟩
      rintro σ H14 ⟨o5, o22, o23, D2, m, log, rfl, b14, hp14, hD14, hm, tn, hlg0⟩
      obtain ⟨lg, xs, rfl, nlgf, nlgp, hlg14, xs14⟩ := hlg0 (by decide)
      have r2 := tn.r2 rfl
      have fl := tn.fl (by decide)
      obtain ⟨lb, hszn, hll⟩ := tn.lb rfl
      have tx32 : ∀ t ∈ log, TxB 32 t := fun t h => (lb.tx t h).mono (by omega)
      have hp14 : SrcAt H14 p 40006 := hp14
      have hm : m ≤ 130 := hm
      obtain ⟨num2, hnum2⟩ : ∃ q, 50 + num = q := ⟨_, rfl⟩
      obtain ⟨p2, hp2⟩ : ∃ q, (start + 1) % sl = q := ⟨_, rfl⟩
      have p2l : p2 < sl := by rw [← hp2]; exact Nat.mod_lt _ (by omega)
      have eadd : ((start : Int) + 1) % (sl : Int) = (p2 : Int) := by rw [← hp2, Int.natCast_emod, Int.natCast_add]; rfl
      rw [hp2, hnum2] at r2
      rw [hnum2] at lb
      have hn20 : 150 ≤ num2 := by omega
      have hn21 : num2 < 160 := by omega
      have nLAs : LA ∉ p :: fd := ni_cons nLp nLf
      have hL14 : LayAt CLayout H14 LA sl ho := hL13.but b14 nLAs
      have hLL14 := b14.at hLL13 (ni_cons nLLp nLLfd)
      clear b14 hL13 hLL13 hlg0 tn hD13 hp13
      obtain ⟨dx, l1, l2, l3, l4, x1, x2, x3, x4, efd, hnd, h0, _⟩ := id hD14.ex
      repeat walk_at "s"
      refine r_methAt h0 (by with_unfolding_all rfl) ?_
      repeat walk_at "s"
      rw [eadd, hnum2]
      refine r_newT (sz (Nat.le_of_ble_eq_true rfl)) (fun TH H17 hTH s17 hTH17 => ?_)
      have hdn : Dn K [] H17 (.ref TH) (hdD num2 p2) := .tup (.of hTH17) (.cons (.str _) (.cons (.int _) (.one (.int _))))
      have hdb : blockB (hdD num2 p2) = true := blk3 (by decide +kernel) ⟨rfl, rfl, rfl⟩
      have hdo : Ok 300 4 (hdD num2 p2) := (ok3 (okS (by decide +kernel)) (by omega) (by omega) ((okInt (m := 10) (by omega) (by decide)).mono (by decide) (by decide))).mono (Nat.le_refl _) (by decide)
      refine ⟨d, fd, _, _, D2, 0, _, [], hdD num2 p2, rfl, hD14.same s17, by omega, by omega, by omega, hdn, hdb, fun H18 b18 hD18 => ?_⟩
      have b1418 : But fd H14 H18 := (But.of_same s17).trans b18
      have hL18 := hL14.but b1418 nLf
      have hLL18 := b1418.at hLL14 nLLfd
      have hp18 := hp14.but b1418 npf
      have hlg18 := b1418.at hlg14 nlgf
      have xs18 : DnAll K (p :: fd) H18 xs (log.map dTx) := xs14.but b1418 (fun z hz => List.mem_cons_of_mem _ hz)
      clear b1418 s17 b18 hL14 hLL14 hD14 hp14 hlg14 xs14 hdn
      have r3 : PV (R2 sl p2 (logV log) (hdD num2 p2)) (D2.write 0 (hdD num2 p2)) := R2.hd r2 hdo
      have fl3 : none ∈ (D2.write 0 (hdD num2 p2)).deeds := List.mem_append_left _ fl
      have phd : ((D2.write 0 (hdD num2 p2)).after (D2.write 0 (hdD num2 p2)).deeds.length).read 0 = hdD num2 p2 := point_head
      have ehd : ∀ (f n m : Nat), f ≤ (D2.write 0 (hdD num2 p2)).deeds.length → DOk n m ((D2.write 0 (hdD num2 p2)).after f) → (early (D2.write 0 (hdD num2 p2)) f ((D2.write 0 (hdD num2 p2)).deeds.length - f)).read 0 = hdD num2 p2 := fun f n m hf ok => early_head hf ok
      generalize D2.write 0 (hdD num2 p2) = D3 at hD18 r3 fl3 phd ehd
      have dl3 := hD18.ok.dl
      obtain ⟨len, hlen⟩ : ∃ q, D3.deeds.length = q := ⟨_, rfl⟩
      rw [hlen] at phd ehd dl3
      obtain ⟨dx, l1, l2, l3, l4, x1, x2, x3, x4, efd, hnd, h0, _⟩ := id hD18.ex
      repeat walk_at "s"
      refine r_methAt h0 (by with_unfolding_all rfl) ?_
      repeat walk_at "s"
      refine ⟨d, fd, _, _, D3, rfl, hD18, fun ev ys H19 hev s19 hev19 hys => ?_⟩
      replace hys : DnAll K [] H19 ys (D3.deeds.map dEv) := hys
      have nevp : ev ≠ p := fun z => hp18.live (z ▸ hev)
      have yl : ys.length = len := by rw [hys.length, List.length_map, hlen]
      repeat walk_at "s"
      refine r_lcR ?_
      repeat walk_at "s"
      rw [yl]
      refine lcR ⟨by omega, by omega⟩ (fun l H20 hl s20 hl20 => ?_)
      have s1820 : Same H18 H20 := fun b o e => s20 b o (s19 b o e)
      have nevl : ev ≠ l := ne_of_none hev19 hl
      refine ⟨fun i H' => ∃ ns : List Nat, But [l] H20 H' ∧ H' l = some (.lst (ns.map fun i : Nat => V.int i)) ∧ (∀ x ∈ ns, x < i) ∧ ns.length ≤ i ∧ ((∃ k, k < i ∧ D3.deeds[k]? = some none) → ns ≠ []),
        ⟨[], .refl, hl20, by simp, Nat.le_refl _, fun ⟨k, h, _⟩ => absurd h (Nat.not_lt_zero _)⟩, ?_, ?_⟩
      · rintro i H21 hi ⟨ns, b21, hl21, hlt, hnl, hex⟩
        obtain ⟨u, hu'⟩ : ∃ u, D3.deeds[i]? = some u := ⟨_, List.getElem?_eq_getElem (by omega)⟩
        obtain ⟨y, hy, hyd⟩ := hys.getD (i := i) (d := dEv u) (by rw [List.getElem?_map, hu']; rfl)
        obtain ⟨q, rfl, hq⟩ := ev_inv hyd
        have hev21 : H21 ev = some (.lst ys) := b21.at (s20 _ _ hev19) (by simpa using nevl)
        cases u with
        | none =>
          have hq21 : SqT K H21 q [.str "flush"] := b21.sqT ((But.of_same (S := []) s20).sqT hq)
          repeat walk_at "s"
          refine ⟨rfl, ?_⟩
          repeat walk_at "s"
          refine r_ixL (.of hev21) (atI_nat hy) ?_
          repeat walk_at "s"
          refine r_iteT (by decide +kernel) ?_
          repeat walk_at "s"
          refine ⟨_, hl21, szl (by rw [List.length_map]; omega), ?_⟩
          obtain ⟨H22, e22, b22, hl22⟩ := upd_ex (o' := .lst ((ns.map fun i : Nat => V.int i) ++ [.int i])) hl21
          rw [e22]
          refine ⟨ns ++ [i], b21.trans b22, by rw [hl22, List.map_append]; rfl, fun x hx => ?_, by rw [List.length_append]; exact Nat.add_le_add_right hnl 1, fun _ z => by simp at z⟩
          rcases List.mem_append.mp hx with hx | hx
          · have := hlt x hx; omega
          · rw [List.mem_singleton.mp hx]; omega
        | some u =>
          obtain ⟨y, hq1, _⟩ := hq
          have hq21 : SqT K H21 q [.str "write", .int u.1, y] := b21.sqT ((But.of_same (S := []) s20).sqT hq1)
          repeat walk_at "s"
          refine ⟨rfl, ?_⟩
          repeat walk_at "s"
          refine r_ixL (.of hev21) (atI_nat hy) ?_
          repeat walk_at "s"
          refine r_iteF (by decide +kernel) ?_
          refine ⟨ns, b21, hl21, fun x hx => Nat.lt_succ_of_lt (hlt x hx), by omega, fun ⟨k, hk, ek⟩ => hex ⟨k, ?_, ek⟩⟩
          by_cases e : k = i
          · subst e
            rw [hu'] at ek
            cases ek
          · omega
      rintro H21 ⟨ns, b21, hl21, hlt, hnl, hex⟩
      rw [Int.toNat_natCast] at hlt hex hnl
      obtain ⟨f, nr, rfl⟩ : ∃ f nr, ns = f :: nr := by
        obtain ⟨k, hk⟩ := List.mem_iff_getElem?.mp fl3
        have hkl := (List.getElem?_eq_some_iff.mp hk).1
        cases ns with
        | nil => exact absurd rfl (hex ⟨k, by omega, hk⟩)
        | cons f nr => exact ⟨f, nr, rfl⟩
      have hfl := hlt f List.mem_cons_self
      have b1821 : But [] H18 H21 := bt_but (But.of_same s1820) b21 (bc_fr ((But.of_same (S := []) s19).free hl) bc_nil)
      have s1821 := b1821.same
      have hev21 : H21 ev = some (.lst ys) := b21.at (s20 _ _ hev19) (by simpa using nevl)
      have hys21 : DnAll K [] H21 ys (D3.deeds.map dEv) := (hys.same s20).nlb hD18.ok.nl4 b21
      have hD21 := hD18.same s1821
      have hL21 := hL18.same s1821
      have hLL21 := s1821 _ _ hLL18
      have hp21 := hp18.same s1821
      have hlg21 := s1821 _ _ hlg18
      have xs21 := xs18.same s1821
      clear b1821 s1821 s1820 s19 s20 b21 hD18 hL18 hLL18 hp18 hlg18 xs18 hys hev19
      repeat walk_at "s"
      refine r_ixL (.of hl21) (atI_nat (j := 0) rfl) ?_
      clear hl21
      obtain ⟨dx, l1, l2, l3, l4, x1, x2, x3, x4, efd, hnd, h0, _⟩ := id hD21.ex
      repeat walk_at "s"
      refine r_methAt h0 (by with_unfolding_all rfl) ?_
      repeat walk_at "s"
      rw [yl]
      refine ⟨d, fd, _, _, D3, len, rfl, hD21, by omega, by omega, fun pt la H22 hfA s22 hA => ?_⟩
      generalize hfa : pt :: la = fa at hfA hA
      have nfa : ∀ {z : Addr}, H21 z ≠ none → z ∉ fa := fun h z => h (hfA _ z)
      have npa : p ∉ fa := nfa hp21.live
      have hD22 := hD21.same s22
      have hL22 := hL21.same s22
      have hLL22 := s22 _ _ hLL21
      have hp22 := hp21.same s22
      have hlg22 := s22 _ _ hlg21
      have xs22 := xs21.same s22
      have hev22 := s22 _ _ hev21
      have hys22 := hys21.same s22
      clear s22 hD21 hL21 hLL21 hp21 hlg21 xs21 hev21 hys21 h0
      repeat walk_at "s"
      rw [yl]
      refine ⟨p, _, _, rfl, hp22, by omega, by omega, by omega, fun dr H23 hdr0 hdr1 b23 hp23 => ?_⟩
      obtain ⟨fN, hfN⟩ : ∃ q : Nat, (f : Int) + 1 + dr = (q : Int) := ⟨((f : Int) + 1 + dr).toNat, by omega⟩
      have hfN2 : fN ≤ len := by omega
      have hD23 := dk_butp hD22 b23 npf
      have hA23 := dk_butp hA b23 npa
      have hL23 : LayAt CLayout H23 LA sl ho := hL22.but b23 (by simpa using nLp)
      have hLL23 := b23.at hLL22 (by simpa using nLLp)
      have hlg23 := b23.at hlg22 (by simpa using nlgp)
      have xs23 : DnAll K (p :: fd) H23 xs (log.map dTx) := xs22.but b23 (by simp)
      have hev23 := b23.at hev22 (by simpa using nevp)
      have hys23 : DnAll K [] H23 ys (D3.deeds.map dEv) := hys22.nlb hD22.ok.nl4 b23
      have lvA23 := hA23.live
      have hdv := hD22.ok.dv
      have r3A := r3.after len
      have ptA : Pt sl p2 log (hdD num2 p2) (D3.after len) := ⟨r3A, phd⟩
      clear b23 hD22 hA hL22 hLL22 hp22 hlg22 xs22 hev22 hys22
      obtain ⟨dx, l1, l2, l3, l4, x1, x2, x3, x4, efd, hnd, h0, _⟩ := id hD23.ex
      repeat walk_at "s"
      rw [hfN]
      refine r_methAt h0 (by with_unfolding_all rfl) ?_
      repeat walk_at "s"
      refine ⟨d, fd, _, _, D3, fN, rfl, hD23, by omega, by omega, fun ea lE H24 hfE s24 hE => ?_⟩
      have ehd2 := ehd fN _ _ hfN2 hE.ok
      generalize hfe : ea :: lE = fe at hfE hE
      have nfe : ∀ {z : Addr}, H23 z ≠ none → z ∉ fe := fun h z => h (hfE _ z)
      have npe : p ∉ fe := nfe hp23.live
      have nLe : LA ∉ fe := nfe hL23.live
      have nLLe : L ∉ fe := nfe (live_of hLL23)
      have nlge : lg ∉ fe := nfe (live_of hlg23)
      have neve : ev ∉ fe := nfe (live_of hev23)
      have dAe : ∀ z ∈ fa, z ∉ fe := fun z hz => nfe (lvA23 z hz)
      obtain ⟨dx, l1, l2, l3, l4, x1, x2, x3, x4, efe, hnd, h0, _⟩ := id hE.ex
      repeat walk_at "s"
      refine r_methAt h0 (by with_unfolding_all rfl) ?_
      repeat walk_at "s"
      refine ⟨ea, fe, _, _, _, rfl, hE, by omega, fun H25 b25 hE25 => ?_⟩
      have b2325 : But fe H23 H25 := (But.of_same s24).trans b25
      have hL25 := hL23.but b2325 nLe
      have hLL25 := b2325.at hLL23 nLLe
      have hp25 := hp23.but b2325 npe
      have hlg25 := b2325.at hlg23 nlge
      have hev25 := b2325.at hev23 neve
      have hys25 : DnAll K [] H25 ys (D3.deeds.map dEv) := hys23.nlb hD23.ok.nl4 b2325
      have hA25 := hA23.but b2325 dAe
      have xs25 : DnAll K (fe ++ p :: fd) H25 xs (log.map dTx) := (fresh_all hfE xs23).but b2325 (fun z hz => List.mem_append_left _ hz)
      clear b2325 s24 b25 hE hL23 hLL23 hp23 hlg23 xs23 hev23 hys23 hA23 lvA23 hD23 h0 hfE nfe
      repeat walk_at "s"
      refine r_slL (.of hev25) (fun q H26 hq s26 hq26 => ?_)
      rw [cut_from] at hq26
      have nqe : q ∉ fe := fun z => hE25.live q z hq
      have ql : (ys.drop fN).length = len - fN := by rw [List.length_drop, yl]
      have v26 : DnAll K [] H26 (ys.drop fN) ((D3.deeds.map dEv).drop fN) := (hys25.same s26).drop fN
      rw [← List.map_drop] at v26
      refine forL (.of hq26) (fun i σ H' => ∃ o11, σ = [some (.ref a), some (.int cell), some (.ref p), some (.ref LA), some (.ref d), o5, some (.ref ev), some (.int f), some (.ref pt), some (.int fN), some (.ref ea), o11, o12, some (.int sl), some (.int ho), some (.int num), some (.int start), o17, o18, o19, o20, o21, some (.ref lg), o23, o24] ∧ But fe H26 H' ∧ DiskAt K CDisk H' ea fe (1 + sl + ho) (fN + 1 + i) (early D3 fN i))
        ⟨_, rfl, .refl, by rw [early_zero]; exact hE25.same s26⟩ ?_ ?_ ?_
      · rintro i σ H27 hi ⟨o11, rfl, b27, hE27⟩
        exact .of (b27.at hq26 nqe)
      · rintro i x σ H27 hi ⟨o11, rfl, b27, hE27⟩
        obtain ⟨dd, hdd, hdn⟩ := v26.get hi
        obtain ⟨u, hu', rfl⟩ := map_getG hdd
        obtain ⟨q2, rfl, hq2⟩ := ev_inv hdn
        have hil := (List.getElem?_eq_some_iff.mp hi).1
        obtain ⟨dx, k1, k2, k3, k4, y1, y2, y3, y4, efe', hnd', g0, _⟩ := hE27.ex
        cases u with
        | none =>
          have hq27 : SqT K H27 q2 [.str "flush"] := b27.sqT hq2
          repeat walk_at "s"
          refine r_iteF (by decide +kernel) ?_
          exact ⟨_, rfl, b27, by rw [early_fl hu']; exact hE27.mono (by omega)⟩
        | some u =>
          obtain ⟨y, hq1, hy⟩ := hq2
          have hq27 : SqT K H27 q2 [.str "write", .int u.1, y] := b27.sqT hq1
          obtain ⟨hb0, hb1, hbl⟩ := hdv u (List.mem_of_mem_drop (List.mem_of_getElem? hu'))
          repeat walk_at "s"
          refine r_iteT (by decide +kernel) ?_
          repeat walk_at "s"
          refine r_methAt g0 (by with_unfolding_all rfl) ?_
          repeat walk_at "s"
          refine ⟨ea, fe, _, _, _, _, y, [], u.2, rfl, hE27, by omega, hb0, hb1, hy.nlb (blockB_nol hbl) b27, hbl, fun H28 b28 hE28 => ?_⟩
          refine ⟨_, rfl, b27.trans b28, ?_⟩
          rw [early_wr hu']
          exact hE28
      rintro σ H27 ⟨o11, rfl, b27, hE27⟩
      rw [ql] at hE27
      have ptE : Pt sl p2 log (hdD num2 p2) (early D3 fN (len - fN)) := ⟨r3.early _ _, ehd2⟩
      have b2527 : But fe H25 H27 := (But.of_same s26).trans b27
      have hL27 := hL25.but b2527 nLe
      have hLL27 := b2527.at hLL25 nLLe
      have hp27 := hp25.but b2527 npe
      have hlg27 := b2527.at hlg25 nlge
      have hA27 := hA25.but b2527 dAe
      have xs27 : DnAll K [p] H27 xs (log.map dTx) := (xs25.but b2527 (fun z hz => List.mem_append_left _ hz)).sub (by simp)
      clear b2527 s26 b27 hL25 hLL25 hp25 hlg25 hev25 hys25 hA25 xs25 hE25 v26 hq26 hq
      repeat walk_at "s"
      refine r_newT (sz (Nat.le_of_ble_eq_true rfl)) (fun T H28 hT s28 hT28 => ?_)
      have both : ∀ x ∈ [V.ref pt, V.ref ea], ∃ o fo mo Do, x = .ref o ∧ DiskAt K CDisk H28 o fo (1 + sl + ho) mo Do ∧ mo ≤ 200 ∧ Pt sl p2 log (hdD num2 p2) Do ∧ p ∉ fo := fun x hx => by
        rcases List.mem_cons.mp hx with rfl | hx
        · exact ⟨pt, fa, _, _, rfl, hA27.same s28, by omega, ptA, npa⟩
        · rw [List.mem_singleton.mp hx]
          exact ⟨ea, fe, _, _, rfl, hE27.same s28, by omega, ptE, npe⟩
      have hL28 := hL27.same s28
      have hLL28 := s28 _ _ hLL27
      have hp28 := hp27.same s28
      have hlg28 := s28 _ _ hlg27
      have xs28 := xs27.same s28
      clear s28 hL27 hLL27 hp27 hlg27 xs27 hA27 hE27
      have hT28' : SqT K H28 T [.ref pt, .ref ea] := .of hT28
      refine forT hT28' (fun i σ H' => ∃ o12 o17 o18 o19 o20 o21 o24, σ = [some (.ref a), some (.int cell), some (.ref p), some (.ref LA), some (.ref d), o5, some (.ref ev), some (.int f), some (.ref pt), some (.int fN), some (.ref ea), o11, o12, some (.int sl), some (.int ho), some (.int num), some (.int start), o17, o18, o19, o20, o21, some (.ref lg), o23, o24] ∧ But [p] H28 H' ∧ SrcAt H' p (50000 + 1000 * i))
        ⟨_, _, _, _, _, _, _, rfl, .refl, hp28.mono (by omega)⟩ ?_ ?_ ?_
      · rintro i σ H29 hi ⟨o12, o17, o18, o19, o20, o21, o24, rfl, b29, hp29⟩
        exact b29.sqT hT28'
      · rintro i x σ H29 hi ⟨o12, o17, o18, o19, o20, o21, o24, rfl, b29, hp29⟩
        have hi2 : i < 2 := (List.getElem?_eq_some_iff.mp hi).1
        obtain ⟨o, fo, mo, Do, rfl, hO28, hmo, ptO, npo⟩ := both x (List.mem_of_getElem? hi)
        have hO29 := dk_butp hO28 b29 npo
        have hL29 : LayAt CLayout H29 LA sl ho := hL28.but b29 (by simpa using nLp)
        have hlg29 := b29.at hlg28 (by simpa using nlgp)
        have xs29 : DnAll K [p] H29 xs (log.map dTx) := xs28.but b29 (fun z hz => hz)
        clear hO28 both
        obtain ⟨dx, l1, l2, l3, l4, x1, x2, x3, x4, efo, hnd, h0, _⟩ := id hO29.ex
        have wlo := hO29.ok.wl
        have dlo := hO29.ok.dl
        repeat walk_at "s"
        refine r_methAt h0 (by with_unfolding_all rfl) ?_
        repeat walk_at "s"
        refine ⟨o, fo, _, _, Do, rfl, hO29, fun pe zs H30 hpe s30 hpe30 hzs => ?_⟩
        replace hzs : DnAll K [] H30 zs (Do.writes.map dWr) := hzs
        have zl : zs.length = Do.writes.length := by rw [hzs.length, List.length_map]
        obtain ⟨wn, hwn⟩ : ∃ q, Do.writes.length = q := ⟨_, rfl⟩
        have npep : pe ≠ p := fun z => hp29.live (z ▸ hpe)
        repeat walk_at "s"
        refine ⟨p, _, 3, rfl, hp29.same s30, by omega, by decide, by decide, fun way H31 hw0 hw1 b31 hp31 => ?_⟩
        have b2931 : But [p] H29 H31 := (But.of_same s30).trans b31
        have hpe31 := b31.at hpe30 (by simpa using npep)
        have hzs31 : DnAll K [] H31 zs (Do.writes.map dWr) := hzs.nlb hO29.ok.nl3 b31
        clear s30 b31 hzs hpe30
        repeat walk_at "s"
        refine r_newL (sz (Nat.le_of_ble_eq_true rfl)) (fun kl H32 hkl s32 hkl32 => ?_)
        have nklp : kl ≠ p := fun z => hp31.live (z ▸ hkl)
        have npekl : pe ≠ kl := ne_of_none hpe31 hkl
        have hpe32 := s32 _ _ hpe31
        have hzs32 := hzs31.same s32
        repeat walk_at "s"
        rw [zl, hwn]
        refine forR (by omega) (fun k σ H' => ∃ ns o20 o24, σ = [some (.ref a), some (.int cell), some (.ref p), some (.ref LA), some (.ref d), o5, some (.ref ev), some (.int f), some (.ref pt), some (.int fN), some (.ref ea), o11, some (.ref o), some (.int sl), some (.int ho), some (.int num), some (.int start), some (.ref pe), some (.int way), some (.ref kl), o20, o21, some (.ref lg), o23, o24] ∧ But [p, kl] H32 H' ∧ SrcAt H' p (50000 + 1000 * i + 1 + 2 * k) ∧ H' kl = some (.lst (ns.map fun i : Nat => V.int i)) ∧ Keep0 Do.writes k ns)
          ⟨[], _, _, rfl, .refl, (hp31.same s32).mono (by omega), hkl32, .nil⟩ ?_ ?_
        · rintro k' σ H33 hk ⟨ns, o20, o24, rfl, b33, hp33, hkl33, kp⟩
          obtain ⟨u, hu'⟩ : ∃ u, Do.writes[k']? = some u := ⟨_, List.getElem?_eq_getElem (by omega)⟩
          obtain ⟨y, hy, hyd⟩ := hzs32.getD (i := k') (d := dWr u) (by rw [List.getElem?_map, hu']; rfl)
          obtain ⟨q, z, rfl, hq, hz⟩ := wr_inv hyd
          have nsl := kp.ch.len
          repeat walk_at "s"
          refine ⟨p, _, 2, rfl, hp33, by omega, by decide, by decide, fun z1 H34 hz10 hz11 b34 hp34 => ?_⟩
          repeat walk_at "s"
          rw [zl, hwn]
          refine ⟨p, _, wn, rfl, hp34, by omega, by omega, by omega, fun z2 H35 hz20 hz21 b35 hp35 => ?_⟩
          repeat walk_at "s"
          refine r_newL (sz (Nat.le_of_ble_eq_true rfl)) (fun lz H36 hlz s36 hlz36 => ?_)
          obtain ⟨lost, hlost⟩ : ∃ lost, atI [V.bl (decide (z1 = 0)), V.bl (decide (z2 = 0)), V.bl false] way = some (.bl lost) := by
            rcases (show way = 0 ∨ way = 1 ∨ way = 2 by omega) with e | e | e <;> rw [e] <;> exact ⟨_, rfl⟩
          repeat walk_at "s"
          refine r_ixL (.of hlz36) hlost ?_
          have b3336 : But [p] H33 H36 := (b34.trans b35).trans (But.of_same s36)
          have hkl36 := b3336.at hkl33 (by simpa using nklp)
          have b36 : But [p, kl] H32 H36 := b33.trans (b3336.sub (by simp))
          have hpe36 := b36.at hpe32 (by simp [npep, npekl])
          have hq36 : SqT K H36 q [.int u.1, z] := b36.sqT hq
          have hp36 : SrcAt H36 p (50000 + 1000 * i + 1 + 2 * ((k' + 1 : Nat) : Int)) := (hp35.same s36).mono (by omega)
          have addk : ∀ H37, But [kl] H36 H37 → H37 kl = some (.lst ((ns.map fun i : Nat => V.int i) ++ [.int k'])) → But [p, kl] H32 H37 ∧ SrcAt H37 p (50000 + 1000 * i + 1 + 2 * ((k' + 1 : Nat) : Int)) ∧ H37 kl = some (.lst ((ns ++ [k']).map fun i : Nat => V.int i)) ∧ Keep0 Do.writes (k' + 1) (ns ++ [k']) := fun H37 b37 hkl37 =>
            ⟨b36.trans (b37.sub (by simp)), hp36.but b37 (by simpa using nklp.symm), by rw [hkl37, List.map_append]; rfl, kp.add (by omega)⟩
          clear b34 b35 s36 b33 b3336 hp33 hp34 hp35 hkl33 hlz36 hlz
          repeat walk_at "s"
          refine r_ixL (.of hpe36) (atI_nat hy) ?_
          repeat walk_at "s"
          refine r_ite (fun hu0 => ?_) (fun hu0 => ?_)
          · refine r_iteT rfl ?_
            repeat walk_at "s"
            refine r_app hkl36 (szl (by rw [List.length_map]; omega)) (fun H37 b37 hkl37 => ?_)
            obtain ⟨g1, g2, g3, g4⟩ := addk H37 b37 hkl37
            exact ⟨_, _, _, rfl, g1, g2, g3, g4⟩
          · cases lost with
            | false =>
              repeat walk_at "s"
              refine r_iteT rfl ?_
              repeat walk_at "s"
              refine r_app hkl36 (szl (by rw [List.length_map]; omega)) (fun H37 b37 hkl37 => ?_)
              obtain ⟨g1, g2, g3, g4⟩ := addk H37 b37 hkl37
              exact ⟨_, _, _, rfl, g1, g2, g3, g4⟩
            | true =>
              repeat walk_at "s"
              refine r_iteF rfl ?_
              repeat walk_at "s"
              exact ⟨ns, _, _, rfl, b36, hp36, hkl36, kp.skip hu' hu0⟩
        · rintro σ H33 ⟨ns, o20, o24, rfl, b33, hp33, hkl33, kp⟩
          rw [Int.toNat_natCast] at hp33 kp
          have b2933 : But [p] H29 H33 := bt_but (b2931.trans (But.of_same s32)) b33 (bc_in (by simp) (bc_fr (b2931.free hkl) bc_nil))
          have hO33 := dk_butp hO29 b2933 npo
          have hL33 : LayAt CLayout H33 LA sl ho := hL29.but b2933 (by simpa using nLp)
          have hlg33 := b2933.at hlg29 (by simpa using nlgp)
          have xs33 : DnAll K [p] H33 xs (log.map dTx) := xs29.but b2933 (fun z hz => hz)
          have b2833 := b29.trans b2933
          rw [← hwn] at kp
          have ptL := ptO.left hO33.ok kp
          clear b33 b2931 b2933 s32 hO29 hL29 hlg29 xs29 b29 hzs32 hpe32 hpe31 hkl32 h0 hzs31 hp31
          obtain ⟨dx, l1, l2, l3, l4, x1, x2, x3, x4, efo, hnd, h0, _⟩ := id hO33.ex
          repeat walk_at "s"
          refine r_methAt h0 (by with_unfolding_all rfl) ?_
          repeat walk_at "s"
          refine ⟨o, kl, fo, _, _, Do, ns, rfl, hO33, hkl33, kp.ch, by omega, fun lf lls H34 hfL s34 hLf => ?_⟩
          generalize hfl' : lf :: lls = fL at hfL hLf
          have hDcw : (Do.crash ns).writes = [] := rfl
          generalize Do.crash ns = Dc at hLf ptL hDcw
          have hL34 := hL33.same s34
          have hlg34 := s34 _ _ hlg33
          have xs34 := xs33.same s34
          have hp34 := hp33.same s34
          have b2834 : But [p] H28 H34 := b2833.trans (But.of_same s34)
          clear s34 hL33 hlg33 xs33 hp33 b2833 hO33 h0 hkl33
          repeat walk_at "s"
          refine ⟨LA, lf, fL, num2, p2, sl, ho, _, _, Dc, rfl, hL34, hLf, by omega, ptL.hd, p2l, by omega, fun sc sxs H35 s35 hsc hsc35 hsx hscl => ?_⟩
          have sl3 : Dc.safe.length = 1 + sl + ho := hLf.ok.sl
          have scn : (scanGo sl Dc (sl + 1) num2 p2 sl []).1 = dueS sl (fun q => Dc.read (1 + (q : Int))) log p2 := scan_law (by omega) p2l hDcw (by omega) (ptL.pv.mono fun b v b0 h => h.1) hn20 hn21 hszn lb.num hll tx32
          have erd : (fun q : Nat => Dc.read (1 + (q : Int))) = fun q => Dc.safe.getD (1 + q) .none := by
            funext q
            have e1 : (1 + (q : Int)).toNat = 1 + q := by omega
            unfold DM.read
            rw [hDcw, e1]; rfl
          rw [erd] at scn
          rw [scn] at hsx
          have okd : Ok 400000 8 (.list ((dueS sl (fun q => Dc.safe.getD (1 + q) .none) log p2).map dTx)) := due_ok (by omega) (by omega) tx32 lb.num hll
          have okv : ∀ v ∈ Dc.safe, Ok 300 4 v ∧ blockB v = true := fun v hv => by
            obtain ⟨b, hb⟩ := List.mem_iff_getElem?.mp hv
            exact ⟨(ptL.pv.sa b v hb).2, hLf.ok.sv v hv⟩
          have dsc : Dn K [] H35 (.ref sc) (.list ((dueS sl (fun q => Dc.safe.getD (1 + q) .none) log p2).map dTx)) := .lst hsc35 List.not_mem_nil ((hsx [] .nil).sub sub_nil)
          have hLf35 := hLf.same s35
          have hlg35 := s35 _ _ hlg34
          have xs35 : DnAll K [] H35 xs (log.map dTx) := (xs34.same s35).sub sub_nil
          have hp35 := hp34.same s35
          have b2835 : But [p] H28 H35 := b2834.trans (But.of_same s35)
          clear s35 hsc35 hsx scn hLf hL34 hlg34 xs34 hp34 b2834 hscl
          repeat walk_at "s"
          refine r_reprOk dsc okd (by decide) (by decide) ?_
          clear dsc
          obtain ⟨dx, l1, l2, l3, l4, x1, x2, x3, x4, efL, hnd, h0, _⟩ := id hLf35.ex
          repeat walk_at "s"
          refine r_methAt h0 (by with_unfolding_all rfl) ?_
          repeat walk_at "s"
          refine ⟨lf, fL, _, _, Dc, rfl, hLf35, fun du dus H36 hdu s36 hdu36 hdus => ?_⟩
          have hlg36 := s36 _ _ hlg35
          have xs36 := xs35.same s36
          have hp36 := hp35.same s36
          have b2836 : But [p] H28 H36 := b2835.trans (But.of_same s36)
          clear s36 hlg35 xs35 hp35 b2835 hLf35 h0
          repeat walk_at "s"
          rw [eadd]
          refine ⟨lg, du, sl, p2, num2, xs, dus, log, Dc.safe, rfl, hlg36, xs36, hdu36, hdus, p2l, by omega, okv, tx32, lb.num, by omega, by omega, hll, fun l2 zs2 H37 s37 hl2 hl237 hz2 => ?_⟩
          have d2 : Dn K [] H37 (.ref l2) (.list ((dueS sl (fun q => Dc.safe.getD (1 + q) .none) log p2).map dTx)) := .lst hl237 List.not_mem_nil hz2
          repeat walk_at "s"
          refine r_reprOk d2 okd (by decide) (by decide) ?_
          repeat walk_at "s"
          refine r_iteF (by simp) ?_
          repeat walk_at "s"
          exact ⟨_, _, _, _, _, _, _, rfl, b2836.trans (But.of_same s37), (hp36.same s37).mono (by omega)⟩
      · rintro σ H29 ⟨o12, o17, o18, o19, o20, o21, o24, rfl, b29, hp29⟩
        exact ⟨_, _, _, _, _, _, _, _, _, _, _, _, _, _, _, _, _, _, _, _, _, _, _, _, rfl, b29.at hLL28 (by simpa using nLLp)⟩
    · rintro σ H4 ⟨o1, o2, o3, o4, o5, o6, o7, o8, o9, o10, o11, o12, o13, o14, o15, o16, o17, o18, o19, o20, o21, o22, o23, o24, rfl, hL4⟩
      repeat walk_at "s"
      exact k H4
end
end L24

set_option Elab.async false
set_option linter.all false
set_option maxRecDepth 100000
set_option maxHeartbeats 4000000
open PySem L2 PyProof.Rows J
set_option maxHeartbeats 4000000
namespace L24
theorem all_mk {P : Program} {w : World} {K : PySem.W.Frag} {h : Heap} {mg : Str → Option Value} {fa : Addr} {CDisk CLayout CReading f0 f1 f2 T2 f3 f4 f5 f6 f7 f8 f9 f10 f11 f12 f13 f14 f15 f16 f17 f18 f19 f20 f21 f22 f23 f24 f25 f26 f27 f28 f29 f30 f31 f32 f33 f34 f35 f36 f37 f38 f39 : Addr} {od0 an0 od1 an1 od2 an2 otd2 od3 an3 od4 an4 od5 an5 od6 an6 od7 an7 od8 an8 od9 an9 od10 an10 od11 an11 od12 an12 od13 an13 od14 an14 od15 an15 od16 an16 od17 an17 od18 an18 od19 an19 od20 an20 od21 an21 od22 an22 od23 an23 od24 an24 od25 an25 od26 an26 od27 an27 od28 an28 od29 an29 od30 an30 od31 an31 od32 an32 od33 an33 od34 an34 od35 an35 od36 an36 od37 an37 od38 an38 od39 an39 : Option Addr} {sl0 sl1 sl2 tsl2 sl3 sl4 sl5 sl6 sl7 sl8 sl9 sl10 sl11 sl12 sl13 sl14 sl15 sl16 sl17 sl18 sl19 sl20 sl21 sl22 sl23 sl24 sl25 sl26 sl27 sl28 sl29 sl30 sl31 sl32 sl33 sl34 sl35 sl36 sl37 sl38 sl39 : Array (Option Value)} {oc0 kV0 dc0 pm0 cd0 ct0 oc1 kV1 dc1 pm1 cd1 ct1 oc2 kV2 dc2 pm2 cd2 ct2 toc2 oc3 kV3 dc3 pm3 cd3 ct3 oc4 kV4 dc4 pm4 cd4 ct4 oc5 kV5 dc5 pm5 cd5 ct5 oc6 kV6 dc6 pm6 cd6 ct6 oc7 kV7 dc7 pm7 cd7 ct7 oc8 kV8 dc8 pm8 cd8 ct8 oc9 kV9 dc9 pm9 cd9 ct9 oc10 kV10 dc10 pm10 cd10 ct10 oc11 kV11 dc11 pm11 cd11 ct11 oc12 kV12 dc12 pm12 cd12 ct12 oc13 kV13 dc13 pm13 cd13 ct13 oc14 kV14 dc14 pm14 cd14 ct14 oc15 kV15 dc15 pm15 cd15 ct15 oc16 kV16 dc16 pm16 cd16 ct16 oc17 kV17 dc17 pm17 cd17 ct17 oc18 kV18 dc18 pm18 cd18 ct18 oc19 kV19 dc19 pm19 cd19 ct19 oc20 kV20 dc20 pm20 cd20 ct20 oc21 kV21 dc21 pm21 cd21 ct21 oc22 kV22 dc22 pm22 cd22 ct22 oc23 kV23 dc23 pm23 cd23 ct23 oc24 kV24 dc24 pm24 cd24 ct24 oc25 kV25 dc25 pm25 cd25 ct25 oc26 kV26 dc26 pm26 cd26 ct26 oc27 kV27 dc27 pm27 cd27 ct27 oc28 kV28 dc28 pm28 cd28 ct28 oc29 kV29 dc29 pm29 cd29 ct29 oc30 kV30 dc30 pm30 cd30 ct30 oc31 kV31 dc31 pm31 cd31 ct31 oc32 kV32 dc32 pm32 cd32 ct32 oc33 kV33 dc33 pm33 cd33 ct33 oc34 kV34 dc34 pm34 cd34 ct34 oc35 kV35 dc35 pm35 cd35 ct35 oc36 kV36 dc36 pm36 cd36 ct36 oc37 kV37 dc37 pm37 cd37 ct37 oc38 kV38 dc38 pm38 cd38 ct38 oc39 kV39 dc39 pm39 cd39 ct39 : Value} {tn2 : Nat} {tk2_0 tk_MOST_BLOCKS tk_MOST_NESTED tk_LEAST_SLOTS tk_MOST_SLOTS tk_LEAST_HOMES tk_MOST_HOMES tk_GROUP : Tok} (X : K.In h) (G : h.Ns mainGlobals mg) (hfa : mg "law" = some (.ref fa))
    (aC_Disk : PySem.W.nsIn K mainGlobals "Disk" = some (some (.ref CDisk)))
    (pg_Disk : PySem.W.plainGet K CDisk Str.empty = true)
    (hd_Disk : PySem.W.hasDictIn K CDisk = true)
    (po_Disk : PySem.W.plainOver K CDisk = true)
    (sa_Disk : PySem.W.findIn K (.ref CDisk) "__setattr__" = some (some (.builtin "object.__setattr__")))
    (mk_Disk : PySem.W.makesIn K CDisk = true)
    (kc_Disk : PySem.W.keepIn K (.ref CDisk) = true)
    (no_Disk_first : PySem.W.findIn K (.ref CDisk) "first" = some none)
    (no_Disk_safe : PySem.W.findIn K (.ref CDisk) "safe" = some none)
    (no_Disk_writes : PySem.W.findIn K (.ref CDisk) "writes" = some none)
    (no_Disk_deeds : PySem.W.findIn K (.ref CDisk) "deeds" = some none)
    (aC_Layout : PySem.W.nsIn K mainGlobals "Layout" = some (some (.ref CLayout)))
    (pg_Layout : PySem.W.plainGet K CLayout Str.empty = true)
    (hd_Layout : PySem.W.hasDictIn K CLayout = true)
    (po_Layout : PySem.W.plainOver K CLayout = true)
    (sa_Layout : PySem.W.findIn K (.ref CLayout) "__setattr__" = some (some (.builtin "object.__setattr__")))
    (mk_Layout : PySem.W.makesIn K CLayout = true)
    (kc_Layout : PySem.W.keepIn K (.ref CLayout) = true)
    (no_Layout_ring : PySem.W.findIn K (.ref CLayout) "ring" = some none)
    (no_Layout_places : PySem.W.findIn K (.ref CLayout) "places" = some none)
    (aC_Reading : PySem.W.nsIn K mainGlobals "Reading" = some (some (.ref CReading)))
    (pg_Reading : PySem.W.plainGet K CReading Str.empty = true)
    (hd_Reading : PySem.W.hasDictIn K CReading = true)
    (po_Reading : PySem.W.plainOver K CReading = true)
    (sa_Reading : PySem.W.findIn K (.ref CReading) "__setattr__" = some (some (.builtin "object.__setattr__")))
    (mk_Reading : PySem.W.makesIn K CReading = true)
    (kc_Reading : PySem.W.keepIn K (.ref CReading) = true)
    (no_Reading_plan : PySem.W.findIn K (.ref CReading) "plan" = some none)
    (no_Reading_medium : PySem.W.findIn K (.ref CReading) "medium" = some none)
    (no_Reading_serial : PySem.W.findIn K (.ref CReading) "serial" = some none)
    (no_Reading_place : PySem.W.findIn K (.ref CReading) "place" = some none)
    (no_Reading_left : PySem.W.findIn K (.ref CReading) "left" = some none)
    (no_Reading_copies : PySem.W.findIn K (.ref CReading) "copies" = some none)
    (no_Reading_revokes : PySem.W.findIn K (.ref CReading) "revokes" = some none)
    (a0 : PySem.W.nsIn K mainGlobals "is_integer" = some (some (.ref f0)))
    (l0 : K.lookup f0 = some ⟨oc0, od0, .func (PySem.W.fnOf "is_integer" "is_integer" (defArgs s_is_integer) (defBody s_is_integer) (defScope s_is_integer) .none kV0 dc0 pm0 an0 cd0 ct0), sl0⟩)
    (c0 : PySem.W.codeIn K cd0 "is_integer" = true)
    (k0 : PySem.W.keepIn K (.ref f0) = true)
    (a1 : PySem.W.nsIn K mainGlobals "is_between" = some (some (.ref f1)))
    (l1 : K.lookup f1 = some ⟨oc1, od1, .func (PySem.W.fnOf "is_between" "is_between" (defArgs s_is_between) (defBody s_is_between) (defScope s_is_between) .none kV1 dc1 pm1 an1 cd1 ct1), sl1⟩)
    (c1 : PySem.W.codeIn K cd1 "is_between" = true)
    (k1 : PySem.W.keepIn K (.ref f1) = true)
    (a2 : PySem.W.nsIn K mainGlobals "is_value" = some (some (.ref f2)))
    (l2 : K.lookup f2 = some ⟨oc2, od2, .func (PySem.W.fnOf "is_value" "is_value" (defArgs s_is_value) (defBody s_is_value) (defScope s_is_value) (.ref T2) kV2 dc2 pm2 an2 cd2 ct2), sl2⟩)
    (t2 : K.lookup T2 = some ⟨toc2, otd2, .seq #[.int 0 tk2_0] tn2, tsl2⟩)
    (c2 : PySem.W.codeIn K cd2 "is_value" = true)
    (k2 : PySem.W.keepIn K (.ref f2) = true)
    (a3 : PySem.W.findIn K (.ref CDisk) "__init__" = some (some (.ref f3)))
    (i3 : PySem.W.isFn K (.ref f3) = true)
    (l3 : K.lookup f3 = some ⟨oc3, od3, .func (PySem.W.fnOf "__init__" "Disk.__init__" (defArgs s_Disk_init) (defBody s_Disk_init) (defScope s_Disk_init) .none kV3 dc3 pm3 an3 cd3 ct3), sl3⟩)
    (c3 : PySem.W.codeIn K cd3 "Disk.__init__" = true)
    (k3 : PySem.W.keepIn K (.ref f3) = true)
    (a4 : PySem.W.findIn K (.ref CDisk) "check_block" = some (some (.ref f4)))
    (i4 : PySem.W.isFn K (.ref f4) = true)
    (l4 : K.lookup f4 = some ⟨oc4, od4, .func (PySem.W.fnOf "check_block" "Disk.check_block" (defArgs s_Disk_check_block) (defBody s_Disk_check_block) (defScope s_Disk_check_block) .none kV4 dc4 pm4 an4 cd4 ct4), sl4⟩)
    (c4 : PySem.W.codeIn K cd4 "Disk.check_block" = true)
    (k4 : PySem.W.keepIn K (.ref f4) = true)
    (a5 : PySem.W.findIn K (.ref CDisk) "read" = some (some (.ref f5)))
    (i5 : PySem.W.isFn K (.ref f5) = true)
    (l5 : K.lookup f5 = some ⟨oc5, od5, .func (PySem.W.fnOf "read" "Disk.read" (defArgs s_Disk_read) (defBody s_Disk_read) (defScope s_Disk_read) .none kV5 dc5 pm5 an5 cd5 ct5), sl5⟩)
    (c5 : PySem.W.codeIn K cd5 "Disk.read" = true)
    (k5 : PySem.W.keepIn K (.ref f5) = true)
    (a6 : PySem.W.findIn K (.ref CDisk) "write" = some (some (.ref f6)))
    (i6 : PySem.W.isFn K (.ref f6) = true)
    (l6 : K.lookup f6 = some ⟨oc6, od6, .func (PySem.W.fnOf "write" "Disk.write" (defArgs s_Disk_write) (defBody s_Disk_write) (defScope s_Disk_write) .none kV6 dc6 pm6 an6 cd6 ct6), sl6⟩)
    (c6 : PySem.W.codeIn K cd6 "Disk.write" = true)
    (k6 : PySem.W.keepIn K (.ref f6) = true)
    (a7 : PySem.W.findIn K (.ref CDisk) "flush" = some (some (.ref f7)))
    (i7 : PySem.W.isFn K (.ref f7) = true)
    (l7 : K.lookup f7 = some ⟨oc7, od7, .func (PySem.W.fnOf "flush" "Disk.flush" (defArgs s_Disk_flush) (defBody s_Disk_flush) (defScope s_Disk_flush) .none kV7 dc7 pm7 an7 cd7 ct7), sl7⟩)
    (c7 : PySem.W.codeIn K cd7 "Disk.flush" = true)
    (k7 : PySem.W.keepIn K (.ref f7) = true)
    (a8 : PySem.W.findIn K (.ref CDisk) "durable" = some (some (.ref f8)))
    (i8 : PySem.W.isFn K (.ref f8) = true)
    (l8 : K.lookup f8 = some ⟨oc8, od8, .func (PySem.W.fnOf "durable" "Disk.durable" (defArgs s_Disk_durable) (defBody s_Disk_durable) (defScope s_Disk_durable) .none kV8 dc8 pm8 an8 cd8 ct8), sl8⟩)
    (c8 : PySem.W.codeIn K cd8 "Disk.durable" = true)
    (k8 : PySem.W.keepIn K (.ref f8) = true)
    (a9 : PySem.W.findIn K (.ref CDisk) "events" = some (some (.ref f9)))
    (i9 : PySem.W.isFn K (.ref f9) = true)
    (l9 : K.lookup f9 = some ⟨oc9, od9, .func (PySem.W.fnOf "events" "Disk.events" (defArgs s_Disk_events) (defBody s_Disk_events) (defScope s_Disk_events) .none kV9 dc9 pm9 an9 cd9 ct9), sl9⟩)
    (c9 : PySem.W.codeIn K cd9 "Disk.events" = true)
    (k9 : PySem.W.keepIn K (.ref f9) = true)
    (a10 : PySem.W.findIn K (.ref CLayout) "__init__" = some (some (.ref f10)))
    (i10 : PySem.W.isFn K (.ref f10) = true)
    (l10 : K.lookup f10 = some ⟨oc10, od10, .func (PySem.W.fnOf "__init__" "Layout.__init__" (defArgs s_Layout_init) (defBody s_Layout_init) (defScope s_Layout_init) .none kV10 dc10 pm10 an10 cd10 ct10), sl10⟩)
    (c10 : PySem.W.codeIn K cd10 "Layout.__init__" = true)
    (k10 : PySem.W.keepIn K (.ref f10) = true)
    (a11 : PySem.W.findIn K (.ref CLayout) "slots" = some (some (.ref f11)))
    (i11 : PySem.W.isFn K (.ref f11) = true)
    (l11 : K.lookup f11 = some ⟨oc11, od11, .func (PySem.W.fnOf "slots" "Layout.slots" (defArgs s_Layout_slots) (defBody s_Layout_slots) (defScope s_Layout_slots) .none kV11 dc11 pm11 an11 cd11 ct11), sl11⟩)
    (c11 : PySem.W.codeIn K cd11 "Layout.slots" = true)
    (k11 : PySem.W.keepIn K (.ref f11) = true)
    (a12 : PySem.W.findIn K (.ref CLayout) "slot_block" = some (some (.ref f12)))
    (i12 : PySem.W.isFn K (.ref f12) = true)
    (l12 : K.lookup f12 = some ⟨oc12, od12, .func (PySem.W.fnOf "slot_block" "Layout.slot_block" (defArgs s_Layout_slot_block) (defBody s_Layout_slot_block) (defScope s_Layout_slot_block) .none kV12 dc12 pm12 an12 cd12 ct12), sl12⟩)
    (c12 : PySem.W.codeIn K cd12 "Layout.slot_block" = true)
    (k12 : PySem.W.keepIn K (.ref f12) = true)
    (a13 : PySem.W.nsIn K mainGlobals "is_group" = some (some (.ref f13)))
    (l13 : K.lookup f13 = some ⟨oc13, od13, .func (PySem.W.fnOf "is_group" "is_group" (defArgs s_is_group) (defBody s_is_group) (defScope s_is_group) .none kV13 dc13 pm13 an13 cd13 ct13), sl13⟩)
    (c13 : PySem.W.codeIn K cd13 "is_group" = true)
    (k13 : PySem.W.keepIn K (.ref f13) = true)
    (a14 : PySem.W.nsIn K mainGlobals "record_at" = some (some (.ref f14)))
    (l14 : K.lookup f14 = some ⟨oc14, od14, .func (PySem.W.fnOf "record_at" "record_at" (defArgs s_record_at) (defBody s_record_at) (defScope s_record_at) .none kV14 dc14 pm14 an14 cd14 ct14), sl14⟩)
    (c14 : PySem.W.codeIn K cd14 "record_at" = true)
    (k14 : PySem.W.keepIn K (.ref f14) = true)
    (a15 : PySem.W.findIn K (.ref CReading) "__init__" = some (some (.ref f15)))
    (i15 : PySem.W.isFn K (.ref f15) = true)
    (l15 : K.lookup f15 = some ⟨oc15, od15, .func (PySem.W.fnOf "__init__" "Reading.__init__" (defArgs s_Reading_init) (defBody s_Reading_init) (defScope s_Reading_init) .none kV15 dc15 pm15 an15 cd15 ct15), sl15⟩)
    (c15 : PySem.W.codeIn K cd15 "Reading.__init__" = true)
    (k15 : PySem.W.keepIn K (.ref f15) = true)
    (a16 : PySem.W.findIn K (.ref CReading) "take" = some (some (.ref f16)))
    (i16 : PySem.W.isFn K (.ref f16) = true)
    (l16 : K.lookup f16 = some ⟨oc16, od16, .func (PySem.W.fnOf "take" "Reading.take" (defArgs s_Reading_take) (defBody s_Reading_take) (defScope s_Reading_take) .none kV16 dc16 pm16 an16 cd16 ct16), sl16⟩)
    (c16 : PySem.W.codeIn K cd16 "Reading.take" = true)
    (k16 : PySem.W.keepIn K (.ref f16) = true)
    (a17 : PySem.W.findIn K (.ref CReading) "take_copies" = some (some (.ref f17)))
    (i17 : PySem.W.isFn K (.ref f17) = true)
    (l17 : K.lookup f17 = some ⟨oc17, od17, .func (PySem.W.fnOf "take_copies" "Reading.take_copies" (defArgs s_Reading_take_copies) (defBody s_Reading_take_copies) (defScope s_Reading_take_copies) .none kV17 dc17 pm17 an17 cd17 ct17), sl17⟩)
    (c17 : PySem.W.codeIn K cd17 "Reading.take_copies" = true)
    (k17 : PySem.W.keepIn K (.ref f17) = true)
    (a18 : PySem.W.findIn K (.ref CReading) "is_complete" = some (some (.ref f18)))
    (i18 : PySem.W.isFn K (.ref f18) = true)
    (l18 : K.lookup f18 = some ⟨oc18, od18, .func (PySem.W.fnOf "is_complete" "Reading.is_complete" (defArgs s_Reading_is_complete) (defBody s_Reading_is_complete) (defScope s_Reading_is_complete) .none kV18 dc18 pm18 an18 cd18 ct18), sl18⟩)
    (c18 : PySem.W.codeIn K cd18 "Reading.is_complete" = true)
    (k18 : PySem.W.keepIn K (.ref f18) = true)
    (a19 : PySem.W.nsIn K mainGlobals "transaction_at" = some (some (.ref f19)))
    (l19 : K.lookup f19 = some ⟨oc19, od19, .func (PySem.W.fnOf "transaction_at" "transaction_at" (defArgs s_transaction_at) (defBody s_transaction_at) (defScope s_transaction_at) .none kV19 dc19 pm19 an19 cd19 ct19), sl19⟩)
    (c19 : PySem.W.codeIn K cd19 "transaction_at" = true)
    (k19 : PySem.W.keepIn K (.ref f19) = true)
    (a20 : PySem.W.nsIn K mainGlobals "tail_of" = some (some (.ref f20)))
    (l20 : K.lookup f20 = some ⟨oc20, od20, .func (PySem.W.fnOf "tail_of" "tail_of" (defArgs s_tail_of) (defBody s_tail_of) (defScope s_tail_of) .none kV20 dc20 pm20 an20 cd20 ct20), sl20⟩)
    (c20 : PySem.W.codeIn K cd20 "tail_of" = true)
    (k20 : PySem.W.keepIn K (.ref f20) = true)
    (a21 : PySem.W.nsIn K mainGlobals "scanned" = some (some (.ref f21)))
    (l21 : K.lookup f21 = some ⟨oc21, od21, .func (PySem.W.fnOf "scanned" "scanned" (defArgs s_scanned) (defBody s_scanned) (defScope s_scanned) .none kV21 dc21 pm21 an21 cd21 ct21), sl21⟩)
    (c21 : PySem.W.codeIn K cd21 "scanned" = true)
    (k21 : PySem.W.keepIn K (.ref f21) = true)
    (a22 : PySem.W.nsIn K mainGlobals "scan" = some (some (.ref f22)))
    (l22 : K.lookup f22 = some ⟨oc22, od22, .func (PySem.W.fnOf "scan" "scan" (defArgs s_scan) (defBody s_scan) (defScope s_scan) .none kV22 dc22 pm22 an22 cd22 ct22), sl22⟩)
    (c22 : PySem.W.codeIn K cd22 "scan" = true)
    (k22 : PySem.W.keepIn K (.ref f22) = true)
    (a23 : PySem.W.findIn K (.ref CDisk) "pending" = some (some (.ref f23)))
    (i23 : PySem.W.isFn K (.ref f23) = true)
    (l23 : K.lookup f23 = some ⟨oc23, od23, .func (PySem.W.fnOf "pending" "Disk.pending" (defArgs s_Disk_pending) (defBody s_Disk_pending) (defScope s_Disk_pending) .none kV23 dc23 pm23 an23 cd23 ct23), sl23⟩)
    (c23 : PySem.W.codeIn K cd23 "Disk.pending" = true)
    (k23 : PySem.W.keepIn K (.ref f23) = true)
    (a24 : PySem.W.nsIn K mainGlobals "check_choice" = some (some (.ref f24)))
    (l24 : K.lookup f24 = some ⟨oc24, od24, .func (PySem.W.fnOf "check_choice" "check_choice" (defArgs s_check_choice) (defBody s_check_choice) (defScope s_check_choice) .none kV24 dc24 pm24 an24 cd24 ct24), sl24⟩)
    (c24 : PySem.W.codeIn K cd24 "check_choice" = true)
    (k24 : PySem.W.keepIn K (.ref f24) = true)
    (a25 : PySem.W.nsIn K mainGlobals "beginning_with" = some (some (.ref f25)))
    (l25 : K.lookup f25 = some ⟨oc25, od25, .func (PySem.W.fnOf "beginning_with" "beginning_with" (defArgs s_beginning_with) (defBody s_beginning_with) (defScope s_beginning_with) .none kV25 dc25 pm25 an25 cd25 ct25), sl25⟩)
    (c25 : PySem.W.codeIn K cd25 "beginning_with" = true)
    (k25 : PySem.W.keepIn K (.ref f25) = true)
    (a26 : PySem.W.findIn K (.ref CDisk) "crashed" = some (some (.ref f26)))
    (i26 : PySem.W.isFn K (.ref f26) = true)
    (l26 : K.lookup f26 = some ⟨oc26, od26, .func (PySem.W.fnOf "crashed" "Disk.crashed" (defArgs s_Disk_crashed) (defBody s_Disk_crashed) (defScope s_Disk_crashed) .none kV26 dc26 pm26 an26 cd26 ct26), sl26⟩)
    (c26 : PySem.W.codeIn K cd26 "Disk.crashed" = true)
    (k26 : PySem.W.keepIn K (.ref f26) = true)
    (a27 : PySem.W.findIn K (.ref CDisk) "after" = some (some (.ref f27)))
    (i27 : PySem.W.isFn K (.ref f27) = true)
    (l27 : K.lookup f27 = some ⟨oc27, od27, .func (PySem.W.fnOf "after" "Disk.after" (defArgs s_Disk_after) (defBody s_Disk_after) (defScope s_Disk_after) .none kV27 dc27 pm27 an27 cd27 ct27), sl27⟩)
    (c27 : PySem.W.codeIn K cd27 "Disk.after" = true)
    (k27 : PySem.W.keepIn K (.ref f27) = true)
    (a28 : PySem.W.nsIn K mainGlobals "_law_cell_at" = some (some (.ref f28)))
    (l28 : K.lookup f28 = some ⟨oc28, od28, .func (PySem.W.fnOf "_law_cell_at" "_law_cell_at" (defArgs s_law_cell_at) (defBody s_law_cell_at) (defScope s_law_cell_at) .none kV28 dc28 pm28 an28 cd28 ct28), sl28⟩)
    (c28 : PySem.W.codeIn K cd28 "_law_cell_at" = true)
    (k28 : PySem.W.keepIn K (.ref f28) = true)
    (a29 : PySem.W.nsIn K mainGlobals "_law_source" = some (some (.ref f29)))
    (l29 : K.lookup f29 = some ⟨oc29, od29, .func (PySem.W.fnOf "_law_source" "_law_source" (defArgs s_law_source) (defBody s_law_source) (defScope s_law_source) .none kV29 dc29 pm29 an29 cd29 ct29), sl29⟩)
    (c29 : PySem.W.codeIn K cd29 "_law_source" = true)
    (k29 : PySem.W.keepIn K (.ref f29) = true)
    (a30 : PySem.W.nsIn K mainGlobals "_law_draw" = some (some (.ref f30)))
    (l30 : K.lookup f30 = some ⟨oc30, od30, .func (PySem.W.fnOf "_law_draw" "_law_draw" (defArgs s_law_draw) (defBody s_law_draw) (defScope s_law_draw) .none kV30 dc30 pm30 an30 cd30 ct30), sl30⟩)
    (c30 : PySem.W.codeIn K cd30 "_law_draw" = true)
    (k30 : PySem.W.keepIn K (.ref f30) = true)
    (a31 : PySem.W.nsIn K mainGlobals "_law_pick" = some (some (.ref f31)))
    (l31 : K.lookup f31 = some ⟨oc31, od31, .func (PySem.W.fnOf "_law_pick" "_law_pick" (defArgs s_law_pick) (defBody s_law_pick) (defScope s_law_pick) .none kV31 dc31 pm31 an31 cd31 ct31), sl31⟩)
    (c31 : PySem.W.codeIn K cd31 "_law_pick" = true)
    (k31 : PySem.W.keepIn K (.ref f31) = true)
    (a32 : PySem.W.nsIn K mainGlobals "_law_value" = some (some (.ref f32)))
    (l32 : K.lookup f32 = some ⟨oc32, od32, .func (PySem.W.fnOf "_law_value" "_law_value" (defArgs s_law_value) (defBody s_law_value) (defScope s_law_value) .none kV32 dc32 pm32 an32 cd32 ct32), sl32⟩)
    (c32 : PySem.W.codeIn K cd32 "_law_value" = true)
    (k32 : PySem.W.keepIn K (.ref f32) = true)
    (a33 : PySem.W.nsIn K mainGlobals "_law_subset" = some (some (.ref f33)))
    (l33 : K.lookup f33 = some ⟨oc33, od33, .func (PySem.W.fnOf "_law_subset" "_law_subset" (defArgs s_law_subset) (defBody s_law_subset) (defScope s_law_subset) .none kV33 dc33 pm33 an33 cd33 ct33), sl33⟩)
    (c33 : PySem.W.codeIn K cd33 "_law_subset" = true)
    (k33 : PySem.W.keepIn K (.ref f33) = true)
    (a34 : PySem.W.nsIn K mainGlobals "_law_parts" = some (some (.ref f34)))
    (l34 : K.lookup f34 = some ⟨oc34, od34, .func (PySem.W.fnOf "_law_parts" "_law_parts" (defArgs s_law_parts) (defBody s_law_parts) (defScope s_law_parts) .none kV34 dc34 pm34 an34 cd34 ct34), sl34⟩)
    (c34 : PySem.W.codeIn K cd34 "_law_parts" = true)
    (k34 : PySem.W.keepIn K (.ref f34) = true)
    (a35 : PySem.W.nsIn K mainGlobals "_law_records" = some (some (.ref f35)))
    (l35 : K.lookup f35 = some ⟨oc35, od35, .func (PySem.W.fnOf "_law_records" "_law_records" (defArgs s_law_records) (defBody s_law_records) (defScope s_law_records) .none kV35 dc35 pm35 an35 cd35 ct35), sl35⟩)
    (c35 : PySem.W.codeIn K cd35 "_law_records" = true)
    (k35 : PySem.W.keepIn K (.ref f35) = true)
    (a36 : PySem.W.nsIn K mainGlobals "_law_log" = some (some (.ref f36)))
    (l36 : K.lookup f36 = some ⟨oc36, od36, .func (PySem.W.fnOf "_law_log" "_law_log" (defArgs s_law_log) (defBody s_law_log) (defScope s_law_log) .none kV36 dc36 pm36 an36 cd36 ct36), sl36⟩)
    (c36 : PySem.W.codeIn K cd36 "_law_log" = true)
    (k36 : PySem.W.keepIn K (.ref f36) = true)
    (a37 : PySem.W.nsIn K mainGlobals "_law_written" = some (some (.ref f37)))
    (l37 : K.lookup f37 = some ⟨oc37, od37, .func (PySem.W.fnOf "_law_written" "_law_written" (defArgs s_law_written) (defBody s_law_written) (defScope s_law_written) .none kV37 dc37 pm37 an37 cd37 ct37), sl37⟩)
    (c37 : PySem.W.codeIn K cd37 "_law_written" = true)
    (k37 : PySem.W.keepIn K (.ref f37) = true)
    (a38 : PySem.W.nsIn K mainGlobals "_law_due" = some (some (.ref f38)))
    (l38 : K.lookup f38 = some ⟨oc38, od38, .func (PySem.W.fnOf "_law_due" "_law_due" (defArgs s_law_due) (defBody s_law_due) (defScope s_law_due) .none kV38 dc38 pm38 an38 cd38 ct38), sl38⟩)
    (c38 : PySem.W.codeIn K cd38 "_law_due" = true)
    (k38 : PySem.W.keepIn K (.ref f38) = true)
    (a39 : PySem.W.nsIn K mainGlobals "law" = some (some (.ref f39)))
    (l39 : K.lookup f39 = some ⟨oc39, od39, .func (PySem.W.fnOf "law" "law" (defArgs s_law) (defBody s_law) (defScope s_law) .none kV39 dc39 pm39 an39 cd39 ct39), sl39⟩)
    (c39 : PySem.W.codeIn K cd39 "law" = true)
    (k39 : PySem.W.keepIn K (.ref f39) = true)
    (v_MOST_BLOCKS : PySem.W.nsIn K mainGlobals "MOST_BLOCKS" = some (some (.int 128 tk_MOST_BLOCKS)))
    (v_MOST_NESTED : PySem.W.nsIn K mainGlobals "MOST_NESTED" = some (some (.int 8 tk_MOST_NESTED)))
    (v_LEAST_SLOTS : PySem.W.nsIn K mainGlobals "LEAST_SLOTS" = some (some (.int 8 tk_LEAST_SLOTS)))
    (v_MOST_SLOTS : PySem.W.nsIn K mainGlobals "MOST_SLOTS" = some (some (.int 64 tk_MOST_SLOTS)))
    (v_LEAST_HOMES : PySem.W.nsIn K mainGlobals "LEAST_HOMES" = some (some (.int 4 tk_LEAST_HOMES)))
    (v_MOST_HOMES : PySem.W.nsIn K mainGlobals "MOST_HOMES" = some (some (.int 32 tk_MOST_HOMES)))
    (v_GROUP : PySem.W.nsIn K mainGlobals "GROUP" = some (some (.int 8 tk_GROUP)))
    (z_int : PySem.W.nsIn K mainGlobals "int" = some none)
    (z_len : PySem.W.nsIn K mainGlobals "len" = some none)
    (z_list : PySem.W.nsIn K mainGlobals "list" = some none)
    (z_range : PySem.W.nsIn K mainGlobals "range" = some none)
    (z_repr : PySem.W.nsIn K mainGlobals "repr" = some none)
    (z_tuple : PySem.W.nsIn K mainGlobals "tuple" = some none)
    (z_isinstance : PySem.W.nsIn K mainGlobals "isinstance" = some none)
    (z_all : PySem.W.nsIn K mainGlobals "all" = some none)
    (z_zip : PySem.W.nsIn K mainGlobals "zip" = some none)
    (z_str : PySem.W.nsIn K mainGlobals "str" = some none)
    (z_bool : PySem.W.nsIn K mainGlobals "bool" = some none)
    (z_enumerate : PySem.W.nsIn K mainGlobals "enumerate" = some none)
    (z_dict : PySem.W.nsIn K mainGlobals "dict" = some none)
    (z_sorted : PySem.W.nsIn K mainGlobals "sorted" = some none)
    (z_sum : PySem.W.nsIn K mainGlobals "sum" = some none)
    (z_reversed : PySem.W.nsIn K mainGlobals "reversed" = some none)
    (z_max : PySem.W.nsIn K mainGlobals "max" = some none)
    : ∃ fd : FuncData, (∀ (s : Shared) (v : Value), BindsTo s fd ⟨[v], []⟩ [("_law_script", v)]) ∧ ∀ base : Heap, K.In base → base.Ns mainGlobals mg → FnG P w K mg base CX0 14 fa fd ["_law_script"] (spLaw K) := by
  have e := hfa.symm.trans (PySem.W.mg_of X G a39)
  cases e
  have B : Bl mg := ⟨PySem.W.mg_none_of X G z_int, PySem.W.mg_none_of X G z_len, PySem.W.mg_none_of X G z_list, PySem.W.mg_none_of X G z_range, PySem.W.mg_none_of X G z_repr, PySem.W.mg_none_of X G z_tuple, PySem.W.mg_none_of X G z_isinstance, PySem.W.mg_none_of X G z_all, PySem.W.mg_none_of X G z_zip, PySem.W.mg_none_of X G z_str, PySem.W.mg_none_of X G z_bool, PySem.W.mg_none_of X G z_enumerate, PySem.W.mg_none_of X G z_dict, PySem.W.mg_none_of X G z_sorted, PySem.W.mg_none_of X G z_sum, PySem.W.mg_none_of X G z_reversed, PySem.W.mg_none_of X G z_max⟩
  have G_ : Gi mg := ⟨⟨_, PySem.W.mg_of X G v_MOST_BLOCKS⟩, ⟨_, PySem.W.mg_of X G v_MOST_NESTED⟩, ⟨_, PySem.W.mg_of X G v_LEAST_SLOTS⟩, ⟨_, PySem.W.mg_of X G v_MOST_SLOTS⟩, ⟨_, PySem.W.mg_of X G v_LEAST_HOMES⟩, ⟨_, PySem.W.mg_of X G v_MOST_HOMES⟩, ⟨_, PySem.W.mg_of X G v_GROUP⟩⟩
  have cl_Disk : Cls K CDisk := ⟨pg_Disk, hd_Disk, po_Disk, sa_Disk⟩
  have T_Disk : TDisk K CDisk := ⟨cl_Disk, no_Disk_first, no_Disk_safe, no_Disk_writes, no_Disk_deeds⟩
  have cl_Layout : Cls K CLayout := ⟨pg_Layout, hd_Layout, po_Layout, sa_Layout⟩
  have T_Layout : TLay K CLayout := ⟨cl_Layout, no_Layout_ring, no_Layout_places⟩
  have cl_Reading : Cls K CReading := ⟨pg_Reading, hd_Reading, po_Reading, sa_Reading⟩
  have T_Reading : TRd K CReading := ⟨cl_Reading, no_Reading_plan, no_Reading_medium, no_Reading_serial, no_Reading_place, no_Reading_left, no_Reading_copies, no_Reading_revokes⟩
  have F_is_integer := fun_mk (st := s_is_integer) l0 c0 k0
  have b_is_integer := F_is_integer.binds (ps := ["value"]) fun _ _ _ _ _ _ us hl => match us, hl with | [_], _ => rfl
  have F_is_between := fun_mk (st := s_is_between) l1 c1 k1
  have kb_is_between : KBn K (PySem.W.fnOf "is_between" "is_between" (defArgs s_is_between) (defBody s_is_between) (defScope s_is_between) .none kV1 dc1 pm1 an1 cd1 ct1) ["value", "low", "high"] 1 ["low", "high"] (fun us ws => us ++ ws) (fun vs zs => vs ++ zs) := ⟨fun s us ws _ h1 h2 => match us, ws, h1, h2 with | [_], [_, _], _, _ => .of_eq (by rfl), fun r1 r2 => r1.append r2⟩
  have F_is_value : FunD K "is_value" "is_value" (defArgs s_is_value) (defBody s_is_value) (defScope s_is_value) [.int 0] [] f2 (PySem.W.fnOf "is_value" "is_value" (defArgs s_is_value) (defBody s_is_value) (defScope s_is_value) (.ref T2) kV2 dc2 pm2 an2 cd2 ct2) := ⟨⟨_, _, _, _, _, _, _, _, _, _, rfl, l2, c2, .inr ⟨by simp, T2, _, [_], _, rfl, t2, rfl, .cons ⟨_, rfl⟩ .nil⟩, .inl rfl⟩, k2⟩
  have b_is_value : Binds K (PySem.W.fnOf "is_value" "is_value" (defArgs s_is_value) (defBody s_is_value) (defScope s_is_value) (.ref T2) kV2 dc2 pm2 an2 cd2 ct2) ["value", "depth"] [] := by
    obtain ⟨ds, hv, hb⟩ := F_is_value.binds1 (ps := ["value", "depth"]) 2 1 (by simp) rfl (fun _ _ _ _ _ _ _ us its hl hi => match us, its, hl, hi with | [_, _], [_], _, _ => ⟨_, rfl, rfl⟩)
    cases hv
    exact hb
  obtain ⟨ds_is_value, v_is_value, d_is_value⟩ := F_is_value.binds1 (ps := ["value", "depth"]) 1 0 (by simp) rfl (fun _ _ _ _ _ _ _ us its hl hi => match us, its, hl, hi with | [_], [_], _, _ => ⟨_, rfl, rfl⟩)
  have F_Disk_init := fun_mk (st := s_Disk_init) l3 c3 k3
  have b_Disk_init := F_Disk_init.binds (ps := ["self", "blocks"]) fun _ _ _ _ _ _ us hl => match us, hl with | [_, _], _ => rfl
  have F_Disk_check_block := fun_mk (st := s_Disk_check_block) l4 c4 k4
  have b_Disk_check_block := F_Disk_check_block.binds (ps := ["self", "block"]) fun _ _ _ _ _ _ us hl => match us, hl with | [_, _], _ => rfl
  have F_Disk_read := fun_mk (st := s_Disk_read) l5 c5 k5
  have b_Disk_read := F_Disk_read.binds (ps := ["self", "block"]) fun _ _ _ _ _ _ us hl => match us, hl with | [_, _], _ => rfl
  have F_Disk_write := fun_mk (st := s_Disk_write) l6 c6 k6
  have b_Disk_write := F_Disk_write.binds (ps := ["self", "block", "value"]) fun _ _ _ _ _ _ us hl => match us, hl with | [_, _, _], _ => rfl
  have F_Disk_flush := fun_mk (st := s_Disk_flush) l7 c7 k7
  have b_Disk_flush := F_Disk_flush.binds (ps := ["self"]) fun _ _ _ _ _ _ us hl => match us, hl with | [_], _ => rfl
  have F_Disk_durable := fun_mk (st := s_Disk_durable) l8 c8 k8
  have b_Disk_durable := F_Disk_durable.binds (ps := ["self"]) fun _ _ _ _ _ _ us hl => match us, hl with | [_], _ => rfl
  have F_Disk_events := fun_mk (st := s_Disk_events) l9 c9 k9
  have b_Disk_events := F_Disk_events.binds (ps := ["self"]) fun _ _ _ _ _ _ us hl => match us, hl with | [_], _ => rfl
  have F_Layout_init := fun_mk (st := s_Layout_init) l10 c10 k10
  have b_Layout_init := F_Layout_init.binds (ps := ["self", "slots", "homes"]) fun _ _ _ _ _ _ us hl => match us, hl with | [_, _, _], _ => rfl
  have F_Layout_slots := fun_mk (st := s_Layout_slots) l11 c11 k11
  have b_Layout_slots := F_Layout_slots.binds (ps := ["self"]) fun _ _ _ _ _ _ us hl => match us, hl with | [_], _ => rfl
  have F_Layout_slot_block := fun_mk (st := s_Layout_slot_block) l12 c12 k12
  have b_Layout_slot_block := F_Layout_slot_block.binds (ps := ["self", "slot"]) fun _ _ _ _ _ _ us hl => match us, hl with | [_, _], _ => rfl
  have F_is_group := fun_mk (st := s_is_group) l13 c13 k13
  have b_is_group := F_is_group.binds (ps := ["thing"]) fun _ _ _ _ _ _ us hl => match us, hl with | [_], _ => rfl
  have F_record_at := fun_mk (st := s_record_at) l14 c14 k14
  have b_record_at := F_record_at.binds (ps := ["layout", "disk", "number", "slot"]) fun _ _ _ _ _ _ us hl => match us, hl with | [_, _, _, _], _ => rfl
  have F_Reading_init := fun_mk (st := s_Reading_init) l15 c15 k15
  have b_Reading_init := F_Reading_init.binds (ps := ["self", "layout", "disk", "number", "slot"]) fun _ _ _ _ _ _ us hl => match us, hl with | [_, _, _, _, _], _ => rfl
  have F_Reading_take := fun_mk (st := s_Reading_take) l16 c16 k16
  have b_Reading_take := F_Reading_take.binds (ps := ["self"]) fun _ _ _ _ _ _ us hl => match us, hl with | [_], _ => rfl
  have F_Reading_take_copies := fun_mk (st := s_Reading_take_copies) l17 c17 k17
  have b_Reading_take_copies := F_Reading_take_copies.binds (ps := ["self", "homes"]) fun _ _ _ _ _ _ us hl => match us, hl with | [_, _], _ => rfl
  have F_Reading_is_complete := fun_mk (st := s_Reading_is_complete) l18 c18 k18
  have b_Reading_is_complete := F_Reading_is_complete.binds (ps := ["self"]) fun _ _ _ _ _ _ us hl => match us, hl with | [_], _ => rfl
  have F_transaction_at := fun_mk (st := s_transaction_at) l19 c19 k19
  have b_transaction_at := F_transaction_at.binds (ps := ["layout", "disk", "number", "slot"]) fun _ _ _ _ _ _ us hl => match us, hl with | [_, _, _, _], _ => rfl
  have F_tail_of := fun_mk (st := s_tail_of) l20 c20 k20
  have b_tail_of := F_tail_of.binds (ps := ["layout", "disk"]) fun _ _ _ _ _ _ us hl => match us, hl with | [_, _], _ => rfl
  have F_scanned := fun_mk (st := s_scanned) l21 c21 k21
  have b_scanned := F_scanned.binds (ps := ["layout", "disk"]) fun _ _ _ _ _ _ us hl => match us, hl with | [_, _], _ => rfl
  have F_scan := fun_mk (st := s_scan) l22 c22 k22
  have b_scan := F_scan.binds (ps := ["layout", "disk"]) fun _ _ _ _ _ _ us hl => match us, hl with | [_, _], _ => rfl
  have F_Disk_pending := fun_mk (st := s_Disk_pending) l23 c23 k23
  have b_Disk_pending := F_Disk_pending.binds (ps := ["self"]) fun _ _ _ _ _ _ us hl => match us, hl with | [_], _ => rfl
  have F_check_choice := fun_mk (st := s_check_choice) l24 c24 k24
  have b_check_choice := F_check_choice.binds (ps := ["kept", "count"]) fun _ _ _ _ _ _ us hl => match us, hl with | [_, _], _ => rfl
  have F_beginning_with := fun_mk (st := s_beginning_with) l25 c25 k25
  have b_beginning_with := F_beginning_with.binds (ps := ["values"]) fun _ _ _ _ _ _ us hl => match us, hl with | [_], _ => rfl
  have F_Disk_crashed := fun_mk (st := s_Disk_crashed) l26 c26 k26
  have b_Disk_crashed := F_Disk_crashed.binds (ps := ["self", "kept"]) fun _ _ _ _ _ _ us hl => match us, hl with | [_, _], _ => rfl
  have F_Disk_after := fun_mk (st := s_Disk_after) l27 c27 k27
  have b_Disk_after := F_Disk_after.binds (ps := ["self", "many"]) fun _ _ _ _ _ _ us hl => match us, hl with | [_, _], _ => rfl
  have F_law_cell_at := fun_mk (st := s_law_cell_at) l28 c28 k28
  have b_law_cell_at := F_law_cell_at.binds (ps := ["_law_script", "_law_k"]) fun _ _ _ _ _ _ us hl => match us, hl with | [_, _], _ => rfl
  have F_law_source := fun_mk (st := s_law_source) l29 c29 k29
  have b_law_source := F_law_source.binds (ps := ["_law_cell"]) fun _ _ _ _ _ _ us hl => match us, hl with | [_], _ => rfl
  have F_law_draw := fun_mk (st := s_law_draw) l30 c30 k30
  have b_law_draw := F_law_draw.binds (ps := ["_law_source_here", "_law_size"]) fun _ _ _ _ _ _ us hl => match us, hl with | [_, _], _ => rfl
  have F_law_pick := fun_mk (st := s_law_pick) l31 c31 k31
  have b_law_pick := F_law_pick.binds (ps := ["_law_source_here", "_law_items"]) fun _ _ _ _ _ _ us hl => match us, hl with | [_, _], _ => rfl
  have F_law_value := fun_mk (st := s_law_value) l32 c32 k32
  have b_law_value := F_law_value.binds (ps := ["_law_source_here"]) fun _ _ _ _ _ _ us hl => match us, hl with | [_], _ => rfl
  have F_law_subset := fun_mk (st := s_law_subset) l33 c33 k33
  have b_law_subset := F_law_subset.binds (ps := ["_law_source_here", "_law_count", "_law_most"]) fun _ _ _ _ _ _ us hl => match us, hl with | [_, _, _], _ => rfl
  have F_law_parts := fun_mk (st := s_law_parts) l34 c34 k34
  have b_law_parts := F_law_parts.binds (ps := ["_law_source_here", "_law_homes"]) fun _ _ _ _ _ _ us hl => match us, hl with | [_, _], _ => rfl
  have F_law_records := fun_mk (st := s_law_records) l35 c35 k35
  have b_law_records := F_law_records.binds (ps := ["_law_number", "_law_copies", "_law_revokes"]) fun _ _ _ _ _ _ us hl => match us, hl with | [_, _, _], _ => rfl
  have F_law_log := fun_mk (st := s_law_log) l36 c36 k36
  have b_law_log := F_law_log.binds (ps := ["_law_source_here", "_law_slots", "_law_homes", "_law_number"]) fun _ _ _ _ _ _ us hl => match us, hl with | [_, _, _, _], _ => rfl
  have F_law_written := fun_mk (st := s_law_written) l37 c37 k37
  have b_law_written := F_law_written.binds (ps := ["_law_disk", "_law_slots", "_law_slot", "_law_log_here"]) fun _ _ _ _ _ _ us hl => match us, hl with | [_, _, _, _], _ => rfl
  have F_law_due := fun_mk (st := s_law_due) l38 c38 k38
  have b_law_due := F_law_due.binds (ps := ["_law_log_here", "_law_slots", "_law_start", "_law_blocks"]) fun _ _ _ _ _ _ us hl => match us, hl with | [_, _, _, _], _ => rfl
  refine ⟨(PySem.W.fnOf "law" "law" (defArgs s_law) (defBody s_law) (defScope s_law) .none kV39 dc39 pm39 an39 cd39 ct39), fun s v => .of_eq rfl, fun base _ _ => ?_⟩
  have C_is_integer : Cl P w K mg base CX0 1 "is_integer" (spIsInt K) := ⟨_, _, _, ok_is_integer F_is_integer B, PySem.W.mg_of X G a0, k0, b_is_integer⟩
  have K_is_between : ClK P w K mg base CX0 2 "is_between" 1 ["low", "high"] (spBet K) := ⟨_, _, _, _, _, ok_is_between F_is_between C_is_integer, PySem.W.mg_of X G a1, k1, kb_is_between, rfl⟩
  have V_is_value : ∀ m : Nat, Cl P w K mg base CX0 (m + 1) "is_value" (spVal K m) := fun m => by
    induction m with
    | zero =>
      have no : ∀ vs H Q E, spVal K 0 vs H Q E → False := fun vs H Q E h => by
        obtain ⟨_, _, _, dep, _, _, _, h1, h2, _⟩ := h
        omega
      exact ⟨_, _, ["value", "depth"], ⟨fun vs H Q E h => (no vs H Q E h).elim, fun _ _ _ _ _ _ _ _ _ _ _ _ _ h => (no _ _ _ _ h).elim⟩, PySem.W.mg_of X G a2, k2, b_is_value⟩
    | succ m ih => exact ⟨_, _, _, ok_is_value F_is_value B G_ C_is_integer ih, PySem.W.mg_of X G a2, k2, b_is_value⟩
  have W_is_value := ok_is_value F_is_value B G_ C_is_integer (V_is_value 8)
  have D_is_value : C8.Cal P w K mg base 11 "is_value" (spVal K 9) [.int 0] := ⟨_, _, _, _, ⟨W_is_value.len, fun A o s H a us vs Q E hr => W_is_value.run A o s H a us vs Q E (hr.mono (by decide))⟩, PySem.W.mg_of X G a2, k2, d_is_value, v_is_value⟩
  have N_Disk : C8.Mak P w K mg base 3 "Disk" CDisk (spDiskInit K CDisk) [] := ⟨_, _, _, _, ⟨mk_Disk, a3, i3, kc_Disk⟩, ok_Disk_init F_Disk_init G_ T_Disk K_is_between, PySem.W.mg_of X G aC_Disk, b_Disk_init, .nil⟩
  have M_Disk_check_block : C8.Met P w K mg base 3 CDisk "check_block" (spCheck K CDisk) [] := ⟨_, _, _, _, cl_Disk, ⟨a4, i4, k4⟩, ok_Disk_check F_Disk_check_block B T_Disk K_is_between, b_Disk_check_block, .nil⟩
  have M_Disk_read : C8.Met P w K mg base 4 CDisk "read" (spRead K CDisk) [] := ⟨_, _, _, _, cl_Disk, ⟨a5, i5, k5⟩, ok_Disk_read F_Disk_read T_Disk M_Disk_check_block, b_Disk_read, .nil⟩
  have M_Disk_write : C8.Met P w K mg base 12 CDisk "write" (spWrite K CDisk) [] := ⟨_, _, _, _, cl_Disk, ⟨a6, i6, k6⟩, ok_Disk_write F_Disk_write T_Disk M_Disk_check_block D_is_value, b_Disk_write, .nil⟩
  have M_Disk_flush : C8.Met P w K mg base 1 CDisk "flush" (spFlush K CDisk) [] := ⟨_, _, _, _, cl_Disk, ⟨a7, i7, k7⟩, ok_Disk_flush F_Disk_flush T_Disk, b_Disk_flush, .nil⟩
  have M_Disk_durable : C8.Met P w K mg base 1 CDisk "durable" (spCopyOf K CDisk DM.safe) [] := ⟨_, _, _, _, cl_Disk, ⟨a8, i8, k8⟩, ok_Disk_durable F_Disk_durable B T_Disk, b_Disk_durable, .nil⟩
  have M_Disk_events : C8.Met P w K mg base 1 CDisk "events" (spCopyOf K CDisk fun D => D.deeds.map dEv) [] := ⟨_, _, _, _, cl_Disk, ⟨a9, i9, k9⟩, ok_Disk_events F_Disk_events B T_Disk, b_Disk_events, .nil⟩
  have N_Layout : C8.Mak P w K mg base 3 "Layout" CLayout (spLayInit CLayout) [] := ⟨_, _, _, _, ⟨mk_Layout, a10, i10, kc_Layout⟩, ok_Layout_init F_Layout_init G_ T_Layout K_is_between, PySem.W.mg_of X G aC_Layout, b_Layout_init, .nil⟩
  have M_Layout_slots : C8.Met P w K mg base 1 CLayout "slots" (spLayI CLayout fun s _ => s) [] := ⟨_, _, _, _, cl_Layout, ⟨a11, i11, k11⟩, ok_Layout_slots F_Layout_slots T_Layout, b_Layout_slots, .nil⟩
  have M_Layout_slot_block : C8.Met P w K mg base 3 CLayout "slot_block" (spSlotBlock CLayout) [] := ⟨_, _, _, _, cl_Layout, ⟨a12, i12, k12⟩, ok_Layout_slot_block F_Layout_slot_block T_Layout K_is_between, b_Layout_slot_block, .nil⟩
  have C_is_group : Cl P w K mg base CX0 3 "is_group" (spGroup K) := ⟨_, _, _, ok_is_group F_is_group B G_ K_is_between, PySem.W.mg_of X G a13, k13, b_is_group⟩
  have C_record_at : Cl P w K mg base CX0 5 "record_at" (spRecAt K CDisk CLayout) := ⟨_, _, _, ok_record_at F_record_at B C_is_integer C_is_group M_Disk_read M_Layout_slot_block, PySem.W.mg_of X G a14, k14, b_record_at⟩
  have N_Reading : C8.Mak P w K mg base 2 "Reading" CReading (spRdInit K CDisk CLayout CReading) [] := ⟨_, _, _, _, ⟨mk_Reading, a15, i15, kc_Reading⟩, ok_Reading_init F_Reading_init T_Reading M_Layout_slots, PySem.W.mg_of X G aC_Reading, b_Reading_init, .nil⟩
  have M_Reading_take : C8.Met P w K mg base 6 CReading "take" (spTake K CDisk CLayout CReading) [] := ⟨_, _, _, _, cl_Reading, ⟨a16, i16, k16⟩, ok_Reading_take F_Reading_take T_Reading M_Layout_slots C_record_at, b_Reading_take, .nil⟩
  have M_Reading_take_copies : C8.Met P w K mg base 7 CReading "take_copies" (spTakeCs K CDisk CLayout CReading) [] := ⟨_, _, _, _, cl_Reading, ⟨a17, i17, k17⟩, ok_Reading_take_copies F_Reading_take_copies T_Reading M_Reading_take, b_Reading_take_copies, .nil⟩
  have M_Reading_is_complete : C8.Met P w K mg base 8 CReading "is_complete" (spComplete K CDisk CLayout CReading) [] := ⟨_, _, _, _, cl_Reading, ⟨a18, i18, k18⟩, ok_Reading_is_complete F_Reading_is_complete T_Reading M_Reading_take M_Reading_take_copies, b_Reading_is_complete, .nil⟩
  have C_transaction_at : Cl P w K mg base CX0 9 "transaction_at" (spTxAt K CDisk CLayout) := ⟨_, _, _, ok_transaction_at F_transaction_at T_Reading C_is_integer M_Layout_slot_block N_Reading M_Reading_is_complete, PySem.W.mg_of X G a19, k19, b_transaction_at⟩
  have C_tail_of : Cl P w K mg base CX0 5 "tail_of" (spTail K CDisk CLayout) := ⟨_, _, _, ok_tail_of F_tail_of B C_is_integer K_is_between M_Disk_read M_Layout_slots, PySem.W.mg_of X G a20, k20, b_tail_of⟩
  have C_scanned : Cl P w K mg base CX0 10 "scanned" (spScanned K CDisk CLayout) := ⟨_, _, _, ok_scanned F_scanned C_tail_of C_transaction_at M_Layout_slots, PySem.W.mg_of X G a21, k21, b_scanned⟩
  have C_scan : Cl P w K mg base CX0 11 "scan" (spScan K CDisk CLayout) := ⟨_, _, _, ok_scan F_scan C_scanned, PySem.W.mg_of X G a22, k22, b_scan⟩
  have M_Disk_pending : C8.Met P w K mg base 1 CDisk "pending" (spCopyOf K CDisk fun D => D.writes.map dWr) [] := ⟨_, _, _, _, cl_Disk, ⟨a23, i23, k23⟩, ok_Disk_pending F_Disk_pending B T_Disk, b_Disk_pending, .nil⟩
  have C_check_choice : Cl P w K mg base CX0 3 "check_choice" (spChoice K) := ⟨_, _, _, ok_check_choice F_check_choice B K_is_between, PySem.W.mg_of X G a24, k24, b_check_choice⟩
  have C_beginning_with : Cl P w K mg base CX0 5 "beginning_with" (spBegin K CDisk) := ⟨_, _, _, ok_beginning_with F_beginning_with B T_Disk N_Disk, PySem.W.mg_of X G a25, k25, b_beginning_with⟩
  have M_Disk_crashed : C8.Met P w K mg base 6 CDisk "crashed" (spCrashed K CDisk) [] := ⟨_, _, _, _, cl_Disk, ⟨a26, i26, k26⟩, ok_Disk_crashed F_Disk_crashed B T_Disk C_check_choice C_beginning_with, b_Disk_crashed, .nil⟩
  have M_Disk_after : C8.Met P w K mg base 13 CDisk "after" (spAfter K CDisk) [] := ⟨_, _, _, _, cl_Disk, ⟨a27, i27, k27⟩, ok_Disk_after F_Disk_after B T_Disk K_is_between C_beginning_with M_Disk_write M_Disk_flush, b_Disk_after, .nil⟩
  have C_law_cell_at : Cl P w K mg base CX0 1 "_law_cell_at" (spCell K) := ⟨_, _, _, ok_cell F_law_cell_at B, PySem.W.mg_of X G a28, k28, b_law_cell_at⟩
  have C_law_source : Cl P w K mg base CX0 1 "_law_source" spSource := ⟨_, _, _, ok_source F_law_source B, PySem.W.mg_of X G a29, k29, b_law_source⟩
  have C_law_draw : Cl P w K mg base CX0 1 "_law_draw" spDraw := ⟨_, _, _, ok_draw F_law_draw , PySem.W.mg_of X G a30, k30, b_law_draw⟩
  have C_law_pick : Cl P w K mg base CX0 2 "_law_pick" (spPick K) := ⟨_, _, _, ok_pick F_law_pick B C_law_draw, PySem.W.mg_of X G a31, k31, b_law_pick⟩
  have C_law_value : Cl P w K mg base CX0 3 "_law_value" (spValue K) := ⟨_, _, _, ok_value F_law_value C_law_draw C_law_pick, PySem.W.mg_of X G a32, k32, b_law_value⟩
  have C_law_subset : Cl P w K mg base CX0 2 "_law_subset" (spSubset K) := ⟨_, _, _, ok_subset F_law_subset B C_law_draw, PySem.W.mg_of X G a33, k33, b_law_subset⟩
  have C_law_parts : Cl P w K mg base CX0 4 "_law_parts" (spParts K) := ⟨_, _, _, ok_parts F_law_parts C_law_pick C_law_subset C_law_value, PySem.W.mg_of X G a34, k34, b_law_parts⟩
  have C_law_records : Cl P w K mg base CX0 1 "_law_records" (spRecs K) := ⟨_, _, _, ok_records F_law_records B, PySem.W.mg_of X G a35, k35, b_law_records⟩
  have C_law_log : Cl P w K mg base CX0 5 "_law_log" (spLog K) := ⟨_, _, _, ok_log F_law_log B C_law_pick C_law_parts C_law_records, PySem.W.mg_of X G a36, k36, b_law_log⟩
  have C_law_written : Cl P w K mg base CX0 13 "_law_written" (spWritten K CDisk) := ⟨_, _, _, ok_written F_law_written C_law_records M_Disk_write, PySem.W.mg_of X G a37, k37, b_law_written⟩
  have C_law_due : ClG P w K mg base CX0 2 "_law_due" (spDue K) := ⟨_, _, _, ok_due F_law_due B C_law_records, PySem.W.mg_of X G a38, k38, b_law_due⟩
  exact ok_law (fun_mk (st := s_law) l39 c39 k39) B C_law_cell_at C_law_source C_law_draw C_law_log C_law_written C_law_due N_Layout N_Disk M_Disk_write M_Disk_flush M_Disk_events M_Disk_durable M_Disk_pending M_Disk_crashed M_Disk_after C_scan
end L24
open PySem PySem.W PyProof.Rows in
set_option maxRecDepth 100000 in
set_option maxHeartbeats 0 in
theorem PySem.Challenge.cw_revokelog_k24_whole_torn_logs_scanned_holds : PySem.Challenge.rw_revokelog_k24_whole_torn_logs_scanned.Holds := by
  w_on; o_law; k_head; (case hw => w_witness2)
  k_fill
  refine J.walk_ofG (n := 63) (k := 14) (x := "_law_script") (sp := fun K => L24.spLaw K) rfl (by decide) rfl ⟨rfl, by decide, by decide⟩ (fun w h Y => PySem.W.kIn_of Y) ?F (fun K H a ns hl _ hS => ⟨a, ns, rfl, hS, hl, fun _ => rfl⟩)
  case F =>
    intro w mg fa h KX G hmg
    refine' L24.all_mk KX G hmg ?aC_Disk ?pg_Disk ?hd_Disk ?po_Disk ?sa_Disk ?mk_Disk ?kc_Disk ?no_Disk_first ?no_Disk_safe ?no_Disk_writes ?no_Disk_deeds ?aC_Layout ?pg_Layout ?hd_Layout ?po_Layout ?sa_Layout ?mk_Layout ?kc_Layout ?no_Layout_ring ?no_Layout_places ?aC_Reading ?pg_Reading ?hd_Reading ?po_Reading ?sa_Reading ?mk_Reading ?kc_Reading ?no_Reading_plan ?no_Reading_medium ?no_Reading_serial ?no_Reading_place ?no_Reading_left ?no_Reading_copies ?no_Reading_revokes ?a0 ?l0 ?c0 ?k0 ?a1 ?l1 ?c1 ?k1 ?a2 ?l2 ?t2 ?c2 ?k2 ?a3 ?i3 ?l3 ?c3 ?k3 ?a4 ?i4 ?l4 ?c4 ?k4 ?a5 ?i5 ?l5 ?c5 ?k5 ?a6 ?i6 ?l6 ?c6 ?k6 ?a7 ?i7 ?l7 ?c7 ?k7 ?a8 ?i8 ?l8 ?c8 ?k8 ?a9 ?i9 ?l9 ?c9 ?k9 ?a10 ?i10 ?l10 ?c10 ?k10 ?a11 ?i11 ?l11 ?c11 ?k11 ?a12 ?i12 ?l12 ?c12 ?k12 ?a13 ?l13 ?c13 ?k13 ?a14 ?l14 ?c14 ?k14 ?a15 ?i15 ?l15 ?c15 ?k15 ?a16 ?i16 ?l16 ?c16 ?k16 ?a17 ?i17 ?l17 ?c17 ?k17 ?a18 ?i18 ?l18 ?c18 ?k18 ?a19 ?l19 ?c19 ?k19 ?a20 ?l20 ?c20 ?k20 ?a21 ?l21 ?c21 ?k21 ?a22 ?l22 ?c22 ?k22 ?a23 ?i23 ?l23 ?c23 ?k23 ?a24 ?l24 ?c24 ?k24 ?a25 ?l25 ?c25 ?k25 ?a26 ?i26 ?l26 ?c26 ?k26 ?a27 ?i27 ?l27 ?c27 ?k27 ?a28 ?l28 ?c28 ?k28 ?a29 ?l29 ?c29 ?k29 ?a30 ?l30 ?c30 ?k30 ?a31 ?l31 ?c31 ?k31 ?a32 ?l32 ?c32 ?k32 ?a33 ?l33 ?c33 ?k33 ?a34 ?l34 ?c34 ?k34 ?a35 ?l35 ?c35 ?k35 ?a36 ?l36 ?c36 ?k36 ?a37 ?l37 ?c37 ?k37 ?a38 ?l38 ?c38 ?k38 ?a39 ?l39 ?c39 ?k39 ?v_MOST_BLOCKS ?v_MOST_NESTED ?v_LEAST_SLOTS ?v_MOST_SLOTS ?v_LEAST_HOMES ?v_MOST_HOMES ?v_GROUP ?z_int ?z_len ?z_list ?z_range ?z_repr ?z_tuple ?z_isinstance ?z_all ?z_zip ?z_str ?z_bool ?z_enumerate ?z_dict ?z_sorted ?z_sum ?z_reversed ?z_max
    (case aC_Disk => k_is)
    (case pg_Disk => k_is)
    (case hd_Disk => k_is)
    (case po_Disk => k_is)
    (case sa_Disk => k_is)
    (case mk_Disk => k_is)
    (case kc_Disk => k_is)
    (case no_Disk_first => k_is)
    (case no_Disk_safe => k_is)
    (case no_Disk_writes => k_is)
    (case no_Disk_deeds => k_is)
    (case aC_Layout => k_is)
    (case pg_Layout => k_is)
    (case hd_Layout => k_is)
    (case po_Layout => k_is)
    (case sa_Layout => k_is)
    (case mk_Layout => k_is)
    (case kc_Layout => k_is)
    (case no_Layout_ring => k_is)
    (case no_Layout_places => k_is)
    (case aC_Reading => k_is)
    (case pg_Reading => k_is)
    (case hd_Reading => k_is)
    (case po_Reading => k_is)
    (case sa_Reading => k_is)
    (case mk_Reading => k_is)
    (case kc_Reading => k_is)
    (case no_Reading_plan => k_is)
    (case no_Reading_medium => k_is)
    (case no_Reading_serial => k_is)
    (case no_Reading_place => k_is)
    (case no_Reading_left => k_is)
    (case no_Reading_copies => k_is)
    (case no_Reading_revokes => k_is)
    (case a0 => k_is)
    (case l0 => k_is)
    (case c0 => k_is)
    (case k0 => k_is)
    (case a1 => k_is)
    (case l1 => k_is)
    (case c1 => k_is)
    (case k1 => k_is)
    (case a2 => k_is)
    (case l2 => k_is)
    (case t2 => k_is)
    (case c2 => k_is)
    (case k2 => k_is)
    (case a3 => k_is)
    (case i3 => k_is)
    (case l3 => k_is)
    (case c3 => k_is)
    (case k3 => k_is)
    (case a4 => k_is)
    (case i4 => k_is)
    (case l4 => k_is)
    (case c4 => k_is)
    (case k4 => k_is)
    (case a5 => k_is)
    (case i5 => k_is)
    (case l5 => k_is)
    (case c5 => k_is)
    (case k5 => k_is)
    (case a6 => k_is)
    (case i6 => k_is)
    (case l6 => k_is)
    (case c6 => k_is)
    (case k6 => k_is)
    (case a7 => k_is)
    (case i7 => k_is)
    (case l7 => k_is)
    (case c7 => k_is)
    (case k7 => k_is)
    (case a8 => k_is)
    (case i8 => k_is)
    (case l8 => k_is)
    (case c8 => k_is)
    (case k8 => k_is)
    (case a9 => k_is)
    (case i9 => k_is)
    (case l9 => k_is)
    (case c9 => k_is)
    (case k9 => k_is)
    (case a10 => k_is)
    (case i10 => k_is)
    (case l10 => k_is)
    (case c10 => k_is)
    (case k10 => k_is)
    (case a11 => k_is)
    (case i11 => k_is)
    (case l11 => k_is)
    (case c11 => k_is)
    (case k11 => k_is)
    (case a12 => k_is)
    (case i12 => k_is)
    (case l12 => k_is)
    (case c12 => k_is)
    (case k12 => k_is)
    (case a13 => k_is)
    (case l13 => k_is)
    (case c13 => k_is)
    (case k13 => k_is)
    (case a14 => k_is)
    (case l14 => k_is)
    (case c14 => k_is)
    (case k14 => k_is)
    (case a15 => k_is)
    (case i15 => k_is)
    (case l15 => k_is)
    (case c15 => k_is)
    (case k15 => k_is)
    (case a16 => k_is)
    (case i16 => k_is)
    (case l16 => k_is)
    (case c16 => k_is)
    (case k16 => k_is)
    (case a17 => k_is)
    (case i17 => k_is)
    (case l17 => k_is)
    (case c17 => k_is)
    (case k17 => k_is)
    (case a18 => k_is)
    (case i18 => k_is)
    (case l18 => k_is)
    (case c18 => k_is)
    (case k18 => k_is)
    (case a19 => k_is)
    (case l19 => k_is)
    (case c19 => k_is)
    (case k19 => k_is)
    (case a20 => k_is)
    (case l20 => k_is)
    (case c20 => k_is)
    (case k20 => k_is)
    (case a21 => k_is)
    (case l21 => k_is)
    (case c21 => k_is)
    (case k21 => k_is)
    (case a22 => k_is)
    (case l22 => k_is)
    (case c22 => k_is)
    (case k22 => k_is)
    (case a23 => k_is)
    (case i23 => k_is)
    (case l23 => k_is)
    (case c23 => k_is)
    (case k23 => k_is)
    (case a24 => k_is)
    (case l24 => k_is)
    (case c24 => k_is)
    (case k24 => k_is)
    (case a25 => k_is)
    (case l25 => k_is)
    (case c25 => k_is)
    (case k25 => k_is)
    (case a26 => k_is)
    (case i26 => k_is)
    (case l26 => k_is)
    (case c26 => k_is)
    (case k26 => k_is)
    (case a27 => k_is)
    (case i27 => k_is)
    (case l27 => k_is)
    (case c27 => k_is)
    (case k27 => k_is)
    (case a28 => k_is)
    (case l28 => k_is)
    (case c28 => k_is)
    (case k28 => k_is)
    (case a29 => k_is)
    (case l29 => k_is)
    (case c29 => k_is)
    (case k29 => k_is)
    (case a30 => k_is)
    (case l30 => k_is)
    (case c30 => k_is)
    (case k30 => k_is)
    (case a31 => k_is)
    (case l31 => k_is)
    (case c31 => k_is)
    (case k31 => k_is)
    (case a32 => k_is)
    (case l32 => k_is)
    (case c32 => k_is)
    (case k32 => k_is)
    (case a33 => k_is)
    (case l33 => k_is)
    (case c33 => k_is)
    (case k33 => k_is)
    (case a34 => k_is)
    (case l34 => k_is)
    (case c34 => k_is)
    (case k34 => k_is)
    (case a35 => k_is)
    (case l35 => k_is)
    (case c35 => k_is)
    (case k35 => k_is)
    (case a36 => k_is)
    (case l36 => k_is)
    (case c36 => k_is)
    (case k36 => k_is)
    (case a37 => k_is)
    (case l37 => k_is)
    (case c37 => k_is)
    (case k37 => k_is)
    (case a38 => k_is)
    (case l38 => k_is)
    (case c38 => k_is)
    (case k38 => k_is)
    (case a39 => k_is)
    (case l39 => k_is)
    (case c39 => k_is)
    (case k39 => k_is)
    (case v_MOST_BLOCKS => k_is)
    (case v_MOST_NESTED => k_is)
    (case v_LEAST_SLOTS => k_is)
    (case v_MOST_SLOTS => k_is)
    (case v_LEAST_HOMES => k_is)
    (case v_MOST_HOMES => k_is)
    (case v_GROUP => k_is)
    (case z_int => k_is)
    (case z_len => k_is)
    (case z_list => k_is)
    (case z_range => k_is)
    (case z_repr => k_is)
    (case z_tuple => k_is)
    (case z_isinstance => k_is)
    (case z_all => k_is)
    (case z_zip => k_is)
    (case z_str => k_is)
    (case z_bool => k_is)
    (case z_enumerate => k_is)
    (case z_dict => k_is)
    (case z_sorted => k_is)
    (case z_sum => k_is)
    (case z_reversed => k_is)
    (case z_max => k_is)
