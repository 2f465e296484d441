import PyProof.Rows.All
import Wide.All
import OpenK.AllK
import Wide.FinOn
import HandS.ForMost
import HandS.Exc
import HandS.ExcOwn
import HandS.TryOnly
import HandS.WordsExc
import HandS.Flow
import HandS.Style
import HandS.IsInst
import HandS.Deep
import HandS.TupAny
import HandS.TupMul
import HandS.SortKw
import HandS.SortRule
import HandS.SortInts
import HandS.ListItems
import HandS.DictTup
import PySem.Challenge.RW_revokelog_k20_whole_replay_and_revoked
set_option Elab.async false
set_option maxRecDepth 100000
set_option maxHeartbeats 4000000
namespace J
open PySem PySem.Spec PyProof.Rows L2

/-! ### repr of data -/
def rRepr (K : PySem.W.Frag) : List V → Hp → VK → Prop := fun xs H Q =>
  ∃ (x : V) (d : PyData), xs = [x] ∧ Dp K H x d ∧ d.showable = true ∧ d.depth ≤ 60 ∧
    d.shown.length ≤ sizeLine ∧ Q (.str d.shown) H
theorem noDict_of_dp {K : PySem.W.Frag} {H : Hp} : ∀ (d : PyData) (v : V), Dp K H v d → d.hasDict = false := by
  intro d v h
  refine Dp.rec (motive_1 := fun _ d _ => d.hasDict = false)
    (motive_2 := fun _ ds _ => PyData.hasDictAll ds = false) ?_ ?_ ?_ ?_ ?_ ?_ ?_ ?_ h
  all_goals intros
  all_goals simp_all [PyData.hasDict, PyData.hasDictAll]
section
variable {X : Cx}
theorem call_reprD (hg : X.A.guards = some []) (hu : X.A.units + 64 < cLine) :
    CallR X (.builtin "repr") (rRepr X.K) := by
  intro pins s σ H xs us Q I r h
  obtain ⟨x, d, rfl, hd, hs, hdep, hz, q⟩ := h
  obtain ⟨u, rfl, rx⟩ := vals1 r
  cases hd with
  | non =>
    cases rx
    exact PySem.P.repr_of_none ⟨.str _, H, I.tok _, ⟨_, rfl⟩, q⟩
  | bl b =>
    cases rx
    exact PySem.P.repr_of_bool ⟨.str _, H, I.tok _, ⟨_, rfl⟩, by cases b <;> exact q⟩
  | int i =>
    obtain ⟨t, rfl⟩ := rx
    exact PySem.P.repr_of_int (by simpa [PyData.showable] using hs) ⟨.str _, H, I.tok _, ⟨_, rfl⟩, q⟩
  | str z =>
    obtain ⟨t, rfl⟩ := rx
    exact PySem.P.repr_of_str ⟨.str _, H, I.tok _, ⟨_, rfl⟩, q⟩ hz
  | @lst a ys ds hq ha =>
    obtain ⟨as, rr⟩ := Dp.reads I _ _ _ (.lst hq ha) rx
    cases rx
    have nd := noDict_of_dp _ _ (Dp.lst hq ha)
    exact repr_of_reads' rr hs (PyData.noDict_hsm nd) hg (by omega) (fun _ _ e => e)
      (fun h' v tk hk => ⟨.str _, H, I.kept hk, ⟨_, rfl⟩, q⟩) hz
  | @tup a ys ds hq ha =>
    obtain ⟨as, rr⟩ := Dp.reads I _ _ _ (.tup hq ha) rx
    cases rx
    have nd := noDict_of_dp _ _ (Dp.tup hq ha)
    exact repr_of_reads' rr hs (PyData.noDict_hsm nd) hg (by omega) (fun _ _ e => e)
      (fun h' v tk hk => ⟨.str _, H, I.kept hk, ⟨_, rfl⟩, q⟩) hz
end
end J

set_option Elab.async false
set_option linter.all false
set_option maxRecDepth 100000
set_option maxHeartbeats 4000000
namespace J
open PySem L2 PyProof.Rows

/-! ### defs by their names -/
/-- the def that stands at the module's name x keeps the promise -/
structure Cl (P : Program) (w : World) (K : PySem.W.Frag) (mg : Str → Option Value) (base : Heap)
    (CX : CXT) (k : Nat) (x : Str) (sp : Sp) : Prop where
  ex : ∃ f fd ps, FnOk P w K mg base CX k f fd ps sp ∧ mg x = some (.ref f) ∧
    PySem.W.keepIn K (.ref f) = true ∧ Binds K fd ps []

/-- the same, where no repr is under way -/
structure FnG (P : Program) (w : World) (K : PySem.W.Frag) (mg : Str → Option Value) (base : Heap)
    (CX : CXT) (k : Nat) (f : Addr) (fd : FuncData) (ps : List Str) (sp : Sp) : Prop where
  len : ∀ vs H Q E, sp vs H Q E → vs.length = ps.length
  run : ∀ (A : Around) (outer : List Env) (s : Shared) (H : Hp) (args : Args) (us : List Value)
    (vs : List V) (Q : VK) (E : XK), Room k A → A.guards = some [] →
    Env0 P w K mg base A outer s H → BindsTo s fd args (ps.zip us) → Vals vs us → sp vs H Q E →
    codeAny (model P w) A (.call (.ref f) args) (CR CX outer P w H s Q E) s
structure ClG (P : Program) (w : World) (K : PySem.W.Frag) (mg : Str → Option Value) (base : Heap)
    (CX : CXT) (k : Nat) (x : Str) (sp : Sp) : Prop where
  ex : ∃ f fd ps, FnG P w K mg base CX k f fd ps sp ∧ mg x = some (.ref f) ∧
    PySem.W.keepIn K (.ref f) = true ∧ Binds K fd ps []
theorem ClG.of {P : Program} {w : World} {K : PySem.W.Frag} {mg : Str → Option Value} {base : Heap}
    {CX : CXT} {k : Nat} {x : Str} {sp : Sp} (c : Cl P w K mg base CX k x sp) :
    ClG P w K mg base CX k x sp := by
  obtain ⟨f, fd, ps, F, hm, hk, hb⟩ := c.ex
  exact ⟨f, fd, ps, ⟨F.len, fun A o s H ar us vs Q E hr _ => F.run A o s H ar us vs Q E hr⟩, hm, hk, hb⟩

section
variable {X : Cx} {CX : CXT} {k j : Nat} {sp : Sp} {E : L2.St → XK} {x : Str} {p pos : Pos}
  {e : Expr} {es : List Expr} {t : TA}
/-- f(e, ..) -/
theorem pe_cl (c : Cl X.prog X.w X.K X.mg X.base CX k x sp) (hr : Room j X.A) (hk : k ≤ j)
    (hx : ∀ σ, PassesAt CX X σ (E σ)) (ha : PA X (e :: es) t) (hg : Gl X x := by rfl)
    (hdb : (x == ("__debug__" : Str)) = false := by decide)
    (he : starEach (e :: es) X.env = (false, eval e X.env) :: starEach es X.env := by rfl)
    (hpl : (backTo pos (starEach es X.env)).any (·.1) = false := by rfl) :
    PE X (.Call (.Name x p) (e :: es) [] pos) (tCallS sp E t) := by
  obtain ⟨f, fd, ps, F, hm, kp, hb⟩ := c.ex
  exact pe_callS F (hr.mono hk) hg hm kp hb hx ha hdb he hpl
theorem pass00 : ∀ σ, PassesAt CX0 X σ ((fun _ => E0) σ) := fun _ _ _ _ _ _ _ h => h.elim
/-- f() -/
def tCall0 (sp : Sp) (E : L2.St → XK) : TE := fun σ H Q => sp [] H Q (E σ)
theorem pe_cl0 (c : Cl X.prog X.w X.K X.mg X.base CX k x sp) (hr : Room j X.A) (hk : k ≤ j)
    (hx : ∀ σ, PassesAt CX X σ (E σ)) (hg : Gl X x := by rfl)
    (hdb : (x == ("__debug__" : Str)) = false := by decide) :
    PE X (.Call (.Name x p) [] [] pos) (tCall0 sp E) := by
  obtain ⟨f, fd, ps, F, hm, kp, hb⟩ := c.ex
  refine ⟨fun pins s σ H Q I h => ?_⟩
  refine wpAny_Call_Name_kw (ld_glob I hg hm ?_ hdb)
  exact PySem.W.callWith_K0 I.kIn kp (run_fnS (us := []) (E := E) F (hr.mono hk) hb (hx σ) I .nil h)

/-- the callee runs; no repr is under way -/
theorem run_G {f : Addr} {fd : FuncData} {ps : List Str} {pins : List (Addr × Obj)} {σ : L2.St} {H : Hp}
    {s : Shared} {Q : VK} {us : List Value} {vs : List V} {E1 : XK}
    (F : FnG X.prog X.w X.K X.mg X.base CX k f fd ps sp) (hr : Room k X.A) (hgd : X.A.guards = some [])
    (hb : Binds X.K fd ps []) (hx : PassesAt CX X σ E1) (I : Inv X pins σ H s) (r : Vals vs us)
    (h : sp vs H Q E1) : wpAny (model X.prog X.w) X.A (call (.ref f) us) (EP X pins σ Q) X.xe s := by
  have hl : us.length = ps.length := r.length.symm.trans (F.len _ _ _ _ h)
  have b := hb s us I.kIn (by rw [List.append_nil]; exact hl)
  rw [List.append_nil] at b
  have c := F.run X.A X.stack s H ⟨us, []⟩ us vs Q E1 hr hgd I.env0 b r h
  refine wpAny_call (codeAny_mono c fun res s' hq => ?_)
  match res, hq with
  | .error er, hq => exact hx pins H s er s' I hq
  | .ok (.ret _), hq => exact I.after hq
  | .ok .next, hq => exact hq.elim
  | .ok .brk, hq => exact hq.elim
  | .ok .cont, hq => exact hq.elim
theorem pe_clG (c : ClG X.prog X.w X.K X.mg X.base CX k x sp) (hr : Room j X.A) (hk : k ≤ j)
    (hgd : X.A.guards = some []) (hx : ∀ σ, PassesAt CX X σ (E σ)) (ha : PA X (e :: es) t)
    (hg : Gl X x := by rfl) (hdb : (x == ("__debug__" : Str)) = false := by decide)
    (he : starEach (e :: es) X.env = (false, eval e X.env) :: starEach es X.env := by rfl)
    (hpl : (backTo pos (starEach es X.env)).any (·.1) = false := by rfl) :
    PE X (.Call (.Name x p) (e :: es) [] pos) (tCallS sp E t) := by
  obtain ⟨f, fd, ps, F, hm, kp, hb⟩ := c.ex
  refine ⟨fun pins s σ H Q I h => wpAny_Call_Name_kw (ld_glob I hg hm ?_ hdb)⟩
  have st := thn (ha.run pos pins s σ H _ I h) (Q' := fun us s1 => X.K.In s1.heap ∧
    wpAny (model X.prog X.w) X.A (call (.ref f) us) (EP X pins σ Q) X.xe s1)
    (fun us s1 ⟨vs, H1, I1, r, q⟩ => ⟨I1.kIn, run_G F (hr.mono hk) hgd hb (hx σ) I1 r q⟩)
  exact PySem.W.callWith_K (h₀ := X.base) I.ok.mod.kin kp st he hpl
end

/-! ### a def's body, where no repr is under way -/
section
variable {P : Program} {w : World} {K : PySem.W.Frag} {mg : Str → Option Value} {base : Heap}
theorem okG {x qual : Str} {st : Stmt} {f : Addr} {fd : FuncData} {N ps : List Str} {k : Nat} {sp : Sp}
    (F : Fun K x qual st f fd) (S : FnScope N ps (defScope st))
    (len : ∀ vs H Q E, sp vs H Q E → vs.length = ps.length)
    (hbody : ∀ (cdv : Value) (A : Around) (outer : List Env) (s : Shared) (H : Hp) (vs : List V) (Q : VK) (E : XK),
      Room k (A.deeper (envOfC qual (defScope st) s.heap.objs.size f cdv)) → A.guards = some [] → sp vs H Q E →
      ∃ t, PSs (cxOf CX0 P w K mg base N qual (defScope st) f cdv A outer s H E).nox (defBody st) t ∧
        t { nx := fun _ H' => Q .non H', rt := Q } (start N vs) H) :
    FnG P w K mg base CX0 (k + 1) f fd ps sp := by
  obtain ⟨oc, od, kV, doc, pm, an, cdv, ct, osl, rfl, lk, hcd⟩ := F.ex
  refine ⟨len, fun A outer s H args us vs Q E hr hgd e0 hb r hsp => ?_⟩
  have hroomy := hr.depth
  have KX : K.In s.heap := e0.mod.kin.keeps fun b o e => (e0.bs b o e).1
  have lim : s.heap.NoLimit := e0.mod.nolimit.keeps fun b o e => (e0.bs b o e).1
  have hkd : ∀ y ∈ ps.zip us, (defScope st).names.lookup y.1 = some .local ∨
      ((defScope st).names.lookup y.1 = some .cell ∧
        ((cellsFrom (s.heap.objs.size + 1) (defScope st).names []).lookup y.1).isSome = true) := by
    rintro ⟨n, v⟩ hy
    have hn := (List.of_mem_zip hy).1
    cases S.par n hn with
    | inl q => exact Or.inl q
    | inr q => exact Or.inr ⟨q, PySem.W.cellsFrom_some _ _ _ (Or.inl q)⟩
  refine codeAny_call_function hroomy (KX _ _ lk) rfl S.co S.gen rfl (PySem.W.codeRec_of KX hcd)
    (hb _ _ _ _ (wpAny_newFunctionEnv_cells S.kind hkd fun env he s1 xx => ?_))
  subst he
  refine ⟨lim.keeps xx.toInCall.keep, codeAny_func ?_⟩
  obtain ⟨t, ht, hq⟩ := hbody cdv A outer s H vs Q E (hr.deeper _) hgd hsp
  have I : Inv (cxOf CX0 P w K mg base N qual (defScope st) f cdv A outer s H E) [] (start N vs) H s1 :=
    inv_start S hr.hd e0 (len _ _ _ _ hsp) r xx
  refine wpAny_mono (ht.nox.run [] s1 (start N vs) H _ I hq) (fun fl s' hs => ?_) fun e s' hs => hs
  match fl, hs with
  | .ret u, ⟨v, σ', H', J, rv, q⟩ => exact ⟨v, H', J.os, J.bare, J.base, J.hok, rv, q⟩
  | .next, ⟨σ', H', J, q⟩ => exact ⟨.non, H', J.os, J.bare, J.base, J.hok, rfl, q⟩
  | .brk, ⟨_, _, _, q⟩ => exact q.elim
  | .cont, ⟨_, _, _, q⟩ => exact q.elim
end
end J

set_option Elab.async false
set_option linter.all false
set_option maxRecDepth 100000
set_option maxHeartbeats 4000000
namespace J
open PySem L2 PyProof.Rows
section
variable {P : Program} {w : World} {K : PySem.W.Frag} {mg mb : Str → Option Value} {k : Nat}
  {fa a : Addr} {fd : FuncData} {x : Str} {sp : Sp} {s₁ : Shared} {vs : List Value} {ns : List Int}
def scriptO (vs : List Value) : Obj := { cls := .type "list", data := .seq vs.toArray }
/-- what is asked of the abstract heap at the law's entry -/
structure AtStart (P : Program) (w : World) (K : PySem.W.Frag) (s₁ : Shared) (a : Addr) (ns : List Int) (H : Hp) : Prop where
  only : Only H
  seq : SqL K H a (ns.map V.int)
  ok : HOk P w H s₁.heap
  at_a : ∀ b, H b ≠ none → b = a
  fr : H a ≠ none → K.lookup a = none
theorem start_any (KX : K.In s₁.heap) (ha : s₁.heap.get? a = some (scriptO vs)) (hi : IntsAre vs ns)
    (hl : ns.length ≤ sizeLine) : ∃ H, AtStart P w K s₁ a ns H := by
  have rv := vals_ints hi
  have hlen := hi.length
  cases hk : K.lookup a with
  | some o =>
    have e : o = scriptO vs := Option.some.inj ((KX a o hk).symm.trans ha)
    subst e
    refine ⟨fun _ => none, fun _ => .inl rfl, .inr ?_, fun b u z => (nomatch z), fun b z => absurd rfl z, fun z => absurd rfl z⟩
    exact ⟨_, vs.toArray, _, hk, rfl, rfl, rfl, by rw [List.size_toArray, hlen]; exact hl, by simpa using rv⟩
  | none =>
    have at1 : ∀ b, (if b = a then some (HO.frz (scriptO vs) (.lst (ns.map V.int))) else none) ≠ none → b = a := by
      intro b z
      by_cases hb : b = a
      · exact hb
      · rw [if_neg hb] at z
        exact absurd rfl z
    refine ⟨fun b => if b = a then some (.frz (scriptO vs) (.lst (ns.map V.int))) else none, fun b => ?_,
      .inl (.inr ⟨scriptO vs, if_pos rfl⟩), fun b u z => ?_, at1, fun _ => hk⟩
    · by_cases hb : b = a
      · exact .inr ⟨_, _, if_pos hb⟩
      · exact .inl (if_neg hb)
    · have hb : b = a := at1 b (by rw [z]; exact fun q => nomatch q)
      subst hb
      rw [if_pos rfl] at z
      cases z
      exact ⟨ha, by rw [List.length_map]; exact hl, vs, _, rv, ha⟩
theorem law_runG (KX : K.In s₁.heap) (hns : s₁.heap.Ns mainGlobals mg) (hb : s₁.heap.Ns builtinsNs mb)
    (hbb : ∀ x : Str, x ≠ "__name__" → mb x = bootBuiltins x) (hlim : s₁.heap.NoLimit) (hg : s₁.gens = #[])
    (ha : s₁.heap.get? a = some (scriptO vs)) (hi : IntsAre vs ns) (hl : ns.length ≤ sizeLine) (hr : Room k callerA)
    (F : ∀ base : Heap, K.In base → base.Ns mainGlobals mg → FnG P w K mg base CX0 k fa fd [x] sp)
    (hbind : ∀ (s : Shared) (u : Value), BindsTo s fd ⟨[u], []⟩ [(x, u)])
    (hsp : ∀ H : Hp, Only H → SqL K H a (ns.map V.int) → sp [.ref a] H (fun v _ => v = .bl true) fun _ _ _ => False) :
    codeAny (model P w) callerA (.call (.ref fa) ⟨[.ref a], []⟩)
      (fun r s' => r = .ok (.ret (.bool true)) ∧ OldK s₁.heap s'.heap ∧ s'.os = s₁.os ∧ AllBare s'.gens) s₁ := by
  obtain ⟨H, hO, hS, hok, hA, hK⟩ := start_any (P := P) (w := w) KX ha hi hl
  have bare_of {b : Addr} {o : Obj} {es : Array DictEntry} {ep : Nat} (e : s₁.heap.get? b = some o)
      (d : o.data = .dict es ep) : H b = none := Decidable.byContradiction fun q => by
    obtain rfl : b = a := hA b q
    rw [ha] at e
    cases e
    cases (show Data.seq vs.toArray _ = Data.dict es ep from d)
  have nsK {b : Addr} {m : Str → Option Value} (n : s₁.heap.Ns b m) : (hidT s₁.heap H).Ns b m := by
    obtain ⟨o, es, ep, e, d, r⟩ := n
    exact ⟨o, es, ep, hidT_get e (bare_of e d), d, r⟩
  have hKb : K.In (hidT s₁.heap H) := fun b o e => by
    refine hidT_get (KX b o e) (Decidable.byContradiction fun q => ?_)
    obtain rfl : b = a := hA b q
    rw [hK q] at e
    cases e
  obtain ⟨mc, l1, l2⟩ := hlim
  have hM : Mod K mg (hidT s₁.heap H) := ⟨hKb, nsK hns, ⟨mb, nsK hb, hbb⟩, ⟨mc, nsK l1, l2⟩⟩
  have nin : ∀ b : Addr, b ∉ frs ([] : List Env) := fun b z => absurd (show b ∈ ([] : List Addr) from z) (by simp)
  have e0 : Env0 P w K mg (hidT s₁.heap H) callerA [] s₁ H :=
    ⟨rfl, hM, fun b o e => of_hidT e, Nat.le_of_eq (hidT_size _ _), trivial, fun b z => absurd z (nin b), hok, .of_eq hg⟩
  have run := (F _ hKb (nsK hns)).run callerA [] s₁ H ⟨[.ref a], []⟩ [.ref a] [.ref a] _ _ hr rfl e0
    (hbind s₁ (.ref a)) (.cons rfl .nil) (hsp H hO hS)
  refine codeAny_mono run fun r s' h => ?_
  match r, h with
  | .error e, h => exact h.elim
  | .ok .next, h => exact h.elim
  | .ok .brk, h => exact h.elim
  | .ok .cont, h => exact h.elim
  | .ok (.ret u), ⟨v, H', os, bare, un, hok', r', q⟩ =>
    have q' : v = .bl true := q
    subst q'
    obtain rfl : u = Value.bool true := r'
    refine ⟨rfl, OldK.of_keep fun b o e => ?_, os, bare⟩
    rcases hO b with z | ⟨ob, xs, z⟩
    · exact un.keep b o e z (nin b) (by simp)
    · obtain ⟨e1, _⟩ := hok b _ z
      obtain ⟨e2, _⟩ := hok' b _ (un.frzs b ob _ z)
      rw [Option.some.inj (e.symm.trans e1)]
      exact e2
end
/-- the end of a law over FnG -/
theorem walk_ofG {l : PySem.W.OpenLaw} {n k : Nat} {q : Program} {loose : List Str}
    {XP : (Str → Option Value) → Heap → Prop} {YP : World → Heap → Prop} {d : DefRec}
    {K : Params → PySem.W.Frag} {sp : PySem.W.Frag → Sp} {x : Str}
    (hn : l.most = some n) (hn2 : n ≤ sizeLine) (hdf : d.params.defaults = []) (hr : Room k callerA)
    (hY : ∀ (w : World) (h : Heap), YP w h → (K w.params).In h)
    (F : ∀ (w : World) (mg : Str → Option Value) (fa : Addr) (h : Heap), (K w.params).In h → h.Ns mainGlobals mg →
      mg d.name = some (.ref fa) → ∃ fd : FuncData, (∀ (s : Shared) (u : Value), BindsTo s fd ⟨[u], []⟩ [(x, u)]) ∧
        ∀ base : Heap, (K w.params).In base → base.Ns mainGlobals mg →
          FnG l.prog w (K w.params) mg base CX0 k fa fd [x] (sp (K w.params)))
    (hsp : ∀ (K : PySem.W.Frag) (H : Hp) (a : Addr) (ns : List Int), ns.length ≤ n → Only H →
      SqL K H a (ns.map V.int) → sp K [.ref a] H (fun v _ => v = .bl true) fun _ _ _ => False) :
    PySem.W.WalkO q loose XP YP l.row.toRowW d [] (fun f vs => PySem.call f vs) := by
  refine Att.attach_call hn hdf fun w s₀ s₁ mg mb fa o pm cd doc a vs ns G Y ho hd hcd hmg hobj hints hlen hg => ?_
  have KX := hY w _ Y
  obtain ⟨fd, hb, hF⟩ := F w mg fa _ KX G.T.g hmg
  exact law_runG KX G.T.g G.T.b G.T.builtins G.T.nolimit hg hobj hints (Nat.le_trans hlen hn2) hr hF hb
    (fun H hO hS => hsp _ H a ns hlen hO hS)
end J

set_option Elab.async false
set_option linter.all false
set_option maxRecDepth 100000
set_option maxHeartbeats 4000000
namespace J
open PySem L2 PyProof.Rows

/-! ### frames -/
def Imm : HO → Prop
  | .tup _ => True
  | .frz _ _ => True
  | _ => False
/-- all but what stands at the addresses S is as it was; tuples and locked things stay in any case -/
structure But (S : List Addr) (H H' : Hp) : Prop where
  keep : ∀ b o, H b = some o → b ∉ S → H' b = some o
  imm : ∀ b o, H b = some o → Imm o → H' b = some o
  live : ∀ b, H b ≠ none → H' b ≠ none
section
variable {S T : List Addr} {H H' H1 H2 : Hp} {a b p : Addr} {o o' : HO} {K : PySem.W.Frag} {xs : List V}
theorem But.refl : But S H H := ⟨fun _ _ e _ => e, fun _ _ e _ => e, fun _ e => e⟩
theorem But.trans (h : But S H H1) (h' : But S H1 H2) : But S H H2 :=
  ⟨fun b o e n => h'.keep b o (h.keep b o e n) n, fun b o e i => h'.imm b o (h.imm b o e i) i, fun b e => h'.live b (h.live b e)⟩
theorem But.sub (h : But S H H') (hs : ∀ s ∈ S, s ∈ T) : But T H H' :=
  ⟨fun b o e n => h.keep b o e fun z => n (hs b z), h.imm, h.live⟩
theorem But.of_same (h : Same H H') : But S H H' := ⟨fun b o e _ => h b o e, fun b o e _ => h b o e, fun b e => by
  cases q : H b with
  | none => exact absurd q e
  | some o => rw [h b o q]; exact fun z => nomatch z⟩
theorem But.same (h : But [] H H') : Same H H' := fun b o e => h.keep b o e (by simp)
theorem But.new (h : H p = none) : But S H (upd H p o) := But.of_same fun b u e => by
  rw [upd_ne (ne_of_none e h)]; exact e
theorem But.write (h : H p = some o) (ni : ¬ Imm o) (hp : p ∈ S) : But S H (upd H p o') :=
  ⟨fun b u e n => by rw [upd_ne (fun z : b = p => n (by rw [z]; exact hp))]; exact e,
   fun b u e i => by
    have hb : b ≠ p := fun z => by subst z; rw [h] at e; cases e; exact ni i
    rw [upd_ne hb]; exact e,
   fun b e => by
    by_cases hb : b = p
    · rw [hb, upd_same]; exact fun z => nomatch z
    · rw [upd_ne hb]; exact e⟩
theorem But.drop (h : But (p :: S) H H') (hp : H p = none) : But S H H' :=
  ⟨fun b o e n => h.keep b o e fun z => (List.mem_cons.mp z).elim (fun q => ne_of_none e hp q) n, h.imm, h.live⟩
theorem But.at (h : But S H H') (e : H a = some o) (n : a ∉ S) : H' a = some o := h.keep a o e n
theorem But.tup (h : But S H H') (e : H a = some (.tup xs)) : H' a = some (.tup xs) := h.imm a _ e trivial
theorem But.free (h : But S H H') (e : H' p = none) : H p = none := Decidable.byContradiction fun q => h.live p q e
theorem But.rdT (h : But S H H') (e : Rd H a (.tup xs)) : Rd H' a (.tup xs) := by
  rcases e with e | ⟨o, e⟩
  · exact .inl (h.imm _ _ e trivial)
  · exact .inr ⟨o, h.imm _ _ e trivial⟩
theorem But.sqT (h : But S H H') (e : SqT K H a xs) : SqT K H' a xs := e.imp h.rdT id
theorem But.rdL (h : But S H H') (e : Rd H a (.lst xs)) (n : a ∉ S) : Rd H' a (.lst xs) := by
  rcases e with e | ⟨o, e⟩
  · exact .inl (h.keep _ _ e n)
  · exact .inr ⟨o, h.imm _ _ e trivial⟩
theorem But.sqL (h : But S H H') (e : SqL K H a xs) (n : a ∉ S) : SqL K H' a xs := e.imp (fun z => h.rdL z n) id
theorem live_of (e : H a = some o) : H a ≠ none := by rw [e]; exact fun z => nomatch z
/-- a store, its heap by a name -/
theorem upd_ex (h : H p = some (.lst xs)) {o' : HO} : ∃ H', upd H p o' = H' ∧ But [p] H H' ∧ H' p = some o' :=
  ⟨_, rfl, But.write h (fun z => z) (by simp), upd_same⟩
theorem upd_exD {kvs : List (Key × V)} (h : H p = some (.dK kvs)) {o' : HO} : ∃ H', upd H p o' = H' ∧ But [p] H H' ∧ H' p = some o' :=
  ⟨_, rfl, But.write h (fun z => z) (by simp), upd_same⟩
theorem upd_exI {C dx : Addr} {fs : List (Str × V)} (h : H p = some (.ins C dx fs)) {o' : HO} : ∃ H', upd H p o' = H' ∧ But [p] H H' ∧ H' p = some o' :=
  ⟨_, rfl, But.write h (fun z => z) (by simp), upd_same⟩
/-- the addresses are in use -/
def Live (S : List Addr) (H : Hp) : Prop := ∀ s ∈ S, H s ≠ none
theorem Live.nil : Live [] H := fun _ z => nomatch z
theorem Live.cons (e : H a = some o) (h : Live S H) : Live (a :: S) H := fun s hs =>
  (List.mem_cons.mp hs).elim (fun q => by rw [q]; exact live_of e) (h s)
theorem Live.but (h : Live S H) (b : But T H H') : Live S H' := fun s hs => b.live s (h s hs)
theorem Live.ne (h : Live S H) (e : H p = none) : p ∉ S := fun z => h p z e
end

section
variable {S T : List Addr} {H H' H1 : Hp} {a b : Addr} {o : HO} {xs : List V} {K : PySem.W.Frag}
theorem ni_cons (h : a ≠ b) (h' : a ∉ S) : a ∉ b :: S := fun z => (List.mem_cons.mp z).elim h h'
theorem same_at (h : Same H H') (e : H a = some o) : H' a = some o := h a o e
theorem but_at (h : But S H H') (e : H a = some o) (n : a ∉ S) : H' a = some o := h.keep a o e n
theorem but_tup (h : But S H H') (e : H a = some (.tup xs)) : H' a = some (.tup xs) := h.tup e
theorem same_sqL (h : Same H H') (e : SqL K H a xs) : SqL K H' a xs := h.seq e
theorem same_sqT (h : Same H H') (e : SqT K H a xs) : SqT K H' a xs := (But.of_same (S := []) h).sqT e
theorem but_sqT (h : But S H H') (e : SqT K H a xs) : SqT K H' a xs := h.sqT e
theorem but_sqL (h : But S H H') (e : SqL K H a xs) (n : a ∉ S) : SqL K H' a xs := h.sqL e n
theorem lv_same (b : Same H H') (h : H a ≠ none) : H' a ≠ none := (But.of_same (S := []) b).live a h
theorem lv_but (b : But S H H') (h : H a ≠ none) : H' a ≠ none := b.live a h
theorem ne_live (h : H a ≠ none) (e : H b = none) : b ≠ a := fun z => h (z ▸ e)
/-- what was in use is in use -/
def Le (H H' : Hp) : Prop := ∀ b, H b ≠ none → H' b ≠ none
theorem Le.refl : Le H H := fun _ h => h
theorem le_same (h : Le H H1) (b : Same H1 H') : Le H H' := fun a e => (But.of_same (S := []) b).live a (h a e)
theorem le_but (h : Le H H1) (b : But T H1 H') : Le H H' := fun a e => b.live a (h a e)
theorem fr_le (h : Le H H') (e : H' a = none) : H a = none := Decidable.byContradiction fun q => h a q e
theorem bt_same (h : But S H H1) (b : Same H1 H') : But S H H' := h.trans (But.of_same b)
theorem bt_but (h : But S H H1) (b : But T H1 H') (c : ∀ t ∈ T, t ∈ S ∨ H t = none) : But S H H' :=
  ⟨fun x o e n => b.keep x o (h.keep x o e n) fun z => (c x z).elim n (fun q => ne_of_none e q rfl),
   fun x o e i => b.imm x o (h.imm x o e i) i, fun x e => b.live x (h.live x e)⟩
theorem sub_nil : ∀ s ∈ ([] : List Addr), s ∈ S := fun _ z => nomatch z
theorem sub_cons (h : a ∈ S) (k : ∀ s ∈ T, s ∈ S) : ∀ s ∈ a :: T, s ∈ S := fun t z => (List.mem_cons.mp z).elim (fun q => q ▸ h) (k t)
theorem bc_nil : ∀ t ∈ ([] : List Addr), t ∈ S ∨ H t = none := fun _ z => nomatch z
theorem bc_in (h : a ∈ S) (k : ∀ t ∈ T, t ∈ S ∨ H t = none) : ∀ t ∈ a :: T, t ∈ S ∨ H t = none :=
  fun t z => (List.mem_cons.mp z).elim (fun q => .inl (q ▸ h)) (k t)
theorem bc_fr (h : H a = none) (k : ∀ t ∈ T, t ∈ S ∨ H t = none) : ∀ t ∈ a :: T, t ∈ S ∨ H t = none :=
  fun t z => (List.mem_cons.mp z).elim (fun q => .inr (q ▸ h)) (k t)
end
/-! ### data: none of its lists is one of S -/
mutual
inductive Dn (K : PySem.W.Frag) (S : List Addr) (H : Hp) : V → PyData → Prop
  | non : Dn K S H .non .none
  | bl (b : Bool) : Dn K S H (.bl b) (.bool b)
  | int (i : Int) : Dn K S H (.int i) (.int i)
  | str (x : Str) : Dn K S H (.str x) (.str x)
  | lst {a : Addr} {xs : List V} {ds : List PyData} : H a = some (.lst xs) → a ∉ S → DnAll K S H xs ds → Dn K S H (.ref a) (.list ds)
  | tup {a : Addr} {xs : List V} {ds : List PyData} : SqT K H a xs → DnAll K S H xs ds → Dn K S H (.ref a) (.tuple ds)
inductive DnAll (K : PySem.W.Frag) (S : List Addr) (H : Hp) : List V → List PyData → Prop
  | nil : DnAll K S H [] []
  | cons {v : V} {vs : List V} {d : PyData} {ds : List PyData} : Dn K S H v d → DnAll K S H vs ds → DnAll K S H (v :: vs) (d :: ds)
end
section
variable {S T : List Addr} {H H' : Hp} {K : PySem.W.Frag} {v : V} {d : PyData} {vs ws : List V} {ds es : List PyData}
theorem Dn.map (hl : ∀ a xs, H a = some (.lst xs) → a ∉ S → H' a = some (.lst xs) ∧ a ∉ T) (ht : ∀ a xs, SqT K H a xs → SqT K H' a xs)
    (h : Dn K S H v d) : Dn K T H' v d := by
  refine Dn.rec (motive_1 := fun v d _ => Dn K T H' v d) (motive_2 := fun vs ds _ => DnAll K T H' vs ds) ?_ ?_ ?_ ?_ ?_ ?_ ?_ ?_ h
  · exact .non
  · exact .bl
  · exact .int
  · exact .str
  · intro a xs ds h1 h2 _ h4
    obtain ⟨q1, q2⟩ := hl a xs h1 h2
    exact .lst q1 q2 h4
  · intro a xs ds h1 _ h3
    exact .tup (ht a xs h1) h3
  · exact .nil
  · intro v vs d ds _ _ h1 h2
    exact .cons h1 h2
theorem DnAll.each (f : ∀ v d, Dn K S H v d → Dn K T H' v d) : ∀ {vs : List V} {ds : List PyData}, DnAll K S H vs ds → DnAll K T H' vs ds
  | _, _, .nil => .nil
  | _, _, .cons h t => .cons (f _ _ h) (DnAll.each f t)
theorem Dn.but (b : But T H H') (h : Dn K S H v d) (hs : ∀ s ∈ T, s ∈ S) : Dn K S H' v d :=
  h.map (fun _ _ r n => ⟨b.at r fun z => n (hs _ z), n⟩) fun _ _ r => b.sqT r
theorem Dn.same (b : Same H H') (h : Dn K S H v d) : Dn K S H' v d := h.but (But.of_same (S := []) b) (by simp)
theorem Dn.sub (h : Dn K S H v d) (hs : ∀ s ∈ T, s ∈ S) : Dn K T H v d := h.map (fun _ _ r n => ⟨r, fun z => n (hs _ z)⟩) fun _ _ r => r
theorem rd_live {a : Addr} {u : HO} (r : Rd H a u) : H a ≠ none := by
  rcases r with r | ⟨o, r⟩ <;> rw [r] <;> exact fun z => nomatch z
theorem Dn.fresh {p : Addr} (h : Dn K S H v d) (hp : H p = none) : Dn K (p :: S) H v d :=
  h.map (fun a _ r n => ⟨r, fun z => (List.mem_cons.mp z).elim (fun q => live_of r (q ▸ hp)) n⟩) fun _ _ r => r
theorem DnAll.but (b : But T H H') (h : DnAll K S H vs ds) (hs : ∀ s ∈ T, s ∈ S) : DnAll K S H' vs ds := h.each fun _ _ q => q.but b hs
theorem DnAll.same (b : Same H H') (h : DnAll K S H vs ds) : DnAll K S H' vs ds := h.each fun _ _ q => q.same b
theorem DnAll.sub (h : DnAll K S H vs ds) (hs : ∀ s ∈ T, s ∈ S) : DnAll K T H vs ds := h.each fun _ _ q => q.sub hs
theorem DnAll.fresh {p : Addr} (h : DnAll K S H vs ds) (hp : H p = none) : DnAll K (p :: S) H vs ds := h.each fun _ _ q => q.fresh hp
theorem DnAll.append : ∀ {vs : List V} {ds : List PyData}, DnAll K S H vs ds → DnAll K S H ws es → DnAll K S H (vs ++ ws) (ds ++ es)
  | _, _, .nil, h => h
  | _, _, .cons h t, h' => .cons h (DnAll.append t h')
theorem DnAll.snoc (h : DnAll K S H vs ds) (h' : Dn K S H v d) : DnAll K S H (vs ++ [v]) (ds ++ [d]) := h.append (.cons h' .nil)
theorem DnAll.length : ∀ {vs : List V} {ds : List PyData}, DnAll K S H vs ds → vs.length = ds.length
  | _, _, .nil => rfl
  | _, _, .cons _ t => congrArg (· + 1) (DnAll.length t)
theorem DnAll.get : ∀ {vs : List V} {ds : List PyData} {i : Nat} {x : V}, DnAll K S H vs ds → vs[i]? = some x → ∃ d, ds[i]? = some d ∧ Dn K S H x d
  | _, _, _, _, .nil, e => by simp at e
  | _, _, 0, _, .cons h _, e => by
    obtain rfl : _ = _ := Option.some.inj e
    exact ⟨_, rfl, h⟩
  | _, _, i + 1, x, .cons _ t, e => by
    obtain ⟨d, h1, h2⟩ := DnAll.get (i := i) t (by simpa using e)
    exact ⟨d, by simpa using h1, h2⟩
theorem DnAll.getD : ∀ {vs : List V} {ds : List PyData} {i : Nat} {d : PyData}, DnAll K S H vs ds → ds[i]? = some d → ∃ x, vs[i]? = some x ∧ Dn K S H x d
  | _, _, _, _, .nil, e => by simp at e
  | _, _, 0, _, .cons h _, e => by
    obtain rfl : _ = _ := Option.some.inj e
    exact ⟨_, rfl, h⟩
  | _, _, i + 1, x, .cons _ t, e => by
    obtain ⟨d, h1, h2⟩ := DnAll.getD (i := i) t (by simpa using e)
    exact ⟨d, by simpa using h1, h2⟩
theorem DnAll.drop : ∀ {vs : List V} {ds : List PyData} (n : Nat), DnAll K S H vs ds → DnAll K S H (vs.drop n) (ds.drop n)
  | _, _, 0, h => h
  | _, _, _ + 1, .nil => .nil
  | _, _, n + 1, .cons _ t => DnAll.drop n t
theorem DnAll.take : ∀ {vs : List V} {ds : List PyData} (n : Nat), DnAll K S H vs ds → DnAll K S H (vs.take n) (ds.take n)
  | _, _, 0, _ => .nil
  | _, _, _ + 1, .nil => .nil
  | _, _, n + 1, .cons h t => .cons h (DnAll.take n t)
theorem DnAll.ints : ∀ {ns : List Int}, DnAll K S H (ns.map V.int) (ns.map PyData.int)
  | [] => .nil
  | _ :: _ => .cons (.int _) DnAll.ints
theorem DnAll.ints_of : ∀ {vs : List V} {ns : List Int}, DnAll K S H vs (ns.map PyData.int) → vs = ns.map V.int
  | _, [], .nil => rfl
  | _, _ :: _, .cons h t => by
    cases h
    exact congrArg _ (DnAll.ints_of t)
theorem DnAll.one (h : Dn K S H v d) : DnAll K S H [v] [d] := .cons h .nil
theorem Dn.dp (h : Dn K S H v d) : Dp K H v d := by
  refine Dn.rec (motive_1 := fun v d _ => Dp K H v d) (motive_2 := fun vs ds _ => DpAll K H vs ds) ?_ ?_ ?_ ?_ ?_ ?_ ?_ ?_ h
  · exact .non
  · exact .bl
  · exact .int
  · exact .str
  · intro a xs ds h1 _ _ h4
    exact .lst (SqL.of h1) h4
  · intro a xs ds h1 _ h3
    exact .tup h1 h3
  · exact .nil
  · intro v vs d ds _ _ h1 h2
    exact .cons h1 h2
end
end J

set_option Elab.async false
set_option linter.all false
set_option maxRecDepth 100000
set_option maxHeartbeats 4000000
namespace J
open PySem L2 PyProof.Rows

/-! ### operators whatever the values' kinds -/
def rCatS : R2 := fun x y H Q => ∃ i j, x = .str i ∧ y = .str j ∧ i.length + j.length ≤ sizeLine ∧ Q (.str (i ++ j)) H
def rAddA (K : PySem.W.Frag) : R2 := fun x y H Q => rI0 (fun i j => .int (i + j)) x y H Q ∨ (rCatS x y H Q ∨ (rCat x y H Q ∨ rCatA K x y H Q))
def rMulA (K : PySem.W.Frag) : R2 := fun x y H Q => rI CMul (fun i j => .int (i * j)) x y H Q ∨ (rRep x y H Q ∨ rRepT K x y H Q)
def rEqA (K : PySem.W.Frag) : R2 := fun x y H Q => rEq x y H Q ∨ rEqD K x y H Q
def rNeA (K : PySem.W.Frag) : R2 := fun x y H Q => rNe x y H Q ∨ rNeD K x y H Q
def rLtS : R2 := fun x y H Q => ∃ i j, x = .str i ∧ y = .str j ∧ Q (.bl (decide (i.cps.toList < j.cps.toList))) H
def rLtA : R2 := fun x y H Q => rI0 (fun i j => .bl (decide (i < j))) x y H Q ∨ rLtS x y H Q
def rInA (K : PySem.W.Frag) : R2 := fun x y H Q => rIn K false x y H Q ∨ rInD K x y H Q
def rNiA (K : PySem.W.Frag) : R2 := fun x y H Q => rIn K true x y H Q ∨ rNotInD K x y H Q
def rIadd : R2 := fun x y H Q => rI0 (fun i j => .int (i + j)) x y H Q ∨ (rCatS x y H Q ∨ rExt2 x y H Q)
theorem units65 {k : Nat} {A : Around} (r : Room k A) : A.units + 65 < cLine := by have := r.un; omega
def rLenA (K : PySem.W.Frag) : List V → Hp → VK → Prop := fun xs H Q => ∃ x n, xs = [x] ∧ LenV K x H n ∧ Q (.int n) H
def rListA (K : PySem.W.Frag) : List V → Hp → VK → Prop := fun xs H Q => ∃ p ys, xs = [.ref p] ∧ (SqL K H p ys ∨ SqT K H p ys) ∧ ∀ l, H l = none → Q (.ref l) (upd H l (.lst ys))
def rTupA (K : PySem.W.Frag) : List V → Hp → VK → Prop := fun xs H Q => ∃ p ys, xs = [.ref p] ∧ ((SqL K H p ys ∧ ∀ l, H l = none → Q (.ref l) (upd H l (.tup ys))) ∨ (SqT K H p ys ∧ Q (.ref p) H))
def tTruA (K : PySem.W.Frag) (ta : TE) : TT := fun σ H R => ta σ H fun x H' => ∃ k, TruV K x H' k ∧ R k H'
def rSlAny (K : PySem.W.Frag) : V → Option Int → Option Int → Hp → VK → Prop := fun x lo hi H Q => rSlL K x lo hi H Q ∨ rSlA K x lo hi H Q
section
variable {X : Cx} {K : PySem.W.Frag}
theorem op_addA (e : X.K = K := by rfl) : OpR X (binaryOp .Add) (rAddA K) := by
  subst e; exact OpR.or op_add (OpR.or op_add_str (OpR.or op_cat op_catA))
theorem op_mulA (e : X.K = K := by rfl) : OpR X (binaryOp .Mult) (rMulA K) := by
  subst e; exact OpR.or op_mul (OpR.or op_rep op_repT)
theorem op_eqA (hu : X.A.units + 64 < cLine) (e : X.K = K := by rfl) : OpR X (compareOp .Eq) (rEqA K) := by
  subst e; exact OpR.or op_eq (op_eqD hu)
theorem op_neA (hu : X.A.units + 64 < cLine) (e : X.K = K := by rfl) : OpR X (compareOp .NotEq) (rNeA K) := by
  subst e; exact OpR.or op_ne (op_neD hu)
theorem op_ltA : OpR X (compareOp .Lt) rLtA := OpR.or op_lt op_lt_str
theorem op_inA (hu : X.A.units + 65 < cLine) (e : X.K = K := by rfl) : OpR X (compareOp .In) (rInA K) := by
  subst e; exact OpR.or op_in_seq (op_inD hu)
theorem op_niA (hu : X.A.units + 65 < cLine) (e : X.K = K := by rfl) : OpR X (compareOp .NotIn) (rNiA K) := by
  subst e; exact OpR.or op_notIn_seq (op_notInD hu)
theorem ip_addA : PIp X .Add rIadd := OpR.or (f := inplaceOp .Add) iop_add (OpR.or (f := inplaceOp .Add) iop_add_str iop_ext)
theorem ip_subA : PIp X .Sub (rI0 fun i j => .int (i - j)) := iop_sub
theorem ix_any (e : X.K = K := by rfl) : IxR X (rIx K) := by subst e; exact ix_seq
theorem sl_any (e : X.K = K := by rfl) : SlR X (rSlAny K) := by subst e; exact SlR.or sl_list sl_tupA
theorem call_lenA (e : X.K = K := by rfl) : CallR X (.builtin "len") (rLenA K) := by subst e; exact call_len
theorem call_listA (e : X.K = K := by rfl) : CallR X (.type "list") (rListA K) := by subst e; exact call_list_of
theorem call_tupleA (e : X.K = K := by rfl) : CallR X (.type "tuple") (rTupA K) := by subst e; exact call_tuple_of
theorem call_reprA (hg : X.A.guards = some []) (hu : X.A.units + 64 < cLine) (e : X.K = K := by rfl) :
    CallR X (.builtin "repr") (rRepr K) := by subst e; exact call_reprD hg hu
theorem call_sortedPA (e : X.K = K := by rfl) : CallR X (.builtin "sorted") (rSortedPO K) := by subst e; exact cr_sortedPO
theorem call_sortedIA (e : X.K = K := by rfl) : CallR X (.builtin "sorted") (rSortedI K) := by subst e; exact cr_sortedI
theorem call_sumA (hc : X.calm = true) (e : X.K = K := by rfl) : CallR X (.builtin "sum") (rSum K) := by subst e; exact cr_sum hc
theorem call_allA (hc : X.calm = true) (e : X.K = K := by rfl) : CallR X (.builtin "all") (rAll K) := by subst e; exact cr_all hc
theorem call_anyA (hc : X.calm = true) (e : X.K = K := by rfl) : CallR X (.builtin "any") (rAny K) := by subst e; exact cr_any hc
theorem pi_lst {tg l : Expr} {tl : TE} (hl : PE X l tl) (e : X.K = K := by rfl) : PI X tg l (iList K tl) := by subst e; exact pi_list hl
theorem pi_tpl {tg l : Expr} {tl : TE} (hl : PE X l tl) (e : X.K = K := by rfl) : PI X tg l (iTup K tl) := by subst e; exact pi_tup hl
theorem pe_fldA {x : Expr} {ta : TE} {f : Str} {pos : Pos} (he : PE X x ta) (hb : attributeBase x f X.env (eval x X.env) = eval x X.env := by rfl)
    (e : X.K = K := by rfl) : PE X (.Attribute x f pos) (tFld K ta f) := by subst e; exact pe_fld he hb
theorem pt_tru {a : Expr} {ta : TE} (ha : PE X a ta) (he : ∀ whole, isTrue a X.env whole = (do let v ← whole; standAt a.pos; holding [v] (truthy v)) := by intro _; rfl)
    (e : X.K = K := by rfl) : PT X a (tTruA K ta) := by subst e; exact pt_truth ha he
theorem pg_tpl {es : List Expr} {k n : Nat} {t : TGs} {pos : Pos} (hc : X.calm = true) (h : PGs X es t)
    (hn : (assignEach es X.env).length = n := by rfl) (hst : (assignEach es X.env).findIdx? (·.1) = none := by rfl)
    (e : X.K = K := by rfl) : PG X (.Tuple es k pos) (gTup K n t) := by subst e; exact pg_tup hc h hn hst
end

section
variable {σ : L2.St} {H H' H1 : Hp} {K : PySem.W.Frag} {Q : VK} {i j : Int} {n : Nat} {v x y : V} {te ta tb : TE} {p q : Addr} {xs ys : List V}
  {D : Ends} {t u : TS} {R : Bool → Hp → Prop}
/-! ### expressions -/
theorem r_var (h : σ[n]? = some (some v)) (k : Q v H) : tVar n σ H Q := ⟨v, h, k⟩
theorem r_c (k : Q v H) : tC v σ H Q := k
theorem r_op {r : R2} (k : ta σ H fun x H1 => tb σ H1 fun y H2 => r x y H2 Q) : tOp r ta tb σ H Q := k
theorem r_un {r : V → Hp → VK → Prop} (k : ta σ H fun x H1 => r x H1 Q) : tUn r ta σ H Q := k
theorem r_I0 {g : Int → Int → V} (k : Q (g i j) H) : rI0 g (.int i) (.int j) H Q := ⟨i, j, rfl, rfl, k⟩
theorem r_I {C : Int → Int → Prop} {g : Int → Int → V} (c : C i j) (k : Q (g i j) H) : rI C g (.int i) (.int j) H Q := ⟨i, j, rfl, rfl, c, k⟩
theorem r_U {g : Int → V} (k : Q (g i) H) : rU g (.int i) H Q := ⟨i, rfl, k⟩
theorem r_addI (k : Q (.int (i + j)) H) : rAddA K (.int i) (.int j) H Q := .inl ⟨i, j, rfl, rfl, k⟩
theorem r_addS {a b : Str} (c : a.length + b.length ≤ sizeLine) (k : Q (.str (a ++ b)) H) : rAddA K (.str a) (.str b) H Q := .inr (.inl ⟨a, b, rfl, rfl, c, k⟩)
theorem r_addL (h1 : H p = some (.lst xs)) (h2 : H q = some (.lst ys)) (c : xs.length + ys.length ≤ sizeLine)
    (k : ∀ l H', H l = none → Same H H' → H' l = some (.lst (xs ++ ys)) → Q (.ref l) H') : rAddA K (.ref p) (.ref q) H Q :=
  .inr (.inr (.inl ⟨p, q, xs, ys, rfl, rfl, h1, h2, c, fun l hl => k l _ hl (But.new (S := []) hl).same upd_same⟩))
theorem r_mulI (c : CMul i j) (k : Q (.int (i * j)) H) : rMulA K (.int i) (.int j) H Q := .inl ⟨i, j, rfl, rfl, c, k⟩
theorem mulL (h : -(2 ^ 64) < i) (h' : i < 2 ^ 64) : CMul i j := .inl ⟨h, h'⟩
theorem mulR (h : -(2 ^ 64) < j) (h' : j < 2 ^ 64) : CMul i j := .inr ⟨h, h'⟩
theorem dec_int : decide (V.int i = V.int j) = decide (i = j) := by
  by_cases h : i = j
  · subst h; simp
  · rw [decide_eq_false h, decide_eq_false fun z => h (V.int.inj z)]
theorem dec_str {a b : Str} : decide (V.str a = V.str b) = decide (a = b) := by
  by_cases h : a = b
  · subst h; simp
  · rw [decide_eq_false h, decide_eq_false fun z => h (V.str.inj z)]
theorem dec_bl {a b : Bool} : decide (V.bl a = V.bl b) = decide (a = b) := by
  by_cases h : a = b
  · subst h; simp
  · rw [decide_eq_false h, decide_eq_false fun z => h (V.bl.inj z)]
theorem r_eqI (k : Q (.bl (decide (i = j))) H) : rEqA K (.int i) (.int j) H Q := .inl ⟨rfl, by rw [dec_int]; exact k⟩
theorem r_eqS {a b : Str} (k : Q (.bl (decide (a = b))) H) : rEqA K (.str a) (.str b) H Q := .inl ⟨rfl, by rw [dec_str]; exact k⟩
theorem r_eqB {a b : Bool} (k : Q (.bl (decide (a = b))) H) : rEqA K (.bl a) (.bl b) H Q := .inl ⟨rfl, by rw [dec_bl]; exact k⟩
theorem r_eqD {d e : PyData} (h1 : Dp K H x d) (h2 : Dp K H y e) (s1 : SeqAt.shaped d = true) (s2 : SeqAt.shaped e = true) (k : Q (.bl (PyData.eqv d e)) H) : rEqA K x y H Q :=
  .inr ⟨d, e, h1, h2, s1, s2, k⟩
theorem r_neI (k : Q (.bl (!decide (i = j))) H) : rNeA K (.int i) (.int j) H Q := .inl ⟨rfl, by rw [dec_int]; exact k⟩
theorem r_neS {a b : Str} (k : Q (.bl (!decide (a = b))) H) : rNeA K (.str a) (.str b) H Q := .inl ⟨rfl, by rw [dec_str]; exact k⟩
theorem r_neB {a b : Bool} (k : Q (.bl (!decide (a = b))) H) : rNeA K (.bl a) (.bl b) H Q := .inl ⟨rfl, by rw [dec_bl]; exact k⟩
theorem r_neD {d e : PyData} (h1 : Dp K H x d) (h2 : Dp K H y e) (s1 : SeqAt.shaped d = true) (s2 : SeqAt.shaped e = true) (k : Q (.bl (!PyData.eqv d e)) H) : rNeA K x y H Q :=
  .inr ⟨d, e, h1, h2, s1, s2, k⟩
theorem r_ltI (k : Q (.bl (decide (i < j))) H) : rLtA (.int i) (.int j) H Q := .inl ⟨i, j, rfl, rfl, k⟩
theorem r_ltS {a b : Str} (k : Q (.bl (decide (a.cps.toList < b.cps.toList))) H) : rLtA (.str a) (.str b) H Q := .inr ⟨a, b, rfl, rfl, k⟩
/-- i in ints -/
theorem inV_int {ns : List Int} {i : Int} : inV (.int i) (ns.map V.int) = decide (i ∈ ns) := by
  unfold inV
  induction ns with
  | nil => rfl
  | cons a l ih =>
    rw [List.map_cons, List.any_cons, ih]
    have e : eqV (V.int a) (V.int i) = decide (a = i) := Bool.beq_eq_decide_eq a i
    rw [e, ← Bool.decide_or]
    exact decide_eq_decide.mpr (by rw [List.mem_cons, eq_comm])
theorem flat_ints (ns : List Int) : (ns.map V.int).all flatV = true := by
  rw [List.all_eq_true]
  intro v hv
  obtain ⟨i, _, rfl⟩ := List.mem_map.mp hv
  rfl
theorem r_inL {ns : List Int} (h : SqL K H p (ns.map V.int)) (k : Q (.bl (decide (i ∈ ns))) H) : rInA K (.int i) (.ref p) H Q :=
  .inl ⟨p, _, rfl, .inl h, rfl, flat_ints ns, by rw [inV_int]; exact k⟩
theorem r_inT {ns : List Int} (h : SqT K H p (ns.map V.int)) (k : Q (.bl (decide (i ∈ ns))) H) : rInA K (.int i) (.ref p) H Q :=
  .inl ⟨p, _, rfl, .inr h, rfl, flat_ints ns, by rw [inV_int]; exact k⟩
theorem r_niL {ns : List Int} (h : SqL K H p (ns.map V.int)) (k : Q (.bl (!decide (i ∈ ns))) H) : rNiA K (.int i) (.ref p) H Q :=
  .inl ⟨p, _, rfl, .inl h, rfl, flat_ints ns, by rw [inV_int]; exact k⟩
theorem r_niT {ns : List Int} (h : SqT K H p (ns.map V.int)) (k : Q (.bl (!decide (i ∈ ns))) H) : rNiA K (.int i) (.ref p) H Q :=
  .inl ⟨p, _, rfl, .inr h, rfl, flat_ints ns, by rw [inV_int]; exact k⟩
/-- subscripts -/
theorem r_ixL (h : SqL K H p xs) (a : atI xs i = some v) (k : Q v H) : rIx K (.ref p) (.int i) H Q := .inl ⟨p, xs, i, v, rfl, rfl, h, a, k⟩
theorem r_ixT (h : SqT K H p xs) (a : atI xs i = some v) (k : Q v H) : rIx K (.ref p) (.int i) H Q := .inr (.inl ⟨p, xs, i, v, rfl, rfl, h, a, k⟩)
/-- displays -/
theorem r_nil {R : List V → Hp → Prop} (k : R [] H) : tNil σ H R := k
theorem r_cons {tr : TA} {R : List V → Hp → Prop} (k : ta σ H fun x H1 => tr σ H1 fun xs H2 => R (x :: xs) H2) : tCons ta tr σ H R := k
def NewT (Q : VK) (xs : List V) (H : Hp) : Prop := xs.length ≤ sizeLine ∧ ∀ p, H p = none → Q (.ref p) (upd H p (.tup xs))
def NewL (Q : VK) (xs : List V) (H : Hp) : Prop := xs.length ≤ sizeLine ∧ ∀ p, H p = none → Q (.ref p) (upd H p (.lst xs))
theorem r_tup {ta : TA} (k : ta σ H fun xs H1 => NewT Q xs H1) : tTup ta σ H Q := k
theorem r_lst {ta : TA} (k : ta σ H fun xs H1 => NewL Q xs H1) : tLst ta σ H Q := k
theorem r_newT (c : xs.length ≤ sizeLine) (k : ∀ p H', H p = none → Same H H' → H' p = some (.tup xs) → Q (.ref p) H') : NewT Q xs H :=
  ⟨c, fun p hp => k p _ hp (But.new (S := []) hp).same upd_same⟩
theorem r_newL (c : xs.length ≤ sizeLine) (k : ∀ p H', H p = none → Same H H' → H' p = some (.lst xs) → Q (.ref p) H') : NewL Q xs H :=
  ⟨c, fun p hp => k p _ hp (But.new (S := []) hp).same upd_same⟩
/-- built-ins -/
theorem r_CB {r : List V → Hp → VK → Prop} {ta : TA} (k : ta σ H fun vs H1 => r vs H1 Q) : tCB r ta σ H Q := k
theorem r_callS {sp : Sp} {E : L2.St → XK} {ta : TA} (k : ta σ H fun vs H1 => sp vs H1 Q (E σ)) : tCallS sp E ta σ H Q := k
theorem r_if {tt : TT} (k : tt σ H fun b H1 => if b = true then ta σ H1 Q else tb σ H1 Q) : tIf tt ta tb σ H Q := k
/-! ### tests -/
theorem r_test (k : te σ H fun x H' => ∃ k, x = .bl k ∧ R k H') : tTest te σ H R := k
theorem r_tB (k : te σ H fun x H' => ∃ k, x = .bl k ∧ R k H') : tB te σ H R := k
theorem r_and {a b : TT} (k : a σ H fun c H1 => if c = true then b σ H1 R else R false H1) : tAnd a b σ H R := k
theorem r_or {a b : TT} (k : a σ H fun c H1 => if c = true then R true H1 else b σ H1 R) : tOr a b σ H R := k
theorem r_not {a : TT} (k : a σ H fun c H1 => R (!c) H1) : tNot a σ H R := k
theorem r_exb {b : Bool} {R : Bool → Prop} (k : R b) : ∃ k, V.bl b = .bl k ∧ R k := ⟨b, rfl, k⟩
theorem r_yes (k : R true H) : tYes σ H R := k
theorem r_ite {P A B : Prop} {dp : Decidable P} (h1 : P → A) (h2 : ¬ P → B) : if decide P = true then A else B := by
  by_cases h : P
  · rw [decide_eq_true h, if_pos rfl]; exact h1 h
  · rw [decide_eq_false h, if_neg Bool.false_ne_true]; exact h2 h
theorem r_iteN {P A B : Prop} {dp : Decidable P} (h1 : ¬ P → A) (h2 : P → B) : if (!decide P) = true then A else B := by
  by_cases h : P
  · rw [decide_eq_true h]
    show if false = true then A else B
    rw [if_neg Bool.false_ne_true]; exact h2 h
  · rw [decide_eq_false h]
    show if true = true then A else B
    rw [if_pos rfl]; exact h1 h
theorem r_iteB {A B : Prop} {b : Bool} (h1 : b = true → A) (h2 : b = false → B) : if b = true then A else B := by
  cases b with
  | true => rw [if_pos rfl]; exact h1 rfl
  | false => rw [if_neg Bool.false_ne_true]; exact h2 rfl
theorem r_iteT {A B : Prop} {b : Bool} (e : b = true) (h : A) : if b = true then A else B := by rw [if_pos e]; exact h
theorem r_iteF {A B : Prop} {b : Bool} (e : b = false) (h : B) : if b = true then A else B := by rw [e, if_neg Bool.false_ne_true]; exact h
/-! ### statements -/
theorem r_seq (k : t { D with nx := u D } σ H) : tSeq t u D σ H := k
theorem r_next (k : D.nx σ H) : tNext D σ H := k
theorem r_brk (k : D.bk σ H) : tBreak D σ H := k
theorem r_cont (k : D.ct σ H) : tCont D σ H := k
theorem r_asg (k : te σ H fun x H1 => D.nx (σ.set n (some x)) H1) : tAsg te (gName n) D σ H := k
theorem r_asgG {g : TG} (k : te σ H fun x H1 => g x σ H1 D.nx) : tAsg te g D σ H := k
theorem r_drop (k : te σ H fun _ H1 => D.nx σ H1) : tDrop te D σ H := k
theorem r_ret (k : te σ H D.rt) : tRet te D σ H := k
theorem r_retN (k : D.rt .non H) : tRetN D σ H := k
theorem r_ifS {c : TT} (k : c σ H fun b H1 => if b = true then t D σ H1 else u D σ H1) : tIfS c t u D σ H := k
theorem r_aug {ti : TIp} (h : σ[n]? = some (some x)) (k : te σ H fun y H1 => ti x y H1 fun z H2 => D.nx (σ.set n (some z)) H2) : tAug n te ti D σ H := ⟨x, h, k⟩
theorem r_iaddI (k : Q (.int (i + j)) H) : rIadd (.int i) (.int j) H Q := .inl ⟨i, j, rfl, rfl, k⟩
/-! ### targets -/
theorem g_name {R : L2.St → Hp → Prop} (k : R (σ.set n (some v)) H) : gName n v σ H R := k
theorem g_tup {tg : TGs} {R : L2.St → Hp → Prop} {m : Nat} (h : SqT K H p xs) (l : xs.length = m) (k : tg xs σ H R) : gTup K m tg (.ref p) σ H R := ⟨p, xs, rfl, h, l, k⟩
theorem g_cons {g : TG} {tg : TGs} {R : L2.St → Hp → Prop} (k : g v σ H fun σ' H' => tg xs σ' H' R) : gCons g tg (v :: xs) σ H R := ⟨v, xs, rfl, k⟩
theorem g_nil {R : L2.St → Hp → Prop} (k : R σ H) : gNil [] σ H R := ⟨rfl, k⟩
theorem g_sub {to ti : TE} {ts : TSet} {R : L2.St → Hp → Prop} (k : to σ H fun o H1 => ti σ H1 fun i H2 => ts o i v H2 fun H3 => R σ H3) : gSub to ti ts v σ H R := k
theorem s_lst {R : Hp → Prop} {m : Nat} (h : H p = some (.lst xs)) (a : ixN xs.length i = some m) (k : ∀ H', But [p] H H' → H' p = some (.lst (xs.set m v)) → R H') : rSetL (.ref p) (.int i) v H R :=
  ⟨p, xs, i, m, rfl, rfl, h, a, k _ (But.write h (fun z => z) (by simp)) upd_same⟩
end
end J

set_option Elab.async false
set_option linter.all false
set_option maxRecDepth 100000
set_option maxHeartbeats 4000000
namespace J
open PySem L2 PyProof.Rows
theorem sz {n : Nat} (h : n ≤ 16777216) : n ≤ sizeLine := by rw [sizeLine_eq]; exact h
theorem szl {n : Nat} (h : n < 16777216) : n < sizeLine := by rw [sizeLine_eq]; exact h
section
variable {σ : L2.St} {H H' H1 : Hp} {K : PySem.W.Frag} {Q : VK} {i j : Int} {n : Nat} {v x y : V} {te ta tb tl : TE} {p q a l : Addr} {xs ys : List V}
  {D : Ends} {t u ts : TS} {R : Bool → Hp → Prop} {g : TG}
/-! ### for -/
abbrev Turn (g : TG) (ts : TS) (D : Ends) (N : L2.St → Hp → Prop) (x : V) (σ : L2.St) (H : Hp) : Prop :=
  g x σ H fun σ2 H2 => ts { D with nx := N, ct := N, bk := D.nx } σ2 H2
def ForL (K : PySem.W.Frag) (g : TG) (ts : TS) (D : Ends) (σ : L2.St) (x : V) (H : Hp) : Prop :=
  ∃ a, x = .ref a ∧ (∃ xs, SqL K H a xs) ∧ ∃ W : Nat → Nat → L2.St → Hp → Prop, (∃ m, W 0 m σ H) ∧ ∀ i m σ H, W i m σ H →
    ((Itl K a).stop i H ∧ D.nx σ H) ∨ ((Itl K a).go i H ∧ ∃ N : L2.St → Hp → Prop, (∀ σ' H', N σ' H' → ∃ m', m' < m ∧ W (i + 1) m' σ' H') ∧
      ∀ x H', (Itl K a).yld i H x H' → Turn g ts D N x σ H')
theorem r_forL (k : tl σ H fun x H1 => ForL K g ts D σ x H1) : tFor (iList K tl) g ts D σ H := k
theorem forL (h : SqL K H a xs) (Pv : Nat → L2.St → Hp → Prop) (h0 : Pv 0 σ H) (hl : ∀ i σ H, i ≤ xs.length → Pv i σ H → SqL K H a xs)
    (hs : ∀ i x σ H, xs[i]? = some x → Pv i σ H → Turn g ts D (Pv (i + 1)) x σ H) (hd : ∀ σ H, Pv xs.length σ H → D.nx σ H) : ForL K g ts D σ (.ref a) H :=
  ⟨a, rfl, ⟨xs, h⟩, for_list Pv h0 hl hs hd⟩
def ForT (K : PySem.W.Frag) (g : TG) (ts : TS) (D : Ends) (σ : L2.St) (x : V) (H : Hp) : Prop :=
  ∃ a, x = .ref a ∧ (∃ xs, SqT K H a xs) ∧ ∃ W : Nat → Nat → L2.St → Hp → Prop, (∃ m, W 0 m σ H) ∧ ∀ i m σ H, W i m σ H →
    ((Itt K a).stop i H ∧ D.nx σ H) ∨ ((Itt K a).go i H ∧ ∃ N : L2.St → Hp → Prop, (∀ σ' H', N σ' H' → ∃ m', m' < m ∧ W (i + 1) m' σ' H') ∧
      ∀ x H', (Itt K a).yld i H x H' → Turn g ts D N x σ H')
theorem r_forT (k : tl σ H fun x H1 => ForT K g ts D σ x H1) : tFor (iTup K tl) g ts D σ H := k
theorem forT (h : SqT K H a xs) (Pv : Nat → L2.St → Hp → Prop) (h0 : Pv 0 σ H) (hl : ∀ i σ H, i ≤ xs.length → Pv i σ H → SqT K H a xs)
    (hs : ∀ i x σ H, xs[i]? = some x → Pv i σ H → Turn g ts D (Pv (i + 1)) x σ H) (hd : ∀ σ H, Pv xs.length σ H → D.nx σ H) : ForT K g ts D σ (.ref a) H :=
  ⟨a, rfl, ⟨xs, h⟩, for_tup Pv h0 hl hs hd⟩
def ForR (g : TG) (ts : TS) (D : Ends) (σ : L2.St) (vs : List V) (H : Hp) : Prop :=
  ∃ j : Int, vs = [.int j] ∧ -(2 ^ 62) ≤ j ∧ j < 2 ^ 62 ∧ ∃ W : Nat → Nat → L2.St → Hp → Prop, (∃ m, W 0 m σ H) ∧ ∀ i m σ H, W i m σ H →
    ((Itr 0 j.toNat).stop i H ∧ D.nx σ H) ∨ ((Itr 0 j.toNat).go i H ∧ ∃ N : L2.St → Hp → Prop, (∀ σ' H', N σ' H' → ∃ m', m' < m ∧ W (i + 1) m' σ' H') ∧
      ∀ x H', (Itr 0 j.toNat).yld i H x H' → Turn g ts D N x σ H')
theorem r_forR {ta : TA} (k : ta σ H fun vs H1 => ForR g ts D σ vs H1) : tFor (iRng1 ta) g ts D σ H := k
theorem forR (b : -(2 ^ 62) ≤ j ∧ j < 2 ^ 62) (Pv : Nat → L2.St → Hp → Prop) (h0 : Pv 0 σ H)
    (hs : ∀ (i : Nat) σ H, (i : Int) < j → Pv i σ H → Turn g ts D (Pv (i + 1)) (.int i) σ H) (hd : ∀ σ H, Pv j.toNat σ H → D.nx σ H) : ForR g ts D σ [.int j] H :=
  ⟨j, rfl, b.1, b.2, for_range Pv h0 (fun i σ H hi p => by
    rw [Int.zero_add]
    exact hs i σ H (by omega) p) hd⟩
def ForR2 (g : TG) (ts : TS) (D : Ends) (σ : L2.St) (vs : List V) (H : Hp) : Prop :=
  ∃ i j : Int, vs = [.int i, .int j] ∧ (-(2 ^ 62) ≤ i ∧ i < 2 ^ 62 ∧ -(2 ^ 62) ≤ j ∧ j < 2 ^ 62) ∧ ∃ W : Nat → Nat → L2.St → Hp → Prop, (∃ m, W 0 m σ H) ∧ ∀ k m σ H, W k m σ H →
    ((Itr i (j - i).toNat).stop k H ∧ D.nx σ H) ∨ ((Itr i (j - i).toNat).go k H ∧ ∃ N : L2.St → Hp → Prop, (∀ σ' H', N σ' H' → ∃ m', m' < m ∧ W (k + 1) m' σ' H') ∧
      ∀ x H', (Itr i (j - i).toNat).yld k H x H' → Turn g ts D N x σ H')
theorem r_forR2 {ta : TA} (k : ta σ H fun vs H1 => ForR2 g ts D σ vs H1) : tFor (iRng2 ta) g ts D σ H := k
theorem forR2 (b : -(2 ^ 62) ≤ i ∧ i < 2 ^ 62 ∧ -(2 ^ 62) ≤ j ∧ j < 2 ^ 62) (Pv : Nat → L2.St → Hp → Prop) (h0 : Pv 0 σ H)
    (hs : ∀ (k : Nat) σ H, i + k < j → Pv k σ H → Turn g ts D (Pv (k + 1)) (.int (i + k)) σ H) (hd : ∀ σ H, Pv (j - i).toNat σ H → D.nx σ H) : ForR2 g ts D σ [.int i, .int j] H :=
  ⟨i, j, rfl, b, for_range Pv h0 (fun k σ H hk p => hs k σ H (by omega) p) hd⟩
/-- enumerate -/
def ForE (K : PySem.W.Frag) (g : TG) (ts : TS) (D : Ends) (σ : L2.St) (vs : List V) (H : Hp) : Prop :=
  ∃ a xs, vs = [.ref a] ∧ SqL K H a xs ∧ ∃ W : Nat → Nat → L2.St → Hp → Prop, (∃ m, W 0 m σ H) ∧ ∀ i m σ H, W i m σ H →
    ((Ite K a).stop i H ∧ D.nx σ H) ∨ ((Ite K a).go i H ∧ ∃ N : L2.St → Hp → Prop, (∀ σ' H', N σ' H' → ∃ m', m' < m ∧ W (i + 1) m' σ' H') ∧
      ∀ x H', (Ite K a).yld i H x H' → Turn g ts D N x σ H')
theorem r_forE {ta : TA} (k : ta σ H fun vs H1 => ForE K g ts D σ vs H1) : tFor (iEnum K ta) g ts D σ H := k
theorem forE (h : SqL K H a xs) (Pv : Nat → L2.St → Hp → Prop) (h0 : Pv 0 σ H) (hl : ∀ i σ H, i ≤ xs.length → Pv i σ H → SqL K H a xs)
    (hs : ∀ i x σ H, xs[i]? = some x → Pv i σ H → ∀ T H', H T = none → Same H H' → H' T = some (.tup [.int (i : Nat), x]) → Turn g ts D (Pv (i + 1)) (.ref T) σ H')
    (hd : ∀ σ H, Pv xs.length σ H → D.nx σ H) : ForE K g ts D σ [.ref a] H := by
  refine ⟨a, xs, rfl, h, fun i m σ H => m = xs.length - i ∧ i ≤ xs.length ∧ Pv i σ H, ⟨_, rfl, Nat.zero_le _, h0⟩, ?_⟩
  rintro i m σ H ⟨rfl, hi, p⟩
  have q := hl i σ H hi p
  by_cases hlt : i < xs.length
  · refine .inr ⟨⟨xs, xs[i], q, by simp [hlt]⟩, Pv (i + 1), fun σ' H' p' => ⟨xs.length - (i + 1), by omega, rfl, hlt, p'⟩, fun x H' y => ?_⟩
    obtain ⟨T, z, rfl, hT, rfl, e⟩ := y
    exact hs i z σ H (e xs q) p T _ hT (But.new (S := []) hT).same upd_same
  · have e : i = xs.length := by omega
    subst e
    exact .inl ⟨⟨xs, q, Nat.le_refl _⟩, hd σ H p⟩
/-! ### comprehensions -/
/-- one turn of a comprehension: l the new list -/
abbrev LTurn (g : TG) (tt : TT) (te : TE) (vs : List Nat) (l : Addr) (N : Hp → Prop) (x : V) (σ : L2.St) (H : Hp) : Prop :=
  g x (wipe σ vs) H fun σ2 H2 => wipe σ2 vs = wipe σ vs ∧ tt σ2 H2 fun b H3 =>
    if b = true then te σ2 H3 fun y H4 => ∃ acc, H4 l = some (.lst acc) ∧ acc.length < sizeLine ∧ N (upd H4 l (.lst (acc ++ [y]))) else N H3
abbrev LcG (J : It) (g : TG) (tt : TT) (te : TE) (vs : List Nat) (σ : L2.St) (Q : VK) (H : Hp) : Prop :=
  ∀ l, H l = none → ∃ W : Nat → Nat → Hp → Prop, (∃ m, W 0 m (upd H l (.lst []))) ∧ ∀ i m H, W i m H →
    (J.stop i H ∧ Q (.ref l) H) ∨ (J.go i H ∧ ∃ N : Hp → Prop, (∀ H', N H' → ∃ m', m' < m ∧ W (i + 1) m' H') ∧ ∀ x H', J.yld i H x H' → LTurn g tt te vs l N x σ H')
def LcL (K : PySem.W.Frag) (g : TG) (tt : TT) (te : TE) (vs : List Nat) (σ : L2.St) (Q : VK) (x : V) (H : Hp) : Prop :=
  ∃ a, x = .ref a ∧ (∃ xs, SqL K H a xs) ∧ LcG (Itl K a) g tt te vs σ Q H
theorem r_lcL {tt : TT} {vs : List Nat} (k : tl σ H fun x H1 => LcL K g tt te vs σ Q x H1) : tLc (iList K tl) g tt te vs σ H Q := k
theorem lcL {tt : TT} {vs : List Nat} (h : SqL K H a xs) (mk : ∀ l H0, H l = none → Same H H0 → H0 l = some (.lst []) → ∃ Pv : Nat → Hp → Prop, Pv 0 H0 ∧ (∀ i H, i ≤ xs.length → Pv i H → SqL K H a xs) ∧
      (∀ i x H, xs[i]? = some x → Pv i H → LTurn g tt te vs l (Pv (i + 1)) x σ H) ∧ ∀ H, Pv xs.length H → Q (.ref l) H) : LcL K g tt te vs σ Q (.ref a) H := by
  refine ⟨a, rfl, ⟨xs, h⟩, fun l hl => ?_⟩
  obtain ⟨Pv, h0, h1, h2, h3⟩ := mk l _ hl (But.new (S := []) hl).same upd_same
  exact lc_list Pv h0 h1 h2 h3
def LcT (K : PySem.W.Frag) (g : TG) (tt : TT) (te : TE) (vs : List Nat) (σ : L2.St) (Q : VK) (x : V) (H : Hp) : Prop :=
  ∃ a, x = .ref a ∧ (∃ xs, SqT K H a xs) ∧ LcG (Itt K a) g tt te vs σ Q H
theorem r_lcT {tt : TT} {vs : List Nat} (k : tl σ H fun x H1 => LcT K g tt te vs σ Q x H1) : tLc (iTup K tl) g tt te vs σ H Q := k
theorem lcT {tt : TT} {vs : List Nat} (h : SqT K H a xs) (mk : ∀ l H0, H l = none → Same H H0 → H0 l = some (.lst []) → ∃ Pv : Nat → Hp → Prop, Pv 0 H0 ∧ (∀ i H, i ≤ xs.length → Pv i H → SqT K H a xs) ∧
      (∀ i x H, xs[i]? = some x → Pv i H → LTurn g tt te vs l (Pv (i + 1)) x σ H) ∧ ∀ H, Pv xs.length H → Q (.ref l) H) : LcT K g tt te vs σ Q (.ref a) H := by
  refine ⟨a, rfl, ⟨xs, h⟩, fun l hl => ?_⟩
  obtain ⟨Pv, h0, h1, h2, h3⟩ := mk l _ hl (But.new (S := []) hl).same upd_same
  exact lc_tup Pv h0 h1 h2 h3
/-- what an element's evaluation leaves: the list one item longer -/
theorem lc_put {N : Hp → Prop} (h : H l = some (.lst xs)) (c : xs.length < sizeLine) (k : ∀ H', But [l] H H' → H' l = some (.lst (xs ++ [y])) → N H') :
    ∃ acc, H l = some (.lst acc) ∧ acc.length < sizeLine ∧ N (upd H l (.lst (acc ++ [y]))) :=
  ⟨xs, h, c, k _ (But.write h (fun z => z) (by simp)) upd_same⟩
theorem r_and2 {A B : Prop} (h : A) (k : B) : A ∧ B := ⟨h, k⟩
/-! ### methods of lists -/
theorem r_bm {T : String} {r : V → List V → Hp → VK → Prop} {to : TE} {ta : TA} (k : to σ H fun x H1 => tyV K T x H1 ∧ ta σ H1 fun xs H2 => r x xs H2 Q) : tBM K T r to ta σ H Q := k
theorem r_bm0 {T : String} {r : V → List V → Hp → VK → Prop} {to : TE} (k : to σ H fun x H1 => tyV K T x H1 ∧ r x [] H1 Q) : tBM0 K T r to σ H Q := k
theorem r_tyL {B : Prop} (h : SqL K H p xs) (k : B) : tyV K "list" (.ref p) H ∧ B := ⟨.inl ⟨rfl, xs, h⟩, k⟩
theorem r_app (h : H l = some (.lst xs)) (c : xs.length < sizeLine) (k : ∀ H', But [l] H H' → H' l = some (.lst (xs ++ [v])) → Q .non H') : rAppend (.ref l) [v] H Q :=
  ⟨l, xs, v, rfl, rfl, h, c, k _ (But.write h (fun z => z) (by simp)) upd_same⟩
theorem r_ext (h : H l = some (.lst xs)) (h' : H p = some (.lst ys)) (c : xs.length + ys.length ≤ sizeLine) (k : ∀ H', But [l] H H' → H' l = some (.lst (xs ++ ys)) → Q (.ref l) H') : rIadd (.ref l) (.ref p) H Q :=
  .inr (.inr ⟨l, p, xs, ys, rfl, rfl, h, h', c, k _ (But.write h (fun z => z) (by simp)) upd_same⟩)
/-! ### built-ins -/
theorem r_lenL (h : SqL K H p xs) (k : Q (.int xs.length) H) : rLenA K [.ref p] H Q := ⟨_, _, rfl, .inl ⟨xs, h, rfl⟩, k⟩
theorem r_lenT (h : SqT K H p xs) (k : Q (.int xs.length) H) : rLenA K [.ref p] H Q := ⟨_, _, rfl, .inr ⟨xs, h, rfl⟩, k⟩
theorem r_lenS {z : Str} (c : z.length ≤ sizeLine) (k : Q (.int z.length) H) : rLenA K [.str z] H Q := ⟨_, _, rfl, ⟨c, rfl⟩, k⟩
theorem r_intI (k : Q (.int i) H) : (∃ j, [V.int i] = [.int j] ∧ Q (.int j) H) ∨ ∃ b, [V.int i] = [.bl b] ∧ Q (.int (if b then 1 else 0)) H := .inl ⟨i, rfl, k⟩
theorem r_slL {lo hi : Option Int} (h : SqL K H p xs) (k : ∀ l H', H l = none → Same H H' → H' l = some (.lst (cutV xs lo hi)) → Q (.ref l) H') : rSlAny K (.ref p) lo hi H Q :=
  .inl ⟨p, xs, rfl, h, fun l hl => k l _ hl (But.new (S := []) hl).same upd_same⟩
theorem r_tupleL (h : SqL K H p xs) (k : ∀ l H', H l = none → Same H H' → H' l = some (.tup xs) → Q (.ref l) H') : rTupA K [.ref p] H Q :=
  ⟨p, xs, rfl, .inl ⟨h, fun l hl => k l _ hl (But.new (S := []) hl).same upd_same⟩⟩
theorem r_listL (h : SqL K H p xs) (k : ∀ l H', H l = none → Same H H' → H' l = some (.lst xs) → Q (.ref l) H') : rListA K [.ref p] H Q :=
  ⟨p, xs, rfl, .inl h, fun l hl => k l _ hl (But.new (S := []) hl).same upd_same⟩
theorem r_repr {d : PyData} (h : Dp K H x d) (s : d.showable = true) (e : d.depth ≤ 60) (c : d.shown.length ≤ sizeLine) (k : Q (.str d.shown) H) : rRepr K [x] H Q := ⟨x, d, rfl, h, s, e, c, k⟩
end
end J

set_option Elab.async false
set_option linter.all false
set_option maxRecDepth 100000
set_option maxHeartbeats 4000000
namespace J
open PySem L2 PyProof.Rows
theorem listText_le (ts : List Str) : (listText ts).length ≤ piled ts + 2 := by
  have e1 : (listText ts).length = (textFrom 0 "[" ts).length + 1 := by
    show (textFrom 0 "[" ts ++ "]").length = _
    rw [strLen_append]
    rfl
  cases ts with
  | nil => rw [e1]; decide
  | cons t r =>
    have h := textFrom_length_pos r 1 (("[" : Str) ++ (if (0 : Nat) > 0 then ", " else "" : String) ++ t) (Nat.succ_pos 0)
    have e2 : ((("[" : Str) ++ (if (0 : Nat) > 0 then ", " else "" : String) ++ t)).length = 1 + t.length := by
      rw [strLen_append, strLen_append]; rfl
    have e3 : textFrom 0 "[" (t :: r) = textFrom 1 (("[" : Str) ++ (if (0 : Nat) > 0 then ", " else "" : String) ++ t) r := rfl
    rw [e1, e3, h, e2, piled_cons]
    omega
theorem tupleText_le (ts : List Str) : (tupleText ts).length ≤ piled ts + 3 := by
  have e3 : (((if ts.length == 1 then ",)" else ")" : String) : Str)).length ≤ 2 := by split <;> decide +kernel
  have e1 : ((("(" : String) : Str)).length = 1 := rfl
  unfold tupleText
  rw [strLen_append, strLen_append, e1]
  by_cases h : ts = []
  · subst h
    decide +kernel
  · have := join_length_add ts h
    omega
/-- bounds of data: for repr, for ==: its text at most n signs, at most k deep -/
structure Ok (n k : Nat) (d : PyData) : Prop where
  lay : d.canLay0 = true
  show_ : d.showable = true
  dep : d.depth ≤ k
  len : d.shown.length ≤ n
structure OkAll (n k : Nat) (ds : List PyData) : Prop where
  all : ∀ d ∈ ds, Ok n k d
theorem Ok.mono {n k n' k' : Nat} {d : PyData} (h : Ok n k d) (hn : n ≤ n') (hk : k ≤ k') : Ok n' k' d :=
  ⟨h.lay, h.show_, Nat.le_trans h.dep hk, Nat.le_trans h.len hn⟩
theorem Ok.shaped {n k : Nat} {d : PyData} (h : Ok n k d) (hk : k ≤ 60) : SeqAt.shaped d = true := by
  have := h.dep
  unfold SeqAt.shaped
  rw [h.lay, decide_eq_true (by omega)]
  rfl
theorem Ok.eqv {n k : Nat} {d : PyData} (h : Ok n k d) : PyData.eqv d d = true := SeqAt.eqv_refl d h.lay
theorem okNone : Ok 4 0 .none := ⟨rfl, rfl, Nat.le_refl _, by decide +kernel⟩
theorem okBool (b : Bool) : Ok 5 0 (.bool b) := ⟨rfl, rfl, Nat.le_refl _, by cases b <;> decide +kernel⟩
theorem okInt {i : Int} {m : Nat} (h : i.natAbs < 2 ^ m) (hm : m ≤ 1900) : Ok (m + 2) 0 (.int i) := by
  by_cases h0 : i.natAbs = 0
  · have e : i = 0 := by omega
    subst e
    refine ⟨rfl, by decide, Nat.le_refl _, ?_⟩
    have : ((PyData.int 0).shown).length = 1 := by decide +kernel
    omega
  · have h1 : i.natAbs.log2 < m := (Nat.log2_lt h0).mpr h
    refine ⟨rfl, ?_, Nat.le_refl _, ?_⟩
    · show decide (i.natAbs.log2 < 1920) = true
      exact decide_eq_true (by omega)
    · have h2 := int_text_length_le (a := i) (k := m) (by omega) h1
      have e : ((PyData.int i).shown).length = (toString i).length := by
        simp only [PyData.shown]
        exact PySem.ofString_length _
      omega
theorem okStr {x : Str} {n : Nat} (h : PyData.strOk x = true) (hl : (reprText x).length ≤ n) : Ok n 0 (.str x) := ⟨h, rfl, Nat.le_refl _, hl⟩
theorem all_lay {n k : Nat} : ∀ {ds : List PyData}, OkAll n k ds → PyData.canLayAll0 ds = true
  | [], _ => rfl
  | d :: ds, h => by
    show (d.canLay0 && PyData.canLayAll0 ds) = true
    rw [(h.all d List.mem_cons_self).lay, all_lay ⟨fun e he => h.all e (List.mem_cons_of_mem _ he)⟩]
    rfl
theorem all_show {n k : Nat} : ∀ {ds : List PyData}, OkAll n k ds → PyData.showableAll ds = true
  | [], _ => rfl
  | d :: ds, h => by
    show (d.showable && PyData.showableAll ds) = true
    rw [(h.all d List.mem_cons_self).show_, all_show ⟨fun e he => h.all e (List.mem_cons_of_mem _ he)⟩]
    rfl
theorem all_dep {n k : Nat} : ∀ {ds : List PyData}, OkAll n k ds → PyData.depthAll ds ≤ k
  | [], _ => Nat.zero_le _
  | d :: ds, h => Nat.max_le.mpr ⟨(h.all d List.mem_cons_self).dep, all_dep ⟨fun e he => h.all e (List.mem_cons_of_mem _ he)⟩⟩
theorem all_len {n k : Nat} : ∀ {ds : List PyData}, OkAll n k ds → piled (PyData.shownAll ds) ≤ ds.length * (n + 2)
  | [], _ => Nat.zero_le _
  | d :: ds, h => by
    have h1 := (h.all d List.mem_cons_self).len
    have h2 := all_len (n := n) (k := k) (ds := ds) ⟨fun e he => h.all e (List.mem_cons_of_mem _ he)⟩
    show piled (d.shown :: PyData.shownAll ds) ≤ _
    rw [piled_cons, List.length_cons, Nat.add_mul]
    omega
theorem okList {n k m : Nat} {ds : List PyData} (h : OkAll n k ds) (hm : ds.length ≤ m) : Ok (m * (n + 2) + 2) (k + 1) (.list ds) := by
  refine ⟨all_lay h, all_show h, Nat.succ_le_succ (all_dep h), ?_⟩
  have h1 := listText_le (PyData.shownAll ds)
  have h2 := all_len h
  have h3 : ds.length * (n + 2) ≤ m * (n + 2) := Nat.mul_le_mul_right _ hm
  simp only [PyData.shown]
  omega
theorem okTup {n k m : Nat} {ds : List PyData} (h : OkAll n k ds) (hm : ds.length ≤ m) : Ok (m * (n + 2) + 3) (k + 1) (.tuple ds) := by
  refine ⟨all_lay h, all_show h, Nat.succ_le_succ (all_dep h), ?_⟩
  have h1 := tupleText_le (PyData.shownAll ds)
  have h2 := all_len h
  have h3 : ds.length * (n + 2) ≤ m * (n + 2) := Nat.mul_le_mul_right _ hm
  simp only [PyData.shown]
  omega
theorem OkAll.nil {n k : Nat} : OkAll n k [] := ⟨fun _ h => nomatch h⟩
theorem OkAll.cons {n k : Nat} {d : PyData} {ds : List PyData} (h : Ok n k d) (t : OkAll n k ds) : OkAll n k (d :: ds) :=
  ⟨fun e he => (List.mem_cons.mp he).elim (fun q => q ▸ h) (t.all e)⟩
theorem OkAll.append {n k : Nat} {ds es : List PyData} (h : OkAll n k ds) (t : OkAll n k es) : OkAll n k (ds ++ es) :=
  ⟨fun e he => (List.mem_append.mp he).elim (h.all e) (t.all e)⟩
theorem OkAll.map {α : Type} {n k : Nat} {f : α → PyData} {xs : List α} (h : ∀ x ∈ xs, Ok n k (f x)) : OkAll n k (xs.map f) :=
  ⟨fun e he => by obtain ⟨x, hx, rfl⟩ := List.mem_map.mp he; exact h x hx⟩
section
variable {K : PySem.W.Frag} {S : List Addr} {H : Hp} {v : V} {ds : List PyData} {vs : List V} {d : PyData}
theorem Dn.tup_inv (h : Dn K S H v (.tuple ds)) : ∃ a xs, v = .ref a ∧ SqT K H a xs ∧ DnAll K S H xs ds := by
  cases h with
  | tup h1 h2 => exact ⟨_, _, rfl, h1, h2⟩
theorem Dn.lst_inv (h : Dn K S H v (.list ds)) : ∃ a xs, v = .ref a ∧ H a = some (.lst xs) ∧ a ∉ S ∧ DnAll K S H xs ds := by
  cases h with
  | lst h1 h2 h3 => exact ⟨_, _, rfl, h1, h2, h3⟩
theorem Dn.int_inv {i : Int} (h : Dn K S H v (.int i)) : v = .int i := by
  cases h; rfl
theorem Dn.str_inv {x : Str} (h : Dn K S H v (.str x)) : v = .str x := by
  cases h; rfl
theorem DnAll.nil_inv (h : DnAll K S H vs []) : vs = [] := by
  cases h; rfl
theorem DnAll.cons_inv (h : DnAll K S H vs (d :: ds)) : ∃ w ws, vs = w :: ws ∧ Dn K S H w d ∧ DnAll K S H ws ds := by
  cases h with
  | cons h1 h2 => exact ⟨_, _, rfl, h1, h2⟩
end
section
variable {K : PySem.W.Frag} {S T : List Addr} {H H' : Hp} {v : V} {ds : List PyData} {vs : List V} {d : PyData}
theorem dn_same (b : Same H H') (h : Dn K S H v d) : Dn K S H' v d := h.same b
theorem dn_but (b : But T H H') (h : Dn K S H v d) (hs : ∀ s ∈ T, s ∈ S) : Dn K S H' v d := h.but b hs
theorem da_same (b : Same H H') (h : DnAll K S H vs ds) : DnAll K S H' vs ds := h.same b
theorem da_but (b : But T H H') (h : DnAll K S H vs ds) (hs : ∀ s ∈ T, s ∈ S) : DnAll K S H' vs ds := h.but b hs
end
/-! ### data without lists -/
mutual
def noL : PyData → Bool
  | .list _ => false
  | .tuple xs => noLs xs
  | .dict _ => false
  | _ => true
def noLs : List PyData → Bool
  | [] => true
  | x :: xs => noL x && noLs xs
end
theorem Dn.any {K : PySem.W.Frag} {S T : List Addr} {H : Hp} {v : V} {d : PyData} (h : Dn K S H v d) (n : noL d = true) : Dn K T H v d := by
  refine Dn.rec (motive_1 := fun v d _ => noL d = true → Dn K T H v d) (motive_2 := fun vs ds _ => noLs ds = true → DnAll K T H vs ds) ?_ ?_ ?_ ?_ ?_ ?_ ?_ ?_ h n
  · exact fun _ => .non
  · exact fun b _ => .bl b
  · exact fun i _ => .int i
  · exact fun x _ => .str x
  · intro a xs ds _ _ _ _ q
    simp [noL] at q
  · intro a xs ds h1 _ ih q
    exact .tup h1 (ih (by simpa [noL] using q))
  · exact fun _ => .nil
  · intro v vs d ds _ _ h1 h2 q
    have q' : noL d = true ∧ noLs ds = true := by simpa [noLs] using q
    exact .cons (h1 q'.1) (h2 q'.2)
theorem DnAll.any {K : PySem.W.Frag} {S T : List Addr} {H : Hp} {vs : List V} {ds : List PyData} (h : DnAll K S H vs ds) (n : noLs ds = true) : DnAll K T H vs ds := by
  induction ds generalizing vs with
  | nil =>
    cases h
    exact .nil
  | cons d ds ih =>
    cases h with
    | cons h1 h2 =>
      have n' : noL d = true ∧ noLs ds = true := by simpa [noLs] using n
      exact .cons (h1.any n'.1) (ih h2 n'.2)
end J

set_option Elab.async false
set_option linter.all false
set_option maxRecDepth 100000
set_option maxHeartbeats 4000000
namespace J
open PySem PySem.Spec L2 L2.DX PyProof.Rows
/-! ### pairs of ints, sorted -/
def pairD (q : Int × Int) : PyData := .tuple [.int q.1, .int q.2]
/-- not after -/
abbrev Lex (x y : Int × Int) : Prop := SrtO.lexB y x = false
def PairAt (H : Hp) (x : V) (q : Int × Int) : Prop := ∃ t, x = .ref t ∧ H t = some (.tup [.int q.1, .int q.2])
def pairK (H : Hp) : V → Int × Int
  | .ref t => match H t with
    | some (.tup [.int i, .int j]) => (i, j)
    | _ => (0, 0)
  | _ => (0, 0)
theorem pairK_of {H : Hp} {x : V} {q : Int × Int} (h : PairAt H x q) : pairK H x = q := by
  obtain ⟨t, rfl, e⟩ := h
  show (match H t with | some (.tup [.int i, .int j]) => (i, j) | _ => ((0, 0) : Int × Int)) = q
  rw [e]
theorem pairK_map {H : Hp} : ∀ {xs : List V} {qs : List (Int × Int)}, Paired (PairAt H) xs qs → xs.map (pairK H) = qs
  | _, _, .nil => rfl
  | _, _, .cons h t => by rw [List.map_cons, pairK_of h, pairK_map t]
theorem pair_mem {H : Hp} : ∀ {xs : List V} {qs : List (Int × Int)}, Paired (PairAt H) xs qs → ∀ x ∈ xs, PairAt H x (pairK H x)
  | _, _, .cons h t, x, hx => by
    rcases List.mem_cons.mp hx with e | hx
    · subst e
      rw [pairK_of h]; exact h
    · exact pair_mem t x hx
theorem pairs_dn {K : PySem.W.Frag} {H H' : Hp} (s : Same H H') : ∀ {ys : List V}, (∀ y ∈ ys, PairAt H y (pairK H y)) → DnAll K [] H' ys ((ys.map (pairK H)).map pairD)
  | [], _ => .nil
  | y :: ys, h => by
    obtain ⟨t, e, ht⟩ := h y List.mem_cons_self
    refine .cons ?_ (pairs_dn s fun z hz => h z (List.mem_cons_of_mem _ hz))
    have e2 : Dn K [] H' (.ref t) (pairD (pairK H y)) := .tup (SqT.of (s _ _ ht)) (.cons (.int _) (.one (.int _)))
    rw [← e] at e2
    exact e2
/-- what sorted gives -/
def SortedTo (K : PySem.W.Frag) (Q : VK) (kvs : List (Int × Int)) (H : Hp) : Prop :=
  ∀ (l : Addr) (zs : List (Int × Int)) (ys : List V) (H' : Hp), H l = none → Same H H' → H' l = some (.lst ys) → DnAll K [] H' ys (zs.map pairD) → zs.Perm kvs → zs.Pairwise Lex → Q (.ref l) H'
theorem sorted_to {K : PySem.W.Frag} {Q : VK} {kvs : List (Int × Int)} {H H1 H2 : Hp} {xs ys : List V} {l : Addr} (k : SortedTo K Q kvs H) (s1 : Same H H1) (hx : Paired (PairAt H1) xs kvs)
    (h1 : SrtO.Srtd (ltP (pairK H1)) ys) (h2 : SrtO.Stb (ltP (pairK H1)) ys xs) (hl : H l = none) (s2 : Same H1 H2) (hl2 : H2 l = some (.lst ys)) : Q (.ref l) H2 := by
  refine k l (ys.map (pairK H1)) ys H2 hl (fun b o e => s2 b o (s1 b o e)) hl2 (pairs_dn s2 fun y hy => ?_) ?_ ?_
  · exact pair_mem hx y (h2.perm.mem_iff.mp hy)
  · rw [← pairK_map hx]
    exact h2.perm.map _
  · exact List.pairwise_map.mpr h1
section
variable {K : PySem.W.Frag} {H : Hp} {Q : VK} {p : Addr} {xs : List V} {kvs : List (Int × Int)}
theorem r_sortedP (h : SqL K H p xs) (hx : Paired (PairAt H) xs kvs) (k : SortedTo K Q kvs H) : rSortedPO K [.ref p] H Q :=
  ⟨p, xs, pairK H, rfl, h, pair_mem hx, fun ys l h1 h2 hl => sorted_to k (fun _ _ e => e) hx h1 h2 hl (But.new (S := []) hl).same upd_same⟩
end
/-! ### d.items(), d with int keys and int values -/
def intKV (kvs : List (Int × Int)) : List (L2.Key × V) := kvs.map fun q => (.inl q.1, .int q.2)
def rItemsK : V → List V → Hp → VK → Prop := fun x xs H Q => ∃ (a : Addr) (kvs : List (L2.Key × V)), x = .ref a ∧ xs = [] ∧ H a = some (.dK kvs) ∧ ∀ p, H p = none → Q (.ref p) (upd H p (itemsO p a))
section
variable {X : Cx}
theorem mt_itemsK : MtR X "dict.items" rItemsK := by
  intro pins s σ H x xs v us Q I rx rxs h
  obtain ⟨a, kvs, rfl, rfl, ha, q⟩ := h
  cases rx
  cases rxs
  obtain ⟨hz, hs0, vs, kv, hdo⟩ := I.hok a _ ha
  have hf : H s.heap.objs.size = none := I.hok.fresh (Nat.le_refl _)
  have e : EP X pins σ Q (.ref s.heap.objs.size) { s with heap := s.heap.push { cls := .type "dict_items", data := .fields #[.ref a] } } :=
    ⟨.ref s.heap.objs.size, upd H s.heap.objs.size (itemsO s.heap.objs.size a), I.laid (t' := s.toks) (fun b u e => Heap.get?_push_of_some _ e) (Nat.le_refl _) (itemsO_ok (Heap.get?_push_size _ rfl)), rfl, q _ hf⟩
  exact call_meetsIn F.slot_dict_items hdo.typeIs F.entry_dict_items (F.args_dict_items_1 _) (meets_dict_items (mixKind X.prog X.w) a hs0) ⟨⟨vs, hdo⟩, e⟩
/-- the invariant elsewhere -/
theorem inv_around {pins : List (Addr × Obj)} {σ : L2.St} {H : Hp} {s : Shared} (I : Inv X pins σ H s) (A' : Around) (h1 : A'.handled = X.A.handled) (h2 : A'.frames = X.A.frames) :
    Inv { X with A := A' } pins σ H s :=
  ⟨⟨I.ok.mod, I.ok.kind, I.ok.glob, I.ok.blt, I.ok.above, I.ok.inj, I.ok.has, I.ok.cab, fun c => h1.trans (I.ok.hd c), h2.trans I.ok.frames, I.ok.stk, I.ok.exf, I.ok.bs, I.ok.bsz, I.ok.noex, I.ok.exfs, I.ok.funs, I.ok.frf⟩,
   I.os, I.bare, I.base, I.loc, I.cell, I.free, I.freeC, I.pin, I.hok, I.len⟩
theorem inv_back {A' : Around} {pins : List (Addr × Obj)} {σ : L2.St} {H : Hp} {s : Shared} (I : Inv { X with A := A' } pins σ H s) (h1 : A'.handled = X.A.handled) (h2 : A'.frames = X.A.frames) :
    Inv X pins σ H s := inv_around (X := { X with A := A' }) I X.A h1.symm h2.symm
/-- the tuples and the list of them, tracked -/
theorem items_laid2 {pins : List (Addr × Obj)} {σ : L2.St} {H : Hp} {s : Shared} {h' : Heap} {tk S : Nat} {kvs : List (L2.Key × V)} {vs : List (L2.Key × Value)} {as : List Addr} (I : Inv X pins σ H s) (hz : kvs.length ≤ sizeLine) (kv : KV kvs vs)
    (hk : ∀ b o, s.heap.get? b = some o → h'.get? b = some o) (hS : h'.get? S = some { cls := .type "list", data := .seq (as.map Value.ref).toArray }) (hSl : s.heap.objs.size ≤ S) (hSn : S ∉ as) (hl : as.length = vs.length) (hG : PySem.W.KdxG (mixKind X.prog X.w) vs s.heap.objs.size h' as) :
    ∃ H' : Hp, Same H H' ∧ H S = none ∧ H' S = some (.lst (as.map V.ref)) ∧ Paired (fun (t : Addr) (q : L2.Key × V) => H' t = some (.tup [kV q.1, q.2])) as kvs ∧ Inv X pins σ H' { s with heap := h', toks := tk } := by
  have lk : kvs.length = vs.length := Paired.length kv
  have nd : as.Nodup := List.Pairwise.imp (fun {a b} (h : a < b) => Nat.ne_of_lt h) hG.rise
  have new : ∀ t ∈ as, H t = none := fun t ht => I.hok.fresh (Nat.le_of_lt (hG.above t ht))
  have newS : H S = none := I.hok.fresh hSl
  have atP := LiI.putT_at as kvs (upd H S (.lst (as.map V.ref))) (by omega) nd
  have off : ∀ b, b ∉ as → b ≠ S → LiI.putT (upd H S (.lst (as.map V.ref))) as kvs b = H b := fun b h1 h2 => by rw [LiI.putT_off as kvs _ h1, upd_ne h2]
  have low : ∀ b o, s.heap.get? b = some o → b ∉ as ∧ b ≠ S := fun b o e => ⟨fun z => absurd (Heap.lt_size e) (Nat.not_lt.mpr (Nat.le_of_lt (hG.above b z))), Nat.ne_of_lt (Nat.lt_of_lt_of_le (Heap.lt_size e) hSl)⟩
  have kp : ∀ b u, H b = some u → (LiI.putT (upd H S (.lst (as.map V.ref))) as kvs) b = some u := fun b u e => by
    rw [off b (fun z => by rw [new b z] at e; cases e) (fun z => by rw [z, newS] at e; cases e)]
    exact e
  have eS : LiI.putT (upd H S (.lst (as.map V.ref))) as kvs S = some (.lst (as.map V.ref)) := by rw [LiI.putT_off as kvs _ hSn, upd_same]
  refine ⟨LiI.putT (upd H S (.lst (as.map V.ref))) as kvs, kp, newS, eS, atP, ?_⟩
  refine I.call' (ch := []) rfl ⟨fun b o q _ _ _ => hk b o q, fun b o q _ _ _ => ⟨o.slots, hk b o q⟩, fun b o q n _ => ?_, fun b o q _ => ⟨o, hk b o q⟩, fun b xs q => kp b _ q, fun b o u q => kp b _ q, fun b ps q => ⟨#[], by rw [kp b _ q]; simp⟩⟩ (fun b u q => ?_) I.bare fun b z => by simp at z
  · obtain ⟨z1, z2⟩ := low b o q
    rw [off b z1 z2]
    exact n
  · by_cases hb : b ∈ as
    · obtain ⟨j, pk, e1, e2, e3⟩ := LiI.paired_ix atP hb
      rw [e3] at q
      cases q
      obtain ⟨key, k, x, f1, f2, f3⟩ := hG.pairs j b e1
      obtain ⟨qv, g1, g2, g3⟩ := LiI.paired_get kv e2
      rw [f1] at g1
      cases g1
      have rk : RelV (kV pk.1) key := by
        rw [g2]
        exact relV_key (show keyIs k key = true from f2)
      exact ⟨by show 2 ≤ sizeLine; decide, [key, x], .cons rk (.cons g3 .nil), ⟨_, f3, rfl, _, rfl⟩⟩
    · by_cases hb2 : b = S
      · rw [hb2] at q ⊢
        rw [eS] at q
        cases q
        exact ⟨by rw [List.length_map]; omega, as.map Value.ref, 0, LiI.vals_refs as, hS⟩
      · rw [off b hb hb2] at q
        exact (I.hok b u q).stay (fun d v _ y => hk d v y) (fun d y => kp d _ y) fun d xs y => kp d _ y
theorem paired_pair {H : Hp} : ∀ {ts : List Addr} {kvs : List (Int × Int)}, Paired (fun (t : Addr) (q : L2.Key × V) => H t = some (.tup [kV q.1, q.2])) ts (intKV kvs) → Paired (PairAt H) (ts.map V.ref) kvs
  | _, [], .nil => .nil
  | _, _ :: _, .cons h t => .cons ⟨_, rfl, h⟩ (paired_pair t)
/-- sorted(d.items()) -/
def rSortIK (K : PySem.W.Frag) : List V → Hp → VK → Prop := fun vs H Q => ∃ (p a : Addr) (kvs : List (Int × Int)), vs = [.ref p] ∧ H p = some (itemsO p a) ∧ H a = some (.dK (intKV kvs)) ∧ SortedTo K Q kvs H
theorem cr_sortIK {K : PySem.W.Frag} (hc : X.calm = true) (e : X.K = K := by rfl) : CallR X (.builtin "sorted") (rSortIK K) := by
  subst e
  intro pins s σ H xs us Q I r h
  obtain ⟨p, a, kvs, rfl, hp, ha, k⟩ := h
  obtain rfl := Vals.ref1 r
  have view : s.heap.IsItemsView p a := (show ObjOk X.prog X.w H s.heap p (itemsO p a) from I.hok p _ hp).1
  obtain ⟨hz, hs0, vs, kv, hdo⟩ := I.hok a _ ha
  have lk : (intKV kvs).length = vs.length := Paired.length kv
  obtain ⟨o, es, ep, ho, hx, hdat, hko, hps, hnd⟩ := hdo
  have les : es.size = vs.length := by rw [← Array.length_toList]; exact hps.length
  have hh : X.A.handled = none := I.ok.hd hc
  refine DT.sortedI (es := es) (ep := ep) hh view ⟨o, ho, hx, hdat⟩ (by omega) fun h' tk as hk hlt hl hM => ?_
  have hG : PySem.W.KdxG (mixKind X.prog X.w) vs s.heap.objs.size h' as := by
    refine ⟨hM.rise, hM.above, fun j b hj => ?_⟩
    obtain ⟨en, he, hg⟩ := hM.pairs j b hj
    rw [← Array.getElem?_toList] at he
    have hjl : j < vs.length := by
      have := (List.getElem?_eq_some_iff.mp hj).1
      omega
    have hv : vs[j]? = some ((vs[j]).1, (vs[j]).2) := List.getElem?_eq_getElem hjl
    obtain ⟨q1, q2⟩ := hps.get? he hv
    exact ⟨en.key, (vs[j]).1, (vs[j]).2, hv, q1, by rw [hg, q2]⟩
  have hpush : ∀ b o, h'.get? b = some o → (h'.push { cls := .type "list", data := .seq (as.map Value.ref).toArray }).get? b = some o := fun b o e => Heap.get?_push_of_some _ e
  obtain ⟨H', k1, k2, k4, k5, J⟩ := items_laid2 (tk := tk) (S := h'.objs.size) I hz kv (fun b o e => hpush _ _ (hk b o e)) (Heap.get?_push_size _ rfl) (Nat.le_of_lt hlt)
    (fun z => Nat.lt_irrefl _ (hG.there z)) (by omega) ⟨hG.rise, hG.above, fun j a e => by
      obtain ⟨key, q, x, f1, f2, f3⟩ := hG.pairs j a e
      exact ⟨key, q, x, f1, f2, hpush _ _ f3⟩⟩
  have pp := paired_pair k5
  have st := mt_sortPO (X := { X with A := X.A.in1 }) pins _ σ H' (.ref h'.objs.size) [] (.ref h'.objs.size) [] (fun _ H2 => Q (.ref h'.objs.size) H2) (inv_around J _ rfl rfl) rfl .nil
    ⟨_, _, pairK H', rfl, rfl, k4, pair_mem pp, fun zs h1 h2 => ?_⟩
  · refine wpAny_mono st (fun u s' x => ?_) fun _ _ e => e
    obtain ⟨v, H2, J2, rv, q2⟩ := x
    exact ⟨.ref h'.objs.size, H2, inv_back J2 rfl rfl, rfl, q2⟩
  · refine k h'.objs.size (zs.map (pairK H')) zs _ k2 (fun b o e => ?_) upd_same ?_ ?_ (List.pairwise_map.mpr h1)
    · rw [upd_ne (ne_of_none e k2)]
      exact k1 b o e
    · have hd : ∀ y ∈ zs, PairAt (upd H' h'.objs.size (.lst zs)) y (pairK (upd H' h'.objs.size (.lst zs)) y) ∧ pairK (upd H' h'.objs.size (.lst zs)) y = pairK H' y := fun y hy => by
        obtain ⟨t, e1, e2⟩ := pair_mem pp y (h2.perm.mem_iff.mp hy)
        have nt : t ≠ h'.objs.size := fun z => by
          rw [z, k4] at e2
          cases e2
        have e3 : PairAt (upd H' h'.objs.size (.lst zs)) y (pairK H' y) := ⟨t, e1, by rw [upd_ne nt]; exact e2⟩
        have e4 := pairK_of e3
        exact ⟨by rw [e4]; exact e3, e4⟩
      have e5 : zs.map (pairK H') = zs.map (pairK (upd H' h'.objs.size (.lst zs))) := List.map_congr_left fun y hy => (hd y hy).2.symm
      rw [e5]
      exact pairs_dn (fun _ _ e => e) fun y hy => (hd y hy).1
    · rw [← pairK_map pp]
      exact h2.perm.map _
end
section
variable {K : PySem.W.Frag} {H : Hp} {Q : VK} {p : Addr} {kvs : List (L2.Key × V)} {i : Int} {v : V}
theorem r_items {σ : L2.St} {to : TE} {a : Addr} (h : H a = some (.dK kvs)) (k : ∀ p H', H p = none → Same H H' → H' p = some (itemsO p a) → Q (.ref p) H') : tyV K "dict" (.ref a) H ∧ rItemsK (.ref a) [] H Q :=
  ⟨.inr (.inr (.inl ⟨rfl, .inl ⟨_, h⟩⟩)), a, kvs, rfl, rfl, h, fun p hp => k p _ hp (But.new (S := []) hp).same upd_same⟩
/-! ### dicts with int keys -/
theorem r_dnew {σ : L2.St} (k : ∀ p H', H p = none → Same H H' → H' p = some (.dK []) → Q (.ref p) H') : tDNewK σ H Q := fun p hp => k p _ hp (But.new (S := []) hp).same upd_same
theorem r_dget2 {σ : L2.St} {td ty tx : TE} (k : td σ H fun x H1 => ∃ a, x = .ref a ∧ IsD H1 a ∧ ty σ H1 fun y H2 => tx σ H2 fun z H3 => ∃ o, DGet H3 a y o ∧ Q (o.getD z) H3) : tDGet2 td ty tx σ H Q := k
theorem r_dput {σ : L2.St} {td ty tv : TE} {D : Ends} (k : tv σ H fun v H1 => td σ H1 fun x H2 => ty σ H2 fun y H3 => ∃ a H4, x = .ref a ∧ DPut H3 a y v H4 ∧ D.nx σ H4) : sDPut td ty tv D σ H := k
theorem r_isD {a : Addr} {B : Addr → Prop} (h : H a = some (.dK kvs)) (k : B a) : ∃ b, V.ref a = .ref b ∧ IsD H b ∧ B b := ⟨a, rfl, .inl ⟨_, .inl h⟩, k⟩
end
def rMax2 : List V → Hp → VK → Prop := fun xs H Q => ∃ i j, xs = [.int i, .int j] ∧ Q (.int (if j > i then j else i)) H
theorem call_max2A {X : Cx} (hc : X.calm = true) : CallR X (.builtin "max") rMax2 := call_max2 hc
theorem r_max2 {H : Hp} {Q : VK} {i j : Int} (k : Q (.int (max i j)) H) : rMax2 [.int i, .int j] H Q := by
  refine ⟨i, j, rfl, ?_⟩
  have e : (if j > i then j else i) = max i j := by split <;> omega
  rw [e]; exact k
def rInt1 : List V → Hp → VK → Prop := fun xs H Q => (∃ j, xs = [.int j] ∧ Q (.int j) H) ∨ ∃ b, xs = [.bl b] ∧ Q (.int (if b then 1 else 0)) H
theorem r_int1 {H : Hp} {Q : VK} {i : Int} (k : Q (.int i) H) : rInt1 [.int i] H Q := .inl ⟨i, rfl, k⟩
theorem r_int1b {H : Hp} {Q : VK} {b : Bool} (k : Q (.int (if b then 1 else 0)) H) : rInt1 [.bl b] H Q := .inr ⟨b, rfl, k⟩
/-! ### int to int -/
def getI (m : List (Int × Int)) (k : Int) : Option Int := (m.find? fun q => decide (q.1 = k)).map (·.2)
def putI (m : List (Int × Int)) (k v : Int) : List (Int × Int) :=
  if (m.any fun q => decide (q.1 = k)) = true then m.map (fun q => if q.1 = k then (q.1, v) else q) else m ++ [(k, v)]
theorem valV_intKV {m : List (Int × Int)} {k : Int} : valV (intKV m) (.inl k) = (getI m k).map V.int := by
  unfold getI
  induction m with
  | nil => rfl
  | cons q m ih =>
    by_cases h : q.1 = k
    · rw [List.find?_cons_of_pos (by simpa using h)]
      exact valV_pos (p := ((Sum.inl q.1 : L2.Key), V.int q.2)) (by rw [h])
    · rw [List.find?_cons_of_neg (by simpa using h), ← ih]
      exact valV_neg (p := ((Sum.inl q.1 : L2.Key), V.int q.2)) (fun z => h (Sum.inl.inj z))
theorem getD_intKV {m : List (Int × Int)} {k j : Int} : (valV (intKV m) (.inl k)).getD (.int j) = .int ((getI m k).getD j) := by
  rw [valV_intKV]
  cases getI m k <;> rfl
theorem any_intKV {m : List (Int × Int)} {k : Int} : ((intKV m).any fun kv => decide (kv.1 = (.inl k : L2.Key))) = m.any fun q => decide (q.1 = k) := by
  unfold intKV
  rw [List.any_map]
  refine congrArg m.any (funext fun q => decide_eq_decide.mpr ⟨fun z => Sum.inl.inj z, fun z => congrArg Sum.inl z⟩)
theorem putK_intKV {m : List (Int × Int)} {k v : Int} : putK (intKV m) (.inl k) (.int v) = intKV (putI m k v) := by
  unfold putK putI
  rw [any_intKV]
  split
  · unfold intKV
    rw [List.map_map, List.map_map]
    refine List.map_congr_left fun q _ => ?_
    by_cases h : q.1 = k
    · have h2 : (Sum.inl q.1 : L2.Key) = .inl k := congrArg _ h
      simp only [Function.comp, if_pos h, if_pos h2]
    · have h2 : ¬ (Sum.inl q.1 : L2.Key) = .inl k := fun z => h (Sum.inl.inj z)
      simp only [Function.comp, if_neg h, if_neg h2]
  · unfold intKV
    rw [List.map_append]; rfl
theorem putI_length (m : List (Int × Int)) (k v : Int) : (putI m k v).length ≤ m.length + 1 := by
  unfold putI
  split
  · rw [List.length_map]; omega
  · rw [List.length_append]; exact Nat.le_refl _
section
variable {K : PySem.W.Frag} {H : Hp} {Q : VK} {a : Addr} {m : List (Int × Int)} {i j : Int}
theorem r_dgetI (h : H a = some (.dK (intKV m))) (k : Q (.int ((getI m i).getD j)) H) : ∃ o, DGet H a (.int i) o ∧ Q (o.getD (.int j)) H := by
  refine ⟨_, DGet.k (k := .inl i) h, ?_⟩
  rw [valV_intKV]
  cases hg : getI m i <;> rw [hg] at k <;> exact k
theorem r_dputI {R : Hp → Prop} (h : H a = some (.dK (intKV m))) (c : m.length < sizeLine) (k : ∀ H', But [a] H H' → H' a = some (.dK (intKV (putI m i j))) → R H') :
    ∃ b H4, V.ref a = .ref b ∧ DPut H b (.int i) (.int j) H4 ∧ R H4 := by
  refine ⟨a, _, rfl, DPut.k (k := .inl i) h (by unfold intKV; rw [List.length_map]; exact c), ?_⟩
  rw [putK_intKV]
  exact k _ (But.write h (fun z => z) (by simp)) upd_same
theorem getI_put {m : List (Int × Int)} {k v h : Int} : getI (putI m k v) h = if h = k then some v else getI m h := by
  unfold putI getI
  by_cases ha : (m.any fun q => decide (q.1 = k)) = true
  · rw [if_pos ha]
    induction m with
    | nil => simp at ha
    | cons q m ih =>
      rw [List.map_cons]
      by_cases hq : q.1 = k
      · rw [if_pos hq]
        by_cases hh : h = k
        · subst hh
          rw [if_pos rfl, List.find?_cons_of_pos (by simpa using hq)]; rfl
        · rw [if_neg hh]
          have hne : ¬ q.1 = h := fun z => hh (z ▸ hq)
          rw [List.find?_cons_of_neg (by simpa using hne), List.find?_cons_of_neg (by simpa using hne)]
          by_cases hm : (m.any fun q => decide (q.1 = k)) = true
          · rw [ih hm, if_neg hh]
          · have : m.map (fun q => if q.1 = k then (q.1, v) else q) = m := by
              conv => rhs; rw [← List.map_id m]
              refine List.map_congr_left fun z hz => ?_
              rw [if_neg fun e => hm (List.any_eq_true.mpr ⟨z, hz, decide_eq_true e⟩)]; rfl
            rw [this]
      · rw [if_neg hq]
        have hm : (m.any fun q => decide (q.1 = k)) = true := by
          rw [List.any_cons, decide_eq_false hq, Bool.false_or] at ha; exact ha
        by_cases hqh : q.1 = h
        · rw [List.find?_cons_of_pos (by simpa using hqh), List.find?_cons_of_pos (by simpa using hqh), if_neg fun z => hq (hqh.trans z)]
        · rw [List.find?_cons_of_neg (by simpa using hqh), List.find?_cons_of_neg (by simpa using hqh), ih hm]
  · rw [if_neg ha, List.find?_append]
    by_cases hh : h = k
    · subst hh
      rw [if_pos rfl]
      have : m.find? (fun q => decide (q.1 = h)) = none := List.find?_eq_none.mpr fun z hz e => ha (List.any_eq_true.mpr ⟨z, hz, e⟩)
      rw [this]
      simp
    · rw [if_neg hh]
      have : [(k, v)].find? (fun q => decide (q.1 = h)) = none := by simp [Ne.symm hh]
      rw [this, Option.or_none]
theorem putI_keys {m : List (Int × Int)} {k v : Int} (hm : (m.map (·.1)).Nodup) : ((putI m k v).map (·.1)).Nodup := by
  unfold putI
  split
  · rw [List.map_map]
    have : ((fun q : Int × Int => q.1) ∘ fun q => if q.1 = k then (q.1, v) else q) = fun q => q.1 := funext fun q => by
      by_cases h : q.1 = k <;> simp [h]
    rw [this]; exact hm
  · rename_i h
    rw [List.map_append]
    refine List.nodup_append.mpr ⟨hm, by simp, ?_⟩
    intro x hx y hy e
    obtain ⟨q, hq, rfl⟩ := List.mem_map.mp hx
    simp at hy
    exact h (List.any_eq_true.mpr ⟨q, hq, decide_eq_true (e.trans hy)⟩)
theorem lex_uniq {xs ys : List (Int × Int)} (h : xs.Perm ys) (h1 : xs.Pairwise Lex) (h2 : ys.Pairwise Lex) : xs = ys := by
  refine h.eq_of_pairwise (le := Lex) (fun a b _ _ q1 q2 => ?_) h1 h2
  have a1 := SrtO.lexB_no.mp q1
  have a2 := SrtO.lexB_no.mp q2
  exact Prod.ext (by omega) (by omega)
end
/-! ### slices -/
section
variable {σ : L2.St} {H : Hp} {K : PySem.W.Frag} {Q : VK} {te : TE} {tl th : TO} {xs : List V}
theorem r_sl {r : V → Option Int → Option Int → Hp → VK → Prop} (k : te σ H fun x H1 => tl σ H1 fun l H2 => th σ H2 fun u H3 => r x l u H3 Q) : tSl r te tl th σ H Q := k
theorem r_noPart {R : Option Int → Hp → Prop} (k : R none H) : tNoPart σ H R := k
theorem r_part {R : Option Int → Hp → Prop} (k : te σ H fun x H1 => ∃ i, x = .int i ∧ R (some i) H1) : tPart te σ H R := k
theorem r_exi {i : Int} {R : Int → Prop} (k : R i) : ∃ j, V.int i = .int j ∧ R j := ⟨i, rfl, k⟩
theorem cut_from {n : Nat} : cutV xs (some (n : Int)) none = xs.drop n := by
  unfold cutV
  rw [HT.sIx_nat, HT.sIx_none]
  by_cases h : n ≤ xs.length
  · rw [Nat.min_eq_left h]
    exact List.take_of_length_le (by rw [List.length_drop]; exact Nat.le_refl _)
  · rw [Nat.min_eq_right (by omega), Nat.sub_self, List.take_zero, List.drop_eq_nil_of_le (by omega)]
theorem cut_fromTo {n m : Nat} : cutV xs (some (n : Int)) (some (m : Int)) = (xs.drop n).take (m - n) := by
  unfold cutV
  rw [HT.sIx_nat, HT.sIx_nat]
  by_cases h : n ≤ xs.length
  · rw [Nat.min_eq_left h]
    by_cases h2 : m ≤ xs.length
    · rw [Nat.min_eq_left h2]
    · rw [Nat.min_eq_right (by omega), List.take_of_length_le (by rw [List.length_drop]; exact Nat.le_refl _), List.take_of_length_le (by rw [List.length_drop]; omega)]
  · rw [Nat.min_eq_right (a := n) (by omega), List.drop_eq_nil_of_le (Nat.le_refl _), List.drop_eq_nil_of_le (by omega), List.take_nil, List.take_nil]
theorem cut_to {m : Nat} : cutV xs none (some (m : Int)) = xs.take m := by
  unfold cutV
  rw [HT.sIx_none, HT.sIx_nat, List.drop_zero, Nat.sub_zero]
  by_cases h : m ≤ xs.length
  · rw [Nat.min_eq_left h]
  · rw [Nat.min_eq_right (by omega), List.take_of_length_le (Nat.le_refl _), List.take_of_length_le (by omega)]
end
/-! ### lists of ints -/
theorem layInts : ∀ ns : List Int, PyData.canLayAll0 (ns.map PyData.int) = true
  | [] => rfl
  | n :: ns => by
    show ((PyData.int n).canLay0 && PyData.canLayAll0 (ns.map PyData.int)) = true
    rw [layInts ns]; rfl
theorem depInts : ∀ ns : List Int, PyData.depthAll (ns.map PyData.int) = 0
  | [] => rfl
  | n :: ns => by
    show max (PyData.int n).depth (PyData.depthAll (ns.map PyData.int)) = 0
    rw [depInts ns]; rfl
theorem shapedInts (ns : List Int) : SeqAt.shaped (.list (ns.map PyData.int)) = true := by
  unfold SeqAt.shaped
  have h1 : (PyData.list (ns.map PyData.int)).canLay0 = true := layInts ns
  have h2 : (PyData.list (ns.map PyData.int)).depth ≤ 1 := by
    show PyData.depthAll (ns.map PyData.int) + 1 ≤ 1
    rw [depInts]; exact Nat.le_refl _
  rw [h1, decide_eq_true (by omega)]; rfl
theorem eqvInts : ∀ (ns ms : List Int), PyData.eqvAll (ns.map PyData.int) (ms.map PyData.int) = decide (ns = ms)
  | [], [] => rfl
  | [], _ :: _ => rfl
  | _ :: _, [] => rfl
  | n :: ns, m :: ms => by
    show (PyData.eqv (.int n) (.int m) && PyData.eqvAll (ns.map PyData.int) (ms.map PyData.int)) = _
    rw [eqvInts ns ms]
    have : PyData.eqv (.int n) (.int m) = decide (n = m) := by
      by_cases h : n = m
      · subst h; simp [PyData.eqv]
      · simp [PyData.eqv, h]
    rw [this, ← Bool.decide_and]
    exact decide_eq_decide.mpr (by simp)
theorem eqvListInts (ns ms : List Int) : PyData.eqv (.list (ns.map PyData.int)) (.list (ms.map PyData.int)) = decide (ns = ms) := by
  rw [← eqvInts]; rfl
theorem r_eqInts {K : PySem.W.Frag} {H : Hp} {Q : VK} {p q : Addr} {ns ms : List Int} (h1 : H p = some (.lst (ns.map V.int))) (h2 : H q = some (.lst (ms.map V.int))) (k : Q (.bl (decide (ns = ms))) H) : rEqA K (.ref p) (.ref q) H Q := by
  refine r_eqD (d := .list (ns.map PyData.int)) (e := .list (ms.map PyData.int)) ?_ ?_ (shapedInts ns) (shapedInts ms) (by rw [eqvListInts]; exact k)
  · exact (Dn.lst (S := []) h1 List.not_mem_nil DnAll.ints).dp
  · exact (Dn.lst (S := []) h2 List.not_mem_nil DnAll.ints).dp
theorem r_listItems {σ : L2.St} {H : Hp} {te : TE} {Q : VK} (k : te σ H fun x H1 => LiI.rItemsL x H1 Q) : LiI.tListItems te σ H Q := k
theorem r_itemsL {H : Hp} {Q : VK} {d : Addr} {kvs : List (Int × Int)} (h : H d = some (.dK (intKV kvs)))
    (k : ∀ p xs H', H p = none → Same H H' → H' p = some (.lst xs) → Paired (PairAt H') xs kvs → Q (.ref p) H') : LiI.rItemsL (.ref d) H Q :=
  ⟨d, _, rfl, h, fun H' p ts s hp _ _ hl hh => k p _ H' hp s hl (paired_pair hh)⟩
theorem r_par {i j : Nat} {ta : TA} {D : Ends} {σ : L2.St} {H : Hp} (k : ta σ H fun vs H1 => ∃ v w, vs = [v, w] ∧ D.nx ((σ.set i (some v)).set j (some w)) H1) : tPar i j ta D σ H := k
theorem r_ex2 {v w : V} {R : V → V → Prop} (k : R v w) : ∃ v' w', [v, w] = [v', w'] ∧ R v' w' := ⟨v, w, rfl, k⟩
end J

set_option Elab.async false
set_option linter.all false
set_option maxRecDepth 100000
set_option maxHeartbeats 4000000
open PySem L2 PyProof.Rows J
local macro_rules | `(tactic| walk_at "lv") => `(tactic| first
  | assumption
  | (refine J.lv_same (by assumption) ?_; walk_at "lv")
  | (refine J.lv_but (by assumption) ?_; walk_at "lv")
  | (refine J.live_of (by assumption)))
local macro_rules | `(tactic| walk_at "ne") => `(tactic| first
  | assumption
  | (apply Ne.symm; assumption)
  | (refine J.ne_live ?_ (by assumption); walk_at "lv")
  | (apply Ne.symm; refine J.ne_live ?_ (by assumption); walk_at "lv"))
local macro_rules | `(tactic| walk_at "ni") => `(tactic| first
  | assumption
  | exact List.not_mem_nil
  | (refine J.ni_cons ?_ ?_; walk_at "ne"; walk_at "ni"))
local macro_rules | `(tactic| walk_at "hp") => `(tactic| first
  | assumption
  | exact upd_same
  | (apply J.same_at; assumption; walk_at "hp")
  | (apply J.but_at; assumption; walk_at "hp"; walk_at "ni")
  | (apply J.but_tup; assumption; walk_at "hp"))
local macro_rules | `(tactic| walk_at "sq") => `(tactic| first
  | assumption
  | (apply SqL.of; walk_at "hp")
  | (apply SqT.of; walk_at "hp")
  | (apply J.same_sqL; assumption; walk_at "sq")
  | (apply J.same_sqT; assumption; walk_at "sq")
  | (apply J.but_sqT; assumption; walk_at "sq")
  | (apply J.but_sqL; assumption; walk_at "sq"; walk_at "ni"))
local macro_rules | `(tactic| walk_at "dn") => `(tactic| first
  | assumption
  | exact J.Dn.int _
  | exact J.Dn.str _
  | exact J.Dn.non
  | exact J.Dn.bl _
  | (refine J.Dn.tup (by walk_at "sq") ?_; walk_at "da")
  | (refine J.dn_same (by assumption) ?_; walk_at "dn")
  | (refine J.dn_but (by assumption) ?_ ?_; walk_at "dn"; walk_at "nis"))
local macro_rules | `(tactic| walk_at "da") => `(tactic| first
  | assumption
  | exact J.DnAll.nil
  | (refine J.DnAll.cons ?_ ?_; walk_at "dn"; walk_at "da")
  | (refine J.da_same (by assumption) ?_; walk_at "da")
  | (refine J.da_but (by assumption) ?_ ?_; walk_at "da"; walk_at "nis"))
local macro_rules | `(tactic| walk_at "nis") => `(tactic| first
  | exact J.sub_nil
  | (refine J.sub_cons ?_ ?_; walk_at "mem"; walk_at "nis"))
local macro_rules | `(tactic| walk_at "le") => `(tactic| first
  | exact J.Le.refl
  | (refine J.le_same ?_ (by assumption); walk_at "le")
  | (refine J.le_but ?_ (by assumption); walk_at "le"))
local macro_rules | `(tactic| walk_at "fr") => `(tactic| first
  | assumption
  | (refine J.fr_le ?_ (by assumption); walk_at "le"))
local macro_rules | `(tactic| walk_at "mem") => `(tactic| with_reducible first
  | exact List.mem_cons_self
  | (refine List.mem_cons_of_mem _ ?_; walk_at "mem"))
local macro_rules | `(tactic| walk_at "bc") => `(tactic| first
  | exact J.bc_nil
  | (refine J.bc_in ?_ ?_; walk_at "mem"; walk_at "bc")
  | (refine J.bc_fr ?_ ?_; walk_at "fr"; walk_at "bc"))
local macro_rules | `(tactic| walk_at "bt") => `(tactic| first
  | exact J.But.refl
  | (refine J.bt_same ?_ (by assumption); walk_at "bt")
  | (refine J.bt_but ?_ (by assumption) ?_; walk_at "bt"; walk_at "bc"))
local macro_rules | `(tactic| walk_at "sm") => `(tactic| (refine J.But.same ?_; walk_at "bt"))
local macro_rules | `(tactic| walk_at "sd") => `(tactic| first
  | assumption
  | decide
  | omega
  | (unfold CDiv; omega)
  | (unfold CPow; omega)
  | (unfold CMul; omega))
local macro_rules | `(tactic| walk_at "s") => `(tactic| with_reducible first
  | refine J.r_seq ?_
  | refine J.r_asg ?_
  | refine J.r_drop ?_
  | refine J.r_ret ?_
  | refine J.r_retN ?_
  | refine J.r_ifS ?_
  | refine J.r_next ?_
  | refine J.r_test ?_
  | refine J.r_tB ?_
  | refine J.r_exb ?_
  | refine J.r_op ?_
  | refine J.r_un ?_
  | refine J.r_var rfl ?_
  | refine J.r_c ?_
  | refine J.r_I0 ?_
  | refine J.r_addI ?_
  | refine J.r_eqI ?_
  | refine J.r_neI ?_
  | refine J.r_ltI ?_
  | refine J.r_eqS ?_
  | refine J.r_neS ?_
  | refine J.r_cons ?_
  | refine J.r_nil ?_
  | refine J.r_tup ?_
  | refine J.r_lst ?_
  | refine J.r_CB ?_
  | refine J.r_callS ?_
  | refine J.r_if ?_
  | refine J.r_and ?_
  | refine J.r_or ?_
  | refine J.r_not ?_
  | refine J.r_aug rfl ?_
  | refine J.r_iaddI ?_
  | refine J.g_name ?_
  | refine J.g_cons ?_
  | refine J.g_nil ?_
  | refine J.r_I (by walk_at "sd") ?_
  | refine J.r_mulI (by walk_at "sd") ?_
  | (apply J.r_ixL; walk_at "sq"; with_unfolding_all rfl)
  | (apply J.r_ixT; walk_at "sq"; with_unfolding_all rfl)
  | refine J.r_forL ?_
  | refine J.r_forR ?_
  | refine J.r_forR2 ?_
  | refine J.r_forE ?_
  | refine J.r_lcL ?_
  | refine J.r_bm ?_
  | (apply J.r_tyL; walk_at "sq")
  | (apply J.r_lenL; walk_at "sq")
  | refine J.r_asgG ?_
  | refine J.g_sub ?_
  | (apply J.g_tup; walk_at "sq"; with_unfolding_all rfl)
  | refine J.r_dget2 ?_
  | refine J.r_dput ?_
  | (apply J.r_isD; walk_at "hp")
  | refine J.r_max2 ?_
  | refine J.r_sl ?_
  | refine J.r_noPart ?_
  | refine J.r_part ?_
  | refine J.r_exi ?_
  | refine J.r_listItems ?_
  | refine J.r_par ?_
  | refine J.r_ex2 ?_)
local macro_rules | `(tactic| walk_at "st") => `(tactic| first
  | walk_at "s"
  | ((with_reducible refine J.r_newT (J.sz (Nat.le_of_ble_eq_true rfl)) ?_); intro _ _ _ _ _))

namespace L20
def top (i : Nat) : Stmt := PySem.Challenge.pw_revokelog_k20_whole_replay_and_revoked.main.body.getD i (.Pass ⟨0, 0, 0, 0⟩)
structure Bl (mg : Str → Option Value) : Prop where
  enumerate : mg "enumerate" = none
  int : mg "int" = none
  len : mg "len" = none
  list : mg "list" = none
  max : mg "max" = none
  range : mg "range" = none
  repr : mg "repr" = none
  sorted : mg "sorted" = none
  tuple : mg "tuple" = none
section
variable {P : Program} {w : World} {K : PySem.W.Frag} {mg : Str → Option Value} {base : Heap}

/-! ### the source of draws -/
def SrcAt (H : Hp) (p : Addr) (n : Int) : Prop :=
  ∃ a b c : Int, H p = some (.lst [.int a, .int b, .int c]) ∧ 0 ≤ b ∧ b < 2147483647 ∧ 0 ≤ c ∧ c ≤ n
theorem SrcAt.mono {H : Hp} {p : Addr} {n m : Int} (h : SrcAt H p n) (l : n ≤ m) : SrcAt H p m := by
  obtain ⟨a, b, c, h1, h2, h3, h4, h5⟩ := h
  exact ⟨a, b, c, h1, h2, h3, h4, by omega⟩
theorem SrcAt.but {H H' : Hp} {p : Addr} {n : Int} {S : List Addr} (h : SrcAt H p n) (b : But S H H') (hp : p ∉ S) : SrcAt H' p n := by
  obtain ⟨a, b1, c, h1, h2, h3, h4, h5⟩ := h
  exact ⟨a, b1, c, b.at h1 hp, h2, h3, h4, h5⟩
theorem SrcAt.same {H H' : Hp} {p : Addr} {n : Int} (h : SrcAt H p n) (b : Same H H') : SrcAt H' p n := h.but (But.of_same (S := []) b) (by simp)
theorem SrcAt.live {H : Hp} {p : Addr} {n : Int} (h : SrcAt H p n) : H p ≠ none := by
  obtain ⟨a, b1, c, h1, _⟩ := h
  exact live_of h1
theorem src_same {H H' : Hp} {p : Addr} {n : Int} (b : Same H H') (h : SrcAt H p n) : SrcAt H' p n := h.same b
theorem src_but {H H' : Hp} {p : Addr} {n : Int} {S : List Addr} (b : But S H H') (h : SrcAt H p n) (hp : p ∉ S) : SrcAt H' p n := h.but b hp
def spDraw : Sp := fun vs H Q _ => ∃ (p : Addr) (n size : Int), vs = [.ref p, .int size] ∧ SrcAt H p n ∧ n ≤ 2 ^ 40 ∧
  0 < size ∧ size < 1073741824 ∧ ∀ d H', 0 ≤ d → d < size → But [p] H H' → SrcAt H' p (n + 1) → Q (.int d) H'
abbrev s_law_draw : Stmt := top 7
abbrev N_law_draw : List Str := ["_law_source_here", "_law_size", "_law_digit", "_law_number"]
theorem sc_law_draw : FnScope N_law_draw ["_law_source_here", "_law_size"] (defScope s_law_draw) :=
  ⟨rfl, rfl, rfl, by decide +kernel, rfl, by decide +kernel, by decide +kernel⟩

theorem ok_draw {f : Addr} {fd : FuncData} (F : Fun K "_law_draw" "_law_draw" s_law_draw f fd) :
    FnOk P w K mg base CX0 1 f fd ["_law_source_here", "_law_size"] spDraw := by
  refine F.ok sc_law_draw (fun vs H Q E h => ?_) (fun cdv A outer s H vs Q E hr h => ?_)
  · obtain ⟨_, _, _, rfl, _⟩ := h
    rfl
  · obtain ⟨p, n, size, rfl, ⟨a, b, c, hp, hb0, hb1, hc0, hc1⟩, hn, hs0, hs1, k⟩ := h
    have hu := hu_of hr
    have nd := sc_law_draw.nd
    refine ⟨_, (pss_cons (ps_if (pt_cmpR op_gt (pe_ix (ix_any (K := K)) (pv 0) pe_int (fun _ _ => rfl)) pe_int (nomark _)) (pss_cons (ps_set (i := 2) nd rfl (by first | exact Or.inl rfl | exact Or.inr rfl) (pe_op op_mod (pe_ix (ix_any (K := K)) (pv 0) pe_int (fun _ _ => rfl)) (pv 1)))
      (pss_cons (ps_asg (pe_op op_fdiv (pe_ix (ix_any (K := K)) (pv 0) pe_int (fun _ _ => rfl)) (pv 1)) (pg_sub (pv 0) pe_int set_list))
      (pss_one (ps_ret (pv 2))))) pss_nil)
      (pss_cons (ps_asg (pe_op (op_addA (K := K)) (pe_ix (ix_any (K := K)) (pv 0) pe_int (fun _ _ => rfl)) pe_int) (pg_sub (pv 0) pe_int set_list))
      (pss_cons (ps_set (i := 3) nd rfl (by first | exact Or.inl rfl | exact Or.inr rfl) (pe_op op_mod (pe_op op_pow (pe_op (op_addA (K := K)) (pe_op (op_addA (K := K)) (pe_ix (ix_any (K := K)) (pv 0) pe_int (fun _ _ => rfl)) (pe_op (op_mulA (K := K)) pe_int (pe_ix (ix_any (K := K)) (pv 0) pe_int (fun _ _ => rfl)))) pe_int) pe_int) pe_int))
      (pss_cons (ps_set (i := 3) nd rfl (by first | exact Or.inl rfl | exact Or.inr rfl) (pe_op op_mod (pe_op (op_mulA (K := K)) (pv 3) (pe_op (op_addA (K := K)) (pe_op (op_addA (K := K)) (pe_op op_fdiv (pv 3) pe_int) pe_int) (pe_ix (ix_any (K := K)) (pv 0) pe_int (fun _ _ => rfl)))) pe_int))
      (pss_one (ps_ret (pe_op op_mod (pe_op op_fdiv (pe_op op_mod (pe_op (op_mulA (K := K)) (pv 3) (pe_op (op_addA (K := K)) (pe_op op_fdiv (pv 3) pe_int) pe_int)) pe_int) pe_int) (pv 1)))))))), ?_⟩
    repeat walk_at "s"
    refine r_ite (fun ha => ?_) (fun ha => ?_)
    · repeat walk_at "s"
      refine s_lst hp (by rfl) (fun H' b' hp' => ?_)
      repeat walk_at "s"
      exact k _ _ (Int.emod_nonneg _ (by omega)) (Int.emod_lt_of_pos _ hs0) b' ⟨_, _, _, hp', hb0, hb1, hc0, by omega⟩
    · repeat walk_at "s"
      refine s_lst hp (by rfl) (fun H' b' hp' => ?_)
      repeat walk_at "s"
      exact k _ _ (Int.emod_nonneg _ (by omega)) (Int.emod_lt_of_pos _ hs0) b' ⟨_, _, _, hp', hb0, hb1, by omega, by omega⟩

def spCell (K : PySem.W.Frag) : Sp := fun vs H Q _ => ∃ (a : Addr) (ns : List Int) (k : Int), vs = [.ref a, .int k] ∧ SqL K H a (ns.map V.int) ∧ 0 ≤ k ∧
  ns.length ≤ 100 ∧ ∀ z, Q (.int z) H
abbrev s_law_cell_at : Stmt := top 5
abbrev N_law_cell_at : List Str := ["_law_script", "_law_k"]
theorem sc_law_cell_at : FnScope N_law_cell_at ["_law_script", "_law_k"] (defScope s_law_cell_at) :=
  ⟨rfl, rfl, rfl, by decide +kernel, rfl, by decide +kernel, by decide +kernel⟩

theorem ok_cell {f : Addr} {fd : FuncData} (F : Fun K "_law_cell_at" "_law_cell_at" s_law_cell_at f fd) (B : Bl mg) :
    FnOk P w K mg base CX0 1 f fd ["_law_script", "_law_k"] (spCell K) := by
  refine F.ok sc_law_cell_at (fun vs H Q E h => ?_) (fun cdv A outer s H vs Q E hr h => ?_)
  · obtain ⟨_, _, _, rfl, _⟩ := h
    rfl
  · obtain ⟨a, ns, i, rfl, ha, h0, hl, k⟩ := h
    have hu := hu_of hr
    have nd := sc_law_cell_at.nd
    refine ⟨_, (pss_cons (ps_if (pt_cmpR op_ltA (pv 1) (pe_callB (call_lenA (K := K)) rfl B.len PySem.boot_len (pa_cons (pv 0) pa_nil)) (nomark _)) (pss_one (ps_ret (pe_ix (ix_any (K := K)) (pv 0) (pv 1) (fun _ _ => rfl)))) pss_nil)
      (pss_one (ps_ret pe_int))), ?_⟩
    repeat walk_at "s"
    refine r_ite (fun hi => ?_) (fun hi => ?_)
    · repeat walk_at "s"
      obtain ⟨n, rfl⟩ := Int.eq_ofNat_of_zero_le h0
      rw [List.length_map] at hi
      have hn : n < ns.length := by omega
      refine r_ixL (v := .int (ns[n])) ha (atI_nat (by simp [hn])) ?_
      exact k _
    · repeat walk_at "s"
      exact k _

def spSource : Sp := fun vs H Q _ => ∃ c : Int, vs = [.int c] ∧ ∀ p H', H p = none → Same H H' → SrcAt H' p 0 → Q (.ref p) H'
abbrev s_law_source : Stmt := top 6
abbrev N_law_source : List Str := ["_law_cell"]
theorem sc_law_source : FnScope N_law_source ["_law_cell"] (defScope s_law_source) :=
  ⟨rfl, rfl, rfl, by decide +kernel, rfl, by decide +kernel, by decide +kernel⟩

theorem ok_source {f : Addr} {fd : FuncData} (F : Fun K "_law_source" "_law_source" s_law_source f fd) (B : Bl mg) :
    FnOk P w K mg base CX0 1 f fd ["_law_cell"] spSource := by
  refine F.ok sc_law_source (fun vs H Q E h => ?_) (fun cdv A outer s H vs Q E hr h => ?_)
  · obtain ⟨_, rfl, _⟩ := h
    rfl
  · obtain ⟨c, rfl, k⟩ := h
    have hu := hu_of hr
    have nd := sc_law_source.nd
    refine ⟨_, (pss_one (ps_ret (pe_lst (pa_cons (pe_op (op_mulA (K := K)) (pv 0) (pe_callTy call_int1 rfl B.int (by decide +kernel) (pa_cons (pe_cmpR op_ge (pv 0) (pe_op op_pow pe_int pe_int) (nomark _)) pa_nil))) (pa_cons (pe_op op_mod (pv 0) pe_int) (pa_cons pe_int pa_nil)))))), ?_⟩
    repeat walk_at "s"
    refine .inr ⟨_, rfl, ?_⟩
    refine r_mulI (mulR (by split <;> decide) (by split <;> decide)) ?_
    repeat walk_at "s"
    refine r_newL (sz (by simp)) (fun p H' hp s' hp' => ?_)
    exact k p H' hp s' ⟨_, _, _, hp', Int.emod_nonneg _ (by decide), Int.emod_lt_of_pos _ (by decide), by decide, by decide⟩

def spPick (K : PySem.W.Frag) : Sp := fun vs H Q _ => ∃ (p l : Addr) (n : Int) (xs : List V), vs = [.ref p, .ref l] ∧ SrcAt H p n ∧ n ≤ 2 ^ 40 ∧ l ≠ p ∧
  SqL K H l xs ∧ xs ≠ [] ∧ xs.length ≤ 100000 ∧ ∀ (i : Nat) v H', xs[i]? = some v → But [p] H H' → SrcAt H' p (n + 1) → Q v H'
abbrev s_law_pick : Stmt := top 8
abbrev N_law_pick : List Str := ["_law_source_here", "_law_items"]
theorem sc_law_pick : FnScope N_law_pick ["_law_source_here", "_law_items"] (defScope s_law_pick) :=
  ⟨rfl, rfl, rfl, by decide +kernel, rfl, by decide +kernel, by decide +kernel⟩

theorem ok_pick {f : Addr} {fd : FuncData} (F : Fun K "_law_pick" "_law_pick" s_law_pick f fd) (B : Bl mg)
    (C_law_draw : Cl P w K mg base CX0 1 "_law_draw" spDraw) :
    FnOk P w K mg base CX0 2 f fd ["_law_source_here", "_law_items"] (spPick K) := by
  refine F.ok sc_law_pick (fun vs H Q E h => ?_) (fun cdv A outer s H vs Q E hr h => ?_)
  · obtain ⟨_, _, _, _, rfl, _⟩ := h
    rfl
  · obtain ⟨p, l, n, xs, rfl, hp, hn, hlp, hl, hne, hz, k⟩ := h
    have hu := hu_of hr
    have nd := sc_law_pick.nd
    refine ⟨_, (pss_one (ps_ret (pe_ix (ix_any (K := K)) (pv 1) (pe_cl (E := fun _ => E0) C_law_draw hr (by decide) pass00 (pa_cons (pv 0) (pa_cons (pe_callB (call_lenA (K := K)) rfl B.len PySem.boot_len (pa_cons (pv 1) pa_nil)) pa_nil))) (fun _ _ => rfl)))), ?_⟩
    repeat walk_at "s"
    have hpos : 0 < xs.length := List.length_pos_iff.mpr hne
    refine ⟨p, n, xs.length, rfl, hp, hn, by omega, by omega, fun d H' h0 h1 b' hp' => ?_⟩
    obtain ⟨m, rfl⟩ := Int.eq_ofNat_of_zero_le h0
    have hm : m < xs.length := by omega
    refine r_ixL (b'.sqL hl (by simpa using hlp)) (atI_nat (List.getElem?_eq_getElem hm)) ?_
    exact k m _ _ (List.getElem?_eq_getElem hm) b' hp'
end
end L20

open PySem L2 PyProof.Rows J

local macro_rules | `(tactic| walk_at "src") => `(tactic| first
  | assumption
  | (refine L20.src_same (by assumption) ?_; walk_at "src")
  | (refine L20.src_but (by assumption) ?_ ?_; walk_at "src"; walk_at "ni"))
namespace L20
section
variable {P : Program} {w : World} {K : PySem.W.Frag} {mg : Str → Option Value} {base : Heap}
/-! ### values -/
structure VOk (d : PyData) : Prop where
  ok : Ok 60 3 d
  nol : noL d = true
theorem vok_int {i : Int} (h : i.natAbs < 2 ^ 32) : VOk (.int i) := ⟨(okInt h (by decide)).mono (by decide) (by decide), rfl⟩
theorem vok_of {d : PyData} (h : (d.canLay0 && d.showable && decide (d.depth ≤ 3) && decide (d.shown.length ≤ 60) && noL d) = true) : VOk d := by
  simp only [Bool.and_eq_true, decide_eq_true_eq] at h
  exact ⟨⟨h.1.1.1.1, h.1.1.1.2, h.1.1.2, h.1.2⟩, h.2⟩
def spValue (K : PySem.W.Frag) : Sp := fun vs H Q _ => ∃ (p : Addr) (n : Int), vs = [.ref p] ∧ SrcAt H p n ∧ n ≤ 2 ^ 39 ∧
  ∀ v d H', VOk d → But [p] H H' → SrcAt H' p (n + 3) → Dn K [] H' v d → Q v H'
abbrev s_law_value : Stmt := top 9
abbrev N_law_value : List Str := ["_law_source_here", "_law_some"]
theorem sc_law_value : FnScope N_law_value ["_law_source_here"] (defScope s_law_value) :=
  ⟨rfl, rfl, rfl, by decide +kernel, rfl, by decide +kernel, by decide +kernel⟩

theorem ok_value {f : Addr} {fd : FuncData} (F : Fun K "_law_value" "_law_value" s_law_value f fd)
    (C_law_draw : Cl P w K mg base CX0 1 "_law_draw" spDraw) (C_law_pick : Cl P w K mg base CX0 2 "_law_pick" (spPick K)) :
    FnOk P w K mg base CX0 3 f fd ["_law_source_here"] (spValue K) := by
  refine F.ok sc_law_value (fun vs H Q E h => ?_) (fun cdv A outer s H vs Q E hr h => ?_)
  · obtain ⟨_, _, rfl, _⟩ := h
    rfl
  · obtain ⟨p, n, rfl, hp, hn, k⟩ := h
    have hu := hu_of hr
    have nd := sc_law_value.nd
    have lv := hp.live
    refine ⟨_, (pss_cons (ps_set (i := 1) nd rfl (by first | exact Or.inl rfl | exact Or.inr rfl) (pe_lst (pa_cons pe_int (pa_cons (pe_cl (E := fun _ => E0) C_law_draw hr (by decide) pass00 (pa_cons (pv 0) (pa_cons pe_int pa_nil))) (pa_cons (pe_op op_sub pe_int (pe_cl (E := fun _ => E0) C_law_draw hr (by decide) pass00 (pa_cons (pv 0) (pa_cons (pe_op op_pow pe_int pe_int) pa_nil)))) (pa_cons pe_str (pa_cons pe_str (pa_cons (pe_tup (pa_cons pe_str pa_nil)) (pa_cons (pe_tup pa_nil) (pa_cons (pe_tup (pa_cons pe_int (pa_cons (pe_tup (pa_cons pe_str (pa_cons (pe_tup (pa_cons pe_int (pa_cons pe_int pa_nil))) pa_nil))) pa_nil))) pa_nil))))))))))
      (pss_one (ps_ret (pe_cl (E := fun _ => E0) C_law_pick hr (by decide) pass00 (pa_cons (pv 0) (pa_cons (pv 1) pa_nil)))))), ?_⟩
    repeat walk_at "s"
    refine ⟨p, n, 9, rfl, hp, by omega, by decide, by decide, fun a H1 ha0 ha1 b1 hp1 => ?_⟩
    repeat walk_at "s"
    refine ⟨p, _, _, rfl, hp1, by omega, by decide, by decide, fun b H2 hb0 hb1 b2 hp2 => ?_⟩
    repeat walk_at "st"
    refine r_newL (sz (Nat.le_of_ble_eq_true rfl)) (fun l H3 hl s3 hl3 => ?_)
    repeat walk_at "s"
    refine ⟨p, l, n + 1 + 1, _, rfl, by walk_at "src", by omega, by walk_at "ne", SqL.of hl3, by simp, by simp, fun i v H4 hi b4 hp4 => ?_⟩
    have hv := List.mem_of_getElem? hi
    simp only [List.mem_cons, List.not_mem_nil, or_false] at hv
    have fin : ∀ v d, VOk d → Dn K [] H4 v d → Q v H4 := fun v d h1 h2 => k v d H4 h1 (by walk_at "bt") (by
      have e : n + 1 + 1 + 1 = n + 3 := by omega
      rw [← e]; exact hp4) h2
    rcases hv with rfl | rfl | rfl | rfl | rfl | rfl | rfl | rfl
    · exact fin _ _ (vok_int (by decide)) (.int _)
    · exact fin _ _ (vok_int (by omega)) (.int _)
    · have hb2 : b < 1000000000 := hb1
      exact fin _ _ (vok_int (by omega)) (.int _)
    · exact fin _ _ (vok_of (by decide +kernel)) (.str _)
    · exact fin _ _ (vok_of (by decide +kernel)) (.str _)
    · exact fin _ (.tuple [.str "x"]) (vok_of (by decide +kernel)) (by walk_at "dn")
    · exact fin _ (.tuple []) (vok_of (by decide +kernel)) (by walk_at "dn")
    · exact fin _ (.tuple [.int 1, .tuple [.str "y", .tuple [.int 2, .int 3]]]) (vok_of (by decide +kernel)) (by walk_at "dn")
/-! ### subsets -/
/-- ascending numbers from 0 to count - 1 -/
structure Asc (count : Int) (ns : List Int) : Prop where
  up : ns.Pairwise (· < ·)
  lo : ∀ x ∈ ns, 0 ≤ x
  hi : ∀ x ∈ ns, x < count
theorem asc_snoc {c : Int} {ns : List Int} (h : Asc c ns) (h0 : 0 ≤ c) : Asc (c + 1) (ns ++ [c]) := by
  refine ⟨List.pairwise_append.mpr ⟨h.up, List.pairwise_singleton _ _, fun a ha b hb => ?_⟩, fun x hx => ?_, fun x hx => ?_⟩
  · rw [List.mem_singleton.mp hb]; exact h.hi a ha
  · rcases List.mem_append.mp hx with hx | hx
    · exact h.lo x hx
    · rw [List.mem_singleton.mp hx]; exact h0
  · rcases List.mem_append.mp hx with hx | hx
    · have := h.hi x hx; omega
    · rw [List.mem_singleton.mp hx]; omega
theorem Asc.mono {c d : Int} {ns : List Int} (h : Asc c ns) (l : c ≤ d) : Asc d ns := ⟨h.up, h.lo, fun x hx => Int.lt_of_lt_of_le (h.hi x hx) l⟩
def spSubset (K : PySem.W.Frag) : Sp := fun vs H Q _ => ∃ (p : Addr) (n count most : Int), vs = [.ref p, .int count, .int most] ∧ SrcAt H p n ∧ n ≤ 2 ^ 39 ∧ 0 ≤ count ∧ count ≤ 100 ∧
  ∀ l (ns : List Int) H', H l = none → But [p] H H' → SrcAt H' p (n + count) → H' l = some (.lst (ns.map V.int)) → Asc count ns → (ns.length : Int) ≤ count → Q (.ref l) H'
abbrev s_law_subset : Stmt := top 10
abbrev N_law_subset : List Str := ["_law_source_here", "_law_count", "_law_most", "_law_found", "_law_home"]
theorem sc_law_subset : FnScope N_law_subset ["_law_source_here", "_law_count", "_law_most"] (defScope s_law_subset) :=
  ⟨rfl, rfl, rfl, by decide +kernel, rfl, by decide +kernel, by decide +kernel⟩

theorem ok_subset {f : Addr} {fd : FuncData} (F : Fun K "_law_subset" "_law_subset" s_law_subset f fd) (B : Bl mg)
    (C_law_draw : Cl P w K mg base CX0 1 "_law_draw" spDraw) :
    FnOk P w K mg base CX0 2 f fd ["_law_source_here", "_law_count", "_law_most"] (spSubset K) := by
  refine F.ok sc_law_subset (fun vs H Q E h => ?_) (fun cdv A outer s H vs Q E hr h => ?_)
  · obtain ⟨_, _, _, _, rfl, _⟩ := h
    rfl
  · obtain ⟨p, n, count, most, rfl, hp, hn, hc0, hc1, k⟩ := h
    have hu := hu_of hr
    have nd := sc_law_subset.nd
    have lv := hp.live
    refine ⟨_, (pss_cons (ps_set (i := 3) nd rfl (by first | exact Or.inl rfl | exact Or.inr rfl) (pe_lst pa_nil))
      (pss_cons (ps_for PassesOwn.never rfl (pi_range1 rfl B.range (pa_cons (pv 1) pa_nil)) (pg_name (i := 4) nd rfl (by first | exact Or.inl rfl | exact Or.inr rfl))
      (pss_one (ps_if (PW.pt (pw_and (pt_cmpR op_ltA (pe_callB (call_lenA (K := K)) rfl B.len PySem.boot_len (pa_cons (pv 3) pa_nil)) (pv 2) (nomark _)) (pw_and1 (pt_cmpR op_ltA (pe_cl (E := fun _ => E0) C_law_draw hr (by decide) pass00 (pa_cons (pv 0) (pa_cons (pv 1) pa_nil))) (pv 2) (nomark _))))) (pss_one (ps_expr (pe_bm PySem.F.plainAttrs_list PySem.F.slot_list_append PySem.F.type_list_append mt_append (pv 3) (pa_cons (pv 4) pa_nil)))) pss_nil)))
      (pss_one (ps_ret (pv 3))))), ?_⟩
    repeat walk_at "s"
    refine r_newL (sz (Nat.le_of_ble_eq_true rfl)) (fun l H1 hl s1 hl1 => ?_)
    repeat walk_at "s"
    refine forR (by omega) (fun i σ H' => ∃ (ns : List Int) (v : Option V), σ = [some (.ref p), some (.int count), some (.int most), some (.ref l), v] ∧
      But [p] H H' ∧ SrcAt H' p (n + i) ∧ H' l = some (.lst (ns.map V.int)) ∧ Asc i ns ∧ ns.length ≤ i)
      ⟨[], none, rfl, by walk_at "bt", by simpa using SrcAt.same hp s1, hl1, ⟨List.Pairwise.nil, by simp, by simp⟩, Nat.le_refl _⟩ ?_ ?_
    · rintro i σ H2 hi ⟨ns, v, rfl, b2, hp2, hl2, ha, hz⟩
      have npl : l ≠ p := by walk_at "ne"
      repeat walk_at "s"
      rw [List.length_map]
      refine r_ite (fun hm => ?_) (fun hm => ?_)
      · repeat walk_at "s"
        refine ⟨p, n + i, count, rfl, hp2, by omega, by omega, by omega, fun d H3 h0 h1 b3 hp3 => ?_⟩
        have hl3 : H3 l = some (.lst (ns.map V.int)) := b3.at hl2 (by walk_at "ni")
        have e1 : n + (i : Int) + 1 = n + ((i + 1 : Nat) : Int) := by omega
        rw [e1] at hp3
        repeat walk_at "s"
        refine r_ite (fun hd => ?_) (fun hd => ?_)
        · repeat walk_at "s"
          refine r_app hl3 (szl (by rw [List.length_map]; omega)) (fun H4 b4 hl4 => ?_)
          refine ⟨ns ++ [(i : Int)], _, rfl, by walk_at "bt", src_but b4 hp3 (by walk_at "ni"), by rw [hl4, List.map_append]; rfl, ?_, ?_⟩
          · exact asc_snoc ha (by omega)
          · rw [List.length_append, List.length_singleton]; omega
        · repeat walk_at "s"
          exact ⟨ns, _, rfl, by walk_at "bt", hp3, hl3, ha.mono (by omega), by omega⟩
      · refine r_iteF rfl ?_
        repeat walk_at "s"
        exact ⟨ns, _, rfl, b2, hp2.mono (by omega), hl2, ha.mono (by omega), by omega⟩
    · rintro σ H2 ⟨ns, v, rfl, b2, hp2, hl2, ha, hz⟩
      have e1 : ((count.toNat : Nat) : Int) = count := Int.toNat_of_nonneg hc0
      rw [e1] at ha hp2
      repeat walk_at "s"
      exact k l ns H2 hl b2 hp2 hl2 ha (by omega)
/-! ### the parts of a transaction -/
def dCopy (c : Int × PyData) : PyData := .tuple [.int c.1, c.2]
def dParts (cs : List (Int × PyData)) (rs : List Int) : List PyData := [.list (cs.map dCopy), .list (rs.map .int)]
structure CopiesOk (n : Int) (cs : List (Int × PyData)) : Prop where
  asc : Asc n (cs.map (·.1))
  val : ∀ c ∈ cs, VOk c.2
  len : (cs.length : Int) ≤ n
theorem noLs_copies {cs : List (Int × PyData)} (h : ∀ c ∈ cs, VOk c.2) : noLs (cs.map dCopy) = true := by
  induction cs with
  | nil => rfl
  | cons c cs ih =>
    have h1 := (h c List.mem_cons_self).nol
    have h2 := ih fun d hd => h d (List.mem_cons_of_mem _ hd)
    simp only [List.map_cons, noLs, dCopy, noL, h1, h2, Bool.and_self, Bool.and_true]
def spParts (K : PySem.W.Frag) : Sp := fun vs H Q _ => ∃ (p : Addr) (n homes : Int), vs = [.ref p, .int homes] ∧ SrcAt H p n ∧ n ≤ 2 ^ 38 ∧ 1 ≤ homes ∧ homes ≤ 100 ∧
  ∀ t (cs : List (Int × PyData)) (rs : List Int) H', But [p] H H' → SrcAt H' p (n + 600) → CopiesOk homes cs → Asc homes rs → (rs.length : Int) ≤ homes →
    (∀ S, Live S H → Dn K S H' (.ref t) (.tuple (dParts cs rs))) → Q (.ref t) H'
abbrev s_law_parts : Stmt := top 11
abbrev N_law_parts : List Str := ["_law_source_here", "_law_homes", "_law_most", "_law_copies", "_law_home"]
theorem sc_law_parts : FnScope N_law_parts ["_law_source_here", "_law_homes"] (defScope s_law_parts) :=
  ⟨rfl, rfl, rfl, by decide +kernel, rfl, by decide +kernel, by decide +kernel⟩

theorem ok_parts {f : Addr} {fd : FuncData} (F : Fun K "_law_parts" "_law_parts" s_law_parts f fd)
    (C_law_pick : Cl P w K mg base CX0 2 "_law_pick" (spPick K)) (C_law_subset : Cl P w K mg base CX0 2 "_law_subset" (spSubset K))
    (C_law_value : Cl P w K mg base CX0 3 "_law_value" (spValue K)) :
    FnOk P w K mg base CX0 4 f fd ["_law_source_here", "_law_homes"] (spParts K) := by
  refine F.ok sc_law_parts (fun vs H Q E h => ?_) (fun cdv A outer s H vs Q E hr h => ?_)
  · obtain ⟨_, _, _, rfl, _⟩ := h
    rfl
  · obtain ⟨p, n, homes, rfl, hp, hn, hc0, hc1, k⟩ := h
    have hu := hu_of hr
    have nd := sc_law_parts.nd
    have lv := hp.live
    refine ⟨_, (pss_cons (ps_set (i := 2) nd rfl (by first | exact Or.inl rfl | exact Or.inr rfl) (pe_cl (E := fun _ => E0) C_law_pick hr (by decide) pass00 (pa_cons (pv 0) (pa_cons (pe_lst (pa_cons pe_int (pa_cons pe_int (pa_cons pe_int (pa_cons pe_int (pa_cons pe_int pa_nil)))))) pa_nil))))
      (pss_cons (ps_setLc (i := 3) (own := [("_law_home", 4)]) (g := (gName 4)) (tt := tYes) rfl nd rfl rfl (sw_true rfl rfl rfl (by decide +kernel)) (pi_lst (K := K) (pe_cl (E := fun _ => E0) C_law_subset hr (by decide) pass00 (pa_cons (pv 0) (pa_cons (pv 1) (pa_cons (pv 2) pa_nil))))) (blkOk_by (own := [("_law_home", 4)]) (N := N_law_parts) (sc := defScope s_law_parts) (by decide +kernel)) (fun _ _ _ _ _ => (pg_name (i := 4) nd rfl (by first | exact Or.inl rfl | exact Or.inr rfl))) (fun _ _ _ _ _ => pts_nil) (fun _ _ _ _ _ => pe_tup (pa_cons (pv 4) (pa_cons (pe_cl (E := fun _ => E0) C_law_value hr (by decide) pass00 (pa_cons (pv 0) pa_nil)) pa_nil))))
      (pss_one (ps_ret (pe_tup (pa_cons (pv 3) (pa_cons (pe_cl (E := fun _ => E0) C_law_subset hr (by decide) pass00 (pa_cons (pv 0) (pa_cons (pv 1) (pa_cons (pe_cl (E := fun _ => E0) C_law_pick hr (by decide) pass00 (pa_cons (pv 0) (pa_cons (pe_lst (pa_cons pe_int (pa_cons pe_int (pa_cons pe_int (pa_cons pe_int (pa_cons pe_int pa_nil)))))) pa_nil))) pa_nil)))) pa_nil))))))), ?_⟩
    repeat walk_at "s"
    refine r_newL (sz (Nat.le_of_ble_eq_true rfl)) (fun l0 H1 hl0 s1 hl01 => ?_)
    repeat walk_at "s"
    refine ⟨p, l0, n, _, rfl, hp.same s1, by omega, by walk_at "ne", SqL.of hl01, by simp, by simp, fun i0 v0 H2 hi0 b2 hp2 => ?_⟩
    obtain ⟨most, rfl⟩ : ∃ m, v0 = .int m := by
      have hv := List.mem_of_getElem? hi0
      simp only [List.mem_cons, List.not_mem_nil, or_false] at hv
      rcases hv with rfl | rfl | rfl | rfl | rfl <;> exact ⟨_, rfl⟩
    repeat walk_at "s"
    refine ⟨p, n + 1, homes, most, rfl, hp2, by omega, by omega, by omega, fun a ns H3 ha b3 hp3 ha3 hasc hz => ?_⟩
    have npa : a ≠ p := by walk_at "ne"
    refine lcL (SqL.of ha3) (fun l H4 hl s4 hl4 => ?_)
    have npl : l ≠ p := by walk_at "ne"
    have npal : a ≠ l := ne_of_none ha3 hl
    refine ⟨fun i H' => ∃ (acc : List V) (cs : List (Int × PyData)), H' l = some (.lst acc) ∧ But [p] H3 H' ∧ SrcAt H' p (n + 1 + homes + 3 * i) ∧
      DnAll K [] H' acc (cs.map dCopy) ∧ cs.map (·.1) = ns.take i ∧ ∀ c ∈ cs, VOk c.2,
      ⟨[], [], hl4, by walk_at "bt", by simpa using hp3.same s4, .nil, by simp, by simp⟩, ?_, ?_, ?_⟩
    · rintro i H5 hi ⟨acc, cs, h1, b5, hp5, hd, he, hv⟩
      exact SqL.of (b5.at ha3 (by walk_at "ni"))
    · rintro i x H5 hi ⟨acc, cs, h1, b5, hp5, hd, he, hv⟩
      rw [List.getElem?_map] at hi
      obtain ⟨m, hm, rfl⟩ := Option.map_eq_some_iff.mp hi
      have hil : i < ns.length := (List.getElem?_eq_some_iff.mp hm).1
      have elen : acc.length = i := by
        rw [hd.length, List.length_map, ← List.length_map (f := Prod.fst), he, List.length_take]
        omega
      repeat walk_at "s"
      refine ⟨rfl, ?_⟩
      refine r_yes ?_
      refine r_iteT rfl ?_
      repeat walk_at "s"
      refine ⟨p, _, rfl, hp5, by omega, fun v d H6 hvd b6 hp6 hdn => ?_⟩
      repeat walk_at "s"
      refine r_newT (sz (Nat.le_of_ble_eq_true rfl)) (fun t H7 ht s7 ht7 => ?_)
      have h6 : H6 l = some (.lst acc) := b6.at h1 (by walk_at "ni")
      refine ⟨acc, s7 _ _ h6, szl (by omega), ?_⟩
      obtain ⟨H8, e8, b8, h8⟩ := upd_ex (o' := .lst (acc ++ [.ref t])) (s7 _ _ h6)
      rw [e8]
      have dd : Dn K [] H8 (.ref t) (dCopy (m, d)) := .tup (SqT.of (b8.tup ht7)) (.cons (.int _) (.one (((hdn.same s7).any (T := [l]) hvd.nol).but b8 (by walk_at "nis") |>.any hvd.nol)))
      refine ⟨acc ++ [.ref t], cs ++ [(m, d)], h8, by walk_at "bt", ?_, ?_, ?_, ?_⟩
      · exact (src_but b8 (hp6.same s7) (by walk_at "ni")).mono (by omega)
      · rw [List.map_append]
        have d0 : DnAll K [p, l] H5 acc (cs.map dCopy) := hd.any (noLs_copies hv)
        have d1 : DnAll K [p, l] H8 acc (cs.map dCopy) := by walk_at "da"
        exact (d1.any (noLs_copies hv)).snoc dd
      · rw [List.map_append, he, List.take_add_one, hm]; rfl
      · intro c hc
        rcases List.mem_append.mp hc with hc | hc
        · exact hv c hc
        · rw [List.mem_singleton.mp hc]; exact hvd
    · rintro H5 ⟨acc, cs, h1, b5, hp5, hd, he, hv⟩
      rw [List.length_map] at he hp5
      rw [List.take_length] at he
      have elen : cs.length = ns.length := by rw [← List.length_map (f := Prod.fst), he]
      have cok : CopiesOk homes cs := ⟨by rw [he]; exact hasc, hv, by omega⟩
      repeat walk_at "s"
      refine r_newL (sz (Nat.le_of_ble_eq_true rfl)) (fun l1 H6 hl1 s6 hl16 => ?_)
      repeat walk_at "s"
      refine ⟨p, l1, _, _, rfl, hp5.same s6, by omega, by walk_at "ne", SqL.of hl16, by simp, by simp, fun i1 v1 H7 hi1 b7 hp7 => ?_⟩
      obtain ⟨most1, rfl⟩ : ∃ m, v1 = .int m := by
        have hv := List.mem_of_getElem? hi1
        simp only [List.mem_cons, List.not_mem_nil, or_false] at hv
        rcases hv with rfl | rfl | rfl | rfl | rfl <;> exact ⟨_, rfl⟩
      repeat walk_at "s"
      refine ⟨p, _, homes, most1, rfl, hp7, by omega, by omega, by omega, fun r rs H8 hr8 b8 hp8 hr81 hasc8 hz8 => ?_⟩
      repeat walk_at "s"
      refine r_newT (sz (Nat.le_of_ble_eq_true rfl)) (fun t H9 ht s9 ht9 => ?_)
      have npr : r ≠ p := by walk_at "ne"
      have h8 : H8 l = some (.lst acc) := b8.at (b7.at (s6 _ _ h1) (by walk_at "ni")) (by walk_at "ni")
      have hlH : H l = none := by walk_at "fr"
      have hrH : H r = none := by walk_at "fr"
      refine k t cs rs H9 (by walk_at "bt") ((hp8.same s9).mono (by omega)) cok hasc8 hz8 fun S hS => ?_
      refine .tup (SqT.of ht9) (.cons (.lst (s9 _ _ h8) (hS.ne hlH) ?_) (.one (.lst (s9 _ _ hr81) (hS.ne hrH) DnAll.ints)))
      have d1 : DnAll K [p] H5 acc (cs.map dCopy) := hd.any (noLs_copies hv)
      have d2 : DnAll K [p] H9 acc (cs.map dCopy) := by walk_at "da"
      exact d2.any (noLs_copies hv)
end
end L20

open PySem L2 PyProof.Rows J

namespace L20
section
variable {P : Program} {w : World} {K : PySem.W.Frag} {mg : Str → Option Value} {base : Heap}
/-! ### logs -/
abbrev Tx := Int × List (Int × PyData) × List Int
def dTx (t : Tx) : PyData := .tuple [.int t.1, .list (t.2.1.map dCopy), .list (t.2.2.map .int)]
structure TxOk (t : Tx) : Prop where
  val : ∀ c ∈ t.2.1, VOk c.2
  cl : t.2.1.length ≤ 100
  rl : t.2.2.length ≤ 100
structure LogOk (log : List Tx) : Prop where
  tx : ∀ t ∈ log, TxOk t
  len : log.length ≤ 100
def lastIn (n : Int) (rs : List Int) (m : List (Int × Int)) : List (Int × Int) := rs.foldl (fun m h => putI m h (max n ((getI m h).getD 0))) m
def lastRev (log : List Tx) : List (Int × Int) := log.foldl (fun m t => lastIn t.1 t.2.2 m) []
theorem foldl_take {α β : Type} {f : β → α → β} {b : β} {l : List α} {i : Nat} {x : α} (h : l[i]? = some x) : (l.take (i + 1)).foldl f b = f ((l.take i).foldl f b) x := by
  rw [List.take_add_one, h, List.foldl_append]; rfl
theorem lastIn_length (n : Int) : ∀ (rs : List Int) (m : List (Int × Int)), (lastIn n rs m).length ≤ m.length + rs.length
  | [], m => Nat.le_refl _
  | h :: rs, m => by
    have h1 := lastIn_length n rs (putI m h (max n ((getI m h).getD 0)))
    have h2 := putI_length m h (max n ((getI m h).getD 0))
    have e : (lastIn n (h :: rs) m).length = (lastIn n rs (putI m h (max n ((getI m h).getD 0)))).length := rfl
    rw [e, List.length_cons]
    omega
theorem tx_inv {S : List Addr} {H : Hp} {v : V} {t : Tx} (h : Dn K S H v (dTx t)) : ∃ p c r cs, v = .ref p ∧ SqT K H p [.int t.1, .ref c, .ref r] ∧
    Rd H c (.lst cs) ∧ c ∉ S ∧ DnAll K S H cs (t.2.1.map dCopy) ∧ Rd H r (.lst (t.2.2.map V.int)) ∧ r ∉ S := by
  obtain ⟨p, xs, rfl, h1, h2⟩ := h.tup_inv
  obtain ⟨n, _, rfl, h3, h4⟩ := h2.cons_inv
  obtain ⟨c, _, rfl, h5, h6⟩ := h4.cons_inv
  obtain ⟨r, _, rfl, h7, h8⟩ := h6.cons_inv
  obtain rfl := h8.nil_inv
  obtain rfl := h3.int_inv
  obtain ⟨c, cs, rfl, h9, h10, h11⟩ := h5.lst_inv
  obtain ⟨r, rs, rfl, h12, h13, h14⟩ := h7.lst_inv
  obtain rfl := h14.ints_of
  exact ⟨p, c, r, cs, rfl, h1, .inl h9, h10, h11, .inl h12, h13⟩
theorem copy_inv {S : List Addr} {H : Hp} {v : V} {c : Int × PyData} (h : Dn K S H v (dCopy c)) : ∃ p x, v = .ref p ∧ SqT K H p [.int c.1, x] ∧ Dn K S H x c.2 := by
  obtain ⟨p, xs, rfl, h1, h2⟩ := h.tup_inv
  obtain ⟨n, _, rfl, h3, h4⟩ := h2.cons_inv
  obtain ⟨x, _, rfl, h5, h6⟩ := h4.cons_inv
  obtain rfl := h6.nil_inv
  obtain rfl := h3.int_inv
  exact ⟨p, x, rfl, h1, h5⟩
theorem map_get {α : Type} {f : α → PyData} {l : List α} {i : Nat} {d : PyData} (h : (l.map f)[i]? = some d) : ∃ x, l[i]? = some x ∧ d = f x := by
  rw [List.getElem?_map] at h
  obtain ⟨x, h1, h2⟩ := Option.map_eq_some_iff.mp h
  exact ⟨x, h1, h2.symm⟩
def spLast (K : PySem.W.Frag) : Sp := fun vs H Q _ => ∃ a xs log, vs = [.ref a] ∧ SqL K H a xs ∧ DnAll K [] H xs (log.map dTx) ∧ LogOk log ∧
  ∀ d H', H d = none → Same H H' → H' d = some (.dK (intKV (lastRev log))) → Q (.ref d) H'
theorem lastRev_length {log : List Tx} (h : ∀ t ∈ log, TxOk t) : (lastRev log).length ≤ 100 * log.length := by
  suffices ∀ (l : List Tx) (m : List (Int × Int)), (∀ t ∈ l, TxOk t) → (l.foldl (fun m t => lastIn t.1 t.2.2 m) m).length ≤ m.length + 100 * l.length by
    have := this log [] h
    rw [List.length_nil, Nat.zero_add] at this
    exact this
  intro l
  induction l with
  | nil => intro m _; exact Nat.le_refl _
  | cons t l ih =>
    intro m h
    have h1 := ih (lastIn t.1 t.2.2 m) fun z hz => h z (List.mem_cons_of_mem _ hz)
    have h2 := lastIn_length t.1 t.2.2 m
    have h3 := (h t List.mem_cons_self).rl
    rw [List.foldl_cons, List.length_cons]
    omega
abbrev s_last_revokes : Stmt := top 1
abbrev N_last_revokes : List Str := ["transactions", "found", "number", "copies", "revokes", "home"]
theorem sc_last_revokes : FnScope N_last_revokes ["transactions"] (defScope s_last_revokes) :=
  ⟨rfl, rfl, rfl, by decide +kernel, rfl, by decide +kernel, by decide +kernel⟩

theorem ok_last {f : Addr} {fd : FuncData} (F : Fun K "last_revokes" "last_revokes" s_last_revokes f fd) (B : Bl mg) :
    FnOk P w K mg base CX0 1 f fd ["transactions"] (spLast K) := by
  refine F.ok sc_last_revokes (fun vs H Q E h => ?_) (fun cdv A outer s H vs Q E hr h => ?_)
  · obtain ⟨_, _, _, rfl, _⟩ := h
    rfl
  · obtain ⟨a, xs, log, rfl, ha, hx, hlog, k⟩ := h
    have hu := hu_of hr
    have nd := sc_last_revokes.nd
    refine ⟨_, (pss_cons (ps_set (i := 1) nd rfl (by first | exact Or.inl rfl | exact Or.inr rfl) pe_dnewK)
      (pss_cons (ps_for PassesOwn.never rfl (pi_lst (K := K) (pv 0)) (pg_tpl (K := K) rfl (pgs_cons (pg_name (i := 2) nd rfl (by first | exact Or.inl rfl | exact Or.inr rfl)) (pgs_cons (pg_name (i := 3) nd rfl (by first | exact Or.inl rfl | exact Or.inr rfl)) (pgs_cons (pg_name (i := 4) nd rfl (by first | exact Or.inl rfl | exact Or.inr rfl)) pgs_nil))))
      (pss_one (ps_for PassesOwn.never rfl (pi_lst (K := K) (pv 4)) (pg_name (i := 5) nd rfl (by first | exact Or.inl rfl | exact Or.inr rfl))
      (pss_one (ps_dput hu (pv 1) (pv 5) (pe_callB (call_max2A rfl) rfl B.max (by decide +kernel) (pa_cons (pv 2) (pa_cons (pe_dget2 hu (pv 1) (pv 5) pe_int ⟨rfl, rfl, rfl, rfl⟩) pa_nil))) rfl)))))
      (pss_one (ps_ret (pv 1))))), ?_⟩
    repeat walk_at "s"
    refine r_dnew (fun d H1 hd s1 hd1 => ?_)
    repeat walk_at "s"
    have hx1 : DnAll K [d] H1 xs (log.map dTx) := (hx.fresh hd).same s1
    have nda : ∀ xs, Rd H a (.lst xs) → a ≠ d := fun xs r z => rd_live r (z ▸ hd)
    have hlen : xs.length = log.length := by rw [hx.length, List.length_map]
    have ha1 : SqL K H1 a xs := s1.seq ha
    have keepA : ∀ H', But [d] H1 H' → SqL K H' a xs := by
      intro H' b
      rcases ha with r | r
      · exact b.sqL ha1 (ni_cons (nda _ r) List.not_mem_nil)
      · exact .inr r
    refine forL ha1 (fun i σ H' => ∃ o2 o3 o4 o5, σ = [some (.ref a), some (.ref d), o2, o3, o4, o5] ∧ But [d] H1 H' ∧ H' d = some (.dK (intKV (lastRev (log.take i)))))
      ⟨_, _, _, _, rfl, .refl, hd1⟩ ?_ ?_ ?_
    · rintro i σ H2 hi ⟨o2, o3, o4, o5, rfl, b2, hd2⟩
      exact keepA H2 b2
    · rintro i x σ H2 hi ⟨o2, o3, o4, o5, rfl, b2, hd2⟩
      obtain ⟨dd, hdd, hdn⟩ := hx1.get hi
      obtain ⟨t, ht, rfl⟩ := map_get hdd
      obtain ⟨p, c, r, cs, rfl, hp, hc, hcS, hcs, hrr, hrS⟩ := tx_inv hdn
      have tok := hlog.tx t (List.mem_of_getElem? ht)
      have hil : i < log.length := (List.getElem?_eq_some_iff.mp ht).1
      have hr2 : SqL K H2 r (t.2.2.map V.int) := .inl (b2.rdL hrr hrS)
      have bound : (lastRev (log.take i)).length ≤ 100 * 100 := by
        have := lastRev_length (log := log.take i) fun z hz => hlog.tx z (List.mem_of_mem_take hz)
        have := hlog.len
        rw [List.length_take] at *
        omega
      repeat walk_at "s"
      refine forL hr2 (fun j σ H' => ∃ o5, σ = [some (.ref a), some (.ref d), some (.int t.1), some (.ref c), some (.ref r), o5] ∧ But [d] H2 H' ∧ H' d = some (.dK (intKV (lastIn t.1 (t.2.2.take j) (lastRev (log.take i))))))
        ⟨_, rfl, .refl, hd2⟩ ?_ ?_ ?_
      · rintro j σ H3 hj ⟨o5, rfl, b3, hd3⟩
        exact b3.sqL hr2 hrS
      · rintro j x σ H3 hj ⟨o5, rfl, b3, hd3⟩
        rw [List.getElem?_map] at hj
        obtain ⟨h, hh, rfl⟩ := Option.map_eq_some_iff.mp hj
        repeat walk_at "s"
        refine ⟨_, DGet.k (k := .inl h) hd3, ?_⟩
        rw [getD_intKV]
        repeat walk_at "s"
        refine r_dputI hd3 (szl ?_) (fun H4 b4 hd4 => ?_)
        · have h1 := lastIn_length t.1 (t.2.2.take j) (lastRev (log.take i))
          have h2 := tok.rl
          rw [List.length_take] at h1
          omega
        · refine ⟨_, rfl, b3.trans b4, ?_⟩
          rw [hd4]
          unfold lastIn
          rw [foldl_take hh]
      · rintro σ H3 ⟨o5, rfl, b3, hd3⟩
        rw [List.length_map, List.take_length] at hd3
        refine ⟨_, _, _, _, rfl, b2.trans b3, ?_⟩
        rw [hd3]
        unfold lastRev
        rw [foldl_take ht]
    · rintro σ H2 ⟨o2, o3, o4, o5, rfl, b2, hd2⟩
      rw [hlen, List.take_length] at hd2
      repeat walk_at "s"
      exact k d H2 hd (by walk_at "sm") hd2
end
end L20

open PySem L2 PyProof.Rows J

namespace L20
section
variable {P : Program} {w : World} {K : PySem.W.Frag} {mg : Str → Option Value} {base : Heap}
def spSortedRev (K : PySem.W.Frag) (f : List Tx → List (Int × Int)) : Sp := fun vs H Q _ => ∃ a xs log, vs = [.ref a] ∧ SqL K H a xs ∧ DnAll K [] H xs (log.map dTx) ∧ LogOk log ∧
  SortedTo K Q (f log) H
theorem r_bm0K {T : String} {σ : L2.St} {H : Hp} {Q : VK} {r : V → List V → Hp → VK → Prop} {to : TE} (k : to σ H fun x H1 => tyV K T x H1 ∧ r x [] H1 Q) : tBM0 K T r to σ H Q := k
abbrev s_revoked : Stmt := top 2
abbrev N_revoked : List Str := ["transactions"]
theorem sc_revoked : FnScope N_revoked ["transactions"] (defScope s_revoked) :=
  ⟨rfl, rfl, rfl, by decide +kernel, rfl, by decide +kernel, by decide +kernel⟩

theorem ok_revoked {f : Addr} {fd : FuncData} (F : Fun K "revoked" "revoked" s_revoked f fd) (B : Bl mg) (C_last_revokes : Cl P w K mg base CX0 1 "last_revokes" (spLast K)) :
    FnOk P w K mg base CX0 2 f fd ["transactions"] (spSortedRev K lastRev) := by
  refine F.ok sc_revoked (fun vs H Q E h => ?_) (fun cdv A outer s H vs Q E hr h => ?_)
  · obtain ⟨_, _, _, rfl, _⟩ := h
    rfl
  · obtain ⟨a, xs, log, rfl, ha, hx, hlog, k⟩ := h
    have hu := hu_of hr
    have nd := sc_revoked.nd
    refine ⟨_, (pss_one (ps_ret (pe_callB (cr_sortIK (K := K) rfl) rfl B.sorted (by decide +kernel) (pa_cons (pe_bm0 PySem.F.plainAttrs_dict PySem.F.slot_dict_items PySem.F.type_dict_items mt_itemsK (pe_cl (E := fun _ => E0) C_last_revokes hr (by decide) pass00 (pa_cons (pv 0) pa_nil))) pa_nil)))), ?_⟩
    repeat walk_at "s"
    refine r_bm0K ?_
    repeat walk_at "s"
    refine ⟨a, xs, log, rfl, ha, hx, hlog, fun d H1 hd s1 hd1 => ?_⟩
    refine r_items (σ := []) (to := fun _ _ _ => True) hd1 (fun p H2 hp s2 hp2 => ?_)
    repeat walk_at "s"
    refine ⟨p, d, _, rfl, hp2, s2 _ _ hd1, fun l zs ys H3 hl s3 hl3 hys hperm hlex => ?_⟩
    exact k l zs ys H3 (by walk_at "fr") (by walk_at "sm") hl3 hys hperm hlex
/-! ### replay -/
def replayBy (m : List (Int × Int)) (log : List Tx) : List (Int × PyData) := log.flatMap fun t => t.2.1.filter fun c => decide ((getI m c.1).getD 0 < t.1)
def replayM (log : List Tx) : List (Int × PyData) := replayBy (lastRev log) log
def spReplay (K : PySem.W.Frag) (f : List Tx → List (Int × PyData)) : Sp := fun vs H Q _ => ∃ a xs log, vs = [.ref a] ∧ SqL K H a xs ∧ DnAll K [] H xs (log.map dTx) ∧ LogOk log ∧
  ∀ l ys H', H l = none → Same H H' → H' l = some (.lst ys) → DnAll K [] H' ys ((f log).map dCopy) → Q (.ref l) H'
theorem flatMap_take {α β : Type} {f : α → List β} {l : List α} {i : Nat} {x : α} (h : l[i]? = some x) : (l.take (i + 1)).flatMap f = (l.take i).flatMap f ++ f x := by
  rw [List.take_add_one, h, List.flatMap_append]
  simp
theorem filter_take {α : Type} {f : α → Bool} {l : List α} {i : Nat} {x : α} (h : l[i]? = some x) : (l.take (i + 1)).filter f = (l.take i).filter f ++ (if f x then [x] else []) := by
  rw [List.take_add_one, h, List.filter_append]
  cases hf : f x <;> simp [hf]
theorem vok_replay {m : List (Int × Int)} {log : List Tx} (h : ∀ t ∈ log, TxOk t) : ∀ c ∈ replayBy m log, VOk c.2 := by
  intro c hc
  obtain ⟨t, ht, hc⟩ := List.mem_flatMap.mp hc
  exact (h t ht).val c (List.mem_filter.mp hc).1
theorem replay_length {m : List (Int × Int)} {log : List Tx} (h : ∀ t ∈ log, TxOk t) : (replayBy m log).length ≤ 100 * log.length := by
  induction log with
  | nil => exact Nat.le_refl _
  | cons t log ih =>
    have h1 := ih fun z hz => h z (List.mem_cons_of_mem _ hz)
    have h2 := (h t List.mem_cons_self).cl
    have h3 := List.length_filter_le (fun c => decide ((getI m c.1).getD 0 < t.1)) t.2.1
    unfold replayBy at *
    rw [List.flatMap_cons, List.length_append, List.length_cons]
    omega
abbrev s_replay : Stmt := top 3
abbrev N_replay : List Str := ["transactions", "last", "found", "number", "copies", "revokes", "home", "value"]
theorem sc_replay : FnScope N_replay ["transactions"] (defScope s_replay) :=
  ⟨rfl, rfl, rfl, by decide +kernel, rfl, by decide +kernel, by decide +kernel⟩

theorem ok_replay {f : Addr} {fd : FuncData} (F : Fun K "replay" "replay" s_replay f fd) (C_last_revokes : Cl P w K mg base CX0 1 "last_revokes" (spLast K)) :
    FnOk P w K mg base CX0 2 f fd ["transactions"] (spReplay K replayM) := by
  refine F.ok sc_replay (fun vs H Q E h => ?_) (fun cdv A outer s H vs Q E hr h => ?_)
  · obtain ⟨_, _, _, rfl, _⟩ := h
    rfl
  · obtain ⟨a, xs, log, rfl, ha, hx, hlog, k⟩ := h
    have hu := hu_of hr
    have nd := sc_replay.nd
    refine ⟨_, (pss_cons (ps_set (i := 1) nd rfl (by first | exact Or.inl rfl | exact Or.inr rfl) (pe_cl (E := fun _ => E0) C_last_revokes hr (by decide) pass00 (pa_cons (pv 0) pa_nil)))
      (pss_cons (ps_set (i := 2) nd rfl (by first | exact Or.inl rfl | exact Or.inr rfl) (pe_lst pa_nil))
      (pss_cons (ps_for PassesOwn.never rfl (pi_lst (K := K) (pv 0)) (pg_tpl (K := K) rfl (pgs_cons (pg_name (i := 3) nd rfl (by first | exact Or.inl rfl | exact Or.inr rfl)) (pgs_cons (pg_name (i := 4) nd rfl (by first | exact Or.inl rfl | exact Or.inr rfl)) (pgs_cons (pg_name (i := 5) nd rfl (by first | exact Or.inl rfl | exact Or.inr rfl)) pgs_nil))))
      (pss_one (ps_aug (i := 2) nd rfl (by first | exact Or.inl rfl | exact Or.inr rfl) (pe_lc (own := [("home", 6), ("value", 7)]) (g := (gTup K 2 (gCons (gName 6) (gCons (gName 7) gNil)))) rfl nd (pi_lst (K := K) (pv 4)) (blkOk_by (own := [("home", 6), ("value", 7)]) (N := N_replay) (sc := defScope s_replay) (by decide +kernel)) (fun _ _ _ _ _ => (pg_tpl (K := K) rfl (pgs_cons (pg_name (i := 6) nd rfl (by first | exact Or.inl rfl | exact Or.inr rfl)) (pgs_cons (pg_name (i := 7) nd rfl (by first | exact Or.inl rfl | exact Or.inr rfl)) pgs_nil)))) (fun _ _ _ _ _ => pts_one (pt_cmpR op_ltA (pe_dget2 hu (pv 1) (pv 6) pe_int ⟨rfl, rfl, rfl, rfl⟩) (pv 3) (nomark _))) (fun _ _ _ _ _ => pe_tup (pa_cons (pv 6) (pa_cons (pv 7) pa_nil)))) ip_addA)))
      (pss_one (ps_ret (pv 2)))))), ?_⟩
    repeat walk_at "s"
    refine ⟨a, xs, log, rfl, ha, hx, hlog, fun d H1 hd s1 hd1 => ?_⟩
    repeat walk_at "s"
    refine r_newL (sz (Nat.le_of_ble_eq_true rfl)) (fun l H2 hl s2 hl2 => ?_)
    repeat walk_at "s"
    have hx1 : DnAll K [] H1 xs (log.map dTx) := by walk_at "da"
    have hx2 : DnAll K [l] H2 xs (log.map dTx) := (hx1.fresh hl).same s2
    have ha1 : SqL K H1 a xs := by walk_at "sq"
    have nla : ∀ xs, Rd H1 a (.lst xs) → a ≠ l := fun xs r z => rd_live r (z ▸ hl)
    have hlen : xs.length = log.length := by rw [hx.length, List.length_map]
    have ha2 : SqL K H2 a xs := by walk_at "sq"
    have keepA : ∀ H', But [l] H2 H' → SqL K H' a xs := by
      intro H' b
      rcases ha1 with r | r
      · exact b.sqL ha2 (ni_cons (nla _ r) List.not_mem_nil)
      · exact .inr r
    have ndl : d ≠ l := by walk_at "ne"
    have hd2 : H2 d = some (.dK (intKV (lastRev log))) := by walk_at "hp"
    refine forL ha2 (fun i σ H' => ∃ o3 o4 o5 o6 o7 ys, σ = [some (.ref a), some (.ref d), some (.ref l), o3, o4, o5, o6, o7] ∧ But [l] H2 H' ∧ H' l = some (.lst ys) ∧
        DnAll K [] H' ys ((replayBy (lastRev log) (log.take i)).map dCopy))
      ⟨_, _, _, _, _, _, rfl, .refl, hl2, .nil⟩ ?_ ?_ ?_
    · rintro i σ H3 hi ⟨o3, o4, o5, o6, o7, ys, rfl, b3, hl3, hys⟩
      exact keepA H3 b3
    · rintro i x σ H3 hi ⟨o3, o4, o5, o6, o7, ys, rfl, b3, hl3, hys⟩
      obtain ⟨dd, hdd, hdn⟩ := hx2.get hi
      obtain ⟨t, ht, rfl⟩ := map_get hdd
      obtain ⟨p, c, r, cs, rfl, hp, hc, hcS, hcs, hrr, hrS⟩ := tx_inv hdn
      have tok := hlog.tx t (List.mem_of_getElem? ht)
      have hil : i < log.length := (List.getElem?_eq_some_iff.mp ht).1
      have hc3 : SqL K H3 c cs := .inl (b3.rdL hc hcS)
      have hcl : cs.length = t.2.1.length := by rw [hcs.length, List.length_map]
      repeat walk_at "s"
      refine lcL hc3 (fun q H4 hq s4 hq4 => ?_)
      have nqc : ∀ xs, Rd H3 c (.lst xs) → c ≠ q := fun xs r z => rd_live r (z ▸ hq)
      have ndq : d ≠ q := by walk_at "ne"
      refine ⟨fun j H' => ∃ zs, H' q = some (.lst zs) ∧ But [] H3 H' ∧ DnAll K [] H' zs (((t.2.1.take j).filter fun c => decide ((getI (lastRev log) c.1).getD 0 < t.1)).map dCopy),
        ⟨[], hq4, by walk_at "bt", .nil⟩, ?_, ?_, ?_⟩
      · rintro j H5 hj ⟨zs, hq5, b5, hzs⟩
        exact b5.sqL hc3 List.not_mem_nil
      · rintro j x H5 hj ⟨zs, hq5, b5, hzs⟩
        obtain ⟨dd, hdd, hdn⟩ := hcs.get hj
        obtain ⟨cp, hcp, rfl⟩ := map_get hdd
        obtain ⟨pc, v, rfl, hpc, hv⟩ := copy_inv hdn
        have cok := tok.val cp (List.mem_of_getElem? hcp)
        have hd5 : H5 d = some (.dK (intKV (lastRev log))) := by walk_at "hp"
        repeat walk_at "s"
        refine ⟨rfl, ?_⟩
        repeat walk_at "s"
        refine ⟨_, DGet.k (k := .inl cp.1) hd5, ?_⟩
        rw [getD_intKV]
        repeat walk_at "s"
        have elen : zs.length ≤ 100 := by
          rw [hzs.length, List.length_map]
          refine Nat.le_trans (List.length_filter_le _ _) ?_
          rw [List.length_take]
          have := tok.cl
          omega
        refine r_ite (fun hlt => ?_) (fun hlt => ?_)
        · repeat walk_at "s"
          refine r_newT (sz (Nat.le_of_ble_eq_true rfl)) (fun T H6 hT s6 hT6 => ?_)
          have hq6 : H6 q = some (.lst zs) := by walk_at "hp"
          refine ⟨zs, hq6, szl (by omega), ?_⟩
          obtain ⟨H7, e7, b7, hq7⟩ := upd_ex (o' := .lst (zs ++ [.ref T])) hq6
          rw [e7]
          have nlv : noL cp.2 = true := cok.nol
          refine ⟨zs ++ [.ref T], hq7, by walk_at "bt", ?_⟩
          rw [filter_take hcp, decide_eq_true hlt, if_pos rfl, List.map_append]
          have vv : Dn K [q] H7 v cp.2 := by
            have v2 : Dn K [l, q] H2 v cp.2 := hv.any nlv
            have v3 : Dn K [l, q] H3 v cp.2 := by walk_at "dn"
            have v5 : Dn K [l, q] H5 v cp.2 := by walk_at "dn"
            have v7 : Dn K [l, q] H7 v cp.2 := by walk_at "dn"
            exact v7.any nlv
          have nz : noLs (((t.2.1.take j).filter fun c => decide ((getI (lastRev log) c.1).getD 0 < t.1)).map dCopy) = true :=
            noLs_copies fun c hc => tok.val c (List.mem_of_mem_take (List.mem_filter.mp hc).1)
          have z5 : DnAll K [q] H5 zs _ := hzs.any nz
          have z7 : DnAll K [q] H7 zs (((t.2.1.take j).filter fun c => decide ((getI (lastRev log) c.1).getD 0 < t.1)).map dCopy) := by walk_at "da"
          exact (z7.any nz).snoc (.tup (SqT.of (b7.tup hT6)) (.cons (.int _) (.one (vv.any nlv))))
        · refine ⟨zs, hq5, b5, ?_⟩
          rw [filter_take hcp, decide_eq_false hlt, if_neg Bool.false_ne_true, List.append_nil]
          exact hzs
      · rintro H5 ⟨zs, hq5, b5, hzs⟩
        rw [hcl, List.take_length] at hzs
        have hl5 : H5 l = some (.lst ys) := by walk_at "hp"
        have y1 : ys.length ≤ 100 * 100 := by
          rw [hys.length, List.length_map]
          refine Nat.le_trans (replay_length fun z hz => hlog.tx z (List.mem_of_mem_take hz)) ?_
          rw [List.length_take]
          have := hlog.len
          omega
        have z1 : zs.length ≤ 100 := by
          rw [hzs.length, List.length_map]
          refine Nat.le_trans (List.length_filter_le _ _) tok.cl
        refine r_ext hl5 hq5 (sz (by omega)) (fun H6 b6 hl6 => ?_)
        refine ⟨_, _, _, _, _, _, rfl, by walk_at "bt", hl6, ?_⟩
        have e1 : replayBy (lastRev log) (log.take (i + 1)) = replayBy (lastRev log) (log.take i) ++ t.2.1.filter fun c => decide ((getI (lastRev log) c.1).getD 0 < t.1) := flatMap_take ht
        rw [e1, List.map_append]
        have n1 : noLs ((replayBy (lastRev log) (log.take i)).map dCopy) = true := noLs_copies (vok_replay fun z hz => hlog.tx z (List.mem_of_mem_take hz))
        have n2 : noLs ((t.2.1.filter fun c => decide ((getI (lastRev log) c.1).getD 0 < t.1)).map dCopy) = true := noLs_copies fun c hc => tok.val c (List.mem_filter.mp hc).1
        have y3 : DnAll K [l] H3 ys ((replayBy (lastRev log) (log.take i)).map dCopy) := hys.any n1
        have y6 : DnAll K [l] H6 ys ((replayBy (lastRev log) (log.take i)).map dCopy) := by walk_at "da"
        have z5 : DnAll K [l] H5 zs ((t.2.1.filter fun c => decide ((getI (lastRev log) c.1).getD 0 < t.1)).map dCopy) := hzs.any n2
        have z6 : DnAll K [l] H6 zs ((t.2.1.filter fun c => decide ((getI (lastRev log) c.1).getD 0 < t.1)).map dCopy) := by walk_at "da"
        exact (y6.any n1).append (z6.any n2)
    · rintro σ H3 ⟨o3, o4, o5, o6, o7, ys, rfl, b3, hl3, hys⟩
      rw [hlen, List.take_length] at hys
      repeat walk_at "s"
      exact k l ys H3 (by walk_at "fr") (by walk_at "sm") hl3 hys
end
end L20

open PySem L2 PyProof.Rows J

namespace L20
section
variable {P : Program} {w : World} {K : PySem.W.Frag} {mg : Str → Option Value} {base : Heap}
/-! ### the law's own last revokes -/
def lawIn (n : Int) (rs : List Int) (m : List (Int × Int)) : List (Int × Int) := rs.foldl (fun m h => putI m h n) m
def lawRev (log : List Tx) : List (Int × Int) := log.foldl (fun m t => lawIn t.1 t.2.2 m) []
theorem lawIn_length (n : Int) : ∀ (rs : List Int) (m : List (Int × Int)), (lawIn n rs m).length ≤ m.length + rs.length
  | [], m => Nat.le_refl _
  | h :: rs, m => by
    have h1 := lawIn_length n rs (putI m h n)
    have h2 := putI_length m h n
    have e : (lawIn n (h :: rs) m).length = (lawIn n rs (putI m h n)).length := rfl
    rw [e, List.length_cons]
    omega
theorem lawRev_length {log : List Tx} (h : ∀ t ∈ log, TxOk t) : (lawRev log).length ≤ 100 * log.length := by
  suffices ∀ (l : List Tx) (m : List (Int × Int)), (∀ t ∈ l, TxOk t) → (l.foldl (fun m t => lawIn t.1 t.2.2 m) m).length ≤ m.length + 100 * l.length by
    have := this log [] h
    rw [List.length_nil, Nat.zero_add] at this
    exact this
  intro l
  induction l with
  | nil => intro m _; exact Nat.le_refl _
  | cons t l ih =>
    intro m h
    have h1 := ih (lawIn t.1 t.2.2 m) fun z hz => h z (List.mem_cons_of_mem _ hz)
    have h2 := lawIn_length t.1 t.2.2 m
    have h3 := (h t List.mem_cons_self).rl
    rw [List.foldl_cons, List.length_cons]
    omega
abbrev s_law_last : Stmt := top 14
abbrev N_law_last : List Str := ["_law_log", "_law_found", "_law_number", "_law_copies", "_law_revokes", "_law_home"]
theorem sc_law_last : FnScope N_law_last ["_law_log"] (defScope s_law_last) :=
  ⟨rfl, rfl, rfl, by decide +kernel, rfl, by decide +kernel, by decide +kernel⟩

theorem ok_lawLast {f : Addr} {fd : FuncData} (F : Fun K "_law_last" "_law_last" s_law_last f fd) (B : Bl mg) :
    FnOk P w K mg base CX0 1 f fd ["_law_log"] (spSortedRev K lawRev) := by
  refine F.ok sc_law_last (fun vs H Q E h => ?_) (fun cdv A outer s H vs Q E hr h => ?_)
  · obtain ⟨_, _, _, rfl, _⟩ := h
    rfl
  · obtain ⟨a, xs, log, rfl, ha, hx, hlog, k⟩ := h
    have hu := hu_of hr
    have nd := sc_law_last.nd
    refine ⟨_, (pss_cons (ps_set (i := 1) nd rfl (by first | exact Or.inl rfl | exact Or.inr rfl) pe_dnewK)
      (pss_cons (ps_for PassesOwn.never rfl (pi_lst (K := K) (pv 0)) (pg_tpl (K := K) rfl (pgs_cons (pg_name (i := 2) nd rfl (by first | exact Or.inl rfl | exact Or.inr rfl)) (pgs_cons (pg_name (i := 3) nd rfl (by first | exact Or.inl rfl | exact Or.inr rfl)) (pgs_cons (pg_name (i := 4) nd rfl (by first | exact Or.inl rfl | exact Or.inr rfl)) pgs_nil))))
      (pss_one (ps_for PassesOwn.never rfl (pi_lst (K := K) (pv 4)) (pg_name (i := 5) nd rfl (by first | exact Or.inl rfl | exact Or.inr rfl))
      (pss_one (ps_dput hu (pv 1) (pv 5) (pv 2) rfl)))))
      (pss_one (ps_ret (pe_callB (call_sortedPA (K := K)) rfl B.sorted (by decide +kernel) (pa_cons (LiI.pe_listItems rfl (pv 1) rfl B.list (by decide +kernel)) pa_nil)))))), ?_⟩
    repeat walk_at "s"
    refine r_dnew (fun d H1 hd s1 hd1 => ?_)
    repeat walk_at "s"
    have hx1 : DnAll K [d] H1 xs (log.map dTx) := (hx.fresh hd).same s1
    have nda : ∀ xs, Rd H a (.lst xs) → a ≠ d := fun xs r z => rd_live r (z ▸ hd)
    have hlen : xs.length = log.length := by rw [hx.length, List.length_map]
    have ha1 : SqL K H1 a xs := s1.seq ha
    have keepA : ∀ H', But [d] H1 H' → SqL K H' a xs := by
      intro H' b
      rcases ha with r | r
      · exact b.sqL ha1 (ni_cons (nda _ r) List.not_mem_nil)
      · exact .inr r
    refine forL ha1 (fun i σ H' => ∃ o2 o3 o4 o5, σ = [some (.ref a), some (.ref d), o2, o3, o4, o5] ∧ But [d] H1 H' ∧ H' d = some (.dK (intKV (lawRev (log.take i)))))
      ⟨_, _, _, _, rfl, .refl, hd1⟩ ?_ ?_ ?_
    · rintro i σ H2 hi ⟨o2, o3, o4, o5, rfl, b2, hd2⟩
      exact keepA H2 b2
    · rintro i x σ H2 hi ⟨o2, o3, o4, o5, rfl, b2, hd2⟩
      obtain ⟨dd, hdd, hdn⟩ := hx1.get hi
      obtain ⟨t, ht, rfl⟩ := map_get hdd
      obtain ⟨p, c, r, cs, rfl, hp, hc, hcS, hcs, hrr, hrS⟩ := tx_inv hdn
      have tok := hlog.tx t (List.mem_of_getElem? ht)
      have hil : i < log.length := (List.getElem?_eq_some_iff.mp ht).1
      have hr2 : SqL K H2 r (t.2.2.map V.int) := .inl (b2.rdL hrr hrS)
      have bound : (lawRev (log.take i)).length ≤ 100 * 100 := by
        have := lawRev_length (log := log.take i) fun z hz => hlog.tx z (List.mem_of_mem_take hz)
        have := hlog.len
        rw [List.length_take] at *
        omega
      repeat walk_at "s"
      refine forL hr2 (fun j σ H' => ∃ o5, σ = [some (.ref a), some (.ref d), some (.int t.1), some (.ref c), some (.ref r), o5] ∧ But [d] H2 H' ∧ H' d = some (.dK (intKV (lawIn t.1 (t.2.2.take j) (lawRev (log.take i))))))
        ⟨_, rfl, .refl, hd2⟩ ?_ ?_ ?_
      · rintro j σ H3 hj ⟨o5, rfl, b3, hd3⟩
        exact b3.sqL hr2 hrS
      · rintro j x σ H3 hj ⟨o5, rfl, b3, hd3⟩
        rw [List.getElem?_map] at hj
        obtain ⟨h, hh, rfl⟩ := Option.map_eq_some_iff.mp hj
        repeat walk_at "s"
        refine r_dputI hd3 (szl ?_) (fun H4 b4 hd4 => ?_)
        · have h1 := lawIn_length t.1 (t.2.2.take j) (lawRev (log.take i))
          have h2 := tok.rl
          rw [List.length_take] at h1
          omega
        · refine ⟨_, rfl, b3.trans b4, ?_⟩
          rw [hd4]
          unfold lawIn
          rw [foldl_take hh]
      · rintro σ H3 ⟨o5, rfl, b3, hd3⟩
        rw [List.length_map, List.take_length] at hd3
        refine ⟨_, _, _, _, rfl, b2.trans b3, ?_⟩
        rw [hd3]
        unfold lawRev
        rw [foldl_take ht]
    · rintro σ H2 ⟨o2, o3, o4, o5, rfl, b2, hd2⟩
      rw [hlen, List.take_length] at hd2
      repeat walk_at "s"
      refine r_itemsL hd2 (fun p ps H3 hp s3 hp3 pp => ?_)
      repeat walk_at "s"
      refine r_sortedP (SqL.of hp3) pp (fun l zs ys H4 hl s4 hl4 hys hperm hlex => ?_)
      exact k l zs ys H4 (by walk_at "fr") (by walk_at "sm") hl4 hys hperm hlex
/-! ### the law's own replay -/
def dueC (log : List Tx) (h : Int) : Bool := decide ((log.filter fun o => decide (h ∈ o.2.2)).map (fun _ => (1 : Int)) = [])
def dueM : List Tx → List (Int × PyData)
  | [] => []
  | t :: r => (t.2.1.filter fun c => dueC (t :: r) c.1) ++ dueM r
theorem dueM_drop {log : List Tx} {i : Nat} {t : Tx} (h : log[i]? = some t) : dueM (log.drop i) = (t.2.1.filter fun c => dueC (log.drop i) c.1) ++ dueM (log.drop (i + 1)) := by
  obtain ⟨hi, rfl⟩ := List.getElem?_eq_some_iff.mp h
  rw [List.drop_eq_getElem_cons hi]
  rfl
abbrev s_law_due : Stmt := top 13
abbrev N_law_due : List Str := ["_law_log", "_law_found", "_law_at", "_law_one", "_law_home", "_law_value_here", "_law_other"]
theorem sc_law_due : FnScope N_law_due ["_law_log"] (defScope s_law_due) :=
  ⟨rfl, rfl, rfl, by decide +kernel, rfl, by decide +kernel, by decide +kernel⟩

theorem ok_due {f : Addr} {fd : FuncData} (F : Fun K "_law_due" "_law_due" s_law_due f fd) (B : Bl mg) :
    FnOk P w K mg base CX0 1 f fd ["_law_log"] (spReplay K dueM) := by
  refine F.ok sc_law_due (fun vs H Q E h => ?_) (fun cdv A outer s H vs Q E hr h => ?_)
  · obtain ⟨_, _, _, rfl, _⟩ := h
    rfl
  · obtain ⟨a, xs, log, rfl, ha, hx, hlog, k⟩ := h
    have hu := hu_of hr
    have nd := sc_law_due.nd
    refine ⟨_, (pss_cons (ps_set (i := 1) nd rfl (by first | exact Or.inl rfl | exact Or.inr rfl) (pe_lst pa_nil))
      (pss_cons (ps_for PassesOwn.never rfl (pi_enum rfl B.enumerate (pa_cons (pv 0) pa_nil)) (pg_tpl (K := K) rfl (pgs_cons (pg_name (i := 2) nd rfl (by first | exact Or.inl rfl | exact Or.inr rfl)) (pgs_cons (pg_name (i := 3) nd rfl (by first | exact Or.inl rfl | exact Or.inr rfl)) pgs_nil)))
      (pss_one (ps_for PassesOwn.never rfl (pi_lst (K := K) (pe_ix (ix_any (K := K)) (pv 3) pe_int (fun _ _ => rfl))) (pg_tpl (K := K) rfl (pgs_cons (pg_name (i := 4) nd rfl (by first | exact Or.inl rfl | exact Or.inr rfl)) (pgs_cons (pg_name (i := 5) nd rfl (by first | exact Or.inl rfl | exact Or.inr rfl)) pgs_nil)))
      (pss_one (ps_if (pt_cmpR (op_eqA (K := K) hr.units) (pe_lc (own := [("_law_other", 6)]) (g := (gName 6)) rfl nd (pi_lst (K := K) (pe_slice (sl_any (K := K)) (pv 0) (po_some (pv 2)) po_none)) (blkOk_by (own := [("_law_other", 6)]) (N := N_law_due) (sc := defScope s_law_due) (by decide +kernel)) (fun _ _ _ _ _ => (pg_name (i := 6) nd rfl (by first | exact Or.inl rfl | exact Or.inr rfl))) (fun _ _ _ _ _ => pts_one (pt_cmpR (op_inA (K := K) (units65 hr)) (pv 4) (pe_ix (ix_any (K := K)) (pv 6) pe_int (fun _ _ => rfl)) (by rfl))) (fun _ _ _ _ _ => pe_int)) (pe_lst pa_nil) (nomark _)) (pss_one (ps_expr (pe_bm PySem.F.plainAttrs_list PySem.F.slot_list_append PySem.F.type_list_append mt_append (pv 1) (pa_cons (pe_tup (pa_cons (pv 4) (pa_cons (pv 5) pa_nil))) pa_nil)))) pss_nil)))))
      (pss_one (ps_ret (pv 1))))), ?_⟩
    repeat walk_at "s"
    refine r_newL (sz (Nat.le_of_ble_eq_true rfl)) (fun l H1 hl s1 hl1 => ?_)
    repeat walk_at "s"
    have hx1 : DnAll K [l] H1 xs (log.map dTx) := (hx.fresh hl).same s1
    have nla : ∀ xs, Rd H a (.lst xs) → a ≠ l := fun xs r z => rd_live r (z ▸ hl)
    have hlen : xs.length = log.length := by rw [hx.length, List.length_map]
    have ha1 : SqL K H1 a xs := s1.seq ha
    have keepA : ∀ H', But [l] H1 H' → SqL K H' a xs := by
      intro H' b
      rcases ha with r | r
      · exact b.sqL ha1 (ni_cons (nla _ r) List.not_mem_nil)
      · exact .inr r
    refine forE ha1 (fun i σ H' => ∃ o2 o3 o4 o5 o6 ys pre, σ = [some (.ref a), some (.ref l), o2, o3, o4, o5, o6] ∧ But [l] H1 H' ∧ H' l = some (.lst ys) ∧
        DnAll K [] H' ys (pre.map dCopy) ∧ pre ++ dueM (log.drop i) = dueM log ∧ pre.length ≤ 100 * i ∧ ∀ c ∈ pre, VOk c.2)
      ⟨_, _, _, _, _, _, [], rfl, .refl, hl1, .nil, rfl, Nat.le_refl _, by simp⟩ ?_ ?_ ?_
    · rintro i σ H3 hi ⟨o2, o3, o4, o5, o6, ys, pre, rfl, b3, hl3, hys, hpre, hpl, hpv⟩
      exact keepA H3 b3
    · rintro i x σ H2 hi ⟨o2, o3, o4, o5, o6, ys, pre, rfl, b2, hl2, hys, hpre, hpl, hpv⟩ T H3 hT s3 hT3
      obtain ⟨dd, hdd, hdn⟩ := hx1.get hi
      obtain ⟨t, ht, rfl⟩ := map_get hdd
      obtain ⟨p, c, r, cs, rfl, hp, hc, hcS, hcs, hrr, hrS⟩ := tx_inv hdn
      have tok := hlog.tx t (List.mem_of_getElem? ht)
      have hil : i < log.length := (List.getElem?_eq_some_iff.mp ht).1
      have hill := hlog.len
      have b13 : But [l] H1 H3 := b2.trans (But.of_same s3)
      have hc3 : SqL K H3 c cs := .inl (b13.rdL hc hcS)
      have hcl : cs.length = t.2.1.length := by rw [hcs.length, List.length_map]
      have nlpre : noLs (pre.map dCopy) = true := noLs_copies hpv
      have hys3 : DnAll K [] H3 ys (pre.map dCopy) := hys.same s3
      have hl3 : H3 l = some (.lst ys) := s3 _ _ hl2
      repeat walk_at "s"
      clear b2 s3 hys hl2 hT hT3
      refine forL hc3 (fun j σ H' => ∃ o4 o5 o6 ys, σ = [some (.ref a), some (.ref l), some (.int (i : Nat)), some (.ref p), o4, o5, o6] ∧ But [l] H3 H' ∧ H' l = some (.lst ys) ∧
        DnAll K [] H' ys ((pre ++ ((t.2.1.take j).filter fun c => dueC (log.drop i) c.1)).map dCopy))
        ⟨_, _, _, _, rfl, .refl, hl3, by simpa using hys3⟩ ?_ ?_ ?_
      · rintro j σ H4 hj ⟨o4, o5, o6, zs, rfl, b4, hl4, hzs⟩
        exact b4.sqL hc3 hcS
      · rintro j x σ H4 hj ⟨o4, o5, o6, zs, rfl, b4, hl4, hzs⟩
        obtain ⟨dd, hdd, hdn⟩ := hcs.get hj
        obtain ⟨cp, hcp, rfl⟩ := map_get hdd
        obtain ⟨pc, v, rfl, hpc, hv⟩ := copy_inv hdn
        have cok := tok.val cp (List.mem_of_getElem? hcp)
        have ha4 : SqL K H4 a xs := keepA H4 (b13.trans b4)
        have b14 : But [l] H1 H4 := b13.trans b4
        have zl : zs.length ≤ 100 * 100 + 100 := by
          rw [hzs.length, List.length_map, List.length_append]
          have := List.length_filter_le (fun c : Int × PyData => dueC (log.drop i) c.1) (t.2.1.take j)
          rw [List.length_take] at this
          have := tok.cl
          omega
        have hpc4 : SqT K H4 pc [.int cp.1, v] := b14.sqT hpc
        have nlv : noL cp.2 = true := cok.nol
        have nz : noLs ((pre ++ ((t.2.1.take j).filter fun c => dueC (log.drop i) c.1)).map dCopy) = true := noLs_copies fun c hc => by
          rcases List.mem_append.mp hc with hc | hc
          · exact hpv c hc
          · exact tok.val c (List.mem_of_mem_take (List.mem_filter.mp hc).1)
        have hv4 : Dn K [l] H4 v cp.2 := hv.but b14 (by walk_at "nis")
        have hz4 : DnAll K [l] H4 zs _ := hzs.any nz
        have hdr : DnAll K [l] H4 (xs.drop i) ((log.drop i).map dTx) := by
          rw [List.map_drop]
          exact (hx1.drop i).but b14 (by walk_at "nis")
        clear b13
        repeat walk_at "s"
        refine r_slL ha4 (fun sl H5 hsl s5 hsl5 => ?_)
        rw [cut_from] at hsl5
        refine lcL (SqL.of hsl5) (fun q H6 hq s6 hq6 => ?_)
        have nsq : sl ≠ q := ne_of_none hsl5 hq
        have hdr6 : DnAll K [l, q] H6 (xs.drop i) ((log.drop i).map dTx) := by
          have h5 : DnAll K [l] H5 (xs.drop i) ((log.drop i).map dTx) := hdr.same s5
          exact ((h5.fresh hq).sub (by simp)).same s6
        refine ⟨fun n H' => But [q] H6 H' ∧ H' q = some (.lst (((((log.drop i).take n).filter fun o => decide (cp.1 ∈ o.2.2)).map fun _ => (1 : Int)).map V.int)),
          ⟨.refl, hq6⟩, ?_, ?_, ?_⟩
        · rintro n H7 hn ⟨b7, hq7⟩
          exact SqL.of (by walk_at "hp")
        · rintro n x H7 hn ⟨b7, hq7⟩
          obtain ⟨dd, hdd, hdn⟩ := hdr6.get hn
          obtain ⟨o, ho, rfl⟩ := map_get hdd
          obtain ⟨po, co, ro, _, rfl, hpo, _, _, _, hro, hroS⟩ := tx_inv hdn
          have hro7 : SqL K H7 ro (o.2.2.map V.int) := .inl (b7.rdL hro fun z => hroS (by simp at z; simp [z]))
          have hll : ((((log.drop i).take n).filter fun o => decide (cp.1 ∈ o.2.2)).map fun _ => (1 : Int)).length ≤ 100 := by
            rw [List.length_map]
            refine Nat.le_trans (List.length_filter_le _ _) ?_
            rw [List.length_take, List.length_drop]
            omega
          repeat walk_at "s"
          refine ⟨rfl, ?_⟩
          repeat walk_at "s"
          refine r_inL hro7 ?_
          repeat walk_at "s"
          refine r_ite (fun hm => ?_) (fun hm => ?_)
          · repeat walk_at "s"
            refine ⟨_, hq7, szl (by rw [List.length_map]; omega), ?_⟩
            obtain ⟨H8, e8, b8, hq8⟩ := upd_ex (o' := .lst ((((((log.drop i).take n).filter fun o => decide (cp.1 ∈ o.2.2)).map fun _ => (1 : Int)).map V.int) ++ [.int 1])) hq7
            rw [e8]
            refine ⟨b7.trans b8, ?_⟩
            rw [hq8, filter_take ho, decide_eq_true hm, if_pos rfl, List.map_append, List.map_append]
            rfl
          · refine ⟨b7, ?_⟩
            rw [hq7, filter_take ho, decide_eq_false hm, if_neg Bool.false_ne_true, List.append_nil]
        · rintro H7 ⟨b7, hq7⟩
          rw [List.length_drop, hlen, List.take_of_length_le (by rw [List.length_drop]; exact Nat.le_refl _)] at hq7
          repeat walk_at "s"
          refine r_newL (sz (Nat.le_of_ble_eq_true rfl)) (fun z H8 hz s8 hz8 => ?_)
          refine r_eqInts (ms := []) (s8 _ _ hq7) hz8 ?_
          repeat walk_at "s"
          have v8 : Dn K [l] H8 v cp.2 := by
            have v6 : Dn K [l] H6 v cp.2 := by walk_at "dn"
            have v6 : Dn K [l, q] H6 v cp.2 := v6.any nlv
            have v8 : Dn K [l, q] H8 v cp.2 := by walk_at "dn"
            exact v8.any nlv
          have z8 : DnAll K [l] H8 zs ((pre ++ ((t.2.1.take j).filter fun c => dueC (log.drop i) c.1)).map dCopy) := by
            have v6 : DnAll K [l] H6 zs ((pre ++ ((t.2.1.take j).filter fun c => dueC (log.drop i) c.1)).map dCopy) := by walk_at "da"
            have v6 : DnAll K [l, q] H6 zs ((pre ++ ((t.2.1.take j).filter fun c => dueC (log.drop i) c.1)).map dCopy) := v6.any nz
            have v8 : DnAll K [l, q] H8 zs ((pre ++ ((t.2.1.take j).filter fun c => dueC (log.drop i) c.1)).map dCopy) := by walk_at "da"
            exact v8.any nz
          have nlq : l ≠ q := by walk_at "ne"
          have hl8 : H8 l = some (.lst zs) := by walk_at "hp"
          have b48 : But [] H4 H8 := by walk_at "bt"
          have ee : (t.2.1.take (j + 1)).filter (fun c => dueC (log.drop i) c.1) = (t.2.1.take j).filter (fun c => dueC (log.drop i) c.1) ++ (if dueC (log.drop i) cp.1 then [cp] else []) := filter_take hcp
          refine r_ite (fun he => ?_) (fun he => ?_)
          · repeat walk_at "s"
            refine r_newT (sz (Nat.le_of_ble_eq_true rfl)) (fun T H9 hT s9 hT9 => ?_)
            repeat walk_at "s"
            refine r_app (s9 _ _ hl8) (szl (by omega)) (fun H10 b10 hl10 => ?_)
            repeat walk_at "s"
            refine ⟨_, _, _, _, rfl, ?_, hl10, ?_⟩
            · exact b4.trans (by walk_at "bt")
            · rw [ee, show dueC (log.drop i) cp.1 = true from decide_eq_true he, if_pos rfl, ← List.append_assoc, List.map_append]
              have v10 : Dn K [l] H10 v cp.2 := by walk_at "dn"
              have z10 : DnAll K [l] H10 zs ((pre ++ ((t.2.1.take j).filter fun c => dueC (log.drop i) c.1)).map dCopy) := by walk_at "da"
              exact (z10.any nz).snoc (.tup (SqT.of (b10.tup hT9)) (.cons (.int _) (.one (v10.any nlv))))
          · repeat walk_at "s"
            refine ⟨_, _, _, _, rfl, ?_, hl8, ?_⟩
            · exact b4.trans (b48.sub (by simp))
            · rw [ee, show dueC (log.drop i) cp.1 = false from decide_eq_false he, if_neg Bool.false_ne_true, List.append_nil]
              exact z8.any nz
      · rintro σ H4 ⟨o4, o5, o6, zs, rfl, b4, hl4, hzs⟩
        rw [hcl, List.take_length] at hzs
        refine ⟨_, _, _, _, _, _, _, rfl, b13.trans b4, hl4, hzs, ?_, ?_, ?_⟩
        · rw [← hpre, dueM_drop ht, List.append_assoc]
        · rw [List.length_append]
          have := List.length_filter_le (fun c : Int × PyData => dueC (log.drop i) c.1) t.2.1
          have := tok.cl
          omega
        · intro c hc
          rcases List.mem_append.mp hc with hc | hc
          · exact hpv c hc
          · exact tok.val c (List.mem_filter.mp hc).1
    · rintro σ H3 ⟨o2, o3, o4, o5, o6, ys, pre, rfl, b3, hl3, hys, hpre, hpl, hpv⟩
      rw [hlen, List.drop_length] at hpre
      rw [show dueM [] = [] from rfl, List.append_nil] at hpre
      rw [hpre] at hys
      repeat walk_at "s"
      exact k l ys H3 hl (by walk_at "sm") hl3 hys
end
end L20

set_option Elab.async false
set_option linter.all false
open PySem L2 PyProof.Rows J
namespace L20
/-! ### the mathematics -/
def lastOf (log : List Tx) (h : Int) : Int := (getI (lastRev log) h).getD 0
theorem lastIn_get (n h : Int) : ∀ (rs : List Int) (m : List (Int × Int)), (getI (lastIn n rs m) h).getD 0 = if h ∈ rs then max n ((getI m h).getD 0) else (getI m h).getD 0
  | [], m => by simp [lastIn]
  | r :: rs, m => by
    have ih := lastIn_get n h rs (putI m r (max n ((getI m r).getD 0)))
    have e : lastIn n (r :: rs) m = lastIn n rs (putI m r (max n ((getI m r).getD 0))) := rfl
    rw [e, ih, getI_put]
    by_cases hr : h = r
    · subst hr
      simp only [if_pos, List.mem_cons, true_or, Option.getD_some]
      split
      · omega
      · rfl
    · rw [if_neg hr]
      simp only [List.mem_cons, hr, false_or]
theorem lastRev_snoc (log : List Tx) (t : Tx) : lastRev (log ++ [t]) = lastIn t.1 t.2.2 (lastRev log) := by
  unfold lastRev
  rw [List.foldl_append]; rfl
theorem lastOf_snoc (log : List Tx) (t : Tx) (h : Int) : lastOf (log ++ [t]) h = if h ∈ t.2.2 then max t.1 (lastOf log h) else lastOf log h := by
  unfold lastOf
  rw [lastRev_snoc, lastIn_get]
theorem rev_ind {α : Type} {motive : List α → Prop} (l : List α) (nil : motive []) (snoc : ∀ xs x, motive xs → motive (xs ++ [x])) : motive l := by
  rw [← List.reverse_reverse l]
  induction l.reverse with
  | nil => exact nil
  | cons x xs ih =>
    rw [List.reverse_cons]
    exact snoc _ _ ih
theorem lastOf_lt (log : List Tx) (h n : Int) : lastOf log h < n ↔ 0 < n ∧ ∀ o ∈ log, h ∈ o.2.2 → o.1 < n := by
  induction log using rev_ind with
  | nil => simp [lastOf, lastRev, getI]
  | snoc xs x ih =>
    rw [lastOf_snoc]
    constructor
    · intro hl
      by_cases hx : h ∈ x.2.2
      · rw [if_pos hx] at hl
        have h1 : lastOf xs h < n := by omega
        obtain ⟨h2, h3⟩ := ih.mp h1
        refine ⟨h2, fun o ho hm => ?_⟩
        rcases List.mem_append.mp ho with ho | ho
        · exact h3 o ho hm
        · rw [List.mem_singleton.mp ho]; omega
      · rw [if_neg hx] at hl
        obtain ⟨h2, h3⟩ := ih.mp hl
        refine ⟨h2, fun o ho hm => ?_⟩
        rcases List.mem_append.mp ho with ho | ho
        · exact h3 o ho hm
        · rw [List.mem_singleton.mp ho] at hm
          exact absurd hm hx
    · rintro ⟨h2, h3⟩
      have h1 := ih.mpr ⟨h2, fun o ho => h3 o (List.mem_append_left _ ho)⟩
      split
      · rename_i hx
        have := h3 x (List.mem_append_right _ (List.mem_singleton.mpr rfl)) hx
        omega
      · exact h1
/-- numbers ascend from 1 on -/
structure Up (log : List Tx) : Prop where
  up : log.Pairwise fun a b => a.1 < b.1
  one : ∀ t ∈ log, 1 ≤ t.1
theorem Up.snoc {log : List Tx} {t : Tx} (h : Up log) (h1 : 1 ≤ t.1) (h2 : ∀ o ∈ log, o.1 < t.1) : Up (log ++ [t]) := by
  refine ⟨List.pairwise_append.mpr ⟨h.up, List.pairwise_singleton _ _, fun a ha b hb => ?_⟩, fun o ho => ?_⟩
  · rw [List.mem_singleton.mp hb]; exact h2 a ha
  · rcases List.mem_append.mp ho with ho | ho
    · exact h.one o ho
    · rw [List.mem_singleton.mp ho]; exact h1
theorem Up.tail {t : Tx} {log : List Tx} (h : Up (t :: log)) : Up log := ⟨(List.pairwise_cons.mp h.up).2, fun o ho => h.one o (List.mem_cons_of_mem _ ho)⟩
/-- replay, transaction by transaction, by the whole log -/
theorem replay_eq (log : List Tx) : replayM log = log.flatMap fun t => t.2.1.filter fun c => decide (lastOf log c.1 < t.1) := rfl
theorem dueC_iff (log : List Tx) (h : Int) : dueC log h = true ↔ ∀ o ∈ log, h ∉ o.2.2 := by
  unfold dueC
  rw [decide_eq_true_iff, List.map_eq_nil_iff, List.filter_eq_nil_iff]
  simp
theorem due_go (pre log : List Tx) (h : Up (pre ++ log)) : (log.flatMap fun t => t.2.1.filter fun c => decide (lastOf (pre ++ log) c.1 < t.1)) = dueM log := by
  induction log generalizing pre with
  | nil => rfl
  | cons t log ih =>
    have e : pre ++ t :: log = (pre ++ [t]) ++ log := by simp
    have ih' := ih (pre ++ [t]) (by rw [← e]; exact h)
    rw [List.flatMap_cons]
    rw [← e] at ih'
    rw [ih']
    show _ = (t.2.1.filter fun c => dueC (t :: log) c.1) ++ dueM log
    congr 1
    refine List.filter_congr fun c _ => ?_
    rw [Bool.eq_iff_iff, decide_eq_true_iff, dueC_iff, lastOf_lt]
    have hp := List.pairwise_append.mp h.up
    have hq := List.pairwise_cons.mp hp.2.1
    constructor
    · rintro ⟨_, h3⟩ o ho hm
      have h4 := h3 o (List.mem_append_right _ ho) hm
      rcases List.mem_cons.mp ho with e | ho
      · subst e; omega
      · have := hq.1 o ho; omega
    · intro h3
      refine ⟨by have := h.one t (List.mem_append_right _ List.mem_cons_self); omega, fun o ho hm => ?_⟩
      rcases List.mem_append.mp ho with ho | ho
      · exact hp.2.2 o ho t List.mem_cons_self
      · exact absurd hm (h3 o ho)
theorem replay_due {log : List Tx} (h : Up log) : replayM log = dueM log := due_go [] log h
theorem replay_add {log : List Tx} {n : Int} {cs : List (Int × PyData)} (h : Up log) (h1 : 1 ≤ n) (h2 : ∀ o ∈ log, o.1 < n) :
    replayM (log ++ [(n, cs, [])]) = replayM log ++ cs := by
  have e : ∀ c, lastOf (log ++ [(n, cs, [])]) c = lastOf log c := fun c => by rw [lastOf_snoc]; simp
  rw [replay_eq, replay_eq, List.flatMap_append]
  simp only [e, List.flatMap_cons, List.flatMap_nil, List.append_nil]
  congr 1
  refine List.filter_eq_self.mpr fun c _ => ?_
  rw [decide_eq_true_iff, lastOf_lt]
  exact ⟨by omega, fun o ho _ => h2 o ho⟩
theorem flatMap_filter {α β : Type} {f : α → List β} {p : β → Bool} (l : List α) : (l.flatMap f).filter p = l.flatMap fun a => (f a).filter p := by
  induction l with
  | nil => rfl
  | cons a l ih => rw [List.flatMap_cons, List.filter_append, ih, List.flatMap_cons]
theorem replay_rev {log : List Tx} {n : Int} {rs : List Int} (h2 : ∀ o ∈ log, o.1 < n) :
    replayM (log ++ [(n, [], rs)]) = (replayM log).filter fun c => !decide (c.1 ∈ rs) := by
  rw [replay_eq, replay_eq, List.flatMap_append, flatMap_filter]
  simp only [List.flatMap_cons, List.flatMap_nil, List.append_nil, List.filter_nil]
  rw [← List.map_id log] at h2
  have : ∀ t ∈ log, (t.2.1.filter fun c => decide (lastOf (log ++ [(n, [], rs)]) c.1 < t.1)) = (t.2.1.filter fun c => decide (lastOf log c.1 < t.1)).filter fun c => !decide (c.1 ∈ rs) := by
    intro t ht
    rw [List.filter_filter]
    refine List.filter_congr fun c _ => ?_
    rw [Bool.eq_iff_iff, Bool.and_eq_true, decide_eq_true_iff, decide_eq_true_iff, Bool.not_eq_true', decide_eq_false_iff_not, lastOf_snoc]
    have ht2 : t.1 < n := h2 t (by rw [List.map_id]; exact ht)
    by_cases hc : c.1 ∈ rs
    · rw [if_pos hc]
      constructor
      · intro z; exact absurd z (by omega)
      · rintro ⟨z, _⟩; exact absurd hc z
    · rw [if_neg hc]
      exact ⟨fun z => ⟨hc, z⟩, fun z => z.2⟩
  clear h2
  generalize hg : log ++ [(n, ([] : List (Int × PyData)), rs)] = L at this ⊢
  clear hg
  revert this
  generalize lastOf L = f1
  generalize lastOf log = f2
  intro this
  induction log with
  | nil => rfl
  | cons t log ih =>
    rw [List.flatMap_cons, List.flatMap_cons, this t List.mem_cons_self, ih fun z hz => this z (List.mem_cons_of_mem _ hz)]
theorem lastRev_law {log : List Tx} (h : Up log) : lastRev log = lawRev log := by
  induction log using rev_ind with
  | nil => rfl
  | snoc xs x ih =>
    have hp := List.pairwise_append.mp h.up
    have hx : Up xs := ⟨hp.1, fun o ho => h.one o (List.mem_append_left _ ho)⟩
    have e2 : lawRev (xs ++ [x]) = lawIn x.1 x.2.2 (lawRev xs) := by
      unfold lawRev
      rw [List.foldl_append]; rfl
    rw [lastRev_snoc, e2, ← ih hx]
    have hb : ∀ k, (getI (lastRev xs) k).getD 0 ≤ x.1 := fun k => by
      have : lastOf xs k < x.1 + 1 := (lastOf_lt xs k (x.1 + 1)).mpr ⟨by have := h.one x (by simp); omega, fun o ho _ => by
        have := hp.2.2 o ho x (by simp)
        omega⟩
      unfold lastOf at this
      omega
    generalize lastRev xs = m at hb
    have gen : ∀ (rs : List Int) (m : List (Int × Int)), (∀ k, (getI m k).getD 0 ≤ x.1) → lastIn x.1 rs m = lawIn x.1 rs m := by
      intro rs
      induction rs with
      | nil => intro m _; rfl
      | cons r rs ihr =>
        intro m hb
        have e1 : lastIn x.1 (r :: rs) m = lastIn x.1 rs (putI m r (max x.1 ((getI m r).getD 0))) := rfl
        have e3 : lawIn x.1 (r :: rs) m = lawIn x.1 rs (putI m r x.1) := rfl
        have em : max x.1 ((getI m r).getD 0) = x.1 := by have := hb r; omega
        rw [e1, e3, em]
        refine ihr _ fun k => ?_
        rw [getI_put]
        split
        · exact Int.le_refl _
        · exact hb k
    exact gen _ _ hb
end L20

open PySem L2 PyProof.Rows J

namespace L20
section
variable {P : Program} {w : World} {K : PySem.W.Frag} {mg : Str → Option Value} {base : Heap}
/-! ### bounds -/
structure TxB (t : Tx) : Prop where
  cs : CopiesOk 100 t.2.1
  rs : Asc 100 t.2.2
  rl : t.2.2.length ≤ 100
structure LB (log : List Tx) (k : Nat) (n : Int) : Prop where
  up : Up log
  lt : ∀ t ∈ log, t.1 < n
  len : log.length ≤ k
  n1 : 1 ≤ n
  nk : n ≤ 2 ^ 41 + 100 * k
  tx : ∀ t ∈ log, TxB t
theorem TxB.ok {t : Tx} (h : TxB t) : TxOk t := ⟨h.cs.val, by have := h.cs.len; omega, h.rl⟩
theorem LB.ok {log : List Tx} {k : Nat} {n : Int} (h : LB log k n) (hk : k ≤ 100) : LogOk log := ⟨fun t ht => (h.tx t ht).ok, Nat.le_trans h.len hk⟩
theorem ok60 {i : Int} (h0 : -1000000000000000000 < i) (h1 : i < 1000000000000000000) : Ok 62 0 (.int i) := okInt (m := 60) (by omega) (by decide)
theorem okCopy {c : Int × PyData} (h0 : 0 ≤ c.1) (h1 : c.1 < 100) (hv : VOk c.2) : Ok 131 4 (dCopy c) :=
  (okTup (m := 2) (n := 62) (k := 3) (.cons ((ok60 (by omega) (by omega)).mono (Nat.le_refl _) (by decide)) (.cons (hv.ok.mono (by decide) (Nat.le_refl _)) .nil)) (Nat.le_refl _)).mono (by decide) (Nat.le_refl _)
structure CB (cs : List (Int × PyData)) : Prop where
  all : ∀ c ∈ cs, 0 ≤ c.1 ∧ c.1 < 100 ∧ VOk c.2
theorem CopiesOk.cb {cs : List (Int × PyData)} (h : CopiesOk 100 cs) : CB cs :=
  ⟨fun c hc => ⟨h.asc.lo c.1 (List.mem_map.mpr ⟨c, hc, rfl⟩), h.asc.hi c.1 (List.mem_map.mpr ⟨c, hc, rfl⟩), h.val c hc⟩⟩
theorem okCopies {cs : List (Int × PyData)} {m : Nat} (h : CB cs) (hl : cs.length ≤ m) : Ok (m * 133 + 2) 5 (.list (cs.map dCopy)) :=
  okList (n := 131) (.map fun c hc => by
    obtain ⟨h1, h2, h3⟩ := h.all c hc
    exact okCopy h1 h2 h3) (by rw [List.length_map]; exact hl)
theorem okInts {rs : List Int} {m : Nat} (h : ∀ r ∈ rs, 0 ≤ r ∧ r < 100) (hl : rs.length ≤ m) : Ok (m * 64 + 2) 1 (.list (rs.map .int)) :=
  okList (n := 62) (.map fun r hr => by
    have := h r hr
    exact ok60 (by omega) (by omega)) (by rw [List.length_map]; exact hl)
theorem okTx {t : Tx} (h : TxB t) (h0 : 1 ≤ t.1) (h1 : t.1 < 2 ^ 42) : Ok 39915 6 (dTx t) := by
  have hc : Ok 13302 5 (.list (t.2.1.map dCopy)) := okCopies (m := 100) h.cs.cb (by have := h.cs.len; omega)
  have hr : Ok 6402 1 (.list (t.2.2.map .int)) := okInts (m := 100) (fun r hr => ⟨h.rs.lo r hr, h.rs.hi r hr⟩) h.rl
  exact okTup (m := 3) (n := 13302) (k := 5) (.cons ((ok60 (by omega) (by omega)).mono (by decide) (by decide)) (.cons hc (.cons (hr.mono (by decide) (by decide)) .nil))) (Nat.le_refl _)
theorem okLog {log : List Tx} {k : Nat} {n : Int} (h : LB log k n) (hk : k ≤ 100) : Ok 3991702 7 (.list (log.map dTx)) :=
  okList (m := 100) (n := 39915) (.map fun t ht => okTx (h.tx t ht) (h.up.one t ht) (by have := h.lt t ht; have := h.nk; omega)) (by rw [List.length_map]; exact Nat.le_trans h.len hk)
theorem cbReplay {m : List (Int × Int)} {log : List Tx} (h : ∀ t ∈ log, TxB t) : CB (replayBy m log) :=
  ⟨fun c hc => by
    obtain ⟨t, ht, hc⟩ := List.mem_flatMap.mp hc
    exact (h t ht).cs.cb.all c (List.mem_filter.mp hc).1⟩
theorem okReplay {log : List Tx} {k : Nat} {n : Int} (h : LB log k n) (hk : k ≤ 100) : Ok 1330002 5 (.list ((replayM log).map dCopy)) :=
  okCopies (m := 10000) (cbReplay h.tx) (by
    have := replay_length (m := lastRev log) fun t ht => (h.tx t ht).ok
    have := h.len
    unfold replayM
    omega)
theorem putI_mem {m : List (Int × Int)} {k v : Int} {q : Int × Int} (h : q ∈ putI m k v) : q = (k, v) ∨ q ∈ m := by
  unfold putI at h
  split at h
  · obtain ⟨r, hr, e⟩ := List.mem_map.mp h
    by_cases hk : r.1 = k
    · rw [if_pos hk] at e
      left; rw [← e, hk]
    · rw [if_neg hk] at e
      right; rw [← e]; exact hr
  · rcases List.mem_append.mp h with h | h
    · exact .inr h
    · exact .inl (List.mem_singleton.mp h)
theorem lawRev_mem {log : List Tx} {q : Int × Int} (h : q ∈ lawRev log) : ∃ t ∈ log, q.2 = t.1 ∧ q.1 ∈ t.2.2 := by
  induction log using rev_ind generalizing q with
  | nil => simp [lawRev] at h
  | snoc xs x ih =>
    have e2 : lawRev (xs ++ [x]) = lawIn x.1 x.2.2 (lawRev xs) := by
      unfold lawRev
      rw [List.foldl_append]; rfl
    rw [e2] at h
    have gen : ∀ (rs : List Int) (m : List (Int × Int)), (∀ r ∈ rs, r ∈ x.2.2) → q ∈ lawIn x.1 rs m → (q.2 = x.1 ∧ q.1 ∈ x.2.2) ∨ q ∈ m := by
      intro rs
      induction rs with
      | nil => intro m _ h; exact .inr h
      | cons r rs ihr =>
        intro m hr h
        rcases ihr (putI m r x.1) (fun z hz => hr z (List.mem_cons_of_mem _ hz)) h with h | h
        · exact .inl h
        · rcases putI_mem h with h | h
          · rw [h]; exact .inl ⟨rfl, hr r List.mem_cons_self⟩
          · exact .inr h
    rcases gen _ _ (fun _ h => h) h with h | h
    · exact ⟨x, by simp, h⟩
    · obtain ⟨t, ht, h⟩ := ih h
      exact ⟨t, List.mem_append_left _ ht, h⟩
theorem okRev {log : List Tx} {k : Nat} {n : Int} (h : LB log k n) (hk : k ≤ 100) {zs : List (Int × Int)} (hz : zs.Perm (lawRev log)) : Ok 1330002 2 (.list (zs.map J.pairD)) :=
  okList (m := 10000) (n := 131) (.map fun q hq => by
    obtain ⟨t, ht, e1, e2⟩ := lawRev_mem (hz.mem_iff.mp hq)
    have h1 := h.up.one t ht
    have h2 := h.lt t ht
    have h3 := h.nk
    have h4 := (h.tx t ht).rs.lo _ e2
    have h5 := (h.tx t ht).rs.hi _ e2
    exact (okTup (m := 2) (n := 62) (k := 0) (.cons (ok60 (by omega) (by omega)) (.cons (ok60 (by omega) (by omega)) .nil)) (Nat.le_refl _)).mono (by decide) (Nat.le_refl _)) (by
    rw [List.length_map, hz.length_eq]
    have := lawRev_length fun t ht => (h.tx t ht).ok
    have := h.len
    omega)
theorem LB.mono {log : List Tx} {k : Nat} {n m : Int} (h : LB log k n) (h1 : n ≤ m) (h2 : m ≤ 2 ^ 41 + 100 * k) : LB log k m :=
  ⟨h.up, fun t ht => Int.lt_of_lt_of_le (h.lt t ht) h1, h.len, Int.le_trans h.n1 h1, h2, h.tx⟩
theorem LB.snoc {log : List Tx} {k : Nat} {n m : Int} {cs : List (Int × PyData)} {rs : List Int} (h : LB log k n) (ht : TxB (n, cs, rs)) (h1 : n < m) (h2 : m ≤ n + 100) : LB (log ++ [(n, cs, rs)]) (k + 1) m := by
  refine ⟨h.up.snoc h.n1 h.lt, fun t hh => ?_, by rw [List.length_append, List.length_singleton]; have := h.len; omega, by have := h.n1; omega, by have := h.nk; omega, fun t hh => ?_⟩
  · rcases List.mem_append.mp hh with hh | hh
    · have := h.lt t hh; omega
    · rw [List.mem_singleton.mp hh]; exact h1
  · rcases List.mem_append.mp hh with hh | hh
    · exact h.tx t hh
    · rw [List.mem_singleton.mp hh]; exact ht
theorem CopiesOk.mono {n m : Int} {cs : List (Int × PyData)} (h : CopiesOk n cs) (l : n ≤ m) : CopiesOk m cs := ⟨h.asc.mono l, h.val, Int.le_trans h.len l⟩
theorem r_reprOk {H : Hp} {Q : VK} {x : V} {n k : Nat} {d : PyData} (h : Dp K H x d) (o : Ok n k d) (hk : k ≤ 60) (hn : n ≤ 16777216) (q : Q (.str d.shown) H) : rRepr K [x] H Q :=
  r_repr h o.show_ (Nat.le_trans o.dep hk) (sz (Nat.le_trans o.len hn)) q
theorem r_neOk {H : Hp} {Q : VK} {x y : V} {n k : Nat} {d : PyData} (h1 : Dp K H x d) (h2 : Dp K H y d) (o : Ok n k d) (hk : k ≤ 60) (q : Q (.bl false) H) : rNeA K x y H Q := by
  refine r_neD h1 h2 (o.shaped hk) (o.shaped hk) ?_
  rw [o.eqv]; exact q
theorem r_neRefl {H : Hp} {Q : VK} {a : Str} (q : Q (.bl false) H) : rNeA K (.str a) (.str a) H Q := by
  refine r_neS ?_
  rw [decide_eq_true rfl]; exact q
def spLaw (K : PySem.W.Frag) : Sp := fun vs H Q _ => ∃ (a : Addr) (ns : List Int), vs = [.ref a] ∧ SqL K H a (ns.map V.int) ∧ ns.length ≤ 63 ∧ ∀ H', Q (.bl true) H'
theorem parts_inv {S : List Addr} {H : Hp} {v : V} {cs : List (Int × PyData)} {rs : List Int} (h : Dn K S H v (.tuple (dParts cs rs))) : ∃ p c r, v = .ref p ∧ SqT K H p [.ref c, .ref r] ∧
    Dn K S H (.ref c) (.list (cs.map dCopy)) ∧ Dn K S H (.ref r) (.list (rs.map .int)) := by
  obtain ⟨p, xs, rfl, h1, h2⟩ := h.tup_inv
  obtain ⟨c, _, rfl, h5, h6⟩ := h2.cons_inv
  obtain ⟨r, _, rfl, h7, h8⟩ := h6.cons_inv
  obtain rfl := h8.nil_inv
  obtain ⟨c, cs, rfl, _⟩ := h5.lst_inv
  obtain ⟨r, rs, rfl, _⟩ := h7.lst_inv
  exact ⟨p, c, r, rfl, h1, h5, h7⟩
abbrev s_law : Stmt := top 15
abbrev N_law : List Str := ["_law_script", "_law_cell", "_law_source_here", "_law_homes", "_law_log", "_law_number", "_law_k", "_law_original", "_law_turn", "_law_kept", "_law_copies", "_law_revokes", "_law_actual", "_law_last_here", "_law_one"]
theorem sc_law : FnScope N_law ["_law_script"] (defScope s_law) :=
  ⟨rfl, rfl, rfl, by decide +kernel, rfl, by decide +kernel, by decide +kernel⟩

theorem ok_law {f : Addr} {fd : FuncData} (F : Fun K "law" "law" s_law f fd) (B : Bl mg) 
    (C_law_cell_at : Cl P w K mg base CX0 1 "_law_cell_at" (spCell K)) (C_law_source : Cl P w K mg base CX0 1 "_law_source" spSource)
    (C_law_draw : Cl P w K mg base CX0 1 "_law_draw" spDraw) (C_law_pick : Cl P w K mg base CX0 2 "_law_pick" (spPick K)) (C_law_parts : Cl P w K mg base CX0 4 "_law_parts" (spParts K))
    (C_replay : Cl P w K mg base CX0 2 "replay" (spReplay K replayM)) (C_revoked : Cl P w K mg base CX0 2 "revoked" (spSortedRev K lastRev))
    (C_law_due : Cl P w K mg base CX0 1 "_law_due" (spReplay K dueM)) (C_law_last : Cl P w K mg base CX0 1 "_law_last" (spSortedRev K lawRev)) :
    FnG P w K mg base CX0 5 f fd ["_law_script"] (spLaw K) := by
  refine okG F sc_law (fun vs H Q E h => ?_) (fun cdv A outer s H vs Q E hr hgd h => ?_)
  · obtain ⟨_, _, rfl, _⟩ := h
    rfl
  · obtain ⟨a, ns, rfl, ha, hns, k⟩ := h
    have hu := hu_of hr
    have nd := sc_law.nd
    refine ⟨_, (pss_cons (ps_for PassesOwn.never rfl (pi_lst (K := K) (pe_op (op_addA (K := K)) (pe_lst (pa_cons (pe_cl (E := fun _ => E0) C_law_cell_at hr (by decide) pass00 (pa_cons (pv 0) (pa_cons pe_int pa_nil))) pa_nil)) (pe_slice (sl_any (K := K)) (pv 0) (po_some pe_int) (po_some pe_int)))) (pg_name (i := 1) nd rfl (by first | exact Or.inl rfl | exact Or.inr rfl))
      (pss_cons (ps_set (i := 2) nd rfl (by first | exact Or.inl rfl | exact Or.inr rfl) (pe_cl (E := fun _ => E0) C_law_source hr (by decide) pass00 (pa_cons (pv 1) pa_nil)))
      (pss_cons (ps_set (i := 3) nd rfl (by first | exact Or.inl rfl | exact Or.inr rfl) (pe_op (op_addA (K := K)) pe_int (pe_cl (E := fun _ => E0) C_law_draw hr (by decide) pass00 (pa_cons (pv 2) (pa_cons pe_int pa_nil)))))
      (pss_cons (ps_set (i := 4) nd rfl (by first | exact Or.inl rfl | exact Or.inr rfl) (pe_lst pa_nil))
      (pss_cons (ps_set (i := 5) nd rfl (by first | exact Or.inl rfl | exact Or.inr rfl) (pe_cl (E := fun _ => E0) C_law_pick hr (by decide) pass00 (pa_cons (pv 2) (pa_cons (pe_lst (pa_cons pe_int (pa_cons pe_int (pa_cons (pe_op op_pow pe_int pe_int) pa_nil)))) pa_nil))))
      (pss_cons (ps_for PassesOwn.never rfl (pi_range1 rfl B.range (pa_cons (pe_cl (E := fun _ => E0) C_law_draw hr (by decide) pass00 (pa_cons (pv 2) (pa_cons pe_int pa_nil))) pa_nil)) (pg_name (i := 6) nd rfl (by first | exact Or.inl rfl | exact Or.inr rfl))
      (pss_cons (ps_asg (pe_cl (E := fun _ => E0) C_law_parts hr (by decide) pass00 (pa_cons (pv 2) (pa_cons (pv 3) pa_nil))) (pg_tpl (K := K) rfl (pgs_cons (pg_name (i := 10) nd rfl (by first | exact Or.inl rfl | exact Or.inr rfl)) (pgs_cons (pg_name (i := 11) nd rfl (by first | exact Or.inl rfl | exact Or.inr rfl)) pgs_nil))))
      (pss_cons (ps_expr (pe_bm PySem.F.plainAttrs_list PySem.F.slot_list_append PySem.F.type_list_append mt_append (pv 4) (pa_cons (pe_tup (pa_cons (pv 5) (pa_cons (pv 10) (pa_cons (pv 11) pa_nil)))) pa_nil)))
      (pss_one (ps_set (i := 5) nd rfl (by first | exact Or.inl rfl | exact Or.inr rfl) (pe_op (op_addA (K := K)) (pe_op (op_addA (K := K)) (pv 5) pe_int) (pe_cl (E := fun _ => E0) C_law_pick hr (by decide) pass00 (pa_cons (pv 2) (pa_cons (pe_lst (pa_cons pe_int (pa_cons pe_int (pa_cons pe_int (pa_cons pe_int pa_nil))))) pa_nil)))))))))
      (pss_cons (ps_set (i := 7) nd rfl (by first | exact Or.inl rfl | exact Or.inr rfl) (pe_callB (call_reprA (K := K) hgd hr.units) rfl B.repr (by decide +kernel) (pa_cons (pv 4) pa_nil)))
      (pss_cons (ps_for PassesOwn.never rfl (pi_range1 rfl B.range (pa_cons pe_int pa_nil)) (pg_name (i := 8) nd rfl (by first | exact Or.inl rfl | exact Or.inr rfl))
      (pss_cons (ps_par (i := 12) (j := 13) rfl nd rfl rfl (by decide) rfl rfl (pa_cons (pe_cl (E := fun _ => E0) C_replay hr (by decide) pass00 (pa_cons (pv 4) pa_nil)) (pa_cons (pe_cl (E := fun _ => E0) C_revoked hr (by decide) pass00 (pa_cons (pv 4) pa_nil)) pa_nil)) (by rfl))
      (pss_cons (ps_if (PW.pt (pw_or (pt_cmpR (op_neA (K := K) hr.units) (pe_callB (call_reprA (K := K) hgd hr.units) rfl B.repr (by decide +kernel) (pa_cons (pv 12) pa_nil)) (pe_callB (call_reprA (K := K) hgd hr.units) rfl B.repr (by decide +kernel) (pa_cons (pe_cl (E := fun _ => E0) C_law_due hr (by decide) pass00 (pa_cons (pv 4) pa_nil)) pa_nil)) (nomark _)) (pw_or (pt_cmpR (op_neA (K := K) hr.units) (pe_callB (call_reprA (K := K) hgd hr.units) rfl B.repr (by decide +kernel) (pa_cons (pv 13) pa_nil)) (pe_callB (call_reprA (K := K) hgd hr.units) rfl B.repr (by decide +kernel) (pa_cons (pe_cl (E := fun _ => E0) C_law_last hr (by decide) pass00 (pa_cons (pv 4) pa_nil)) pa_nil)) (nomark _)) (pw_or1 (pt_cmpR (op_neA (K := K) hr.units) (pe_callB (call_reprA (K := K) hgd hr.units) rfl B.repr (by decide +kernel) (pa_cons (pv 4) pa_nil)) (pv 7) (nomark _)))))) (pss_one (ps_ret pe_bl)) pss_nil)
      (pss_cons (ps_expr (pe_bm PySem.F.plainAttrs_list PySem.F.slot_list_append PySem.F.type_list_append mt_append (pv 12) (pa_cons pe_non pa_nil)))
      (pss_one (ps_expr (pe_bm PySem.F.plainAttrs_list PySem.F.slot_list_append PySem.F.type_list_append mt_append (pv 13) (pa_cons pe_non pa_nil))))))))
      (pss_cons (ps_asg (pe_cl (E := fun _ => E0) C_law_parts hr (by decide) pass00 (pa_cons (pv 2) (pa_cons (pv 3) pa_nil))) (pg_tpl (K := K) rfl (pgs_cons (pg_name (i := 10) nd rfl (by first | exact Or.inl rfl | exact Or.inr rfl)) (pgs_cons (pg_name (i := 11) nd rfl (by first | exact Or.inl rfl | exact Or.inr rfl)) pgs_nil))))
      (pss_cons (ps_if (pt_cmpR (op_neA (K := K) hr.units) (pe_cl (E := fun _ => E0) C_replay hr (by decide) pass00 (pa_cons (pe_op (op_addA (K := K)) (pv 4) (pe_lst (pa_cons (pe_tup (pa_cons (pv 5) (pa_cons (pv 10) (pa_cons (pe_lst pa_nil) pa_nil)))) pa_nil))) pa_nil)) (pe_op (op_addA (K := K)) (pe_cl (E := fun _ => E0) C_replay hr (by decide) pass00 (pa_cons (pv 4) pa_nil)) (pv 10)) (nomark _)) (pss_one (ps_ret pe_bl)) pss_nil)
      (pss_cons (ps_setLc (i := 9) (own := [("_law_one", 14)]) (g := (gName 14)) rfl nd rfl rfl (sw_true rfl rfl rfl (by decide +kernel)) (pi_lst (K := K) (pe_cl (E := fun _ => E0) C_replay hr (by decide) pass00 (pa_cons (pv 4) pa_nil))) (blkOk_by (own := [("_law_one", 14)]) (N := N_law) (sc := defScope s_law) (by decide +kernel)) (fun _ _ _ _ _ => (pg_name (i := 14) nd rfl (by first | exact Or.inl rfl | exact Or.inr rfl))) (fun _ _ _ _ _ => pts_one (pt_cmpR (op_niA (K := K) (units65 hr)) (pe_ix (ix_any (K := K)) (pv 14) pe_int (fun _ _ => rfl)) (pv 11) (by rfl))) (fun _ _ _ _ _ => pv 14))
      (pss_one (ps_if (pt_cmpR (op_neA (K := K) hr.units) (pe_cl (E := fun _ => E0) C_replay hr (by decide) pass00 (pa_cons (pe_op (op_addA (K := K)) (pv 4) (pe_lst (pa_cons (pe_tup (pa_cons (pv 5) (pa_cons (pe_lst pa_nil) (pa_cons (pv 11) pa_nil)))) pa_nil))) pa_nil)) (pv 9) (nomark _)) (pss_one (ps_ret pe_bl)) pss_nil)))))))))))))
      (pss_one (ps_ret pe_bl))), ?_⟩
    repeat walk_at "s"
    refine ⟨a, ns, 0, rfl, ha, by omega, by omega, fun z0 => ?_⟩
    repeat walk_at "s"
    refine r_newL (sz (Nat.le_of_ble_eq_true rfl)) (fun l0 H1 hl0 s1 hl01 => ?_)
    repeat walk_at "s"
    refine r_slL (s1.seq ha) (fun l1 H2 hl1 s2 hl12 => ?_)
    have ec : cutV (ns.map V.int) (some 1) (some 8) = ((ns.map V.int).drop 1).take (8 - 1) := cut_fromTo (n := 1) (m := 8)
    rw [ec, ← List.map_drop, ← List.map_take] at hl12
    refine r_addL (s2 _ _ hl01) hl12 (sz (by simp; omega)) (fun L H3 hL s3 hL3 => ?_)
    have eL : [V.int z0] ++ ((ns.drop 1).take (8 - 1)).map V.int = (z0 :: (ns.drop 1).take (8 - 1)).map V.int := rfl
    rw [eL] at hL3
    generalize z0 :: (ns.drop 1).take (8 - 1) = cells at hL3
    refine forL (SqL.of hL3) (fun i σ H' => ∃ o1 o2 o3 o4 o5 o6 o7 o8 o9 o10 o11 o12 o13 o14, σ = [some (.ref a), o1, o2, o3, o4, o5, o6, o7, o8, o9, o10, o11, o12, o13, o14] ∧ Same H3 H')
      ⟨_, _, _, _, _, _, _, _, _, _, _, _, _, _, rfl, fun _ _ e => e⟩ ?_ ?_ ?_
    · rintro i σ H4 hi ⟨o1, o2, o3, o4, o5, o6, o7, o8, o9, o10, o11, o12, o13, o14, rfl, s4⟩
      exact SqL.of (s4 _ _ hL3)
    · rintro i x σ H4 hi ⟨o1, o2, o3, o4, o5, o6, o7, o8, o9, o10, o11, o12, o13, o14, rfl, s4⟩
      rw [List.getElem?_map] at hi
      obtain ⟨cell, hcell, rfl⟩ := Option.map_eq_some_iff.mp hi
      repeat walk_at "s"
      refine ⟨cell, rfl, fun p H5 hp s5 hp5 => ?_⟩
      repeat walk_at "s"
      refine ⟨p, 0, 29, rfl, hp5, by omega, by decide, by decide, fun hm H6 hm0 hm1 b6 hp6 => ?_⟩
      have lvp := hp6.live
      repeat walk_at "s"
      refine r_newL (sz (Nat.le_of_ble_eq_true rfl)) (fun l H7 hl s7 hl7 => ?_)
      repeat walk_at "s"
      refine r_newL (sz (Nat.le_of_ble_eq_true rfl)) (fun pl H8 hpl s8 hpl8 => ?_)
      repeat walk_at "s"
      refine ⟨p, pl, 0 + 1, _, rfl, by walk_at "src", by omega, by walk_at "ne", SqL.of hpl8, by simp, by simp, fun i1 v1 H9 hi1 b9 hp9 => ?_⟩
      obtain ⟨n0, rfl, hn0, hn1⟩ : ∃ m, v1 = .int m ∧ 1 ≤ m ∧ m ≤ 2 ^ 40 := by
        have hv := List.mem_of_getElem? hi1
        simp only [List.mem_cons, List.not_mem_nil, or_false] at hv
        rcases hv with rfl | rfl | rfl <;> exact ⟨_, rfl, by decide, by decide⟩
      repeat walk_at "s"
      refine ⟨p, 0 + 1 + 1, 9, rfl, hp9, by omega, by decide, by decide, fun cnt H10 hc0 hc1 b10 hp10 => ?_⟩
      have npl : l ≠ p := by walk_at "ne"
      have hl10 : H10 l = some (.lst []) := by walk_at "hp"
      refine forR (by omega) (fun i σ H' => ∃ log xs n o6 o10 o11, σ = [some (.ref a), some (.int cell), some (.ref p), some (.int (4 + hm)), some (.ref l), some (.int n), o6, o7, o8, o9, o10, o11, o12, o13, o14] ∧
          But [p, l] H10 H' ∧ SrcAt H' p (3 + 1000 * i) ∧ H' l = some (.lst xs) ∧ DnAll K [p, l] H' xs (log.map dTx) ∧ LB log i n)
        ⟨[], [], n0, _, _, _, rfl, .refl, hp10.mono (by omega), hl10, .nil, ⟨⟨.nil, by simp⟩, by simp, Nat.le_refl _, hn0, by omega, by simp⟩⟩ ?_ ?_
      · rintro i σ H11 hi ⟨log, xs, n, o6, o10, o11, rfl, b11, hp11, hl11, hx11, lb⟩
        have lvp := hp11.live
        repeat walk_at "s"
        refine ⟨p, 3 + 1000 * i, 4 + hm, rfl, hp11, by omega, by omega, by omega, fun t cs rs H12 b12 hp12 hcs hrs hrl hdn => ?_⟩
        obtain ⟨t, c, r, e, ht, hcd, hrd⟩ := parts_inv (hdn [p, l] (fun s hs => by
          rcases List.mem_cons.mp hs with e | hs
          · rw [e]; exact lvp
          · rw [List.mem_singleton.mp hs]; exact live_of hl11))
        cases e
        clear hdn
        have hx12 : DnAll K [p, l] H12 xs (log.map dTx) := by walk_at "da"
        have hl12 : H12 l = some (.lst xs) := by walk_at "hp"
        have b1012 : But [p, l] H10 H12 := by walk_at "bt"
        have llen : xs.length = log.length := by rw [hx11.length, List.length_map]
        have l9 := lb.len
        clear b12 b11
        repeat walk_at "s"
        refine r_newT (sz (Nat.le_of_ble_eq_true rfl)) (fun T H13 hT s13 hT13 => ?_)
        repeat walk_at "s"
        refine r_app (s13 _ _ hl12) (szl (by omega)) (fun H14 b14 hl14 => ?_)
        repeat walk_at "s"
        refine r_newL (sz (Nat.le_of_ble_eq_true rfl)) (fun pk H15 hpk s15 hpk15 => ?_)
        repeat walk_at "s"
        have hp15 : SrcAt H15 p (3 + 1000 * i + 600) := by walk_at "src"
        refine ⟨p, pk, 3 + 1000 * i + 600, _, rfl, hp15, by omega, by walk_at "ne", SqL.of hpk15, by simp, by simp, fun i1 v1 H16 hi1 b16 hp16 => ?_⟩
        obtain ⟨n1, rfl, hn1, hn2⟩ : ∃ m, v1 = .int m ∧ 0 ≤ m ∧ m ≤ 2 := by
          have hv := List.mem_of_getElem? hi1
          simp only [List.mem_cons, List.not_mem_nil, or_false] at hv
          rcases hv with rfl | rfl | rfl | rfl <;> exact ⟨_, rfl, by decide, by decide⟩
        repeat walk_at "s"
        have hl16 : H16 l = some (.lst (xs ++ [.ref T])) := by walk_at "hp"
        have hx16 : DnAll K [p, l] H16 xs (log.map dTx) := by walk_at "da"
        have hc16 : Dn K [p, l] H16 (.ref c) (.list (cs.map dCopy)) := by walk_at "dn"
        have hr16 : Dn K [p, l] H16 (.ref r) (.list (rs.map .int)) := by walk_at "dn"
        have hT16 : SqT K H16 T [.int n, .ref c, .ref r] := by walk_at "sq"
        have b1216 : But [p, l] H12 H16 := by walk_at "bt"
        refine ⟨log ++ [(n, cs, rs)], _, n + 1 + n1, _, _, _, rfl, b1012.trans b1216, hp16.mono (by omega), hl16, ?_, ?_⟩
        · rw [List.map_append]
          exact hx16.snoc (.tup hT16 (.cons (.int _) (.cons hc16 (.one hr16))))
        · exact lb.snoc ⟨hcs.mono (by omega), hrs.mono (by omega), by show rs.length ≤ 100; omega⟩ (by omega) (by omega)
      · rintro σ H11 ⟨log, xs, n, o6, o10, o11, rfl, b11, hp11, hl11, hx11, lb⟩
        generalize hk8 : cnt.toNat = k8 at hp11 lb
        have hk9 : k8 ≤ 8 := by omega
        have lb8 : LB log 8 n := ⟨lb.up, lb.lt, Nat.le_trans lb.len hk9, lb.n1, by have := lb.nk; omega, lb.tx⟩
        have hp11' : SrcAt H11 p (3 + 1000 * 8) := hp11.mono (by omega)
        clear hp11 lb
        have b4 : But [] H4 H11 := by walk_at "bt"
        clear b11 b10 b9 s8 s7 b6 s5
        have lvp := hp11'.live
        have lok := lb8.ok (by decide)
        have logd : Dn K [p] H11 (.ref l) (.list (log.map dTx)) := .lst hl11 (by walk_at "ni") (hx11.sub (by simp))
        repeat walk_at "s"
        refine r_reprOk (logd.dp) (okLog lb8 (by decide)) (by decide) (by decide) ?_
        repeat walk_at "s"
        refine forR (by decide) (fun i σ H' => ∃ o8 o12 o13, σ = [some (.ref a), some (.int cell), some (.ref p), some (.int (4 + hm)), some (.ref l), some (.int n), o6, some (.str (PyData.list (log.map dTx)).shown), o8, o9, o10, o11, o12, o13, o14] ∧ Same H11 H')
          ⟨_, _, _, rfl, fun _ _ e => e⟩ ?_ ?_
        · rintro i σ H12 hi ⟨o8, o12, o13, rfl, s12⟩
          have hx12 : DnAll K [] H12 xs (log.map dTx) := (hx11.sub sub_nil).same s12
          have hl12 : SqL K H12 l xs := by walk_at "sq"
          repeat walk_at "s"
          refine ⟨l, xs, log, rfl, hl12, hx12, lok, fun r1 ys H13 hr1 s13 hr13 hys => ?_⟩
          repeat walk_at "s"
          refine ⟨l, xs, log, rfl, by walk_at "sq", by walk_at "da", lok, fun r2 zs us H14 hr2 s14 hr14 hus hzp hzl => ?_⟩
          repeat walk_at "s"
          have hys14 : DnAll K [] H14 ys ((replayM log).map dCopy) := by walk_at "da"
          have hr114 : H14 r1 = some (.lst ys) := by walk_at "hp"
          have d1 : Dn K [] H14 (.ref r1) (.list ((replayM log).map dCopy)) := .lst hr114 List.not_mem_nil hys14
          refine r_reprOk d1.dp (okReplay lb8 (by decide)) (by decide) (by decide) ?_
          repeat walk_at "s"
          refine ⟨l, xs, log, rfl, by walk_at "sq", by walk_at "da", lok, fun r3 ys2 H15 hr3 s15 hr15 hys2 => ?_⟩
          rw [← replay_due lb8.up] at hys2
          have d2 : Dn K [] H15 (.ref r3) (.list ((replayM log).map dCopy)) := .lst hr15 List.not_mem_nil hys2
          repeat walk_at "s"
          refine r_reprOk d2.dp (okReplay lb8 (by decide)) (by decide) (by decide) ?_
          repeat walk_at "s"
          refine r_iteF (by simp) ?_
          repeat walk_at "s"
          have hr15 : H15 r2 = some (.lst us) := by walk_at "hp"
          have hus15 : DnAll K [] H15 us (zs.map J.pairD) := by walk_at "da"
          rw [lastRev_law lb8.up] at hzp
          have d3 : Dn K [] H15 (.ref r2) (.list (zs.map J.pairD)) := .lst hr15 List.not_mem_nil hus15
          refine r_reprOk d3.dp (okRev lb8 (by decide) hzp) (by decide) (by decide) ?_
          repeat walk_at "s"
          refine ⟨l, xs, log, rfl, by walk_at "sq", by walk_at "da", lok, fun r4 zs2 us2 H16 hr4 s16 hr16 hus2 hzp2 hzl2 => ?_⟩
          obtain rfl : zs2 = zs := lex_uniq (hzp2.trans hzp.symm) hzl2 hzl
          have d4 : Dn K [] H16 (.ref r4) (.list (zs2.map J.pairD)) := .lst hr16 List.not_mem_nil hus2
          repeat walk_at "s"
          refine r_reprOk d4.dp (okRev lb8 (by decide) hzp2) (by decide) (by decide) ?_
          repeat walk_at "s"
          refine r_iteF (by simp) ?_
          repeat walk_at "s"
          have hl16 : H16 l = some (.lst xs) := by walk_at "hp"
          have hx16 : DnAll K [] H16 xs (log.map dTx) := by walk_at "da"
          have d5 : Dn K [] H16 (.ref l) (.list (log.map dTx)) := .lst hl16 List.not_mem_nil hx16
          refine r_reprOk d5.dp (okLog lb8 (by decide)) (by decide) (by decide) ?_
          repeat walk_at "s"
          refine r_iteF (by simp) ?_
          repeat walk_at "s"
          have hr116 : H16 r1 = some (.lst ys) := by walk_at "hp"
          have hr216 : H16 r2 = some (.lst us) := by walk_at "hp"
          have l1 : ys.length ≤ 10000 := by
            rw [hys.length, List.length_map]
            have := replay_length (m := lastRev log) lok.tx
            have := lok.len
            unfold replayM
            omega
          have l2 : us.length ≤ 10000 := by
            rw [hus.length, List.length_map, hzp.length_eq]
            have := lawRev_length lok.tx
            have := lok.len
            omega
          refine r_app hr116 (szl (by omega)) (fun H17 b17 hr117 => ?_)
          repeat walk_at "s"
          have n12 : r2 ≠ r1 := by walk_at "ne"
          have hr217 : H17 r2 = some (.lst us) := by walk_at "hp"
          refine r_app hr217 (szl (by omega)) (fun H18 b18 hr218 => ?_)
          repeat walk_at "s"
          exact ⟨_, _, _, rfl, by walk_at "sm"⟩
        · rintro σ H12 ⟨o8, o12, o13, rfl, s12⟩
          repeat walk_at "s"
          have b412 : But [] H4 H12 := b4.trans (But.of_same s12)
          have hp12 : SrcAt H12 p (3 + 1000 * 8) := hp11'.same s12
          have hl12 : H12 l = some (.lst xs) := s12 _ _ hl11
          have hx12 : DnAll K [p, l] H12 xs (log.map dTx) := hx11.same s12
          clear s12 b4 logd
          refine ⟨p, 3 + 1000 * 8, 4 + hm, rfl, hp12, by omega, by omega, by omega, fun t cs rs H13 b13 hp13 hcs hrs hrl hdn => ?_⟩
          obtain ⟨t, c, r, e, ht, hcd, hrd⟩ := parts_inv (hdn [p] (fun s hs => by
            rw [List.mem_singleton.mp hs]; exact hp12.live))
          cases e
          clear hdn
          have hx13 : DnAll K [p, l] H13 xs (log.map dTx) := by walk_at "da"
          have hl13 : H13 l = some (.lst xs) := by walk_at "hp"
          have hcs1 : CopiesOk 100 cs := hcs.mono (by omega)
          have hrs1 : Asc 100 rs := hrs.mono (by omega)
          have llen : xs.length = log.length := by rw [hx12.length, List.length_map]
          have l9 := lb8.len
          have tb1 : TxB (n, cs, []) := ⟨hcs1, ⟨.nil, by simp, by simp⟩, by simp⟩
          have tb2 : TxB (n, [], rs) := ⟨⟨⟨.nil, by simp, by simp⟩, by simp, by simp⟩, hrs1, by show rs.length ≤ 100; omega⟩
          have lb91 : LB (log ++ [(n, cs, [])]) 9 (n + 1) := lb8.snoc tb1 (by omega) (by omega)
          have lb92 : LB (log ++ [(n, [], rs)]) 9 (n + 1) := lb8.snoc tb2 (by omega) (by omega)
          have rep1 : replayM (log ++ [(n, cs, [])]) = replayM log ++ cs := replay_add lb8.up lb8.n1 lb8.lt
          have rep2 : replayM (log ++ [(n, [], rs)]) = (replayM log).filter fun c => !decide (c.1 ∈ rs) := replay_rev lb8.lt
          have len1 := lb91.len
          have b413 : But [] H4 H13 := by
            have lv4 : H4 p = none := hp
            exact bt_but b412 b13 (bc_fr lv4 bc_nil)
          clear b13 b412
          have hx0 : DnAll K [] H13 xs (log.map dTx) := hx13.sub sub_nil
          have hc0 : Dn K [] H13 (.ref c) (.list (cs.map dCopy)) := hcd.sub sub_nil
          have hr0 : Dn K [] H13 (.ref r) (.list (rs.map .int)) := hrd.sub sub_nil
          clear hx12 hx13 hx11 hcd hrd
          repeat walk_at "s"
          refine r_newL (sz (Nat.le_of_ble_eq_true rfl)) (fun em H14 hem s14 hem14 => ?_)
          repeat walk_at "s"
          refine r_newT (sz (Nat.le_of_ble_eq_true rfl)) (fun T H15 hT s15 hT15 => ?_)
          repeat walk_at "s"
          refine r_newL (sz (Nat.le_of_ble_eq_true rfl)) (fun o H16 ho s16 ho16 => ?_)
          refine r_addL (by walk_at "hp") ho16 (sz (by simp; omega)) (fun L1 H17 hL1 s17 hL17 => ?_)
          repeat walk_at "s"
          have hx17 : DnAll K [] H17 (xs ++ [.ref T]) ((log ++ [(n, cs, [])]).map dTx) := by
            have q1 : DnAll K [] H17 xs (log.map dTx) := by walk_at "da"
            have q2 : Dn K [] H17 (.ref c) (.list (cs.map dCopy)) := by walk_at "dn"
            have q3 : H17 em = some (.lst []) := by walk_at "hp"
            rw [List.map_append]
            exact q1.snoc (.tup (by walk_at "sq") (.cons (.int _) (.cons q2 (.one (.lst q3 List.not_mem_nil .nil)))))
          refine ⟨L1, _, log ++ [(n, cs, [])], rfl, .of hL17, hx17, lb91.ok (by decide), fun R1 ys H18 hR1 s18 hR18 hys => ?_⟩
          repeat walk_at "s"
          have hx18 : DnAll K [] H18 xs (log.map dTx) := by walk_at "da"
          refine ⟨l, xs, log, rfl, by walk_at "sq", hx18, lok, fun R2 zs H19 hR2 s19 hR19 hzs => ?_⟩
          repeat walk_at "s"
          rw [rep1] at hys
          obtain ⟨_, cl, ec, hcl, _, hcl2⟩ := hc0.lst_inv
          cases ec
          have hcl19 : H19 c = some (.lst cl) := by walk_at "hp"
          have cll : cl.length = cs.length := by rw [hcl2.length, List.length_map]
          have zsl : zs.length ≤ 10000 := by
            rw [hzs.length, List.length_map]
            have := replay_length (m := lastRev log) lok.tx
            have := lok.len
            unfold replayM
            omega
          have csl := hcs.len
          refine r_addL hR19 hcl19 (sz (by omega)) (fun R3 H20 hR3 s20 hR20 => ?_)
          repeat walk_at "s"
          have d1 : Dn K [] H20 (.ref R1) (.list ((replayM log ++ cs).map dCopy)) := by
            have q1 : DnAll K [] H20 ys ((replayM log ++ cs).map dCopy) := by walk_at "da"
            exact .lst (by walk_at "hp") List.not_mem_nil q1
          have d2 : Dn K [] H20 (.ref R3) (.list ((replayM log ++ cs).map dCopy)) := by
            have q1 : DnAll K [] H20 zs ((replayM log).map dCopy) := by walk_at "da"
            have q2 : DnAll K [] H20 cl (cs.map dCopy) := by walk_at "da"
            rw [List.map_append]
            exact .lst hR20 List.not_mem_nil (q1.append q2)
          have ok1 : Ok 1330002 5 (.list ((replayM log ++ cs).map dCopy)) := by
            rw [← rep1]
            exact okReplay lb91 (by decide)
          refine r_neOk d1.dp d2.dp ok1 (by decide) ?_
          repeat walk_at "s"
          refine r_iteF rfl ?_
          have hx20 : DnAll K [] H20 xs (log.map dTx) := by walk_at "da"
          have hl20 : H20 l = some (.lst xs) := by walk_at "hp"
          have b420 : But [] H4 H20 := by walk_at "bt"
          obtain ⟨_, rl, er, hrl13, _, hrl2⟩ := hr0.lst_inv
          cases er
          obtain rfl := hrl2.ints_of
          have hr20 : H20 r = some (.lst (rs.map V.int)) := by walk_at "hp"
          clear s20 s19 s18 s17 s16 s15 s14 b413
          repeat walk_at "s"
          refine ⟨l, xs, log, rfl, .of hl20, hx20, lok, fun R vs21 H21 hR s21 hR21 hvs => ?_⟩
          have hR21' : SqL K H21 R vs21 := .of hR21
          repeat walk_at "s"
          refine lcL hR21' (fun q H22 hq s22 hq22 => ?_)
          have nqR : R ≠ q := ne_of_none hR21 hq
          have cbr := cbReplay (m := lastRev log) lb8.tx
          have nlr : noLs ((replayM log).map dCopy) = true := noLs_copies fun c hc => (cbr.all c hc).2.2
          have vlen : vs21.length = (replayM log).length := by rw [hvs.length, List.length_map]
          have rlen : (replayM log).length ≤ 10000 := by
            have := replay_length (m := lastRev log) lok.tx
            have := lok.len
            unfold replayM
            omega
          refine ⟨fun j H' => ∃ zs, H' q = some (.lst zs) ∧ But [q] H22 H' ∧ DnAll K [q] H' zs ((((replayM log).take j).filter fun c => !decide (c.1 ∈ rs)).map dCopy),
            ⟨[], hq22, .refl, .nil⟩, ?_, ?_, ?_⟩
          · rintro j H23 hj ⟨zs, hq23, b23, hzs⟩
            exact SqL.of (b23.at (s22 _ _ hR21) (by walk_at "ni"))
          · rintro j x H23 hj ⟨zs, hq23, b23, hzs⟩
            obtain ⟨dd, hdd, hdn⟩ := hvs.get hj
            obtain ⟨cp, hcp, rfl⟩ := map_get hdd
            obtain ⟨pc, v, rfl, hpc, hv⟩ := copy_inv hdn
            have hcpm : cp ∈ replayM log := List.mem_of_getElem? hcp
            have hnl : noL (dCopy cp) = true := by
              have := (cbr.all cp hcpm).2.2.nol
              simp only [dCopy, noL, noLs, this, Bool.and_self]
            have hpc23 : SqT K H23 pc [.int cp.1, v] := b23.sqT ((But.of_same (S := []) s22).sqT hpc)
            have hr23 : H23 r = some (.lst (rs.map V.int)) := by walk_at "hp"
            have dcp : Dn K [q] H23 (.ref pc) (dCopy cp) := ((hdn.any hnl).same s22 : Dn K [q] H22 _ _).but b23 (by walk_at "nis")
            have zl : zs.length ≤ 10000 := by
              rw [hzs.length, List.length_map]
              refine Nat.le_trans (List.length_filter_le _ _) ?_
              rw [List.length_take]
              omega
            repeat walk_at "s"
            refine ⟨rfl, ?_⟩
            repeat walk_at "s"
            refine r_niL (SqL.of hr23) ?_
            repeat walk_at "s"
            refine r_iteN (fun hm => ?_) (fun hm => ?_)
            · repeat walk_at "s"
              refine ⟨zs, hq23, szl (by omega), ?_⟩
              obtain ⟨H24, e24, b24, hq24⟩ := upd_ex (o' := .lst (zs ++ [.ref pc])) hq23
              rw [e24]
              refine ⟨_, hq24, b23.trans b24, ?_⟩
              rw [filter_take hcp, decide_eq_false hm, Bool.not_false, if_pos rfl, List.map_append]
              exact (hzs.but b24 (by walk_at "nis")).snoc (dcp.but b24 (by walk_at "nis"))
            · refine ⟨zs, hq23, b23, ?_⟩
              rw [filter_take hcp, decide_eq_true hm, Bool.not_true, if_neg Bool.false_ne_true, List.append_nil]
              exact hzs
          · rintro H23 ⟨zs, hq23, b23, hzs⟩
            rw [vlen, List.take_length, ← rep2] at hzs
            have hl23 : H23 l = some (.lst xs) := by walk_at "hp"
            have nlq : l ≠ q := by walk_at "ne"
            have hr23 : H23 r = some (.lst (rs.map V.int)) := by walk_at "hp"
            have hx23 : DnAll K [] H23 xs (log.map dTx) := by
              have b2023 : But [] H20 H23 := by
                have e : But [] H20 H23 := bt_but (bt_same (bt_same .refl s21) s22) b23 (bc_fr (by walk_at "fr") bc_nil)
                exact e
              exact hx20.but b2023 sub_nil
            have d23 : Dn K [] H23 (.ref q) (.list ((replayM (log ++ [(n, [], rs)])).map dCopy)) := .lst hq23 List.not_mem_nil (hzs.sub sub_nil)
            have b423 : But [] H4 H23 := by walk_at "bt"
            clear b23 s22 s21 b420
            repeat walk_at "s"
            refine r_newL (sz (Nat.le_of_ble_eq_true rfl)) (fun em H24 hem s24 hem24 => ?_)
            repeat walk_at "s"
            refine r_newT (sz (Nat.le_of_ble_eq_true rfl)) (fun T H25 hT s25 hT25 => ?_)
            repeat walk_at "s"
            refine r_newL (sz (Nat.le_of_ble_eq_true rfl)) (fun o H26 ho s26 ho26 => ?_)
            refine r_addL (by walk_at "hp") ho26 (sz (by simp; omega)) (fun L1 H27 hL1 s27 hL17 => ?_)
            repeat walk_at "s"
            have hx27 : DnAll K [] H27 (xs ++ [.ref T]) ((log ++ [(n, [], rs)]).map dTx) := by
              have q1 : DnAll K [] H27 xs (log.map dTx) := by walk_at "da"
              have q2 : H27 r = some (.lst (rs.map V.int)) := by walk_at "hp"
              have q3 : H27 em = some (.lst []) := by walk_at "hp"
              rw [List.map_append]
              exact q1.snoc (.tup (by walk_at "sq") (.cons (.int _) (.cons (.lst q3 List.not_mem_nil .nil) (.one (.lst q2 List.not_mem_nil .ints)))))
            refine ⟨L1, _, log ++ [(n, [], rs)], rfl, .of hL17, hx27, lb92.ok (by decide), fun R1 ys H28 hR1 s28 hR18 hys => ?_⟩
            repeat walk_at "s"
            have d1 : Dn K [] H28 (.ref R1) (.list ((replayM (log ++ [(n, [], rs)])).map dCopy)) := .lst hR18 List.not_mem_nil hys
            have d2 : Dn K [] H28 (.ref q) (.list ((replayM (log ++ [(n, [], rs)])).map dCopy)) := by walk_at "dn"
            refine r_neOk d1.dp d2.dp (okReplay lb92 (by decide)) (by decide) ?_
            repeat walk_at "s"
            refine r_iteF rfl ?_
            repeat walk_at "s"
            have fin : But [] H4 H28 := by walk_at "bt"
            exact ⟨_, _, _, _, _, _, _, _, _, _, _, _, _, _, rfl, fun b o e => fin.same b o (s4 b o e)⟩
    · rintro σ H4 ⟨o1, o2, o3, o4, o5, o6, o7, o8, o9, o10, o11, o12, o13, o14, rfl, s4⟩
      repeat walk_at "s"
      exact k H4
end
end L20

set_option Elab.async false
set_option linter.all false
set_option maxRecDepth 100000
open PySem L2 PyProof.Rows J
namespace L20
theorem all_mk {P : Program} {w : World} {K : PySem.W.Frag} {h : Heap} {mg : Str → Option Value} {fa f0 f1 f2 f3 f4 f5 f6 f7 f8 f9 f10 f11 f12 : Addr} (X : K.In h) (G : h.Ns mainGlobals mg) (hfa : mg "law" = some (.ref fa))
    {od0 an0 od1 an1 od2 an2 od3 an3 od4 an4 od5 an5 od6 an6 od7 an7 od8 an8 od9 an9 od10 an10 od11 an11 od12 an12 : Option Addr} {sl0 sl1 sl2 sl3 sl4 sl5 sl6 sl7 sl8 sl9 sl10 sl11 sl12 : Array (Option Value)} {oc0 kV0 dc0 pm0 cd0 ct0 oc1 kV1 dc1 pm1 cd1 ct1 oc2 kV2 dc2 pm2 cd2 ct2 oc3 kV3 dc3 pm3 cd3 ct3 oc4 kV4 dc4 pm4 cd4 ct4 oc5 kV5 dc5 pm5 cd5 ct5 oc6 kV6 dc6 pm6 cd6 ct6 oc7 kV7 dc7 pm7 cd7 ct7 oc8 kV8 dc8 pm8 cd8 ct8 oc9 kV9 dc9 pm9 cd9 ct9 oc10 kV10 dc10 pm10 cd10 ct10 oc11 kV11 dc11 pm11 cd11 ct11 oc12 kV12 dc12 pm12 cd12 ct12 : Value}
    (a0 : PySem.W.nsIn K mainGlobals "_law_draw" = some (some (.ref f0))) (l0 : K.lookup f0 = some ⟨oc0, od0, .func (PySem.W.fnOf "_law_draw" "_law_draw" (defArgs s_law_draw) (defBody s_law_draw) (defScope s_law_draw) .none kV0 dc0 pm0 an0 cd0 ct0), sl0⟩) (c0 : PySem.W.codeIn K cd0 "_law_draw" = true) (k0 : PySem.W.keepIn K (.ref f0) = true)
    (a1 : PySem.W.nsIn K mainGlobals "_law_cell_at" = some (some (.ref f1))) (l1 : K.lookup f1 = some ⟨oc1, od1, .func (PySem.W.fnOf "_law_cell_at" "_law_cell_at" (defArgs s_law_cell_at) (defBody s_law_cell_at) (defScope s_law_cell_at) .none kV1 dc1 pm1 an1 cd1 ct1), sl1⟩) (c1 : PySem.W.codeIn K cd1 "_law_cell_at" = true) (k1 : PySem.W.keepIn K (.ref f1) = true)
    (a2 : PySem.W.nsIn K mainGlobals "_law_source" = some (some (.ref f2))) (l2 : K.lookup f2 = some ⟨oc2, od2, .func (PySem.W.fnOf "_law_source" "_law_source" (defArgs s_law_source) (defBody s_law_source) (defScope s_law_source) .none kV2 dc2 pm2 an2 cd2 ct2), sl2⟩) (c2 : PySem.W.codeIn K cd2 "_law_source" = true) (k2 : PySem.W.keepIn K (.ref f2) = true)
    (a3 : PySem.W.nsIn K mainGlobals "_law_pick" = some (some (.ref f3))) (l3 : K.lookup f3 = some ⟨oc3, od3, .func (PySem.W.fnOf "_law_pick" "_law_pick" (defArgs s_law_pick) (defBody s_law_pick) (defScope s_law_pick) .none kV3 dc3 pm3 an3 cd3 ct3), sl3⟩) (c3 : PySem.W.codeIn K cd3 "_law_pick" = true) (k3 : PySem.W.keepIn K (.ref f3) = true)
    (a4 : PySem.W.nsIn K mainGlobals "_law_value" = some (some (.ref f4))) (l4 : K.lookup f4 = some ⟨oc4, od4, .func (PySem.W.fnOf "_law_value" "_law_value" (defArgs s_law_value) (defBody s_law_value) (defScope s_law_value) .none kV4 dc4 pm4 an4 cd4 ct4), sl4⟩) (c4 : PySem.W.codeIn K cd4 "_law_value" = true) (k4 : PySem.W.keepIn K (.ref f4) = true)
    (a5 : PySem.W.nsIn K mainGlobals "_law_subset" = some (some (.ref f5))) (l5 : K.lookup f5 = some ⟨oc5, od5, .func (PySem.W.fnOf "_law_subset" "_law_subset" (defArgs s_law_subset) (defBody s_law_subset) (defScope s_law_subset) .none kV5 dc5 pm5 an5 cd5 ct5), sl5⟩) (c5 : PySem.W.codeIn K cd5 "_law_subset" = true) (k5 : PySem.W.keepIn K (.ref f5) = true)
    (a6 : PySem.W.nsIn K mainGlobals "_law_parts" = some (some (.ref f6))) (l6 : K.lookup f6 = some ⟨oc6, od6, .func (PySem.W.fnOf "_law_parts" "_law_parts" (defArgs s_law_parts) (defBody s_law_parts) (defScope s_law_parts) .none kV6 dc6 pm6 an6 cd6 ct6), sl6⟩) (c6 : PySem.W.codeIn K cd6 "_law_parts" = true) (k6 : PySem.W.keepIn K (.ref f6) = true)
    (a7 : PySem.W.nsIn K mainGlobals "last_revokes" = some (some (.ref f7))) (l7 : K.lookup f7 = some ⟨oc7, od7, .func (PySem.W.fnOf "last_revokes" "last_revokes" (defArgs s_last_revokes) (defBody s_last_revokes) (defScope s_last_revokes) .none kV7 dc7 pm7 an7 cd7 ct7), sl7⟩) (c7 : PySem.W.codeIn K cd7 "last_revokes" = true) (k7 : PySem.W.keepIn K (.ref f7) = true)
    (a8 : PySem.W.nsIn K mainGlobals "revoked" = some (some (.ref f8))) (l8 : K.lookup f8 = some ⟨oc8, od8, .func (PySem.W.fnOf "revoked" "revoked" (defArgs s_revoked) (defBody s_revoked) (defScope s_revoked) .none kV8 dc8 pm8 an8 cd8 ct8), sl8⟩) (c8 : PySem.W.codeIn K cd8 "revoked" = true) (k8 : PySem.W.keepIn K (.ref f8) = true)
    (a9 : PySem.W.nsIn K mainGlobals "replay" = some (some (.ref f9))) (l9 : K.lookup f9 = some ⟨oc9, od9, .func (PySem.W.fnOf "replay" "replay" (defArgs s_replay) (defBody s_replay) (defScope s_replay) .none kV9 dc9 pm9 an9 cd9 ct9), sl9⟩) (c9 : PySem.W.codeIn K cd9 "replay" = true) (k9 : PySem.W.keepIn K (.ref f9) = true)
    (a10 : PySem.W.nsIn K mainGlobals "_law_due" = some (some (.ref f10))) (l10 : K.lookup f10 = some ⟨oc10, od10, .func (PySem.W.fnOf "_law_due" "_law_due" (defArgs s_law_due) (defBody s_law_due) (defScope s_law_due) .none kV10 dc10 pm10 an10 cd10 ct10), sl10⟩) (c10 : PySem.W.codeIn K cd10 "_law_due" = true) (k10 : PySem.W.keepIn K (.ref f10) = true)
    (a11 : PySem.W.nsIn K mainGlobals "_law_last" = some (some (.ref f11))) (l11 : K.lookup f11 = some ⟨oc11, od11, .func (PySem.W.fnOf "_law_last" "_law_last" (defArgs s_law_last) (defBody s_law_last) (defScope s_law_last) .none kV11 dc11 pm11 an11 cd11 ct11), sl11⟩) (c11 : PySem.W.codeIn K cd11 "_law_last" = true) (k11 : PySem.W.keepIn K (.ref f11) = true)
    (a12 : PySem.W.nsIn K mainGlobals "law" = some (some (.ref f12))) (l12 : K.lookup f12 = some ⟨oc12, od12, .func (PySem.W.fnOf "law" "law" (defArgs s_law) (defBody s_law) (defScope s_law) .none kV12 dc12 pm12 an12 cd12 ct12), sl12⟩) (c12 : PySem.W.codeIn K cd12 "law" = true) (k12 : PySem.W.keepIn K (.ref f12) = true)
    (z_enumerate : PySem.W.nsIn K mainGlobals "enumerate" = some none)
    (z_int : PySem.W.nsIn K mainGlobals "int" = some none)
    (z_len : PySem.W.nsIn K mainGlobals "len" = some none)
    (z_list : PySem.W.nsIn K mainGlobals "list" = some none)
    (z_max : PySem.W.nsIn K mainGlobals "max" = some none)
    (z_range : PySem.W.nsIn K mainGlobals "range" = some none)
    (z_repr : PySem.W.nsIn K mainGlobals "repr" = some none)
    (z_sorted : PySem.W.nsIn K mainGlobals "sorted" = some none)
    (z_tuple : PySem.W.nsIn K mainGlobals "tuple" = some none)
    : ∃ fd : FuncData, (∀ (s : Shared) (v : Value), BindsTo s fd ⟨[v], []⟩ [("_law_script", v)]) ∧ ∀ base : Heap, K.In base → base.Ns mainGlobals mg → FnG P w K mg base CX0 5 fa fd ["_law_script"] (spLaw K) := by
  have e := hfa.symm.trans (PySem.W.mg_of X G a12)
  cases e
  have B : Bl mg := ⟨PySem.W.mg_none_of X G z_enumerate, PySem.W.mg_none_of X G z_int, PySem.W.mg_none_of X G z_len, PySem.W.mg_none_of X G z_list, PySem.W.mg_none_of X G z_max, PySem.W.mg_none_of X G z_range, PySem.W.mg_none_of X G z_repr, PySem.W.mg_none_of X G z_sorted, PySem.W.mg_none_of X G z_tuple⟩
  have F_law_draw := fun_mk (st := s_law_draw) l0 c0 k0
  have b_law_draw := F_law_draw.binds (ps := ["_law_source_here", "_law_size"]) fun _ _ _ _ _ _ us hl => match us, hl with | [_, _], _ => rfl
  have F_law_cell_at := fun_mk (st := s_law_cell_at) l1 c1 k1
  have b_law_cell_at := F_law_cell_at.binds (ps := ["_law_script", "_law_k"]) fun _ _ _ _ _ _ us hl => match us, hl with | [_, _], _ => rfl
  have F_law_source := fun_mk (st := s_law_source) l2 c2 k2
  have b_law_source := F_law_source.binds (ps := ["_law_cell"]) fun _ _ _ _ _ _ us hl => match us, hl with | [_], _ => rfl
  have F_law_pick := fun_mk (st := s_law_pick) l3 c3 k3
  have b_law_pick := F_law_pick.binds (ps := ["_law_source_here", "_law_items"]) fun _ _ _ _ _ _ us hl => match us, hl with | [_, _], _ => rfl
  have F_law_value := fun_mk (st := s_law_value) l4 c4 k4
  have b_law_value := F_law_value.binds (ps := ["_law_source_here"]) fun _ _ _ _ _ _ us hl => match us, hl with | [_], _ => rfl
  have F_law_subset := fun_mk (st := s_law_subset) l5 c5 k5
  have b_law_subset := F_law_subset.binds (ps := ["_law_source_here", "_law_count", "_law_most"]) fun _ _ _ _ _ _ us hl => match us, hl with | [_, _, _], _ => rfl
  have F_law_parts := fun_mk (st := s_law_parts) l6 c6 k6
  have b_law_parts := F_law_parts.binds (ps := ["_law_source_here", "_law_homes"]) fun _ _ _ _ _ _ us hl => match us, hl with | [_, _], _ => rfl
  have F_last_revokes := fun_mk (st := s_last_revokes) l7 c7 k7
  have b_last_revokes := F_last_revokes.binds (ps := ["transactions"]) fun _ _ _ _ _ _ us hl => match us, hl with | [_], _ => rfl
  have F_revoked := fun_mk (st := s_revoked) l8 c8 k8
  have b_revoked := F_revoked.binds (ps := ["transactions"]) fun _ _ _ _ _ _ us hl => match us, hl with | [_], _ => rfl
  have F_replay := fun_mk (st := s_replay) l9 c9 k9
  have b_replay := F_replay.binds (ps := ["transactions"]) fun _ _ _ _ _ _ us hl => match us, hl with | [_], _ => rfl
  have F_law_due := fun_mk (st := s_law_due) l10 c10 k10
  have b_law_due := F_law_due.binds (ps := ["_law_log"]) fun _ _ _ _ _ _ us hl => match us, hl with | [_], _ => rfl
  have F_law_last := fun_mk (st := s_law_last) l11 c11 k11
  have b_law_last := F_law_last.binds (ps := ["_law_log"]) fun _ _ _ _ _ _ us hl => match us, hl with | [_], _ => rfl
  refine ⟨(PySem.W.fnOf "law" "law" (defArgs s_law) (defBody s_law) (defScope s_law) .none kV12 dc12 pm12 an12 cd12 ct12), fun s v => .of_eq rfl, fun base _ _ => ?_⟩
  have C_law_draw : Cl P w K mg base CX0 1 "_law_draw" spDraw := ⟨_, _, _, ok_draw F_law_draw , PySem.W.mg_of X G a0, k0, b_law_draw⟩
  have C_law_cell_at : Cl P w K mg base CX0 1 "_law_cell_at" (spCell K) := ⟨_, _, _, ok_cell F_law_cell_at B, PySem.W.mg_of X G a1, k1, b_law_cell_at⟩
  have C_law_source : Cl P w K mg base CX0 1 "_law_source" spSource := ⟨_, _, _, ok_source F_law_source B, PySem.W.mg_of X G a2, k2, b_law_source⟩
  have C_law_pick : Cl P w K mg base CX0 2 "_law_pick" (spPick K) := ⟨_, _, _, ok_pick F_law_pick B C_law_draw, PySem.W.mg_of X G a3, k3, b_law_pick⟩
  have C_law_value : Cl P w K mg base CX0 3 "_law_value" (spValue K) := ⟨_, _, _, ok_value F_law_value C_law_draw C_law_pick, PySem.W.mg_of X G a4, k4, b_law_value⟩
  have C_law_subset : Cl P w K mg base CX0 2 "_law_subset" (spSubset K) := ⟨_, _, _, ok_subset F_law_subset B C_law_draw, PySem.W.mg_of X G a5, k5, b_law_subset⟩
  have C_law_parts : Cl P w K mg base CX0 4 "_law_parts" (spParts K) := ⟨_, _, _, ok_parts F_law_parts C_law_pick C_law_subset C_law_value, PySem.W.mg_of X G a6, k6, b_law_parts⟩
  have C_last_revokes : Cl P w K mg base CX0 1 "last_revokes" (spLast K) := ⟨_, _, _, ok_last F_last_revokes B, PySem.W.mg_of X G a7, k7, b_last_revokes⟩
  have C_revoked : Cl P w K mg base CX0 2 "revoked" (spSortedRev K lastRev) := ⟨_, _, _, ok_revoked F_revoked B C_last_revokes, PySem.W.mg_of X G a8, k8, b_revoked⟩
  have C_replay : Cl P w K mg base CX0 2 "replay" (spReplay K replayM) := ⟨_, _, _, ok_replay F_replay C_last_revokes, PySem.W.mg_of X G a9, k9, b_replay⟩
  have C_law_due : Cl P w K mg base CX0 1 "_law_due" (spReplay K dueM) := ⟨_, _, _, ok_due F_law_due B, PySem.W.mg_of X G a10, k10, b_law_due⟩
  have C_law_last : Cl P w K mg base CX0 1 "_law_last" (spSortedRev K lawRev) := ⟨_, _, _, ok_lawLast F_law_last B, PySem.W.mg_of X G a11, k11, b_law_last⟩
  exact ok_law (fun_mk (st := s_law) l12 c12 k12) B C_law_cell_at C_law_source C_law_draw C_law_pick C_law_parts C_replay C_revoked C_law_due C_law_last
end L20
open PySem PySem.W PyProof.Rows in
set_option maxRecDepth 100000 in
set_option maxHeartbeats 0 in
theorem PySem.Challenge.cw_revokelog_k20_whole_replay_and_revoked_holds : PySem.Challenge.rw_revokelog_k20_whole_replay_and_revoked.Holds := by
  w_on; o_law; k_head; (case hw => w_witness2)
  k_fill
  refine J.walk_ofG (n := 63) (k := 5) (x := "_law_script") (sp := fun K => L20.spLaw K) rfl (by decide) rfl ⟨rfl, by decide, by decide⟩ (fun w h Y => PySem.W.kIn_of Y) ?F (fun K H a ns hl _ hS => ⟨a, ns, rfl, hS, hl, fun _ => rfl⟩)
  case F =>
    intro w mg fa h KX G hmg
    refine' L20.all_mk KX G hmg ?a0 ?l0 ?c0 ?k0 ?a1 ?l1 ?c1 ?k1 ?a2 ?l2 ?c2 ?k2 ?a3 ?l3 ?c3 ?k3 ?a4 ?l4 ?c4 ?k4 ?a5 ?l5 ?c5 ?k5 ?a6 ?l6 ?c6 ?k6 ?a7 ?l7 ?c7 ?k7 ?a8 ?l8 ?c8 ?k8 ?a9 ?l9 ?c9 ?k9 ?a10 ?l10 ?c10 ?k10 ?a11 ?l11 ?c11 ?k11 ?a12 ?l12 ?c12 ?k12 ?z_enumerate ?z_int ?z_len ?z_list ?z_max ?z_range ?z_repr ?z_sorted ?z_tuple
    (case a0 => k_is)
    (case l0 => k_is)
    (case c0 => k_is)
    (case k0 => k_is)
    (case a1 => k_is)
    (case l1 => k_is)
    (case c1 => k_is)
    (case k1 => k_is)
    (case a2 => k_is)
    (case l2 => k_is)
    (case c2 => k_is)
    (case k2 => k_is)
    (case a3 => k_is)
    (case l3 => k_is)
    (case c3 => k_is)
    (case k3 => k_is)
    (case a4 => k_is)
    (case l4 => k_is)
    (case c4 => k_is)
    (case k4 => k_is)
    (case a5 => k_is)
    (case l5 => k_is)
    (case c5 => k_is)
    (case k5 => k_is)
    (case a6 => k_is)
    (case l6 => k_is)
    (case c6 => k_is)
    (case k6 => k_is)
    (case a7 => k_is)
    (case l7 => k_is)
    (case c7 => k_is)
    (case k7 => k_is)
    (case a8 => k_is)
    (case l8 => k_is)
    (case c8 => k_is)
    (case k8 => k_is)
    (case a9 => k_is)
    (case l9 => k_is)
    (case c9 => k_is)
    (case k9 => k_is)
    (case a10 => k_is)
    (case l10 => k_is)
    (case c10 => k_is)
    (case k10 => k_is)
    (case a11 => k_is)
    (case l11 => k_is)
    (case c11 => k_is)
    (case k11 => k_is)
    (case a12 => k_is)
    (case l12 => k_is)
    (case c12 => k_is)
    (case k12 => k_is)
    (case z_enumerate => k_is)
    (case z_int => k_is)
    (case z_len => k_is)
    (case z_list => k_is)
    (case z_max => k_is)
    (case z_range => k_is)
    (case z_repr => k_is)
    (case z_sorted => k_is)
    (case z_tuple => k_is)
