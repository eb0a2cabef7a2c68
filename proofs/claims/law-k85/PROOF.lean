import PyProof.Rows.All
import Wide.All
import OpenK.AllK
import Wide.FinOn
import HandS.ForMost
import HandS.EndBits
import HandS.Exc
import HandS.ExcOwn
import HandS.WordsExc
import HandS.TryOnly
import PyProof.ReprRoads
import HandS.More
import HandS.IsInst
import HandS.Zip
import PyProof.DictUpdate
import HandS.Defaults
import HandS.Wide
import PyProof.NeKinds
import HandS.Style
import HandS.TupSets
import PyProof.ReprLen
import PyProof.P3Eq
import PySem.Challenge.RW_timekernel_k85_shortest_logs
set_option Elab.async false
set_option linter.all false
set_option maxRecDepth 100000
set_option maxHeartbeats 4000000
/-! Promises that also know that no repr is running around them. -/
namespace Tk
open PySem PySem.Spec PyProof.Rows L2

/-- no container's repr is under way around -/
abbrev Free (A : Around) : Prop := A.guards = some []

section
variable (P : Program) (w : World) (K : PySem.W.Frag) (mg : Str → Option Value) (base : Heap) (CX : CXT)
structure FnG (k : Nat) (f : Addr) (fd : FuncData) (ps : List Str) (sp : Sp) : Prop where
  len : ∀ vs H Q E, sp vs H Q E → vs.length = ps.length
  run : ∀ (A : Around) (outer : List Env) (s : Shared) (H : Hp) (args : Args) (us : List Value) (vs : List V) (Q : VK) (E : XK),
    Free A → Room k A → Env0 P w K mg base A outer s H → BindsTo s fd args (ps.zip us) → Vals vs us → sp vs H Q E →
    codeAny (model P w) A (.call (.ref f) args) (CR CX outer P w H s Q E) s
end

section
variable {P : Program} {w : World} {K : PySem.W.Frag} {mg : Str → Option Value} {base : Heap} {CX : CXT} {k : Nat} {f : Addr} {fd : FuncData} {ps : List Str} {sp : Sp}
theorem FnG.of (F : FnOk P w K mg base CX k f fd ps sp) : FnG P w K mg base CX k f fd ps sp :=
  ⟨F.len, fun A outer s H args us vs Q E _ => F.run A outer s H args us vs Q E⟩

theorem fnG_mk {name qual : Str} {params : Arguments} {body : List Stmt} {scope : Scope} {dV kV doc pm cdv ct oc : Value} {an od : Option Addr} {osl : Array (Option Value)} {N : List Str}
    (lk : K.lookup f = some ⟨oc, od, .func (PySem.W.fnOf name qual params body scope dV kV doc pm an cdv ct), osl⟩)
    (hcd : PySem.W.codeIn K cdv qual = true) (S : FnScope N ps scope) (len : ∀ vs H Q E, sp vs H Q E → vs.length = ps.length)
    (hb : ∀ (A : Around) (outer : List Env) (s : Shared) (H : Hp) (vs : List V) (Q : VK) (E : XK),
      Free (A.deeper (envOfC qual scope s.heap.objs.size f cdv)) → Room k (A.deeper (envOfC qual scope s.heap.objs.size f cdv)) → sp vs H Q E →
      ∃ t, PSs (cxOf CX P w K mg base N qual scope f cdv A outer s H E) body t ∧ t { nx := fun _ H' => Q .non H', rt := Q } (start N vs) H) :
    FnG P w K mg base CX (k + 1) f (PySem.W.fnOf name qual params body scope dV kV doc pm an cdv ct) ps sp := by
  constructor
  · exact len
  intro A outer s H args us vs Q E hg hr e0 hbd rv hsp
  have hlv := len _ _ _ _ hsp
  have hin : ∀ b o, base.get? b = some o → s.heap.get? b = some o := fun b o e => (e0.bs b o e).1
  have KX : K.In s.heap := e0.mod.kin.keeps hin
  have nl : s.heap.NoLimit := e0.mod.nolimit.keeps hin
  have hkd : ∀ y ∈ ps.zip us, scope.names.lookup y.1 = some .local ∨
      (scope.names.lookup y.1 = some .cell ∧ ((cellsFrom (s.heap.objs.size + 1) scope.names []).lookup y.1).isSome = true) := by
    rintro ⟨n, v⟩ hy
    have hp := S.par n (List.of_mem_zip hy).1
    exact hp.elim .inl fun q => .inr ⟨q, PySem.W.cellsFrom_some _ _ _ (.inl q)⟩
  refine codeAny_call_function hr.depth (KX _ _ lk) rfl S.co S.gen rfl (PySem.W.codeRec_of KX hcd) (hbd _ _ _ _ ?_)
  refine wpAny_newFunctionEnv_cells S.kind hkd ?_
  rintro env rfl s1 x
  refine ⟨nl.keeps x.toInCall.keep, codeAny_func ?_⟩
  obtain ⟨t, ht, hq⟩ := hb A outer s H vs Q E hg (hr.deeper _) hsp
  have J0 := inv_start (CX := CX) (N := N) (E := E) S hr.hd e0 hlv rv x
  refine wpAny_mono (ht.run [] s1 (start N vs) H _ J0 hq) ?_ (fun _ _ z => z)
  intro fl s' hs
  match fl, hs with
  | .ret u, ⟨v, σ', H', J, rv', q⟩ => exact ⟨v, H', J.os, J.bare, J.base, J.hok, rv', q⟩
  | .next, ⟨σ', H', J, q⟩ => exact ⟨V.non, H', J.os, J.bare, J.base, J.hok, rfl, q⟩
  | .brk, ⟨_, _, _, q⟩ => exact q.elim
  | .cont, ⟨_, _, _, q⟩ => exact q.elim

/-- a def of the text, nothing leaves it -/
theorem funG {x qual : Str} {st : Stmt} {N : List Str} (F : Fun K x qual st f fd) (S : FnScope N ps (defScope st)) (len : ∀ vs H Q E, sp vs H Q E → vs.length = ps.length)
    (hb : ∀ (cdv : Value) (A : Around) (outer : List Env) (s : Shared) (H : Hp) (vs : List V) (Q : VK) (E : XK),
      Free (A.deeper (envOfC qual (defScope st) s.heap.objs.size f cdv)) → Room k (A.deeper (envOfC qual (defScope st) s.heap.objs.size f cdv)) → sp vs H Q E →
      ∃ t, PSs (cxOf CX P w K mg base N qual (defScope st) f cdv A outer s H E) (defBody st) t ∧ t { nx := fun _ H' => Q .non H', rt := Q } (start N vs) H) :
    FnG P w K mg base CX (k + 1) f fd ps sp := by
  obtain ⟨oc, od, kV, doc, pm, an, cdv, ct, osl, rfl, lk, hcd⟩ := F.ex
  exact fnG_mk lk hcd S len fun A outer s H vs Q E hg hr hsp => hb cdv A outer s H vs Q E hg hr hsp
end

section
variable {X : Cx} {CX : CXT} {k : Nat} {f : Addr} {fd : FuncData} {ps : List Str} {sp : Sp} {dvs : List V} {ds : List Value} {E : XK} {x : Str} {p pos : Pos} {e : Expr} {es : List Expr} {t : TA}
theorem run_G {pins : List (Addr × Obj)} {σ : L2.St} {H : Hp} {s : Shared} {Q : VK} {us : List Value} {vs : List V}
    (F : FnG X.prog X.w X.K X.mg X.base CX k f fd ps sp) (hg : Free X.A) (hr : Room k X.A) (hb : Binds X.K fd ps ds) (hd : Vals dvs ds) (hx : Passes CX X E)
    (I : Inv X pins σ H s) (r : Vals vs us) (h : sp (vs ++ dvs) H Q E) : wpAny (model X.prog X.w) X.A (call (.ref f) us) (EP X pins σ Q) X.xe s := by
  have rr := r.append hd
  have hl : (us ++ ds).length = ps.length := rr.length ▸ F.len _ _ _ _ h
  refine wpAny_call (codeAny_mono (F.run X.A X.stack s H ⟨us, []⟩ _ _ Q E hg hr I.env0 (hb s us I.kIn hl) rr h) ?_)
  rintro (e | (_ | _ | _ | u)) s' hq
  · exact hx pins σ H s e s' I hq
  all_goals first | exact I.after hq | exact False.elim hq
theorem pe_callG (F : FnG X.prog X.w X.K X.mg X.base CX k f fd ps sp) (hfr : Free X.A) (hr : Room k X.A) (hg : Gl X x) (hm : X.mg x = some (.ref f)) (hk : PySem.W.keepIn X.K (.ref f) = true)
    (hb : Binds X.K fd ps ds) (hd : Vals dvs ds) (hx : Passes CX X E) (ha : PA X (e :: es) t) (hdb : (x == ("__debug__" : Str)) = false := by decide)
    (he : starEach (e :: es) X.env = (false, eval e X.env) :: starEach es X.env := by rfl) (hpl : (backTo pos (starEach es X.env)).any (·.1) = false := by rfl) :
    PE X (.Call (.Name x p) (e :: es) [] pos) (tCall sp dvs E t) := by
  constructor
  intro pins s σ H Q I h
  refine wpAny_Call_Name_kw (ld_glob I hg hm ?_ hdb)
  refine PySem.W.callWith_K (h₀ := X.base) I.ok.mod.kin hk (thn (ha.run pos pins s σ H _ I h) ?_) he hpl
  rintro us s1 ⟨vs, H1, I1, r, q⟩
  exact ⟨I1.kIn, run_G F hfr hr hb hd hx I1 r q⟩
end
end Tk

set_option Elab.async false
set_option linter.all false
set_option maxRecDepth 100000
set_option maxHeartbeats 4000000
namespace Tk
open PySem PySem.Spec PyProof.Rows L2

section
variable {P : Program} {w : World} {K : PySem.W.Frag} {mg mb : Str → Option Value} {CX : CXT} {k : Nat} {fa a : Addr} {fd : FuncData} {x : Str} {sp : Sp} {s₁ : Shared} {vs : List Value} {ns : List Int}
/-- what a law's call must come to -/
abbrev LawEnd (s₁ : Shared) : Result → Shared → Prop := fun r s' => r = .ok (.ret (.bool true)) ∧ OldK s₁.heap s'.heap ∧ s'.os = s₁.os ∧ AllBare s'.gens

theorem lawG_at (H : Hp) (KX : K.In s₁.heap) (hns : s₁.heap.Ns mainGlobals mg) (hb : s₁.heap.Ns builtinsNs mb) (hbb : ∀ x : Str, x ≠ "__name__" → mb x = bootBuiltins x) (hlim : s₁.heap.NoLimit) (hg : s₁.gens = #[])
    (hobj : s₁.heap.get? a = some { cls := .type "list", data := .seq vs.toArray }) (hr : Room k callerA)
    (F : ∀ base : Heap, K.In base → base.Ns mainGlobals mg → FnG P w K mg base CX k fa fd [x] sp) (hbind : ∀ (s : Shared) (u : Value), BindsTo s fd ⟨[u], []⟩ [(x, u)])
    (hO : Only H) (hok : HOk P w H s₁.heap) (hA : ∀ b, H b ≠ none → b = a ∧ K.lookup a = none)
    (hsp : sp [.ref a] H (fun v _ => v = .bl true) fun _ _ _ => False) (hCX : ∀ e s', CX [] H s₁ (fun _ _ _ => False) e s' → False) :
    codeAny (model P w) callerA (.call (.ref fa) ⟨[.ref a], []⟩) (LawEnd s₁) s₁ := by
  have free : ∀ b, b ≠ a → H b = none := fun b hb => Classical.byContradiction fun z => hb (hA b z).1
  have dictFree : ∀ {b : Addr} {o : Obj} {es : Array DictEntry} {ep : Nat}, s₁.heap.get? b = some o → o.data = .dict es ep → H b = none := by
    intro b o es ep e d
    refine free b fun z => ?_
    subst z
    cases hobj.symm.trans e
    cases d
  have toBase : ∀ {b : Addr} {m : Str → Option Value}, s₁.heap.Ns b m → (hidT s₁.heap H).Ns b m := by
    rintro b m ⟨o, es, ep, e, d, r⟩
    exact ⟨o, es, ep, hidT_get e (dictFree e d), d, r⟩
  have kin : K.In (hidT s₁.heap H) := by
    intro b o e
    refine hidT_get (KX b o e) (Classical.byContradiction fun z => ?_)
    obtain ⟨rfl, n⟩ := hA b z
    exact nomatch n.symm.trans e
  have nolim : (hidT s₁.heap H).NoLimit := by
    obtain ⟨mc, h1, h2⟩ := hlim
    exact ⟨mc, toBase h1, h2⟩
  have env : Env0 P w K mg (hidT s₁.heap H) callerA [] s₁ H := {
    frames := rfl
    mod := ⟨kin, toBase hns, ⟨mb, toBase hb, hbb⟩, nolim⟩
    bs := fun b o e => of_hidT e
    bsz := Nat.le_of_eq (hidT_size _ _)
    funs := trivial
    frf := fun b hb => nomatch hb
    hok := hok
    bare := .of_eq hg }
  refine codeAny_mono ((F _ kin (toBase hns)).run callerA [] s₁ H _ [.ref a] [.ref a] _ _ rfl hr env (hbind s₁ (.ref a)) (.cons rfl .nil) hsp) ?_
  intro r s' h
  match r, h with
  | .error e, h => exact (hCX e s' h).elim
  | .ok (.ret u), ⟨v, H', os, bare, un, hok', rv, hv⟩ =>
    have hv' : v = .bl true := hv
    subst hv'
    have hu : u = Value.bool true := rv
    subst hu
    refine ⟨rfl, .of_keep fun b o e => ?_, os, bare⟩
    rcases hO b with n | ⟨ob, xs, z⟩
    · exact un.keep b o e n (fun q => nomatch q) (fun q => nomatch q)
    · have p1 := (hok b _ z).1
      have p2 := (hok' b _ (un.frzs b ob _ z)).1
      cases e.symm.trans p1
      exact p2

theorem lawG_call (KX : K.In s₁.heap) (hns : s₁.heap.Ns mainGlobals mg) (hb : s₁.heap.Ns builtinsNs mb) (hbb : ∀ x : Str, x ≠ "__name__" → mb x = bootBuiltins x) (hlim : s₁.heap.NoLimit) (hg : s₁.gens = #[])
    (hobj : s₁.heap.get? a = some { cls := .type "list", data := .seq vs.toArray }) (hi : IntsAre vs ns) (hl : ns.length ≤ sizeLine) (hr : Room k callerA)
    (F : ∀ base : Heap, K.In base → base.Ns mainGlobals mg → FnG P w K mg base CX k fa fd [x] sp) (hbind : ∀ (s : Shared) (u : Value), BindsTo s fd ⟨[u], []⟩ [(x, u)])
    (hsp : ∀ H : Hp, Only H → SqL K H a (ns.map V.int) → sp [.ref a] H (fun v _ => v = .bl true) fun _ _ _ => False)
    (hCX : ∀ H e s', CX [] H s₁ (fun _ _ _ => False) e s' → False) :
    codeAny (model P w) callerA (.call (.ref fa) ⟨[.ref a], []⟩) (LawEnd s₁) s₁ := by
  have rv := vals_ints hi
  have lenV := hi.length
  cases hk : K.lookup a with
  | some o =>
    cases hobj.symm.trans (KX a o hk)
    have hO : Only fun _ => none := fun _ => .inl rfl
    refine lawG_at (fun _ => none) KX hns hb hbb hlim hg hobj hr F hbind hO (fun b u z => nomatch z) (fun b z => absurd rfl z) (hsp _ hO ?_) (hCX _)
    exact .inr ⟨_, vs.toArray, _, hk, rfl, rfl, rfl, by rw [List.size_toArray, lenV]; exact hl, by simpa using rv⟩
  | none =>
    let ob : Obj := { cls := .type "list", data := .seq vs.toArray }
    let H : Hp := fun b => if b = a then some (.frz ob (.lst (ns.map V.int))) else none
    have at_ : H a = some (.frz ob (.lst (ns.map V.int))) := if_pos rfl
    have off : ∀ b, b ≠ a → H b = none := fun b h => if_neg h
    have hO : Only H := fun b => by
      by_cases h : b = a
      · subst h; exact .inr ⟨_, _, at_⟩
      · exact .inl (off b h)
    refine lawG_at H KX hns hb hbb hlim hg hobj hr F hbind hO ?_ ?_ (hsp H hO (.inl (.inr ⟨ob, at_⟩))) (hCX H)
    · intro b u z
      by_cases h : b = a
      · subst h
        cases at_.symm.trans z
        exact ⟨hobj, by rw [List.length_map]; exact hl, vs, _, rv, hobj⟩
      · exact nomatch (off b h).symm.trans z
    · intro b z
      exact ⟨Classical.byContradiction fun h => z (off b h), hk⟩
end

/-- the end of a law's row, with the script's bits, where the law's promise knows that no repr is around -/
theorem walk_G {l : PySem.W.OpenLaw} {k : Nat} {q : Program} {loose : List Str} {XP : (Str → Option Value) → Heap → Prop} {YP : World → Heap → Prop} {d : DefRec} {K : Params → PySem.W.Frag} {CX : World → CXT} {sp : World → Sp}
    (hn : l.most = some 63) (hdf : d.params.defaults = []) (hr : Room k callerA) (hY : ∀ (w : World) (h : Heap), YP w h → (K w.params).In h)
    (F : ∀ (w : World) (mg : Str → Option Value) (fa : Addr) (h : Heap), (K w.params).In h → h.Ns mainGlobals mg → mg d.name = some (.ref fa) →
      ∃ fd : FuncData, (∀ (s : Shared) (u : Value), BindsTo s fd ⟨[u], []⟩ [("script", u)]) ∧
        ∀ base : Heap, (K w.params).In base → base.Ns mainGlobals mg → FnG l.prog w (K w.params) mg base (CX w) k fa fd ["script"] (sp w))
    (hsp : ∀ (w : World) (H : Hp) (a : Addr) (ns : List Int), ns.length ≤ 63 → (∀ z ∈ ns, Builtin.Int.intBits z ≤ 1048576) → Only H → SqL (K w.params) H a (ns.map V.int) →
      sp w [.ref a] H (fun v _ => v = .bl true) fun _ _ _ => False)
    (hCX : ∀ (w : World) (H : Hp) (s : Shared) (e : Value) (s' : Shared), CX w [] H s (fun _ _ _ => False) e s' → False) :
    PySem.W.WalkO q loose XP YP l.row.toRowW d [] (fun f vs => PySem.call f vs) := by
  refine Att.attach_callB hn hdf ?_
  intro w s₀ s₁ mg mb fa o pm cd doc a vs ns G Y ho hd hcd hmg hobj hints hlen hbits hg
  obtain ⟨fd, hb, hF⟩ := F w mg fa _ (hY w _ Y) G.T.g hmg
  exact lawG_call (hY w _ Y) G.T.g G.T.b G.T.builtins G.T.nolimit hg hobj hints (Nat.le_trans hlen (by decide)) hr hF hb (fun H hO hS => hsp w H a ns hlen hbits hO hS) fun H e s' => hCX w H s₁ e s'
end Tk

set_option Elab.async false
set_option linter.all false
set_option maxRecDepth 100000
set_option maxHeartbeats 4000000
namespace Tk
open PySem PySem.Spec PyProof.Rows L2

/-! ### data -/
section
variable {K : PySem.W.Frag} {H H' : Hp}
mutual
theorem Dp.noDict : ∀ {v : V} {d : PyData}, Dp K H v d → d.hasDict = false
  | _, _, .non => by simp only [PyData.hasDict]
  | _, _, .bl b => by simp only [PyData.hasDict]
  | _, _, .int i => by simp only [PyData.hasDict]
  | _, _, .str x => by simp only [PyData.hasDict]
  | _, _, .lst _ h => by simp only [PyData.hasDict]; exact DpAll.noDict h
  | _, _, .tup _ h => by simp only [PyData.hasDict]; exact DpAll.noDict h
theorem DpAll.noDict : ∀ {vs : List V} {ds : List PyData}, DpAll K H vs ds → PyData.hasDictAll ds = false
  | _, _, .nil => by simp only [PyData.hasDictAll]
  | _, _, .cons a b => by simp only [PyData.hasDictAll, Dp.noDict a, DpAll.noDict b, Bool.or_self]
end
theorem Same.sq {a : Addr} {xs : List V} (e : Same H H') (h : SqT K H a xs) : SqT K H' a xs := by
  rcases h with (h | ⟨o, h⟩) | h
  · exact .inl (.inl (e _ _ h))
  · exact .inl (.inr ⟨o, e _ _ h⟩)
  · exact .inr h
mutual
theorem Dp.same (e : Same H H') : ∀ {v : V} {d : PyData}, Dp K H v d → Dp K H' v d
  | _, _, .non => .non
  | _, _, .bl b => .bl b
  | _, _, .int i => .int i
  | _, _, .str x => .str x
  | _, _, .lst s h => .lst (e.seq s) (DpAll.same e h)
  | _, _, .tup s h => .tup (Same.sq e s) (DpAll.same e h)
theorem DpAll.same (e : Same H H') : ∀ {vs : List V} {ds : List PyData}, DpAll K H vs ds → DpAll K H' vs ds
  | _, _, .nil => .nil
  | _, _, .cons a b => .cons (Dp.same e a) (DpAll.same e b)
end
end

/-! ### repr -/
def rRepr (K : PySem.W.Frag) : List V → Hp → VK → Prop := fun xs H Q =>
  ∃ v d, xs = [v] ∧ Dp K H v d ∧ d.showable = true ∧ d.depth ≤ 60 ∧ d.shown.length ≤ sizeLine ∧ Q (.str d.shown) H
section
variable {X : Cx}
theorem call_repr (hf : Free X.A) (hu : X.A.units + 64 < cLine) : CallR X (.builtin "repr") (rRepr X.K) := by
  rintro pins s σ H xs us Q I r ⟨v, d, rfl, hd, hs, hdp, hz, q⟩
  obtain ⟨u, rfl, rv⟩ := Vals.one r
  obtain ⟨as, rd⟩ := Dp.reads I d v u hd rv
  cases rd with
  | none => exact P.repr_of_none ⟨.str _, H, I.tok _, ⟨_, rfl⟩, q⟩
  | bool b => exact P.repr_of_bool ⟨.str _, H, I.tok _, ⟨_, rfl⟩, q⟩
  | int i t => exact P.repr_of_int (by simpa [PyData.showable] using hs) ⟨.str _, H, I.tok _, ⟨_, rfl⟩, q⟩
  | str x t => exact P.repr_of_str ⟨.str _, H, I.tok _, ⟨_, rfl⟩, q⟩ (by simpa only [PyData.shown] using hz)
  | list h1 h2 h3 h4 =>
    exact repr_of_reads' (h₀ := s.heap) (.list h1 h2 h3 h4) hs (PyData.noDict_hsm (Dp.noDict hd)) hf (by omega) (fun _ _ z => z) (fun h' u tk k => ⟨.str _, H, I.kept k, ⟨_, rfl⟩, q⟩) hz
  | tuple h1 h2 h3 h4 =>
    exact repr_of_reads' (h₀ := s.heap) (.tuple h1 h2 h3 h4) hs (PyData.noDict_hsm (Dp.noDict hd)) hf (by omega) (fun _ _ z => z) (fun h' u tk k => ⟨.str _, H, I.kept k, ⟨_, rfl⟩, q⟩) hz
  | dict => cases hd

/-! ### d.update(e), both dicts of int and text keys -/
def rUpdate : V → List V → Hp → VK → Prop := fun x vs H Q => ∃ (d o : Addr) (kvs more : List (Key × V)), x = .ref d ∧ vs = [.ref o] ∧ d ≠ o ∧ H d = some (.dK kvs) ∧ H o = some (.dK more) ∧
  kvs.length + more.length ≤ sizeLine ∧ Q .non (upd H d (.dK (mergeK kvs more)))
theorem mt_update : MtR X "dict.update" rUpdate := by
  rintro pins s σ H x xs v us Q I rx r ⟨d, o, kvs, more, rfl, rfl, ne, hd, ho, hz, q⟩
  obtain rfl : v = Value.ref d := rx
  obtain ⟨u, rfl, ru⟩ := Vals.one r
  obtain rfl : u = Value.ref o := ru
  obtain ⟨z1, l1, vs1, r1, d1⟩ := dk_of I.hok hd
  obtain ⟨z2, l2, vs2, r2, d2⟩ := dk_of I.hok ho
  have e1 : kvs.length = vs1.length := Paired.length r1
  have e2 : more.length = vs2.length := Paired.length r2
  refine call_meetsIn PySem.F.slot_dict_update d1.typeIs PySem.F.entry_dict_update (PySem.F.args_dict_update_2 _ _) (meets_dict_update (mixKind X.prog X.w) d o ne l2)
    ⟨vs1, vs2, d1, d2, by omega, fun h' m1 _ sb => ?_⟩
  have hlen := length_mergeK more kvs
  have he : ∃ q, h'.get? d = some q := let ⟨q, _, _, hq, _⟩ := m1; ⟨q, hq⟩
  exact ⟨.non, _, d_write I (by rw [hd]; exact True.intro) sb he (dk_new (by omega) l1 (r2.merge r1) m1), rfl, q⟩
end
end Tk

set_option Elab.async false
set_option linter.all false
set_option maxRecDepth 100000
set_option maxHeartbeats 4000000
namespace Tk
open PySem PySem.Spec PyProof.Rows L2

/-! ### frames: what may have changed, and what not -/
def Hd (M : List Addr) (H : Hp) : Hp := fun b => if b ∈ M then none else H b
theorem Hd_of {M : List Addr} {H : Hp} {b : Addr} (n : b ∉ M) : Hd M H b = H b := if_neg n
theorem of_Hd {M : List Addr} {H : Hp} {b : Addr} {o : HO} (h : Hd M H b = some o) : b ∉ M ∧ H b = some o := by
  unfold Hd at h
  split at h
  · cases h
  · rename_i n; exact ⟨n, h⟩
structure Fr (M : List Addr) (H H' : Hp) : Prop where
  keep : ∀ b o, b ∉ M → H b = some o → H' b = some o
  live : ∀ b, H' b = none → H b = none
section
variable {M N : List Addr} {H H1 H2 : Hp} {a p : Addr} {o : HO} {K : PySem.W.Frag}
theorem Fr.refl (M : List Addr) (H : Hp) : Fr M H H := ⟨fun _ _ _ h => h, fun _ h => h⟩
theorem Fr.trans (x : Fr M H H1) (y : Fr M H1 H2) : Fr M H H2 := ⟨fun b o n h => y.keep b o n (x.keep b o n h), fun b h => x.live b (y.live b h)⟩
theorem Fr.mono (x : Fr M H H1) (s : ∀ b, b ∈ M → b ∈ N) : Fr N H H1 := ⟨fun b o n h => x.keep b o (fun z => n (s b z)) h, x.live⟩
theorem Fr.new (n : H p = none) : Fr M H (upd H p o) := by
  refine ⟨fun b u _ h => ?_, fun b h => ?_⟩
  · rw [upd_ne (ne_of_none h n)]; exact h
  · by_cases e : b = p
    · subst e; exact n
    · rw [upd_ne e] at h; exact h
theorem Fr.set (m : a ∈ M) : Fr M H (upd H a o) := by
  refine ⟨fun b u n h => ?_, fun b h => ?_⟩
  · have ne : b ≠ a := fun z => n (by rw [z]; exact m)
    rw [upd_ne ne]; exact h
  · by_cases e : b = a
    · subst e; rw [upd_same] at h; cases h
    · rw [upd_ne e] at h; exact h
/-- what was not there before need not be named -/
theorem Fr.drop (x : Fr (p :: M) H H1) (n : H p = none) : Fr M H H1 := by
  refine ⟨fun b u m h => x.keep b u ?_ h, x.live⟩
  intro z
  rcases List.mem_cons.mp z with e | e
  · exact ne_of_none h n e
  · exact m e
theorem Fr.weak (x : Fr M H H1) : Fr (p :: M) H H1 := x.mono fun _ h => List.mem_cons_of_mem _ h
theorem Fr.same (x : Fr [] H H1) : Same H H1 := fun b o h => x.keep b o List.not_mem_nil h
theorem Fr.of (x : Same H H1) (l : ∀ b, H1 b = none → H b = none) : Fr M H H1 := ⟨fun b o _ h => x b o h, l⟩
theorem Fr.hd (x : Fr M H H1) : Same (Hd M H) (Hd M H1) := fun b o h => by
  obtain ⟨n, h⟩ := of_Hd h
  rw [Hd_of n]; exact x.keep b o n h
theorem Fr.hdIn (x : Fr M H H1) (s : ∀ b, b ∈ M → b ∈ N) : Same (Hd N H) (Hd N H1) := (x.mono s).hd
theorem Hd_same : Same (Hd M H) H := fun _ _ h => (of_Hd h).2
theorem Hd_mono (s : ∀ b, b ∈ M → b ∈ N) : Same (Hd N H) (Hd M H) := fun b o h => by
  obtain ⟨n, h⟩ := of_Hd h
  rw [Hd_of fun z => n (s b z)]; exact h
theorem Fr.none (x : Fr M H H1) (n : H1 p = none) : H p = none := x.live p n
theorem Fr.at (x : Fr M H H1) (h : H p = some o) (n : p ∉ M) : H1 p = some o := x.keep p o n h
end

theorem negT {A B : Prop} (b : B) : if (!true) = true then A else B := by rw [if_neg (show ¬ ((!true) = true) by decide)]; exact b
theorem negF {A B : Prop} (a : A) : if (!false) = true then A else B := by rw [if_pos (show (!false) = true by decide)]; exact a
theorem nxt {D : Ends} {σ : L2.St} {H : Hp} (h : D.nx σ H) : tNext D σ H := h
theorem ifT {c : Bool} {A B : Prop} (h : c = true) (a : A) : if c = true then A else B := by rw [if_pos h]; exact a
theorem ifF {c : Bool} {A B : Prop} (h : c = false) (b : B) : if c = true then A else B := by rw [h, if_neg Bool.false_ne_true]; exact b
/-! ### defs of the text -/
structure FunAt (K : PySem.W.Frag) (mg : Str → Option Value) (x : Str) (st : Stmt) : Prop where
  ex : ∃ f fd, mg x = some (.ref f) ∧ Fun K x x st f fd
structure DefAt (K : PySem.W.Frag) (mg : Str → Option Value) (x : Str) (st : Stmt) (dvs : List V) : Prop where
  ex : ∃ f fd, mg x = some (.ref f) ∧ FunD K x x (defArgs st) (defBody st) (defScope st) dvs [] f fd
structure Cal (P : Program) (w : World) (K : PySem.W.Frag) (mg : Str → Option Value) (base : Heap) (CX : CXT) (k : Nat) (x : Str) (ps : List Str) (dvs : List V) (sp : Sp) : Prop where
  ex : ∃ f fd ds, mg x = some (.ref f) ∧ PySem.W.keepIn K (.ref f) = true ∧ FnOk P w K mg base CX k f fd ps sp ∧ Binds K fd ps ds ∧ Vals dvs ds
structure CalG (P : Program) (w : World) (K : PySem.W.Frag) (mg : Str → Option Value) (base : Heap) (CX : CXT) (k : Nat) (x : Str) (ps : List Str) (dvs : List V) (sp : Sp) : Prop where
  ex : ∃ f fd ds, mg x = some (.ref f) ∧ PySem.W.keepIn K (.ref f) = true ∧ FnG P w K mg base CX k f fd ps sp ∧ Binds K fd ps ds ∧ Vals dvs ds
section
variable {P : Program} {w : World} {K : PySem.W.Frag} {mg : Str → Option Value} {base : Heap} {CX : CXT} {k j : Nat} {x : Str} {ps N : List Str} {dvs : List V} {sp sp' : Sp} {st : Stmt}
theorem Cal.mono (c : Cal P w K mg base CX j x ps dvs sp) (h : j ≤ k) : Cal P w K mg base CX k x ps dvs sp := by
  obtain ⟨f, fd, ds, a, b, F, d, e⟩ := c.ex
  exact ⟨f, fd, ds, a, b, F.mono h, d, e⟩
theorem Cal.imp (c : Cal P w K mg base CX k x ps dvs sp) (h : ∀ vs H Q E, sp' vs H Q E → sp vs H Q E) : Cal P w K mg base CX k x ps dvs sp' := by
  obtain ⟨f, fd, ds, a, b, F, d, e⟩ := c.ex
  exact ⟨f, fd, ds, a, b, F.imp h, d, e⟩
theorem Cal.mk' (F : FunAt K mg x st)
    (hb : ∀ (kV doc pm : Value) (an : Option Addr) (cdv ct : Value) (us : List Value), us.length = ps.length → bindArgs (PySem.W.fnOf x x (defArgs st) (defBody st) (defScope st) .none kV doc pm an cdv ct) ⟨us, []⟩ = pure (ps.zip us))
    (ok : ∀ f fd, mg x = some (.ref f) → Fun K x x st f fd → FnOk P w K mg base CX k f fd ps sp) : Cal P w K mg base CX k x ps [] sp := by
  obtain ⟨f, fd, hm, F⟩ := F.ex
  exact ⟨f, fd, [], hm, F.kp, ok f fd hm F, F.binds hb, .nil⟩
/-- a def that lets nothing out -/
theorem Cal.mk0 (F : FunAt K mg x st) (S : FnScope N ps (defScope st)) (len : ∀ vs H Q E, sp vs H Q E → vs.length = ps.length)
    (hb : ∀ (kV doc pm : Value) (an : Option Addr) (cdv ct : Value) (us : List Value), us.length = ps.length → bindArgs (PySem.W.fnOf x x (defArgs st) (defBody st) (defScope st) .none kV doc pm an cdv ct) ⟨us, []⟩ = pure (ps.zip us))
    (body : ∀ (f : Addr) (cdv : Value) (A : Around) (outer : List Env) (s : Shared) (H : Hp) (vs : List V) (Q : VK) (E : XK), Room k (A.deeper (envOfC x (defScope st) s.heap.objs.size f cdv)) → sp vs H Q E →
      ∃ t, PSs (cxOf CX0 P w K mg base N x (defScope st) f cdv A outer s H E).nox (defBody st) t ∧ t { nx := fun _ H' => Q .non H', rt := Q } (start N vs) H) : Cal P w K mg base CX0 (k + 1) x ps [] sp :=
  Cal.mk' F hb fun f fd _ F => F.ok S len (body f)
/-- one that may raise -/
theorem Cal.mkX (F : FunAt K mg x st) (S : FnScope N ps (defScope st)) (len : ∀ vs H Q E, sp vs H Q E → vs.length = ps.length)
    (hb : ∀ (kV doc pm : Value) (an : Option Addr) (cdv ct : Value) (us : List Value), us.length = ps.length → bindArgs (PySem.W.fnOf x x (defArgs st) (defBody st) (defScope st) .none kV doc pm an cdv ct) ⟨us, []⟩ = pure (ps.zip us))
    (body : ∀ (f : Addr) (cdv : Value) (A : Around) (outer : List Env) (s : Shared) (H : Hp) (vs : List V) (Q : VK) (E : XK), Room k (A.deeper (envOfC x (defScope st) s.heap.objs.size f cdv)) → sp vs H Q E →
      ∃ t, PSs (cxOf (L2.CX P w) P w K mg base N x (defScope st) f cdv A outer s H E) (defBody st) t ∧ t { nx := fun _ H' => Q .non H', rt := Q } (start N vs) H) : Cal P w K mg base (L2.CX P w) (k + 1) x ps [] sp :=
  Cal.mk' F hb fun f fd _ F => F.okX S len (body f)
/-- one that lets nothing out, where no repr is around -/
theorem CalG.mk0 (F : FunAt K mg x st) (S : FnScope N ps (defScope st)) (len : ∀ vs H Q E, sp vs H Q E → vs.length = ps.length)
    (hb : ∀ (kV doc pm : Value) (an : Option Addr) (cdv ct : Value) (us : List Value), us.length = ps.length → bindArgs (PySem.W.fnOf x x (defArgs st) (defBody st) (defScope st) .none kV doc pm an cdv ct) ⟨us, []⟩ = pure (ps.zip us))
    (body : ∀ (f : Addr) (cdv : Value) (A : Around) (outer : List Env) (s : Shared) (H : Hp) (vs : List V) (Q : VK) (E : XK), Free (A.deeper (envOfC x (defScope st) s.heap.objs.size f cdv)) → Room k (A.deeper (envOfC x (defScope st) s.heap.objs.size f cdv)) → sp vs H Q E →
      ∃ t, PSs (cxOf CX0 P w K mg base N x (defScope st) f cdv A outer s H E).nox (defBody st) t ∧ t { nx := fun _ H' => Q .non H', rt := Q } (start N vs) H) : CalG P w K mg base CX0 (k + 1) x ps [] sp := by
  obtain ⟨f, fd, hm, F⟩ := F.ex
  refine ⟨f, fd, [], hm, F.kp, funG F S len fun cdv A outer s H vs Q E hg hr h => ?_, F.binds hb, .nil⟩
  obtain ⟨t, ht, q⟩ := body f cdv A outer s H vs Q E hg hr h
  exact ⟨t, ht.nox, q⟩
end
section
variable {X : Cx} {CX : CXT} {k : Nat} {ps : List Str} {sp : Sp} {dvs : List V} {E : XK} {x : Str} {p pos : Pos} {e : Expr} {es : List Expr} {t : TA}
/-- f(e, ..), f a def of the text -/
theorem pe_c (C : Cal X.prog X.w X.K X.mg X.base CX k x ps dvs sp) (hr : Room k X.A) (hg : Gl X x) (hx : Passes CX X E) (ha : PA X (e :: es) t) (hdb : (x == ("__debug__" : Str)) = false := by decide)
    (he : starEach (e :: es) X.env = (false, eval e X.env) :: starEach es X.env := by rfl) (hpl : (backTo pos (starEach es X.env)).any (·.1) = false := by rfl) :
    PE X (.Call (.Name x p) (e :: es) [] pos) (tCall sp dvs E t) := by
  obtain ⟨f, fd, ds, hm, hk, F, hb, hd⟩ := C.ex
  exact pe_call F hr hg hm hk hb hd hx ha hdb he hpl
theorem pe_c0 (C : Cal X.prog X.w X.K X.mg X.base CX k x ps dvs sp) (hr : Room k X.A) (hg : Gl X x) (hx : Passes CX X E) (hdb : (x == ("__debug__" : Str)) = false := by decide) :
    PE X (.Call (.Name x p) [] [] pos) (tCall sp dvs E tNil) := by
  obtain ⟨f, fd, ds, hm, hk, F, hb, hd⟩ := C.ex
  exact pe_call0 F hr hg hm hk hb hd hx hdb
theorem pe_cG (C : CalG X.prog X.w X.K X.mg X.base CX k x ps dvs sp) (hf : Free X.A) (hr : Room k X.A) (hg : Gl X x) (hx : Passes CX X E) (ha : PA X (e :: es) t) (hdb : (x == ("__debug__" : Str)) = false := by decide)
    (he : starEach (e :: es) X.env = (false, eval e X.env) :: starEach es X.env := by rfl) (hpl : (backTo pos (starEach es X.env)).any (·.1) = false := by rfl) :
    PE X (.Call (.Name x p) (e :: es) [] pos) (tCall sp dvs E t) := by
  obtain ⟨f, fd, ds, hm, hk, F, hb, hd⟩ := C.ex
  exact pe_callG F hf hr hg hm hk hb hd hx ha hdb he hpl
end
/-- the built-in names are not taken by the module -/
structure NoGl (mg : Str → Option Value) : Prop where
  len : mg "len" = none
  int : mg "int" = none
  range : mg "range" = none
  isinstance : mg "isinstance" = none
  bool : mg "bool" = none
  list : mg "list" = none
  tuple : mg "tuple" = none
  str : mg "str" = none
  all : mg "all" = none
  zip : mg "zip" = none
  sorted : mg "sorted" = none
  max : mg "max" = none
  min : mg "min" = none
  repr : mg "repr" = none
end Tk

set_option Elab.async false
set_option linter.all false
set_option maxRecDepth 100000
namespace Tk
open PySem L2
def topS (i : Nat) : Stmt := PySem.Challenge.pw_timekernel_k85_shortest_logs.main.body.getD i (.Pass ⟨0, 0, 0, 0⟩)
abbrev s_is_whole : Stmt := topS 5
abbrev s_is_cycles : Stmt := topS 6
abbrev s_power : Stmt := topS 7
abbrev s_check_width : Stmt := topS 10
abbrev s_size_of : Stmt := topS 16
abbrev s_is_row : Stmt := topS 17
abbrev s_check_log : Stmt := topS 18
abbrev s_check_cycles : Stmt := topS 19
abbrev s_copied : Stmt := topS 20
abbrev s_looks_between : Stmt := topS 21
abbrev s_shortest : Stmt := topS 22
abbrev s__law_cell_at : Stmt := topS 24
abbrev s__law_mixed : Stmt := topS 25
abbrev s__law_source : Stmt := topS 26
abbrev s__law_next : Stmt := topS 27
abbrev s__law_sizes : Stmt := topS 28
abbrev s__law_rows : Stmt := topS 29
abbrev s__law_found : Stmt := topS 30
abbrev s__law_changes : Stmt := topS 31
abbrev s__law_kept : Stmt := topS 32
abbrev s__law_between : Stmt := topS 33
abbrev s__law_tried : Stmt := topS 34
abbrev s__law_own_right : Stmt := topS 35
abbrev s_law : Stmt := topS 36
end Tk

set_option Elab.async false
set_option linter.all false
set_option maxRecDepth 100000
set_option maxHeartbeats 4000000
namespace Tk
open PySem PySem.Spec PyProof.Rows L2

/-! ### the draws -/
def mixA (cell k : Int) : Int := cell % 2147483629 + cell / 2147483629 * 30011
def mixB (cell k : Int) : Int := ((mixA cell k + 69621 * k + 1) * 48271) % 2147483629
def mixC (cell k : Int) : Int := (mixB cell k * (mixB cell k / 907 + 16831 + k)) % 2147483587
def mixed (cell k : Int) : Int := (mixC cell k * (mixC cell k / 1201 + 30011)) % 2147483563
theorem mixed_nn (c k : Int) : 0 ≤ mixed c k := Int.emod_nonneg _ (by decide)
def cellAt (ns : List Int) (k : Nat) : Int := ns.getD k 0

section
variable {P : Program} {w : World} {K : PySem.W.Frag} {mg : Str → Option Value} {base : Heap}
def spCellAt (K : PySem.W.Frag) : Sp := fun vs H Q _ => ∃ (a : Addr) (k : Nat) (ns : List Int), vs = [.ref a, .int k] ∧ SqL K H a (ns.map V.int) ∧ Q (.int (cellAt ns k)) H
theorem sc_cellAt : FnScope ["script", "k"] ["script", "k"] (defScope s__law_cell_at) := ⟨rfl, rfl, rfl, by decide +kernel, rfl, by decide +kernel, by decide +kernel⟩
theorem ok_cellAt (F : FunAt K mg "_law_cell_at" s__law_cell_at) (G : NoGl mg) : Cal P w K mg base CX0 1 "_law_cell_at" ["script", "k"] [] (spCellAt K) := by
  refine Cal.mk0 F sc_cellAt (by rintro _ _ _ _ ⟨_, _, _, rfl, _⟩; rfl) (fun _ _ _ _ _ _ us hl => match us, hl with | [_, _], _ => rfl) ?_
  rintro f cdv A outer s H vs Q E hr ⟨a, k, ns, rfl, hs, q⟩
  refine ⟨_, pss_cons (ps_if (pt_cmpR op_lt (pv 1) (pe_callB call_len_seq (by rfl) G.len PySem.boot_len (pa_cons (pv 0) pa_nil)) (nomark _)) (pss_one (ps_ret (pe_ix ix_list (pv 0) (pv 1) (fun _ _ => rfl)))) pss_nil)
    (pss_one (ps_ret pe_int)), ?_⟩
  refine ⟨_, rfl, _, rfl, a, _, rfl, .inl hs, _, _, rfl, rfl, _, rfl, ?_⟩
  refine ite2 (fun h => ?_) (fun h => ?_)
  · have h := of_decide_eq_true h
    have hk : k < ns.length := by simpa using h
    refine ⟨_, rfl, _, rfl, a, _, _, _, rfl, rfl, hs, atI_nat (j := k) (v := V.int ns[k]) (by simp [hk]), ?_⟩
    have e : cellAt ns k = ns[k] := by simp [cellAt, List.getD, hk]
    rw [e] at q; exact q
  · have hk : ns.length ≤ k := by
      have h := mt decide_eq_true h
      simpa using h
    have e : cellAt ns k = 0 := by simp [cellAt, List.getD, hk]
    rw [e] at q; exact q

def spMixed : Sp := fun vs H Q _ => ∃ (c k : Int), vs = [.int c, .int k] ∧ Q (.int (mixed c k)) H
theorem sc_mixed : FnScope ["cell", "k", "low"] ["cell", "k"] (defScope s__law_mixed) := ⟨rfl, rfl, rfl, by decide +kernel, rfl, by decide +kernel, by decide +kernel⟩
theorem small_l {i : Int} (j : Int) (h0 : 0 ≤ i) (h1 : i < 2147483648) : CMul i j := .inl ⟨by omega, by omega⟩
theorem ok_mixed (F : FunAt K mg "_law_mixed" s__law_mixed) (G : NoGl mg) : Cal P w K mg base CX0 1 "_law_mixed" ["cell", "k"] [] spMixed := by
  refine Cal.mk0 F sc_mixed (by rintro _ _ _ _ ⟨_, _, rfl, _⟩; rfl) (fun _ _ _ _ _ _ us hl => match us, hl with | [_, _], _ => rfl) ?_
  rintro f cdv A outer s H vs Q E hr ⟨c, k, rfl, q⟩
  have nd := sc_mixed.nd
  refine ⟨_, pss_cons (ps_set (i := 2) nd rfl (.inl rfl) (pe_op op_add (pe_op op_mod (pe_callTy call_int1 (by rfl) G.int (by decide +kernel) (pa_cons (pv 0) pa_nil)) pe_int) (pe_op op_mul (pe_op op_fdivW (pv 0) pe_int) pe_int)))
    (pss_cons (ps_set (i := 2) nd rfl (.inl rfl) (pe_op op_mod (pe_callTy call_int1 (by rfl) G.int (by decide +kernel) (pa_cons (pe_op op_mul (pe_op op_add (pe_op op_add (pv 2) (pe_op op_mul pe_int (pv 1))) pe_int) pe_int) pa_nil)) pe_int))
    (pss_cons (ps_set (i := 2) nd rfl (.inl rfl) (pe_op op_mod (pe_callTy call_int1 (by rfl) G.int (by decide +kernel) (pa_cons (pe_op op_mul (pv 2) (pe_op op_add (pe_op op_add (pe_op op_fdivW (pv 2) pe_int) pe_int) (pv 1))) pa_nil)) pe_int))
    (pss_one (ps_ret (pe_op op_mod (pe_callTy call_int1 (by rfl) G.int (by decide +kernel) (pa_cons (pe_op op_mul (pv 2) (pe_op op_add (pe_op op_fdivW (pv 2) pe_int) pe_int)) pa_nil)) pe_int))))), ?_⟩
  have w1 : CDivW c 2147483629 := ⟨by decide, by decide⟩
  refine ⟨_, rfl, .inl ⟨_, rfl, _, _, rfl, rfl, (by show (0 : Int) < 2147483629; decide), _, rfl, _, _, rfl, rfl, w1, _, _, rfl, rfl, .inr ⟨by decide, by decide⟩, _, _, rfl, rfl, ?_⟩⟩
  refine ⟨_, rfl, _, rfl, _, _, rfl, rfl, .inl ⟨by decide, by decide⟩, _, _, rfl, rfl, _, _, rfl, rfl, _, _, rfl, rfl, .inr ⟨by decide, by decide⟩, .inl ⟨_, rfl, _, _, rfl, rfl, (by show (0 : Int) < 2147483629; decide), ?_⟩⟩
  have b0 : 0 ≤ mixB c k := Int.emod_nonneg _ (by decide)
  have b1 : mixB c k < 2147483629 := Int.emod_lt_of_pos _ (by decide)
  refine ⟨_, rfl, _, rfl, _, _, rfl, rfl, ⟨by decide, by decide⟩, _, _, rfl, rfl, _, rfl, _, _, rfl, rfl, _, _, rfl, rfl, small_l _ b0 (by exact Int.lt_trans b1 (by decide)), .inl ⟨_, rfl, _, _, rfl, rfl, (by show (0 : Int) < 2147483587; decide), ?_⟩⟩
  have c0 : 0 ≤ mixC c k := Int.emod_nonneg _ (by decide)
  have c1 : mixC c k < 2147483587 := Int.emod_lt_of_pos _ (by decide)
  refine ⟨_, rfl, _, rfl, _, _, rfl, rfl, ⟨by decide, by decide⟩, _, _, rfl, rfl, _, _, rfl, rfl, small_l _ c0 (by exact Int.lt_trans c1 (by decide)), .inl ⟨_, rfl, _, _, rfl, rfl, (by show (0 : Int) < 2147483563; decide), ?_⟩⟩
  exact q

/-- the draws of the k-th thing -/
def srcOf (ns : List Int) (k : Nat) : Int := if k < ns.length then cellAt ns k else mixed (cellAt ns 0) (1000 + k)
def spSource (K : PySem.W.Frag) : Sp := fun vs H Q _ => ∃ (a : Addr) (k : Nat) (ns : List Int), vs = [.ref a, .int k] ∧ SqL K H a (ns.map V.int) ∧
  ∀ p H', H p = none → H' p = some (.lst [.int (srcOf ns k), .int (srcOf ns k), .int 0]) → Fr [] H H' → Q (.ref p) H'
theorem sc_source : FnScope ["script", "k", "cell"] ["script", "k"] (defScope s__law_source) := ⟨rfl, rfl, rfl, by decide +kernel, rfl, by decide +kernel, by decide +kernel⟩
theorem ok_source (F : FunAt K mg "_law_source" s__law_source) (G : NoGl mg) (C1 : Cal P w K mg base CX0 1 "_law_cell_at" ["script", "k"] [] (spCellAt K)) (C2 : Cal P w K mg base CX0 1 "_law_mixed" ["cell", "k"] [] spMixed) :
    Cal P w K mg base CX0 2 "_law_source" ["script", "k"] [] (spSource K) := by
  refine Cal.mk0 F sc_source (by rintro _ _ _ _ ⟨_, _, _, rfl, _⟩; rfl) (fun _ _ _ _ _ _ us hl => match us, hl with | [_, _], _ => rfl) ?_
  rintro f cdv A outer s H vs Q E hr ⟨a, k, ns, rfl, hs, q⟩
  have nd := sc_source.nd
  refine ⟨_, pss_cons (ps_if (pt_cmpR op_lt (pv 1) (pe_callB call_len_seq (by rfl) G.len PySem.boot_len (pa_cons (pv 0) pa_nil)) (nomark _))
      (pss_one (ps_ret (pe_lst (pa_cons (pe_ix ix_list (pv 0) (pv 1) (fun _ _ => rfl)) (pa_cons (pe_ix ix_list (pv 0) (pv 1) (fun _ _ => rfl)) (pa_cons pe_int pa_nil)))))) pss_nil)
    (pss_cons (ps_set (i := 2) nd rfl (.inl rfl) (pe_c C2 hr (by rfl) pass0 (pa_cons (pe_c C1 hr (by rfl) pass0 (pa_cons (pv 0) (pa_cons pe_int pa_nil))) (pa_cons (pe_op op_add pe_int (pv 1)) pa_nil))))
    (pss_one (ps_ret (pe_lst (pa_cons (pv 2) (pa_cons (pv 2) (pa_cons pe_int pa_nil))))))), ?_⟩
  refine ⟨_, rfl, _, rfl, a, _, rfl, .inl hs, _, _, rfl, rfl, _, rfl, ?_⟩
  refine ite2 (fun h => ?_) (fun h => ?_)
  · have h := of_decide_eq_true h
    have hk : k < ns.length := by simpa using h
    have at_ := atI_nat (xs := ns.map V.int) (j := k) (v := V.int (cellAt ns k)) (by simp [cellAt, List.getD, hk])
    refine ⟨_, rfl, _, rfl, a, _, _, _, rfl, rfl, hs, at_, _, rfl, _, rfl, a, _, _, _, rfl, rfl, hs, at_, (by show 3 ≤ sizeLine; decide), fun p hp => ?_⟩
    have e : srcOf ns k = cellAt ns k := if_pos hk
    rw [e] at q
    exact q p _ hp upd_same (Fr.new hp)
  · have hk : ¬ k < ns.length := by
      have h := mt decide_eq_true h
      simpa using h
    refine ⟨_, rfl, a, 0, ns, rfl, hs, _, rfl, _, _, rfl, rfl, _, _, rfl, _, rfl, _, rfl, (by show 3 ≤ sizeLine; decide), fun p hp => ?_⟩
    have e : srcOf ns k = mixed (cellAt ns 0) (1000 + k) := if_neg hk
    rw [e] at q
    exact q p _ hp upd_same (Fr.new hp)

/-- a source: what is left of the number, the number, how many were mixed -/
abbrev srcO (x y z : Int) : HO := .lst [.int x, .int y, .int z]
def nextV (x y z m : Int) : Int := if 10 ^ 18 ≤ x then x % m else mixed y (z + 1) % m
def nextX (x m : Int) : Int := if 10 ^ 18 ≤ x then x / m else x
def nextZ (x z : Int) : Int := if 10 ^ 18 ≤ x then z else z + 1
def spNext : Sp := fun vs H Q _ => ∃ (a : Addr) (x y z m : Int), vs = [.ref a, .int m] ∧ H a = some (srcO x y z) ∧ 0 < m ∧ m < 2 ^ 64 ∧
  ∀ H', H' a = some (srcO (nextX x m) y (nextZ x z)) → Fr [a] H H' → Q (.int (nextV x y z m)) H'
theorem nextV_nn {x y z m : Int} (h : 0 < m) : 0 ≤ nextV x y z m := by unfold nextV; split <;> exact Int.emod_nonneg _ (by omega)
theorem nextV_lt {x y z m : Int} (h : 0 < m) : nextV x y z m < m := by unfold nextV; split <;> exact Int.emod_lt_of_pos _ h
theorem sc_next : FnScope ["source", "many", "found"] ["source", "many"] (defScope s__law_next) := ⟨rfl, rfl, rfl, by decide +kernel, rfl, by decide +kernel, by decide +kernel⟩
theorem ok_next (F : FunAt K mg "_law_next" s__law_next) (G : NoGl mg) (C2 : Cal P w K mg base CX0 1 "_law_mixed" ["cell", "k"] [] spMixed) :
    Cal P w K mg base CX0 2 "_law_next" ["source", "many"] [] spNext := by
  refine Cal.mk0 F sc_next (by rintro _ _ _ _ ⟨_, _, _, _, _, rfl, _⟩; rfl) (fun _ _ _ _ _ _ us hl => match us, hl with | [_, _], _ => rfl) ?_
  rintro f cdv A outer s H vs Q E hr ⟨a, x, y, z, m, rfl, hs, hm, hm2, q⟩
  have nd := sc_next.nd
  refine ⟨_, pss_cons (ps_if (pt_cmpR op_ge (pe_ix ix_list (pv 0) pe_int (fun _ _ => rfl)) (pe_op op_pow pe_int pe_int) (nomark _))
      (pss_cons (ps_set (i := 2) nd rfl (.inl rfl) (pe_op op_mod (pe_callTy call_int1 (by rfl) G.int (by decide +kernel) (pa_cons (pe_ix ix_list (pv 0) pe_int (fun _ _ => rfl)) pa_nil)) (pv 1)))
      (pss_cons (ps_asg (pe_op op_fdivW (pe_ix ix_list (pv 0) pe_int (fun _ _ => rfl)) (pv 1)) (pg_sub (pv 0) pe_int set_list))
      (pss_one (ps_ret (pv 2))))) pss_nil)
    (pss_cons (ps_asg (pe_op op_add (pe_ix ix_list (pv 0) pe_int (fun _ _ => rfl)) pe_int) (pg_sub (pv 0) pe_int set_list))
    (pss_one (ps_ret (pe_op op_mod (pe_callTy call_int1 (by rfl) G.int (by decide +kernel) (pa_cons (pe_c C2 hr (by rfl) pass0 (pa_cons (pe_ix ix_list (pv 0) pe_int (fun _ _ => rfl)) (pa_cons (pe_ix ix_list (pv 0) pe_int (fun _ _ => rfl)) pa_nil))) pa_nil)) (pv 1))))), ?_⟩
  refine ⟨_, rfl, a, _, _, _, rfl, rfl, SqL.of hs, rfl, _, _, rfl, rfl, ⟨by decide, by decide, by decide⟩, _, _, rfl, rfl, _, rfl, ?_⟩
  refine ite2 (fun h => ?_) (fun h => ?_)
  · have h : (10 : Int) ^ 18 ≤ x := of_decide_eq_true h
    refine ⟨_, rfl, a, _, _, _, rfl, rfl, SqL.of hs, rfl, .inl ⟨_, rfl, _, rfl, _, _, rfl, rfl, hm, ?_⟩⟩
    have w1 : CDivW x m := wide_div (b := 64) hm (by omega) (by decide) (by decide)
    refine ⟨_, rfl, a, _, _, _, rfl, rfl, SqL.of hs, rfl, _, rfl, _, _, rfl, rfl, w1, _, rfl, a, _, _, 0, rfl, rfl, hs, rfl, ?_⟩
    refine ⟨_, rfl, ?_⟩
    have e1 : nextV x y z m = x % m := if_pos h
    have e2 : nextX x m = x / m := if_pos h
    have e3 : nextZ x z = z := if_pos h
    rw [e1, e2, e3] at q
    exact q _ upd_same (Fr.set (List.mem_singleton.mpr rfl))
  · have h : ¬ (10 : Int) ^ 18 ≤ x := fun t => h (decide_eq_true t)
    refine ⟨_, rfl, a, _, _, _, rfl, rfl, SqL.of hs, rfl, _, _, rfl, rfl, _, rfl, a, _, _, 2, rfl, rfl, hs, rfl, ?_⟩
    have hs2 : (upd H a (.lst ([V.int x, V.int y, V.int z].set 2 (V.int (z + 1))))) a = some (srcO x y (z + 1)) := upd_same
    refine ⟨_, rfl, a, _, _, _, rfl, rfl, SqL.of hs2, rfl, _, rfl, a, _, _, _, rfl, rfl, SqL.of hs2, rfl, _, _, rfl, .inl ⟨_, rfl, _, rfl, _, _, rfl, rfl, hm, ?_⟩⟩
    have e1 : nextV x y z m = mixed y (z + 1) % m := if_neg h
    have e2 : nextX x m = x := if_neg h
    have e3 : nextZ x z = z + 1 := if_neg h
    rw [e1, e2, e3] at q
    exact q _ hs2 (Fr.set (List.mem_singleton.mpr rfl))
/-- a draw, of which only the bounds are told -/
def spDraw : Sp := fun vs H Q _ => ∃ (a : Addr) (x y z m : Int), vs = [.ref a, .int m] ∧ H a = some (srcO x y z) ∧ 0 < m ∧ m < 2 ^ 64 ∧
  ∀ (d x' z' : Int) (H' : Hp), 0 ≤ d → d < m → H' a = some (srcO x' y z') → Fr [a] H H' → Q (.int d) H'
theorem draw_of {CX : CXT} {k : Nat} (C : Cal P w K mg base CX k "_law_next" ["source", "many"] [] spNext) : Cal P w K mg base CX k "_law_next" ["source", "many"] [] spDraw :=
  C.imp fun vs H Q E ⟨a, x, y, z, m, e, h, m0, m1, q⟩ => ⟨a, x, y, z, m, e, h, m0, m1, fun H' h' fr => q _ _ _ H' (nextV_nn m0) (nextV_lt m0) h' fr⟩
end
end Tk

set_option Elab.async false
set_option linter.all false
set_option maxRecDepth 100000
set_option maxHeartbeats 4000000
namespace Tk
open PySem PySem.Spec PyProof.Rows L2

/-! ### comprehensions whose parts only make new objects -/
/-- ys are made of the xs that are taken -/
inductive Made (p : V → Bool) (R : V → V → Hp → Prop) (H : Hp) : List V → List V → Prop where
  | nil : Made p R H [] []
  | take {x y : V} {xs ys : List V} : p x = true → R x y H → Made p R H xs ys → Made p R H (x :: xs) (y :: ys)
  | skip {x : V} {xs ys : List V} : p x = false → Made p R H xs ys → Made p R H (x :: xs) ys
section
variable {p : V → Bool} {R : V → V → Hp → Prop} {H H' : Hp}
theorem Made.same (mono : ∀ x y H H', Same H H' → R x y H → R x y H') (e : Same H H') : ∀ {xs ys : List V}, Made p R H xs ys → Made p R H' xs ys
  | _, _, .nil => .nil
  | _, _, .take a b c => .take a (mono _ _ _ _ e b) (Made.same mono e c)
  | _, _, .skip a c => .skip a (Made.same mono e c)
theorem Made.snoc {x y : V} (hp : p x = true) (r : R x y H) : ∀ {xs ys : List V}, Made p R H xs ys → Made p R H (xs ++ [x]) (ys ++ [y])
  | _, _, .nil => .take hp r .nil
  | _, _, .take a b c => .take a b (Made.snoc hp r c)
  | _, _, .skip a c => .skip a (Made.snoc hp r c)
theorem Made.out {x : V} (hp : p x = false) : ∀ {xs ys : List V}, Made p R H xs ys → Made p R H (xs ++ [x]) ys
  | _, _, .nil => .skip hp .nil
  | _, _, .take a b c => .take a b (Made.out hp c)
  | _, _, .skip a c => .skip a (Made.out hp c)
theorem Made.len : ∀ {xs ys : List V}, Made p R H xs ys → ys.length ≤ xs.length
  | _, _, .nil => Nat.le_refl _
  | _, _, .take a b c => Nat.succ_le_succ (Made.len c)
  | _, _, .skip a c => Nat.le_succ_of_le (Made.len c)
/-- R tells the value: the list is a filter and a map -/
theorem Made.pure {f : V → V} (h : ∀ x y H, R x y H → y = f x) : ∀ {xs ys : List V}, Made p R H xs ys → ys = (xs.filter p).map f
  | _, _, .nil => rfl
  | _, _, .take a b c => by rw [List.filter_cons_of_pos a, List.map_cons, ← Made.pure h c, ← h _ _ _ b]
  | _, _, .skip a c => by rw [List.filter_cons_of_neg (by rw [a]; exact Bool.false_ne_true), ← Made.pure h c]
end
theorem take_snoc {xs : List V} {i : Nat} {x : V} (h : xs[i]? = some x) : xs.take (i + 1) = xs.take i ++ [x] := by
  rw [List.take_add_one, h]; rfl

/-- one turn of a comprehension -/
abbrev LcTurn (g : TG) (tt : TT) (te : TE) (vs : List Nat) (σ : L2.St) (D : Addr) (H : Hp) (x : V) (Nx : Hp → Prop) : Prop :=
  g x (wipe σ vs) H fun σ2 H2 => wipe σ2 vs = wipe σ vs ∧ tt σ2 H2 fun b H3 =>
    if b = true then te σ2 H3 fun y H4 => ∃ acc, H4 D = some (.lst acc) ∧ acc.length < sizeLine ∧ Nx (upd H4 D (.lst (acc ++ [y]))) else Nx H3
section
variable {K : PySem.W.Frag} {a : Addr} {xs : List V} {tt : TT} {te : TE} {vs : List Nat} {σ : L2.St} {H1 : Hp} {D : Addr} {j : Nat} {Qd : Hp → Prop}
  (p : V → Bool) (R : V → V → Hp → Prop) (mono : ∀ x y H H', Same H H' → R x y H → R x y H')
  (nD : H1 D = none) (hl : xs.length < sizeLine) (hw : ∀ x, wipe ((wipe σ vs).set j (some x)) vs = wipe σ vs)
  (ht : ∀ x H Q', x ∈ xs → Fr [] H1 H → (∃ acc, H D = some (.lst acc)) → (∀ H', Fr [] H H' → Q' (p x) H') → tt ((wipe σ vs).set j (some x)) H Q')
  (he : ∀ x H Q', x ∈ xs → p x = true → Fr [] H1 H → (∃ acc, H D = some (.lst acc)) → (∀ y H', Fr [] H H' → R x y (Hd [D] H') → Q' y H') → te ((wipe σ vs).set j (some x)) H Q')
  (hd : ∀ H ys, H D = some (.lst ys) → Fr [] H1 H → Made p R (Hd [D] H) xs ys → Qd H)
def LcInv (p : V → Bool) (R : V → V → Hp → Prop) (xs : List V) (H1 : Hp) (D : Addr) (i : Nat) (H : Hp) : Prop := ∃ ys, H D = some (.lst ys) ∧ Fr [] H1 H ∧ Made p R (Hd [D] H) (xs.take i) ys
include nD in
theorem lcInv_0 : LcInv p R xs H1 D 0 (upd H1 D (.lst [])) := ⟨[], upd_same, Fr.new nD, by rw [List.take_zero]; exact .nil⟩
include mono nD hl hw ht he in
theorem lcInv_s {i : Nat} {x : V} {H : Hp} (hx : xs[i]? = some x) (I : LcInv p R xs H1 D i H) : LcTurn (gName j) tt te vs σ D H x (LcInv p R xs H1 D (i + 1)) := by
  obtain ⟨ys, hD, fr, md⟩ := I
  have hm : x ∈ xs := List.mem_of_getElem? hx
  refine ⟨hw x, ht x H _ hm fr ⟨_, hD⟩ fun H2 fr2 => ?_⟩
  have hD2 : H2 D = some (.lst ys) := fr2.same _ _ hD
  have md2 := Made.same mono (fr2.hdIn (N := [D]) (fun _ z => nomatch z)) md
  by_cases hp : p x = true
  · rw [if_pos hp]
    refine he x H2 _ hm hp (fr.trans fr2) ⟨_, hD2⟩ fun y H4 fr4 r => ?_
    have hD4 : H4 D = some (.lst ys) := fr4.same _ _ hD2
    have hz : ys.length < sizeLine := by
      have h1 := md.len
      have h2 : (xs.take i).length ≤ xs.length := by rw [List.length_take]; omega
      omega
    have fr5 : Fr [D] H4 (upd H4 D (.lst (ys ++ [y]))) := Fr.set (List.mem_singleton.mpr rfl)
    refine ⟨ys, hD4, hz, ys ++ [y], upd_same, Fr.drop (((fr.trans (fr2.trans fr4)).weak).trans fr5) nD, ?_⟩
    rw [take_snoc hx]
    exact Made.snoc hp (mono _ _ _ _ fr5.hd r) (Made.same mono (((fr4.hdIn (N := [D]) (fun _ z => nomatch z))).trans fr5.hd) md2)
  · have hp' : p x = false := by simpa using hp
    rw [if_neg hp]
    refine ⟨ys, hD2, fr.trans fr2, ?_⟩
    rw [take_snoc hx]
    exact Made.out hp' md2
include mono nD hl hw ht he hd in
theorem lc_listR (h1 : SqL K H1 a xs) : ∃ W : Nat → Nat → Hp → Prop, (∃ m, W 0 m (upd H1 D (.lst []))) ∧ ∀ i m H, W i m H →
      ((Itl K a).stop i H ∧ Qd H) ∨ ((Itl K a).go i H ∧ ∃ Nx : Hp → Prop, (∀ H', Nx H' → ∃ m', m' < m ∧ W (i + 1) m' H') ∧ ∀ x H', (Itl K a).yld i H x H' → LcTurn (gName j) tt te vs σ D H' x Nx) := by
  refine lc_list (K := K) (a := a) (xs := xs) (LcInv p R xs H1 D) (lcInv_0 p R nD) (fun i H hi I => ?_) (fun i x H hx I => lcInv_s p R mono nD hl hw ht he hx I) (fun H I => ?_)
  · obtain ⟨_, _, fr, _⟩ := I
    exact fr.same.seq h1
  · obtain ⟨ys, hD, fr, md⟩ := I
    rw [List.take_length] at md
    exact hd H ys hD fr md
include mono nD hl hw ht he hd in
theorem lc_tupR (h1 : SqT K H1 a xs) : ∃ W : Nat → Nat → Hp → Prop, (∃ m, W 0 m (upd H1 D (.lst []))) ∧ ∀ i m H, W i m H →
      ((Itt K a).stop i H ∧ Qd H) ∨ ((Itt K a).go i H ∧ ∃ Nx : Hp → Prop, (∀ H', Nx H' → ∃ m', m' < m ∧ W (i + 1) m' H') ∧ ∀ x H', (Itt K a).yld i H x H' → LcTurn (gName j) tt te vs σ D H' x Nx) := by
  refine lc_tup (K := K) (a := a) (xs := xs) (LcInv p R xs H1 D) (lcInv_0 p R nD) (fun i H hi I => ?_) (fun i x H hx I => lcInv_s p R mono nD hl hw ht he hx I) (fun H I => ?_)
  · obtain ⟨_, _, fr, _⟩ := I
    exact Same.sq fr.same h1
  · obtain ⟨ys, hD, fr, md⟩ := I
    rw [List.take_length] at md
    exact hd H ys hD fr md
end

/-! ### zip of two lists in a comprehension, a pure element -/
section
variable {K : PySem.W.Frag} {a b : Addr} {xs ys : List V} {te : TE} {vs : List Nat} {σ : L2.St} {H1 : Hp} {D : Addr} {i1 i2 : Nat} {Qd : Hp → Prop}
theorem zip_get {α β : Type} {xs : List α} {ys : List β} {i : Nat} {x : α} {y : β} (hx : xs[i]? = some x) (hy : ys[i]? = some y) : (xs.zip ys)[i]? = some (x, y) := by
  rw [List.getElem?_zip_eq_some]; exact ⟨hx, hy⟩
theorem zip_take_snoc {α β : Type} {xs : List α} {ys : List β} {i : Nat} {x : α} {y : β} (hx : xs[i]? = some x) (hy : ys[i]? = some y) : (xs.zip ys).take (i + 1) = (xs.zip ys).take i ++ [(x, y)] := by
  rw [List.take_add_one, zip_get hx hy]; rfl
theorem lc_zipP (f : V → V → V) (nD : H1 D = none) (hl : xs.length < sizeLine) (sx : SqL K H1 a xs) (sy : SqL K H1 b ys)
    (hw : ∀ x y, wipe (((wipe σ vs).set i1 (some x)).set i2 (some y)) vs = wipe σ vs)
    (he : ∀ x y H Q', (x, y) ∈ xs.zip ys → Fr [] H1 H → (∀ H', Fr [] H H' → Q' (f x y) H') → te (((wipe σ vs).set i1 (some x)).set i2 (some y)) H Q')
    (hd : ∀ H, H D = some (.lst ((xs.zip ys).map fun q => f q.1 q.2)) → Fr [] H1 H → Qd H) :
    ∃ W : Nat → Nat → Hp → Prop, (∃ m, W 0 m (upd H1 D (.lst []))) ∧ ∀ i m H, W i m H →
      ((Itz K a b).stop i H ∧ Qd H) ∨ ((Itz K a b).go i H ∧ ∃ Nx : Hp → Prop, (∀ H', Nx H' → ∃ m', m' < m ∧ W (i + 1) m' H') ∧ ∀ x H', (Itz K a b).yld i H x H' → LcTurn (gTup K 2 (gCons (gName i1) (gCons (gName i2) gNil))) tYes te vs σ D H' x Nx) := by
  let Pv : Nat → Hp → Prop := fun i H => H D = some (.lst (((xs.zip ys).take i).map fun q => f q.1 q.2)) ∧ Fr [] H1 H
  refine ⟨fun i m H => m = (xs.zip ys).length - i ∧ i ≤ (xs.zip ys).length ∧ Pv i H, ⟨_, rfl, Nat.zero_le _, upd_same, Fr.new nD⟩, ?_⟩
  rintro i m H ⟨rfl, hi, hD, fr⟩
  have qx := fr.same.seq sx
  have qy := fr.same.seq sy
  rw [List.length_zip] at hi ⊢
  by_cases hlt : i < xs.length ∧ i < ys.length
  · have hx : xs[i]? = some xs[i] := List.getElem?_eq_getElem hlt.1
    have hy : ys[i]? = some ys[i] := List.getElem?_eq_getElem hlt.2
    refine .inr ⟨⟨xs, ys, _, _, qx, qy, hx, hy⟩, Pv (i + 1), fun H' p' => ⟨min xs.length ys.length - (i + 1), by omega, rfl, by omega, p'⟩, fun v H' yl => ?_⟩
    obtain ⟨T, x', y', rfl, hT, rfl, f1, f2⟩ := yl
    have ex := f1 xs qx
    have ey := f2 ys qy
    refine ⟨T, [x', y'], rfl, SqT.of upd_same, rfl, x', [y'], rfl, y', [], rfl, rfl, hw x' y', ?_⟩
    dsimp only [tYes]
    rw [if_pos rfl]
    have fr1 : Fr [] H (upd H T (.tup [x', y'])) := Fr.new hT
    refine he x' y' _ _ (List.mem_of_getElem? (zip_get ex ey)) (fr.trans fr1) fun H4 fr4 => ?_
    have hD4 := fr4.same _ _ (fr1.same _ _ hD)
    refine ⟨_, hD4, ?_, ?_, Fr.drop ((fr.trans (fr1.trans fr4)).weak.trans (Fr.set (List.mem_singleton.mpr rfl))) nD⟩
    · rw [List.length_map, List.length_take, List.length_zip]; omega
    · rw [zip_take_snoc ex ey, List.map_append]; exact upd_same
  · refine .inl ⟨⟨xs, ys, qx, qy, by omega⟩, hd H ?_ fr⟩
    have e : i = (xs.zip ys).length := by rw [List.length_zip]; omega
    rw [e, List.take_length] at hD
    exact hD
end
end Tk

set_option Elab.async false
set_option linter.all false
set_option maxRecDepth 100000
set_option maxHeartbeats 4000000
namespace Tk
open PySem PySem.Spec PyProof.Rows L2

/-! ### kinds -/
/-- what kind of thing a value is -/
inductive Kd (H : Hp) : V → String → Prop where
  | non : Kd H .non "NoneType"
  | bl (b : Bool) : Kd H (.bl b) "bool"
  | int (i : Int) : Kd H (.int i) "int"
  | str (x : Str) : Kd H (.str x) "str"
  | lst {a : Addr} {xs : List V} (e : H a = some (.lst xs)) : Kd H (.ref a) "list"
  | tup {a : Addr} {xs : List V} (e : H a = some (.tup xs)) : Kd H (.ref a) "tuple"
  | dK {a : Addr} {kvs : List (Key × V)} (e : H a = some (.dK kvs)) : Kd H (.ref a) "dict"
section
variable {K : PySem.W.Frag} {H H' : Hp} {x : V} {t : String}
theorem Kd.same (e : Same H H') (k : Kd H x t) : Kd H' x t := by
  cases k with
  | non => exact .non
  | bl b => exact .bl b
  | int i => exact .int i
  | str y => exact .str y
  | lst h => exact .lst (e _ _ h)
  | tup h => exact .tup (e _ _ h)
  | dK h => exact .dK (e _ _ h)
theorem Kd.ty (k : Kd H x t) : TyX K H x (.type t) := by
  cases k with
  | non => exact .base .non
  | bl b => exact .base (.bl b)
  | int i => exact .base (.int i)
  | str y => exact .base (.str y)
  | lst h => exact .base (.lst h)
  | tup h => exact .base (.tup h)
  | dK h => exact .base (.dK h)
def isIntV : V → Bool | .int _ => true | .bl _ => true | _ => false
def isBlV : V → Bool | .bl _ => true | _ => false
def isStrV : V → Bool | .str _ => true | _ => false
theorem Kd.int' (k : Kd H x t) : PySem.W.kitOne K (.type t) (.type "int") = some (isIntV x) := by
  cases k <;> (refine kit_ty ?_; first | (show kitB _ _ = some true; decide +kernel) | (show kitB _ _ = some false; decide +kernel))
theorem Kd.bool' (k : Kd H x t) : PySem.W.kitOne K (.type t) (.type "bool") = some (isBlV x) := by
  cases k <;> (refine kit_ty ?_; first | (show kitB _ _ = some true; decide +kernel) | (show kitB _ _ = some false; decide +kernel))
theorem Kd.str' (k : Kd H x t) : PySem.W.kitOne K (.type t) (.type "str") = some (isStrV x) := by
  cases k <;> (refine kit_ty ?_; first | (show kitB _ _ = some true; decide +kernel) | (show kitB _ _ = some false; decide +kernel))
theorem Kd.list' (k : Kd H x t) : PySem.W.kitOne K (.type t) (.type "list") = some (decide (t = "list")) := by
  cases k <;> (refine kit_ty ?_; first | (show kitB _ _ = some true; decide +kernel) | (show kitB _ _ = some false; decide +kernel))
theorem Kd.tuple' (k : Kd H x t) : PySem.W.kitOne K (.type t) (.type "tuple") = some (decide (t = "tuple")) := by
  cases k <;> (refine kit_ty ?_; first | (show kitB _ _ = some true; decide +kernel) | (show kitB _ _ = some false; decide +kernel))
end
/-- isinstance(x, T), T one of the five -/
inductive IsA (H : Hp) (x : V) (t : String) : String → Bool → Prop where
  | int : IsA H x t "int" (isIntV x)
  | bool : IsA H x t "bool" (isBlV x)
  | str : IsA H x t "str" (isStrV x)
  | list : IsA H x t "list" (decide (t = "list"))
  | tuple : IsA H x t "tuple" (decide (t = "tuple"))
def rIs : List V → Hp → VK → Prop := fun vs H Q => ∃ x t T b, vs = [x, .ty T] ∧ Kd H x t ∧ IsA H x t T b ∧ Q (.bl b) H
theorem call_is {X : Cx} : CallR X (.builtin "isinstance") rIs := by
  rintro pins s σ H xs us Q I r ⟨x, t, T, b, rfl, k, i, q⟩
  refine call_isi pins s σ H [x, .ty T] us Q I r ⟨x, .ty T, .type t, .type T, b, rfl, .ty T, k.ty, ?_, q⟩
  cases i
  · exact k.int'
  · exact k.bool'
  · exact k.str'
  · exact k.list'
  · exact k.tuple'
/-- isinstance(e, T) -/
theorem pe_is {X : Cx} {e : Expr} {te : TE} {T : Str} {n : String} {p p2 pos : Pos} (G : NoGl X.mg) (hT : X.mg T = none) (he : PE X e te) (hg : Gl X "isinstance" := by rfl) (hg2 : Gl X T := by rfl)
    (hb : bootBuiltins T = some (.type n) := by decide +kernel) (hn : T ≠ "__name__" := by decide) (hd : (T == ("__debug__" : Str)) = false := by decide)
    (h1 : starEach [e, .Name T p2] X.env = (false, eval e X.env) :: starEach [.Name T p2] X.env := by rfl) (h2 : starEach [.Name T p2] X.env = (false, eval (.Name T p2) X.env) :: starEach [] X.env := by rfl)
    (h3 : (backTo pos (starEach [.Name T p2] X.env)).any (·.1) = false := by rfl) :
    PE X (.Call (.Name "isinstance" p) [e, .Name T p2] [] pos) (tCB rIs (tCons te (tCons (tC (.ty n)) tNil))) :=
  pe_callB call_is hg G.isinstance (by decide +kernel) (pa_cons he (pa_cons (pe_bltn hg2 hT hb rfl hn hd) pa_nil h2) h1) (by decide) (by decide) h1 h3

/-! ### is_whole, is_cycles -/
def wholeV : V → V → Bool
  | .int i, .int n => decide (n ≤ i)
  | .int _, .non => true
  | _, _ => false
section
variable {P : Program} {w : World} {K : PySem.W.Frag} {mg : Str → Option Value} {base : Heap}
def spWhole : Sp := fun vs H Q _ => ∃ (x l : V) (t : String), vs = [x, l] ∧ Kd H x t ∧ (l = .non ∨ ∃ n, l = .int n) ∧ Q (.bl (wholeV x l)) H
theorem sc_whole : FnScope ["thing", "least"] ["thing", "least"] (defScope s_is_whole) := ⟨rfl, rfl, rfl, by decide +kernel, rfl, by decide +kernel, by decide +kernel⟩
theorem fn_whole {f : Addr} {fd : FuncData} (F : FunD K "is_whole" "is_whole" (defArgs s_is_whole) (defBody s_is_whole) (defScope s_is_whole) [.non] [] f fd) (G : NoGl mg) : FnOk P w K mg base CX0 1 f fd ["thing", "least"] spWhole := by
  refine F.ok sc_whole (by rintro _ _ _ _ ⟨_, _, _, rfl, _⟩; rfl) ?_
  rintro cdv A outer s H vs Q E hr ⟨x, l, t, rfl, k, hl, q⟩
  refine ⟨_, PSs.nox (pss_one (ps_ret (pe_and (pe_is (n := "int") G G.int (pv 0)) (pe_and (pe_not (pe_is (n := "bool") G G.bool (pv 0))) (pe_one (pe_or (pe_cmp (pc_isN (pv 1)) rfl) (pe_one (pe_cmp (pc_ge (pv 0) (pv 1)) rfl)))))))), ?_⟩
  refine ⟨_, rfl, x, t, "int", _, rfl, k, .int, _, rfl, ?_⟩
  cases x with
  | int i =>
    refine ⟨_, rfl, _, t, "bool", _, rfl, k, .bool, _, rfl, _, rfl, _, rfl, ?_⟩
    rcases hl with rfl | ⟨n, rfl⟩
    · exact ⟨_, rfl, q⟩
    · exact ⟨_, rfl, _, rfl, _, rfl, _, _, rfl, rfl, q⟩
  | bl b => exact ⟨_, rfl, _, t, "bool", _, rfl, k, .bool, _, rfl, _, rfl, q⟩
  | _ => exact q
theorem ok_whole (F : DefAt K mg "is_whole" s_is_whole [.non]) (G : NoGl mg) : Cal P w K mg base CX0 1 "is_whole" ["thing", "least"] [] spWhole := by
  obtain ⟨f, fd, hm, F⟩ := F.ex
  obtain ⟨ds, hv, hb⟩ := F.binds1 (ps := ["thing", "least"]) 2 1 (by simp) rfl fun T kV doc pm an cdv ct us its h1 h2 => match us, its, h1, h2 with | [_, _], [_], _, _ => ⟨_, rfl, rfl⟩
  exact ⟨f, fd, ds, hm, F.kp, fn_whole F G, hb, hv⟩
theorem ok_whole1 (F : DefAt K mg "is_whole" s_is_whole [.non]) (G : NoGl mg) : Cal P w K mg base CX0 1 "is_whole" ["thing", "least"] [.non] spWhole := by
  obtain ⟨f, fd, hm, F⟩ := F.ex
  obtain ⟨ds, hv, hb⟩ := F.binds1 (ps := ["thing", "least"]) 1 0 (by simp) rfl fun T kV doc pm an cdv ct us its h1 h2 => match us, its, h1, h2 with | [_], [_], _, _ => ⟨_, rfl, rfl⟩
  exact ⟨f, fd, ds, hm, F.kp, fn_whole F G, hb, hv⟩
end
end Tk

set_option Elab.async false
set_option linter.all false
set_option maxRecDepth 100000
set_option maxHeartbeats 4000000
namespace Tk
open PySem PySem.Spec PyProof.Rows L2

theorem cut_from (xs : List V) (k : Nat) : cutV xs (some (k : Int)) none = xs.drop k := by
  unfold cutV
  rw [HT.sIx_nat, HT.sIx_none]
  by_cases h : k ≤ xs.length
  · rw [Nat.min_eq_left h]
    exact List.take_of_length_le (by rw [List.length_drop]; omega)
  · rw [Nat.min_eq_right (by omega), List.drop_eq_nil_of_le (Nat.le_refl _), List.drop_eq_nil_of_le (by omega), List.take_nil]

/-- x <= y of ints -/
def leV : V → V → Bool
  | .int i, .int j => decide (i ≤ j)
  | _, _ => false
def cyclesL (n : Int) (xs : List V) : Bool := xs.all (fun x => wholeV x (.int n)) && (xs.zip (xs.drop 1)).all (fun q => leV q.1 q.2)
theorem whole_int {x : V} {n : Int} (h : wholeV x (.int n) = true) : ∃ i, x = .int i := by
  cases x with
  | int i => exact ⟨i, rfl⟩
  | _ => cases h
theorem map_bl {α : Type} (xs : List α) (f : α → Bool) : (xs.map fun x => V.bl (f x)) = (xs.map f).map V.bl := by rw [List.map_map]; rfl
theorem all_map {α : Type} (xs : List α) (f : α → Bool) : (xs.map f).all id = xs.all f := by rw [List.all_map]; rfl
section
variable {P : Program} {w : World} {K : PySem.W.Frag} {mg : Str → Option Value} {base : Heap}
def spCycles : Sp := fun vs H Q _ => ∃ (x : V) (n : Int) (t : String), vs = [x, .int n] ∧ Kd H x t ∧
  ((t ≠ "list" ∧ ∀ H', Fr [] H H' → Q (.bl false) H') ∨
   ∃ a xs, x = .ref a ∧ H a = some (.lst xs) ∧ (∀ y, y ∈ xs → ∃ u, Kd H y u) ∧ xs.length < sizeLine ∧ ∀ H', Fr [] H H' → Q (.bl (cyclesL n xs)) H')
theorem sc_cycles : FnScope ["thing", "least", "one", "other"] ["thing", "least"] (defScope s_is_cycles) := ⟨rfl, rfl, rfl, by decide +kernel, rfl, by decide +kernel, by decide +kernel⟩
theorem fn_cycles {f : Addr} {fd : FuncData} (F : FunD K "is_cycles" "is_cycles" (defArgs s_is_cycles) (defBody s_is_cycles) (defScope s_is_cycles) [.int 0] [] f fd) (G : NoGl mg)
    (Cw : Cal P w K mg base CX0 1 "is_whole" ["thing", "least"] [] spWhole) : FnOk P w K mg base CX0 2 f fd ["thing", "least"] spCycles := by
  refine F.ok sc_cycles (by rintro _ _ _ _ ⟨_, _, _, rfl, _⟩; rfl) ?_
  rintro cdv A outer s H vs Q E hr ⟨x, n, t, rfl, k, h⟩
  have nd := sc_cycles.nd
  refine ⟨_, PSs.nox (pss_cons (ps_if (PW.pt (pw_or (pt_not (pt_val (pe_is (n := "list") G G.list (pv 0)))) (pw_or1 (pt_not (pt_val (pe_callB (cr_all rfl) (by rfl) G.all (by decide +kernel) (pa_cons
      (pe_lc (own := [("one", 2)]) (g := gName 2) (tt := tYes) rfl nd (pi_list (pv 0)) (blkOk_by (own := [("one", 2)]) (N := ["thing", "least", "one", "other"]) (sc := defScope s_is_cycles) (by decide +kernel))
        (fun _ _ _ _ _ => pg_name (i := 2) nd rfl (Or.inl rfl)) (fun _ _ _ _ _ => pts_nil) (fun _ _ _ _ _ => pe_c Cw hr (by rfl) pass0 (pa_cons (pv 2) (pa_cons (pv 1) pa_nil)))) pa_nil)))))))
      (pss_one (ps_ret pe_bl)) pss_nil)
    (pss_one (ps_ret (pe_callB (cr_all rfl) (by rfl) G.all (by decide +kernel) (pa_cons
      (pe_lc (own := [("one", 2), ("other", 3)]) (g := gTup K 2 (gCons (gName 2) (gCons (gName 3) gNil))) (tt := tYes) rfl nd (pi_zip (by rfl) G.zip (pa_cons (pv 0) (pa_cons (pe_slice sl_list (pv 0) (po_some pe_int) po_none) pa_nil)))
        (blkOk_by (own := [("one", 2), ("other", 3)]) (N := ["thing", "least", "one", "other"]) (sc := defScope s_is_cycles) (by decide +kernel))
        (fun _ _ _ _ _ => pg_tup rfl (pgs_cons (pg_name (i := 2) nd rfl (Or.inl rfl) (Or.inr rfl)) (pgs_cons (pg_name (i := 3) nd rfl (Or.inl rfl) (Or.inr rfl)) pgs_nil))) (fun _ _ _ _ _ => pts_nil)
        (fun _ _ _ _ _ => pe_cmp (pc_le (pv 2) (pv 3)) rfl)) pa_nil))))), ?_⟩
  refine ⟨_, rfl, x, t, "list", _, rfl, k, .list, _, rfl, ?_⟩
  rcases h with ⟨ht, q⟩ | ⟨a, xs, rfl, ha, hk, hl, q⟩
  · rw [decide_eq_false ht]
    exact q H (Fr.refl _ _)
  · have ht : t = "list" := by
      cases k with
      | lst e => rfl
      | tup e => cases ha.symm.trans e
      | dK e => cases ha.symm.trans e
    subst ht
    refine ⟨_, rfl, a, rfl, ⟨xs, SqL.of ha⟩, fun D hD => ?_⟩
    refine lc_listR (K := K) (fun _ => true) (fun x y _ => y = .bl (wholeV x (.int n))) (fun _ _ _ _ _ h => h) hD hl (fun _ => rfl) (fun x H' Q' _ _ _ h => h H' (Fr.refl _ _)) ?_ ?_ (SqL.of ha)
    · intro x H' Q' hx _ fr _ hq
      obtain ⟨u, ku⟩ := hk x hx
      exact ⟨_, rfl, _, rfl, x, .int n, u, rfl, ku.same fr.same, .inr ⟨n, rfl⟩, hq _ _ (Fr.refl _ _) rfl⟩
    · intro H2 ys hD2 fr2 md
      have e : ys = (xs.map fun x => wholeV x (.int n)).map V.bl := by
        have e := md.pure (f := fun x => V.bl (wholeV x (.int n))) (fun _ _ _ h => h)
        rw [List.filter_eq_self.mpr (fun _ _ => rfl), map_bl] at e
        exact e
      subst e
      refine ⟨D, _, rfl, SqL.of hD2, _, rfl, ?_⟩
      rw [all_map]
      have ha2 := fr2.same _ _ ha
      refine ite2 (fun c => ?_) (fun c => ?_)
      · have c : xs.all (fun x => wholeV x (.int n)) = false := by simpa using c
        have z : cyclesL n xs = false := by unfold cyclesL; rw [c]; rfl
        have q := q H2 fr2
        rw [z] at q; exact q
      · have c : xs.all (fun x => wholeV x (.int n)) = true := by simpa using c
        refine ⟨_, rfl, _, rfl, _, rfl, a, xs, rfl, SqL.of ha2, fun p hp => ?_⟩
        have ep : cutV xs (some 1) none = xs.drop 1 := cut_from xs 1
        rw [ep]
        have fr3 : Fr [] H2 (upd H2 p (.lst (xs.drop 1))) := Fr.new hp
        refine ⟨a, p, xs, xs.drop 1, rfl, SqL.of (fr3.same _ _ ha2), SqL.of upd_same, fun D2 hD2 => ?_⟩
        refine lc_zipP (K := K) (fun x y => .bl (leV x y)) hD2 hl (SqL.of (fr3.same _ _ ha2)) (SqL.of upd_same) (fun _ _ => rfl) ?_ ?_
        · intro x y H' Q' hm fr hq
          have hx : x ∈ xs := (List.of_mem_zip hm).1
          have hy : y ∈ xs := List.mem_of_mem_drop (List.of_mem_zip hm).2
          obtain ⟨i, rfl⟩ := whole_int (List.all_eq_true.mp c x hx)
          obtain ⟨j, rfl⟩ := whole_int (List.all_eq_true.mp c y hy)
          exact ⟨_, rfl, _, rfl, i, j, rfl, rfl, hq _ (Fr.refl _ _)⟩
        · intro H4 hD4 fr4
          rw [map_bl (xs.zip (xs.drop 1)) (fun q => leV q.1 q.2)] at hD4
          refine ⟨D2, _, rfl, SqL.of hD4, ?_⟩
          rw [all_map]
          have z : cyclesL n xs = (xs.zip (xs.drop 1)).all (fun q => leV q.1 q.2) := by unfold cyclesL; rw [c]; rfl
          have q := q H4 (fr2.trans (fr3.trans fr4))
          rw [z] at q; exact q
theorem ok_cycles (F : DefAt K mg "is_cycles" s_is_cycles [.int 0]) (G : NoGl mg) (Cw : Cal P w K mg base CX0 1 "is_whole" ["thing", "least"] [] spWhole) : Cal P w K mg base CX0 2 "is_cycles" ["thing", "least"] [.int 0] spCycles := by
  obtain ⟨f, fd, hm, F⟩ := F.ex
  obtain ⟨ds, hv, hb⟩ := F.binds1 (ps := ["thing", "least"]) 1 0 (by simp) rfl fun T kV doc pm an cdv ct us its h1 h2 => match us, its, h1, h2 with | [_], [_], _, _ => ⟨_, rfl, rfl⟩
  exact ⟨f, fd, ds, hm, F.kp, fn_cycles F G Cw, hb, hv⟩
end
end Tk

set_option Elab.async false
set_option linter.all false
set_option maxRecDepth 100000
set_option maxHeartbeats 4000000
namespace Tk
open PySem PySem.Spec PyProof.Rows L2

/-! ### a table of the module: texts to ints, asked by .get -/
def EntsAre (P : Params) : List DictEntry → List (Str × Int) → Prop
  | [], [] => True
  | e :: es, q :: qs => ((∃ t, e.key = .str q.1 t) ∧ e.hash = PyData.keyHash P q.1 ∧ ∃ t, e.val = .int q.2 t) ∧ EntsAre P es qs
  | _, _ => False
structure KTab (K : PySem.W.Frag) (w : World) (d : Addr) (tab : List (Str × Int)) : Prop where
  at_ : ∃ es n, K.lookup d = some ⟨.type "dict", none, .dict es n, #[]⟩ ∧ EntsAre w.params es.toList tab
  low : (d == sysModules) = false
theorem EntsAre.lit {P : Params} : ∀ {es : List DictEntry} {tab : List (Str × Int)}, EntsAre P es tab → PySem.W.KeysLit P es
  | [], [], _ => trivial
  | e :: es, q :: qs, ⟨⟨⟨t, h1⟩, h2, _⟩, r⟩ => ⟨⟨q.1, t, h1, h2⟩, EntsAre.lit r⟩
  | [], _ :: _, h => h.elim
  | _ :: _, [], h => h.elim
theorem EntsAre.find {P : Params} (z : Str) : ∀ {es : List DictEntry} {tab : List (Str × Int)}, EntsAre P es tab →
    (match tab.lookup z with
    | some i => ∃ t, (es.find? fun e => Value.isStrOf z e.key).map (·.val) = some (Value.int i t)
    | none => (es.find? fun e => Value.isStrOf z e.key).map (·.val) = none)
  | [], [], _ => rfl
  | e :: es, q :: qs, ⟨⟨⟨t, h1⟩, h2, t', h3⟩, r⟩ => by
    have ih := EntsAre.find z r
    rw [List.find?_cons, List.lookup_cons]
    by_cases h : z = q.1
    · have e1 : (z == q.1) = true := beq_iff_eq.mpr h
      have e2 : Value.isStrOf z e.key = true := by rw [h1, h]; simp [Value.isStrOf]
      rw [e1, e2]
      exact ⟨t', by rw [Option.map_some, h3]⟩
    · have e1 : (z == q.1) = false := beq_eq_false_iff_ne.mpr h
      have e2 : Value.isStrOf z e.key = false := by
        rw [h1]
        cases hb : Value.isStrOf z (.str q.1 t) with
        | false => rfl
        | true =>
          obtain ⟨t2, e3⟩ := Value.isStrOf_shape (x := z) (v := .str q.1 t) hb
          injection e3 with e4 _
          exact absurd e4.symm h
      rw [e1, e2]
      exact ih
  | [], _ :: _, h => h.elim
  | _ :: _, [], h => h.elim
def ofOpt (y : V) : Option Int → V
  | some i => .int i
  | none => y
section
variable {X : Cx} {d : Addr} {tab : List (Str × Int)}
theorem ktab_map {pins : List (Addr × Obj)} {σ : L2.St} {H : Hp} {s : Shared} (D : KTab X.K X.w d tab) (I : Inv X pins σ H s) :
    ∃ f, s.heap.MapOf (strKind X.prog X.w) d f ∧ (∀ z, match tab.lookup z with | some i => ∃ t, f z = some (Value.int i t) | none => f z = none) ∧ s.TypeIs (.ref d) "dict" ∧
      (∀ a, Value.ref d = .ref a → ∃ ob, s.heap.get? a = some ob ∧ ob.dict = none) := by
  obtain ⟨es, n, hl, he⟩ := D.at_
  have m := PySem.W.mapOf_K (prog := X.prog) (w := X.w) I.kIn hl he.lit
  refine ⟨_, m, fun z => ?_, m.typeIs, fun a e => ?_⟩
  · have q := he.find z
    obtain ⟨l⟩ := es
    simp only [findBy, List.find?_toArray]
    exact q
  · cases e
    exact ⟨_, I.kIn _ _ hl, rfl⟩
def rKGet (d : Addr) (tab : List (Str × Int)) : List V → Hp → VK → Prop := fun vs H Q => ∃ z, (vs = [.str z] ∧ Q (ofOpt .non (tab.lookup z)) H) ∨ ∃ y, vs = [.str z, y] ∧ Q (ofOpt y (tab.lookup z)) H
def tKGet (d : Addr) (tab : List (Str × Int)) (t : TA) : TE := fun σ H Q => t σ H fun vs H1 => rKGet d tab vs H1 Q
theorem pe_kget {x : Str} {u : Value} {e : Expr} {es : List Expr} {t : TA} {p apos cpos : Pos} (D : KTab X.K X.w d tab) (hm : X.mg x = some (.ref d)) (ha : PA X (e :: es) t) (hg : Gl X x := by rfl)
    (hd : (x == ("__debug__" : Str)) = false := by decide)
    (hbase : attributeBase (.Name x p) "get" X.env (eval (.Name x p) X.env) = eval (.Name x p) X.env := by rfl)
    (hfew : ((backTo cpos (starEach (e :: es) X.env)).all (fun x => !x.1) && (backToKw cpos (keywordEach [] X.env)).all (fun x => x.1.isSome)
      && decide ((e :: es).length + ([] : List Keyword).length + (if ([] : List Keyword).isEmpty then 0 else 1) < 30)) = true := by rfl)
    (hline : (apos.endLine == cpos.line) = true := by rfl) (hs : starEach (e :: es) X.env = (false, eval e X.env) :: starEach es X.env := by rfl) (hplain : (backTo cpos (starEach es X.env)).any (·.1) = false := by rfl) :
    PE X (.Call (.Attribute (.Name x p) "get" apos) (e :: es) [] cpos) (tKGet d tab t) := by
  constructor
  intro pins s σ H Q I h
  refine wpAny_Call_method_late hbase hfew hline rfl (thn ((pe_glob (v := .ref d) hg hm rfl hd).run pins s σ H (fun v H1 => v = .ref d ∧ H1 = H) I ⟨rfl, rfl⟩) ?_)
  rintro v s1 ⟨y, H1, I1, r1, rfl, rfl⟩
  obtain rfl : v = Value.ref d := r1
  obtain ⟨f, m, hf, h1, h2⟩ := ktab_map D I1
  refine ⟨"dict", "dict.get", PySem.F.plainAttrs_dict, PySem.F.slot_dict_get, PySem.F.type_dict_get, h1, h2, ?_⟩
  have hA := ha.run cpos pins s1 σ H1 _ I1 h
  rw [hs] at hA ⊢
  refine Calls.callWith_builtin (by show (false || (backTo cpos (starEach es X.env)).any (·.1)) = false; rw [hplain]; rfl) (Calls.evalArgs_plain ?_)
  refine thn hA ?_
  rintro us s2 ⟨vs, H2, I2, r2, z, q⟩
  obtain ⟨f, m, hf, h1, h2⟩ := ktab_map D I2
  have hz := hf z
  rcases q with ⟨rfl, q⟩ | ⟨y, rfl, q⟩
  · obtain ⟨u1, rfl, t1, rfl⟩ := Vals.one r2
    refine call_meetsIn PySem.F.slot_dict_get h1 PySem.F.entry_dict_get (PySem.F.args_dict_get_2 _ _) (meets_dict_get (strKind X.prog X.w) d (strKind_is X.prog X.w z t1) D.low) ⟨f, m, _, _, I2.tok _, ?_, q⟩
    cases e : tab.lookup z with
    | none => rw [e] at hz; rw [hz]; rfl
    | some i => rw [e] at hz; obtain ⟨t, hz⟩ := hz; rw [hz]; exact ⟨t, rfl⟩
  · obtain ⟨u1, u2, rfl, ⟨t1, rfl⟩, ry⟩ := Vals.two r2
    refine call_meetsIn PySem.F.slot_dict_get h1 PySem.F.entry_dict_get (PySem.F.args_dict_get_3 _ _ _) (meets_dict_get_default (strKind X.prog X.w) d (strKind_is X.prog X.w z t1) D.low u2) ⟨f, m, _, _, I2.tok _, ?_, q⟩
    cases e : tab.lookup z with
    | none => rw [e] at hz; rw [hz]; exact ry
    | some i => rw [e] at hz; obtain ⟨t, hz⟩ := hz; rw [hz]; exact ⟨t, rfl⟩
end
end Tk

set_option Elab.async false
set_option linter.all false
set_option maxRecDepth 100000
set_option maxHeartbeats 4000000
namespace Tk
open PySem PySem.Spec PyProof.Rows L2

/-! ### compared with the empty list, the empty tuple: whatever the items are -/
theorem vals_size {xs : List V} {its : List Value} (r : Vals xs its) : its.toArray.size = xs.length := by rw [List.size_toArray, r.length]
section
variable {X : Cx}
def rNil (sq : PySem.W.Frag → Hp → Addr → List V → Prop) (K : PySem.W.Frag) (neg : Bool) : R2 := fun x y H Q =>
  ∃ a b xs, x = .ref a ∧ y = .ref b ∧ sq K H a xs ∧ sq K H b [] ∧ Q (.bl (if neg then !xs.isEmpty else xs.isEmpty)) H
theorem op_eqNilL (hu : X.A.units < cLine) : OpR X (compareOp .Eq) (rNil SqL X.K false) := by
  rintro pins s σ H x y v u Q I rx ry ⟨a, b, xs, rfl, rfl, ha, hb, q⟩
  obtain rfl : v = Value.ref a := rx
  obtain rfl : u = Value.ref b := ry
  obtain ⟨its, r1, p1, _⟩ := I.list ha
  obtain ⟨its2, r2, p2, _⟩ := I.list hb
  cases r2
  have z1 := vals_size r1
  cases xs with
  | nil =>
    refine SeqAt.eq_listAt (e := fun _ => true) p1.isList p2.isList z1 hu (fun j h1 h2 => absurd h2 (by simp)) ?_
    exact ⟨.bl true, H, I, by simp [z1, L2.RelV], q⟩
  | cons x xs =>
    exact SeqAt.eq_list_lengthsAt p1.isList p2.isList (by rw [z1]; rfl) hu ⟨.bl false, H, I, rfl, q⟩
theorem op_neNilL (hu : X.A.units < cLine) : OpR X (compareOp .NotEq) (rNil SqL X.K true) := by
  rintro pins s σ H x y v u Q I rx ry ⟨a, b, xs, rfl, rfl, ha, hb, q⟩
  obtain rfl : v = Value.ref a := rx
  obtain rfl : u = Value.ref b := ry
  obtain ⟨its, r1, p1, _⟩ := I.list ha
  obtain ⟨its2, r2, p2, _⟩ := I.list hb
  cases r2
  have z1 := vals_size r1
  cases xs with
  | nil =>
    refine SeqAt.RcNeAt.lists (e := fun _ => true) p1.isList p2.isList z1 hu (fun j h1 h2 => absurd h2 (by simp)) _ _ _ _ ?_
    exact ⟨.bl false, H, I, by simp [z1, L2.RelV], q⟩
  | cons x xs =>
    exact SeqAt.RcNeAt.lists_lengths p1.isList p2.isList (by rw [z1]; rfl) hu _ _ _ _ ⟨.bl true, H, I, rfl, q⟩
theorem op_eqNilT (hu : X.A.units < cLine) : OpR X (compareOp .Eq) (rNil SqT X.K false) := by
  rintro pins s σ H x y v u Q I rx ry ⟨a, b, xs, rfl, rfl, ha, hb, q⟩
  obtain rfl : v = Value.ref a := rx
  obtain rfl : u = Value.ref b := ry
  obtain ⟨its, r1, p1, _⟩ := I.tuple ha
  obtain ⟨its2, r2, p2, _⟩ := I.tuple hb
  cases r2
  have z1 := vals_size r1
  refine SeqAt.eq_tupleAt (e := fun _ => true) p1 p2 hu (fun j h1 h2 => absurd h2 (by simp)) ?_
  refine ⟨.bl xs.isEmpty, H, I, ?_, q⟩
  have e : ((List.range (min its.toArray.size (#[] : Array Value).size)).all (fun _ => true) && its.toArray.size == (#[] : Array Value).size) = xs.isEmpty := by
    rw [z1]
    cases xs <;> simp
  exact congrArg Value.bool e
end
end Tk

set_option Elab.async false
set_option linter.all false
set_option maxRecDepth 100000
set_option maxHeartbeats 4000000
namespace Tk
open PySem PySem.Spec PyProof.Rows L2

/-! ### rows -/
def tabA : List (Str × Int) := [("look", 2), ("read", 3), ("set_rate", 3), ("set_real", 3), ("slew", 4), ("stop", 3), ("go", 2), ("put", 7),
  ("drop", 3)]
def tabB : List (Str × Int) := [("expired", 3), ("take", 2), ("put_tick", 4), ("hand_over", 4), ("process", 2), ("thread", 3), ("run", 5),
  ("join", 4)]
def tabC : List (Str × Int) := [("leave", 3), ("sleep", 4), ("limit", 4), ("waiting", 3), ("running", 3), ("sampled", 3)]
def sizeV (z : Str) : V := ofOpt (ofOpt (ofOpt .non (tabC.lookup z)) (tabB.lookup z)) (tabA.lookup z)
structure Tabs (K : PySem.W.Frag) (w : World) (mg : Str → Option Value) : Prop where
  ex : ∃ a b c, mg "SIZES" = some (.ref a) ∧ mg "MORE_SIZES" = some (.ref b) ∧ mg "LAST_SIZES" = some (.ref c) ∧ KTab K w a tabA ∧ KTab K w b tabB ∧ KTab K w c tabC
section
variable {P : Program} {w : World} {K : PySem.W.Frag} {mg : Str → Option Value} {base : Heap}
def spSizeOf : Sp := fun vs H Q _ => ∃ z, vs = [.str z] ∧ Q (sizeV z) H
theorem sc_sizeOf : FnScope ["name"] ["name"] (defScope s_size_of) := ⟨rfl, rfl, rfl, by decide +kernel, rfl, by decide +kernel, by decide +kernel⟩
theorem ok_sizeOf (F : FunAt K mg "size_of" s_size_of) (T : Tabs K w mg) : Cal P w K mg base CX0 1 "size_of" ["name"] [] spSizeOf := by
  refine Cal.mk0 F sc_sizeOf (by rintro _ _ _ _ ⟨_, rfl, _⟩; rfl) (fun _ _ _ _ _ _ us hl => match us, hl with | [_], _ => rfl) ?_
  rintro f cdv A outer s H vs Q E hr ⟨z, rfl, q⟩
  obtain ⟨a, b, c, ma, mb, mc, Ta, Tb, Tc⟩ := T.ex
  refine ⟨_, pss_one (ps_ret (pe_kget (u := .none) Ta ma (pa_cons (pv 0) (pa_cons (pe_kget (u := .none) Tb mb (pa_cons (pv 0) (pa_cons (pe_kget (u := .none) Tc mc (pa_cons (pv 0) pa_nil)) pa_nil))) pa_nil)))), ?_⟩
  exact ⟨_, rfl, _, rfl, _, rfl, z, .inl ⟨rfl, z, .inr ⟨_, rfl, z, .inr ⟨_, rfl, q⟩⟩⟩⟩

/-- is what stands in a tuple a row -/
def isRowL : List V → Bool
  | .str z :: r => decide (V.int ((r.length + 1 : Nat) : Int) = sizeV z)
  | _ => false
theorem size_scal (n : Int) (z : Str) : scal (.int n) (sizeV z) = true := by
  unfold sizeV
  cases tabA.lookup z with
  | some i => rfl
  | none =>
    cases tabB.lookup z with
    | some i => rfl
    | none =>
      cases tabC.lookup z with
      | some i => rfl
      | none => rfl
/-- is x a row: what is_row tells of it -/
inductive RowIs (H : Hp) (x : V) : Bool → Prop where
  | no {t : String} (k : Kd H x t) (h : t ≠ "tuple") : RowIs H x false
  | tup {a : Addr} {xs : List V} (e : x = .ref a) (h : H a = some (.tup xs)) (k : ∀ y, xs[0]? = some y → ∃ t, Kd H y t) (z : xs.length < 2 ^ 62) : RowIs H x (isRowL xs)
theorem RowIs.same {H H' : Hp} {x : V} {b : Bool} (e : Same H H') (r : RowIs H x b) : RowIs H' x b := by
  cases r with
  | no k h => exact .no (k.same e) h
  | tup e1 h k z => exact .tup e1 (e _ _ h) (fun y hy => let ⟨t, kt⟩ := k y hy; ⟨t, kt.same e⟩) z
def spIsRow : Sp := fun vs H Q _ => ∃ x b, vs = [x] ∧ RowIs H x b ∧ ∀ H', Fr [] H H' → Q (.bl b) H'
theorem sc_isRow : FnScope ["thing"] ["thing"] (defScope s_is_row) := ⟨rfl, rfl, rfl, by decide +kernel, rfl, by decide +kernel, by decide +kernel⟩
theorem ok_isRow (F : FunAt K mg "is_row" s_is_row) (G : NoGl mg) (Cs : Cal P w K mg base CX0 1 "size_of" ["name"] [] spSizeOf) : Cal P w K mg base CX0 2 "is_row" ["thing"] [] spIsRow := by
  refine Cal.mk0 F sc_isRow (by rintro _ _ _ _ ⟨_, _, rfl, _⟩; rfl) (fun _ _ _ _ _ _ us hl => match us, hl with | [_], _ => rfl) ?_
  rintro f cdv A outer s H vs Q E hr ⟨x, b, rfl, r, q⟩
  refine ⟨_, pss_cons (ps_if (PW.pt (pw_or (pt_not (pt_val (pe_is (n := "tuple") G G.tuple (pv 0)))) (pw_or (pt_cmpR (op_eqNilT hr.units0) (pv 0) (pe_tup pa_nil) (nomark _))
      (pw_or1 (pt_not (pt_val (pe_is (n := "str") G G.str (pe_ix ix_tup (pv 0) pe_int (fun _ _ => rfl))))))))) (pss_one (ps_ret pe_bl)) pss_nil)
    (pss_one (ps_ret (pe_cmpR op_eq (pe_callB call_len_seq (by rfl) G.len PySem.boot_len (pa_cons (pv 0) pa_nil)) (pe_c Cs hr (by rfl) pass0 (pa_cons (pe_ix ix_tup (pv 0) pe_int (fun _ _ => rfl)) pa_nil)) (nomark _)))), ?_⟩
  cases r with
  | @no t k h =>
    refine ⟨_, rfl, x, t, "tuple", _, rfl, k, .tuple, _, rfl, ?_⟩
    rw [decide_eq_false h]
    exact q H (Fr.refl _ _)
  | @tup a xs e h k z =>
    subst e
    refine ⟨_, rfl, _, _, "tuple", _, rfl, .tup h, .tuple, _, rfl, ?_⟩
    refine ⟨_, rfl, (by show 0 ≤ sizeLine; decide), fun p hp => ?_⟩
    have fr : Fr [] H (upd H p (.tup [])) := Fr.new hp
    have h1 := fr.same _ _ h
    refine ⟨a, p, xs, rfl, rfl, SqT.of h1, SqT.of upd_same, _, rfl, ?_⟩
    cases xs with
    | nil => exact q _ fr
    | cons y r =>
      obtain ⟨t, ky⟩ := k y rfl
      refine ⟨_, rfl, a, _, _, y, rfl, rfl, SqT.of h1, atI_nat (j := 0) rfl, y, t, "str", _, rfl, ky.same fr.same, .str, _, rfl, ?_⟩
      cases y with
      | str n =>
        refine ⟨_, rfl, a, _, rfl, .inr (SqT.of h1), _, rfl, a, _, _, _, rfl, rfl, SqT.of h1, atI_nat (j := 0) rfl, n, rfl, size_scal _ n, ?_⟩
        exact q _ fr
      | _ => exact q _ fr
end
end Tk

set_option Elab.async false
set_option linter.all false
set_option maxRecDepth 100000
set_option maxHeartbeats 4000000
namespace Tk
open PySem PySem.Spec PyProof.Rows L2

/-! ### errors -/
/-- an own error class over ValueError (directly or not), without an __init__ of its own -/
structure ExcC (K : PySem.W.Frag) (mg : Str → Option Value) (x : Str) (C : Addr) : Prop where
  g : mg x = some (.ref C)
  ex : PySem.W.excIn K C [.type "ValueError", .type "Exception", .type "BaseException", .type "object"] "ValueError.__new__" = true
  kp : PySem.W.keepIn K (.ref C) = true
  sub : PySem.W.subIn K (.ref C) (.type "BaseException") = some true
  ty : PySem.W.typeIn K (.ref C) = some (.type "type")
section
variable {X : Cx} {x m : Str} {C : Addr} {W : WX} {j : Nat} {p p2 pos pos2 : Pos}
theorem ps_rs (T : ExcC X.K X.mg x C) (hc : X.calm = true) (tk : Takes X W) (hg : Gl X x := by rfl) (hdb : (x == ("__debug__" : Str)) = false := by decide) :
    PS X (.Raise (some (.Call (.Name x p) [.Constant (.str m) j p2] [] pos)) none pos2) (fun _ σ H => W (.ref C) none σ H) :=
  ps_raise hc tk (pmk_own PySem.F.excBase_ValueError T.ex T.g T.kp (raises_own T.sub T.ty) hg hdb)
end

/-! ### check_log -/
/-- what check_log finds -/
inductive LogIs (H : Hp) (x : V) : Bool → Prop where
  | no {t : String} (k : Kd H x t) (h : t ≠ "list") : LogIs H x false
  | lst {a : Addr} {xs : List V} (f : V → Bool) (e : x = .ref a) (h : H a = some (.lst xs)) (r : ∀ y, y ∈ xs → RowIs H y (f y)) (z : xs.length < sizeLine) : LogIs H x (xs.all f)
section
variable {P : Program} {w : World} {K : PySem.W.Frag} {mg : Str → Option Value} {base : Heap} {C : Addr}
def spCheckLog (C : Addr) : Sp := fun vs H Q E => ∃ x b, vs = [x] ∧ LogIs H x b ∧ ∀ H', Fr [] H H' → if b = true then Q .non H' else E (.ref C) none H'
theorem sc_checkLog : FnScope ["log", "row"] ["log"] (defScope s_check_log) := ⟨rfl, rfl, rfl, by decide +kernel, rfl, by decide +kernel, by decide +kernel⟩
theorem ok_checkLog (F : FunAt K mg "check_log" s_check_log) (G : NoGl mg) (T : ExcC K mg "NoCall" C) (Cr : Cal P w K mg base CX0 2 "is_row" ["thing"] [] spIsRow) :
    Cal P w K mg base (L2.CX P w) 3 "check_log" ["log"] [] (spCheckLog C) := by
  refine Cal.mkX F sc_checkLog (by rintro _ _ _ _ ⟨_, _, rfl, _⟩; rfl) (fun _ _ _ _ _ _ us hl => match us, hl with | [_], _ => rfl) ?_
  rintro f cdv A outer s H vs Q E hr ⟨x, b, rfl, r, q⟩
  have nd := sc_checkLog.nd
  refine ⟨_, pss_one (ps_if (PW.pt (pw_or (pt_not (pt_val (pe_is (n := "list") G G.list (pv 0)))) (pw_or1 (pt_not (pt_val (pe_callB (cr_all rfl) (by rfl) G.all (by decide +kernel) (pa_cons
      (pe_lc (own := [("row", 1)]) (g := gName 1) (tt := tYes) rfl nd (pi_list (pv 0)) (blkOk_by (own := [("row", 1)]) (N := ["log", "row"]) (sc := defScope s_check_log) (by decide +kernel))
        (fun _ _ _ _ _ => pg_name (i := 1) nd rfl (Or.inl rfl)) (fun _ _ _ _ _ => pts_nil) (fun _ _ _ _ _ => pe_c Cr hr (by rfl) pass0 (pa_cons (pv 1) pa_nil))) pa_nil)))))))
      (pss_one (ps_rs T rfl (takes_of rfl rfl rfl rfl))) pss_nil), ?_⟩
  cases r with
  | @no t k h =>
    refine ⟨_, rfl, x, t, "list", _, rfl, k, .list, _, rfl, ?_⟩
    rw [decide_eq_false h]
    exact q H (Fr.refl _ _)
  | @lst a xs g e h r z =>
    subst e
    refine ⟨_, rfl, _, _, "list", _, rfl, .lst h, .list, _, rfl, ?_⟩
    refine ⟨_, rfl, a, rfl, ⟨xs, SqL.of h⟩, fun D hD => ?_⟩
    refine lc_listR (K := K) (fun _ => true) (fun x y _ => y = .bl (g x)) (fun _ _ _ _ _ h => h) hD z (fun _ => rfl) (fun x H' Q' _ _ _ h => h H' (Fr.refl _ _)) ?_ ?_ (SqL.of h)
    · intro x H' Q' hx _ fr _ hq
      exact ⟨_, rfl, x, g x, rfl, (r x hx).same fr.same, fun H2 fr2 => hq _ _ fr2 rfl⟩
    · intro H2 ys hD2 fr2 md
      have e : ys = (xs.map g).map V.bl := by
        have e := md.pure (f := fun x => V.bl (g x)) (fun _ _ _ h => h)
        rw [List.filter_eq_self.mpr (fun _ _ => rfl), map_bl] at e
        exact e
      subst e
      refine ⟨D, _, rfl, SqL.of hD2, _, rfl, ?_⟩
      rw [all_map]
      have q := q H2 fr2
      cases c : xs.all g with
      | true => rw [c] at q; exact q
      | false => rw [c] at q; exact q
end

/-! ### copied -/
def rListOf (K : PySem.W.Frag) : List V → Hp → VK → Prop := fun xs H Q => ∃ p ys, xs = [.ref p] ∧ (SqL K H p ys ∨ SqT K H p ys) ∧ ∀ l, H l = none → Q (.ref l) (upd H l (.lst ys))
theorem call_listOf {X : Cx} : CallR X (.type "list") (rListOf X.K) := call_list_of
/-- y is x, or a new list like x -/
def Cpy (H0 H : Hp) (x y : V) : Prop := ((∃ t, Kd H0 x t ∧ t ≠ "list") ∧ y = x) ∨ ∃ a xs p, x = .ref a ∧ H0 a = some (.lst xs) ∧ y = .ref p ∧ H0 p = none ∧ H p = some (.lst xs)
theorem Cpy.same {H0 H H' : Hp} {x y : V} (e : Same H H') (c : Cpy H0 H x y) : Cpy H0 H' x y := by
  rcases c with c | ⟨a, xs, p, h1, h2, h3, h4, h5⟩
  · exact .inl c
  · exact .inr ⟨a, xs, p, h1, h2, h3, h4, e _ _ h5⟩
section
variable {P : Program} {w : World} {K : PySem.W.Frag} {mg : Str → Option Value} {base : Heap}
theorem Made.paired {R : V → V → Hp → Prop} {H : Hp} : ∀ {xs ys : List V}, Made (fun _ => true) R H xs ys → Paired (fun x y => R x y H) xs ys
  | _, _, .nil => .nil
  | _, _, .take _ b c => .cons b (Made.paired c)
  | _, _, .skip a _ => nomatch a
def spCopied : Sp := fun vs H Q _ => ∃ a xs, vs = [.ref a] ∧ H a = some (.tup xs) ∧ xs.length < sizeLine ∧ (∀ y, y ∈ xs → ∃ t, Kd H y t) ∧
  ∀ p ys H', H p = none → H' p = some (.tup ys) → Fr [] H H' → Paired (Cpy H H') xs ys → Q (.ref p) H'
theorem sc_copied : FnScope ["row", "one"] ["row"] (defScope s_copied) := ⟨rfl, rfl, rfl, by decide +kernel, rfl, by decide +kernel, by decide +kernel⟩
theorem ok_copied (F : FunAt K mg "copied" s_copied) (G : NoGl mg) : Cal P w K mg base CX0 1 "copied" ["row"] [] spCopied := by
  refine Cal.mk0 F sc_copied (by rintro _ _ _ _ ⟨_, _, rfl, _⟩; rfl) (fun _ _ _ _ _ _ us hl => match us, hl with | [_], _ => rfl) ?_
  rintro f cdv A outer s H vs Q E hr ⟨a, xs, rfl, h, hz, ks, q⟩
  have nd := sc_copied.nd
  refine ⟨_, pss_one (ps_ret (pe_callTy call_tuple_of (by rfl) G.tuple (by decide +kernel) (pa_cons
      (pe_lc (own := [("one", 1)]) (g := gName 1) (tt := tYes) (te := tIf (tB (tCB rIs (tCons (tVar 1) (tCons (tC (.ty "list")) tNil)))) (tCB (rListOf K) (tCons (tVar 1) tNil)) (tVar 1))
        rfl nd (pi_tup (pv 0)) (blkOk_by (own := [("one", 1)]) (N := ["row", "one"]) (sc := defScope s_copied) (by decide +kernel))
        (fun _ _ _ _ _ => pg_name (i := 1) nd rfl (Or.inl rfl)) (fun _ _ _ _ _ => pts_nil)
        (fun _ _ _ _ _ => pe_ifExp (pt_val (pe_is (n := "list") G G.list (pv 1))) (pe_callTy (T := "list") call_listOf (by rfl) G.list (by decide +kernel) (pa_cons (pv 1) pa_nil)) (pv 1))) pa_nil))), ?_⟩
  refine ⟨_, rfl, a, rfl, ⟨xs, SqT.of h⟩, fun D hD => ?_⟩
  refine lc_tupR (K := K) (fun _ => true) (fun x y H' => Cpy H H' x y) (fun _ _ _ _ e c => c.same e) hD hz (fun _ => rfl) (fun x H' Q' _ _ _ h => h H' (Fr.refl _ _)) ?_ ?_ (SqT.of h)
  · intro x H' Q' hx _ fr ⟨acc, hDa⟩ hq
    obtain ⟨t, k⟩ := ks x hx
    refine ⟨_, rfl, x, t, "list", _, rfl, k.same fr.same, .list, _, rfl, ite2 (fun c => ?_) (fun c => ?_)⟩
    · have c : t = "list" := of_decide_eq_true c
      cases k with
      | @lst b ys e =>
        refine ⟨_, rfl, b, ys, rfl, .inl (SqL.of (fr.same _ _ e)), fun l hl => ?_⟩
        have ne : l ∉ [D] := fun z => ne_of_none hDa hl (List.mem_singleton.mp z).symm
        exact hq _ _ (Fr.new hl) (.inr ⟨b, ys, l, rfl, e, rfl, fr.none hl, by rw [Hd_of ne]; exact upd_same⟩)
      | _ => exact absurd c (by decide)
    · exact ⟨_, rfl, hq _ _ (Fr.refl _ _) (.inl ⟨⟨t, k, fun z => c (decide_eq_true z)⟩, rfl⟩)⟩
  · intro H2 ys hD2 fr2 md
    refine ⟨D, ys, rfl, .inl ⟨SqL.of hD2, fun l hl => ?_⟩⟩
    have fr3 : Fr [] H2 (upd H2 l (.tup ys)) := Fr.new hl
    exact q l ys _ (fr2.none hl) upd_same (fr2.trans fr3) (L2.Paired.mapP md.paired fun x y c => (c.same Hd_same).same fr3.same)
end
end Tk

set_option Elab.async false
set_option linter.all false
set_option maxRecDepth 100000
set_option maxHeartbeats 4000000
namespace Tk
open PySem PySem.Spec PyProof.Rows L2

/-! ### rows of a log, as data -/
structure Rw where
  name : Str
  args : List V
def Rw.vs (r : Rw) : List V := .str r.name :: r.args
def Rw.at (r : Rw) : V := r.args.headD .non
def Rw.is (n : Str) (r : Rw) : Bool := decide (r.name = n)
structure RwAt (H : Hp) (x : V) (r : Rw) : Prop where
  tup : ∃ p, x = .ref p ∧ H p = some (.tup r.vs)
  kd : ∀ y, y ∈ r.args → ∃ t, Kd H y t
  size : sizeV r.name = .int ((r.args.length + 1 : Nat) : Int)
theorem RwAt.same {H H' : Hp} {x : V} {r : Rw} (e : Same H H') (a : RwAt H x r) : RwAt H' x r := by
  obtain ⟨⟨p, h1, h2⟩, h3, h4⟩ := a
  exact ⟨⟨p, h1, e _ _ h2⟩, fun y hy => let ⟨t, k⟩ := h3 y hy; ⟨t, k.same e⟩, h4⟩
theorem lookup_mem {tab : List (Str × Int)} {z : Str} {i : Int} (h : tab.lookup z = some i) : ∃ k, (k, i) ∈ tab := by
  induction tab with
  | nil => cases h
  | cons q r ih =>
    rw [List.lookup_cons] at h
    split at h
    · cases h; exact ⟨q.1, List.mem_cons_self⟩
    · obtain ⟨k, m⟩ := ih h; exact ⟨k, List.mem_cons_of_mem _ m⟩
theorem tab_rng {tab : List (Str × Int)} (ok : tab.all (fun q => decide (2 ≤ q.2 ∧ q.2 ≤ 7)) = true) {z : Str} {i : Int} (h : tab.lookup z = some i) : 2 ≤ i ∧ i ≤ 7 := by
  obtain ⟨k, m⟩ := lookup_mem h
  exact of_decide_eq_true (List.all_eq_true.mp ok _ m)
theorem size_rng {z : Str} {n : Int} (h : sizeV z = .int n) : 2 ≤ n ∧ n ≤ 7 := by
  unfold sizeV at h
  cases e1 : tabA.lookup z with
  | some i =>
    rw [e1] at h
    cases h
    exact tab_rng (by decide) e1
  | none =>
    rw [e1] at h
    cases e2 : tabB.lookup z with
    | some i =>
      rw [e2] at h
      cases h
      exact tab_rng (by decide) e2
    | none =>
      rw [e2] at h
      cases e3 : tabC.lookup z with
      | some i =>
        rw [e3] at h
        cases h
        exact tab_rng (by decide) e3
      | none => rw [e3] at h; cases h
theorem RwAt.args {H : Hp} {x : V} {r : Rw} (a : RwAt H x r) : ∃ y l, r.args = y :: l ∧ r.at = y ∧ l.length ≤ 5 := by
  have z := size_rng a.size
  cases e : r.args with
  | nil => rw [e] at z; simp at z
  | cons y l =>
    rw [e] at z
    refine ⟨y, l, rfl, by unfold Rw.at; rw [e]; rfl, ?_⟩
    simp at z; omega
theorem RwAt.row {H : Hp} {x : V} {r : Rw} (a : RwAt H x r) : RowIs H x true := by
  obtain ⟨⟨p, h1, h2⟩, h3, h4⟩ := a
  have z := size_rng h4
  have e : isRowL r.vs = true := by
    show decide _ = true
    rw [h4]; exact decide_eq_true rfl
  have q := RowIs.tup (x := x) h1 h2 (fun y hy => by cases hy; exact ⟨_, .str _⟩) (by show r.args.length + 1 < 2 ^ 62; omega)
  rw [e] at q; exact q
/-- a log as it comes in -/
inductive LogRs (H : Hp) (x : V) : Option (List Rw) → Prop where
  | bad (h : LogIs H x false) : LogRs H x none
  | ok {a : Addr} {xs : List V} {rs : List Rw} (e : x = .ref a) (h : H a = some (.lst xs)) (z : xs.length < 1000000) (r : Paired (RwAt H) xs rs) : LogRs H x (some rs)
theorem LogRs.log {H : Hp} {x : V} {o : Option (List Rw)} (l : LogRs H x o) : LogIs H x o.isSome := by
  cases l with
  | bad h => exact h
  | @ok a xs rs e h z r =>
    have q := LogIs.lst (x := x) (fun _ => true) e h (fun y hy => by
      clear z h
      induction r with
      | nil => cases hy
      | cons p _ ih =>
        rcases List.mem_cons.mp hy with e | m
        · rw [e]; exact p.row
        · exact ih m) (by rw [sizeLine_eq]; omega)
    rw [show xs.all (fun _ => true) = true by simp] at q
    exact q

theorem RwAt.one {H : Hp} {x : V} {r r' : Rw} (a : RwAt H x r) (b : RwAt H x r') : r = r' := by
  obtain ⟨p, rfl, h⟩ := a.tup
  obtain ⟨p', e, h'⟩ := b.tup
  cases e
  have z := h.symm.trans h'
  cases r
  cases r'
  injection z with z
  injection z with z
  injection z with z1 z2
  injection z1 with z1
  simp only at z1 z2
  rw [z1, z2]
noncomputable def rowOf (H : Hp) (x : V) : Rw := open Classical in if h : ∃ r, RwAt H x r then Classical.choose h else ⟨"", []⟩
theorem rowOf_eq {H : Hp} {x : V} {r : Rw} (a : RwAt H x r) : rowOf H x = r := by
  have h : ∃ r, RwAt H x r := ⟨r, a⟩
  unfold rowOf
  rw [dif_pos h]
  exact (Classical.choose_spec h).one a
theorem Paired.mem {α β : Type} {F : α → β → Prop} : ∀ {xs : List α} {ys : List β}, Paired F xs ys → ∀ {x : α}, x ∈ xs → ∃ y, y ∈ ys ∧ F x y
  | _, _, .cons a b, x, h => by
    rcases List.mem_cons.mp h with e | m
    · exact ⟨_, List.mem_cons_self, e ▸ a⟩
    · obtain ⟨y, h1, h2⟩ := Paired.mem b m
      exact ⟨y, List.mem_cons_of_mem _ h1, h2⟩

theorem Paired.mem' {α β : Type} {F : α → β → Prop} : ∀ {xs : List α} {ys : List β}, Paired F xs ys → ∀ {y : β}, y ∈ ys → ∃ x, F x y
  | _, _, .cons a b, y, h => by
    rcases List.mem_cons.mp h with e | m
    · exact ⟨_, e ▸ a⟩
    · exact Paired.mem' b m

/-! ### what check_cycles asks -/
def isNm (n : Str) : Option Rw → Bool
  | some r => r.is n
  | none => false
def stopPair (p q : Option Rw) : Bool := !(decide (isNm "go" q ≠ isNm "stop" p) && !(isNm "stop" p && q.isNone))
def stopsOk (rs : List Rw) : Bool := ((none :: rs.map some).zip (rs.map some ++ [none])).all fun q => stopPair q.1 q.2
def cycV (rs : List Rw) : List V := (rs.filter fun r => !r.is "go").map Rw.at
def logOk (rs : List Rw) : Bool := cyclesL 0 (cycV rs) && stopsOk rs

def OptAt (H : Hp) (x : V) : Option Rw → Prop
  | none => x = .non
  | some r => RwAt H x r
theorem OptAt.same {H H' : Hp} {x : V} {o : Option Rw} (e : Same H H') (a : OptAt H x o) : OptAt H' x o := by
  cases o with
  | none => exact a
  | some r => exact RwAt.same e a
theorem Paired.get {α β : Type} {F : α → β → Prop} : ∀ {xs : List α} {ys : List β}, Paired F xs ys → ∀ {i : Nat} {x : α}, xs[i]? = some x → ∃ y, ys[i]? = some y ∧ F x y
  | _, _, .nil, i, x, h => by simp at h
  | _, _, .cons a b, 0, x, h => by cases h; exact ⟨_, rfl, a⟩
  | _, _, .cons a b, i + 1, x, h => Paired.get b (i := i) h
theorem Paired.app {α β : Type} {F : α → β → Prop} : ∀ {xs xs' : List α} {ys ys' : List β}, Paired F xs ys → Paired F xs' ys' → Paired F (xs ++ xs') (ys ++ ys')
  | _, _, _, _, .nil, b => b
  | _, _, _, _, .cons a c, b => .cons a (Paired.app c b)
theorem opt_map {H : Hp} : ∀ {xs : List V} {rs : List Rw}, Paired (RwAt H) xs rs → Paired (OptAt H) xs (rs.map some)
  | _, _, .nil => .nil
  | _, _, .cons a b => .cons a (opt_map b)
/-- the rows' filter and map over the references -/
theorem Made.rows {H : Hp} {p : V → Bool} {f : V → V} {pr : Rw → Bool} {fr : Rw → V} (hp : ∀ x r, RwAt H x r → p x = pr r) (hf : ∀ x r, RwAt H x r → f x = fr r) :
    ∀ {xs : List V} {rs : List Rw}, Paired (RwAt H) xs rs → (xs.filter p).map f = (rs.filter pr).map fr
  | _, _, .nil => rfl
  | _, _, .cons (a := x) (b := r) a b => by
    have ih := Made.rows hp hf b
    have e := hp _ _ a
    cases c : pr r with
    | true => rw [List.filter_cons_of_pos (e.trans c), List.filter_cons_of_pos c, List.map_cons, List.map_cons, ih, hf _ _ a]
    | false => rw [List.filter_cons_of_neg (by rw [e, c]; exact Bool.false_ne_true), List.filter_cons_of_neg (by rw [c]; exact Bool.false_ne_true), ih]
end Tk

set_option Elab.async false
set_option linter.all false
set_option maxRecDepth 100000
set_option maxHeartbeats 4000000
namespace Tk
open PySem PySem.Spec PyProof.Rows L2
section
variable {P : Program} {w : World} {K : PySem.W.Frag} {mg : Str → Option Value} {base : Heap} {C : Addr}
def spCheckCycles (C : Addr) : Sp := fun vs H Q E => ∃ x o, vs = [x] ∧ LogRs H x o ∧ ∀ H', Fr [] H H' → if (match o with | none => false | some rs => logOk rs) = true then Q .non H' else E (.ref C) none H'
theorem sc_checkCycles : FnScope ["log", "row", "later", "is_stop", "is_go"] ["log"] (defScope s_check_cycles) := ⟨rfl, rfl, rfl, by decide +kernel, rfl, by decide +kernel, by decide +kernel⟩
theorem row_ix {H : Hp} {x : V} {r : Rw} (a : RwAt H x r) : ∃ p, x = .ref p ∧ SqT K H p r.vs ∧ atI r.vs 0 = some (.str r.name) ∧ atI r.vs 1 = some r.at := by
  obtain ⟨p, e, h⟩ := a.tup
  obtain ⟨y, l, e1, e2, _⟩ := a.args
  refine ⟨p, e, SqT.of h, atI_nat (j := 0) rfl, atI_nat (j := 1) ?_⟩
  unfold Rw.vs
  rw [e1, e2]
  rfl
theorem dec_str {a b : Str} : decide (V.str a = V.str b) = decide (a = b) := by
  by_cases h : a = b
  · subst h; simp
  · rw [decide_eq_false h, decide_eq_false fun z => h (V.str.inj z)]
theorem ev_nm {σ : L2.St} {H : Hp} {x : V} {o : Option Rw} {i : Nat} {n : Str} {Q : VK} (hσ : σ[i]? = some (some x)) (a : OptAt H x o) (q : Q (.bl (isNm n o)) H) :
    tAndV (tNotN (tVar i)) (tOp rEq (tOp (rIxT K) (tVar i) (tC (.int 0))) (tC (.str n))) σ H Q := by
  refine ⟨x, hσ, _, rfl, ?_⟩
  cases o with
  | none =>
    obtain rfl : x = .non := a
    exact q
  | some r =>
    obtain ⟨p, e, st, i0, i1⟩ := row_ix (K := K) (show RwAt H x r from a)
    subst e
    refine ⟨_, hσ, p, _, _, _, rfl, rfl, st, i0, rfl, ?_⟩
    rw [dec_str]
    exact q
theorem stops_at {rs : List Rw} {i : Nat} {o1 o2 : Option Rw} (h1 : (none :: rs.map some)[i]? = some o1) (h2 : (rs.map some ++ [none])[i]? = some o2) (h : stopPair o1 o2 = false) : stopsOk rs = false := by
  have m := List.mem_of_getElem? (zip_get h1 h2)
  cases c : stopsOk rs with
  | false => rfl
  | true =>
    have z := List.all_eq_true.mp c _ m
    rw [h] at z
    cases z
theorem stops_all {rs : List Rw} (h : ∀ (i : Nat) (o1 o2 : Option Rw), (none :: rs.map some)[i]? = some o1 → (rs.map some ++ [none])[i]? = some o2 → stopPair o1 o2 = true) : stopsOk rs = true := by
  refine List.all_eq_true.mpr fun q hq => ?_
  obtain ⟨i, hi⟩ := List.getElem?_of_mem hq
  rw [List.getElem?_zip_eq_some] at hi
  exact h i q.1 q.2 hi.1 hi.2
theorem ok_checkCycles (F : FunAt K mg "check_cycles" s_check_cycles) (G : NoGl mg) (T_NoCall : ExcC K mg "NoCall" C) (C_check_log : Cal P w K mg base (L2.CX P w) 3 "check_log" ["log"] [] (spCheckLog C))
    (C_is_cycles : Cal P w K mg base CX0 2 "is_cycles" ["thing", "least"] [.int 0] spCycles) :
    Cal P w K mg base (L2.CX P w) 4 "check_cycles" ["log"] [] (spCheckCycles C) := by
  refine Cal.mkX F sc_checkCycles (by rintro _ _ _ _ ⟨_, _, rfl, _⟩; rfl) (fun _ _ _ _ _ _ us hl => match us, hl with | [_], _ => rfl) ?_
  rintro f cdv A outer s H vs Q E hr ⟨x, o, rfl, lr, q⟩
  have nd := sc_checkCycles.nd
  refine ⟨_, (pss_cons (ps_expr (pe_c C_check_log (hr.mono (by decide)) (by rfl) (passes_call (takes_of rfl rfl rfl rfl) (fun _ _ _ _ h => h)) (pa_cons (pv 0) pa_nil)))
    (pss_cons (ps_if (pt_not (pt_val (pe_c C_is_cycles (hr.mono (by decide)) (by rfl) pass0 (pa_cons (pe_lc (own := [("row", 1)]) (g := gName 1) (tt := tTest (tOp rNe (tOp (rIxT K) (tVar 1) (tC (.int 0))) (tC (.str "go")))) (te := tOp (rIxT K) (tVar 1) (tC (.int 1))) rfl nd (pi_list (pv 0))
        (blkOk_by (own := [("row", 1)]) (N := ["log", "row", "later", "is_stop", "is_go"]) (sc := defScope s_check_cycles) (by decide +kernel))
        (fun _ _ _ _ _ => (pg_name (i := 1) nd rfl (.inl rfl) (Or.inr rfl))) (fun _ _ _ _ _ => (pts_one (pt_cmpR op_ne (pe_ix ix_tup (pv 1) pe_int (fun _ _ => rfl)) pe_str (nomark _))))
        (fun _ _ _ _ _ => (pe_ix ix_tup (pv 1) pe_int (fun _ _ => rfl)))) pa_nil))))
      (pss_one (ps_rs T_NoCall rfl (takes_of rfl rfl rfl rfl)))
      pss_nil)
    (pss_one (ps_for (passes_of rfl) rfl (pi_zip (by rfl) G.zip (pa_cons (pe_op op_cat (pe_lst (pa_cons pe_non pa_nil)) (pv 0)) (pa_cons (pe_op op_cat (pv 0) (pe_lst (pa_cons pe_non pa_nil))) pa_nil))) (pg_tup rfl (pgs_cons (pg_name (i := 1) nd rfl (.inl rfl)) (pgs_cons (pg_name (i := 2) nd rfl (.inl rfl)) pgs_nil)))
      (pss_cons (ps_set (i := 3) nd rfl (.inl rfl) (pe_and (pe_cmp (pc_notN (pv 1)) rfl) (pe_one (pe_cmpR op_eq (pe_ix ix_tup (pv 1) pe_int (fun _ _ => rfl)) pe_str (nomark _)))))
      (pss_cons (ps_set (i := 4) nd rfl (.inl rfl) (pe_and (pe_cmp (pc_notN (pv 2)) rfl) (pe_one (pe_cmpR op_eq (pe_ix ix_tup (pv 2) pe_int (fun _ _ => rfl)) pe_str (nomark _)))))
      (pss_one (ps_if (PW.pt (pw_and (pt_cmpR op_ne (pv 4) (pv 3) (nomark _)) (pw_and1 (pt_not (PW.pt (pw_and (pt_val (pv 3)) (pw_and1 (pt_cmp (pc_isN (pv 2)) rfl))))))))
        (pss_one (ps_rs T_NoCall rfl (takes_of rfl rfl rfl rfl)))
        pss_nil)))))))), ?_⟩
  refine ⟨_, rfl, _, _, rfl, lr.log, fun H1 fr1 => ?_⟩
  cases lr with
  | bad h => exact q H1 fr1
  | @ok a xs rs e h z r =>
    subst e
    have hz : xs.length < sizeLine := by rw [sizeLine_eq]; omega
    have h1 := fr1.same _ _ h
    have r1 : ∀ {H'}, Fr [] H H' → Paired (RwAt H') xs rs := fun fr => L2.Paired.mapP r fun x y c => c.same fr.same
    refine ⟨_, rfl, a, rfl, ⟨xs, SqL.of h1⟩, fun D hD => ?_⟩
    refine lc_listR (K := K) (fun x => !(rowOf H x).is "go") (fun x y _ => y = (rowOf H x).at) (fun _ _ _ _ _ h => h) hD hz (fun _ => rfl) ?_ ?_ ?_ (SqL.of h1)
    · intro x H' Q' hx fr _ hq
      obtain ⟨y, _, ry⟩ := Paired.mem (r1 (fr1.trans fr)) hx
      obtain ⟨y0, _, ry0⟩ := Paired.mem r hx
      obtain ⟨p, e, st, i0, i1⟩ := row_ix (K := K) ry
      obtain rfl := (ry0.same (fr1.trans fr).same).one ry
      subst e
      refine ⟨_, rfl, p, _, _, _, rfl, rfl, st, i0, rfl, _, rfl, ?_⟩
      rw [dec_str]
      have q2 := hq _ (Fr.refl _ _)
      rw [rowOf_eq ry0] at q2
      exact q2
    · intro x H' Q' hx _ fr _ hq
      obtain ⟨y, _, ry⟩ := Paired.mem (r1 (fr1.trans fr)) hx
      obtain ⟨y0, _, ry0⟩ := Paired.mem r hx
      obtain ⟨p, e, st, i0, i1⟩ := row_ix (K := K) ry
      obtain rfl := (ry0.same (fr1.trans fr).same).one ry
      subst e
      exact ⟨_, rfl, p, _, _, _, rfl, rfl, st, i1, hq _ _ (Fr.refl _ _) (by rw [rowOf_eq ry0])⟩
    · intro H2 ys hD2 fr2 md
      have e := (md.pure (f := fun x => (rowOf H x).at) (fun _ _ _ h => h)).trans (Made.rows (pr := fun r => !r.is "go") (fr := Rw.at) (fun x r a => by rw [rowOf_eq a]) (fun x r a => by rw [rowOf_eq a]) r)
      have fr02 := fr1.trans fr2
      have hk : ∀ y, y ∈ ys → ∃ u, Kd H2 y u := by
        intro y hy
        rw [e] at hy
        obtain ⟨w0, hw, rfl⟩ := List.mem_map.mp hy
        have hw : w0 ∈ rs := (List.mem_filter.mp hw).1
        obtain ⟨x0, rx⟩ := Paired.mem' r hw
        obtain ⟨y, l, e1, e2, _⟩ := rx.args
        obtain ⟨t, k⟩ := rx.kd y (by rw [e1]; exact List.mem_cons_self)
        rw [e2]
        exact ⟨t, k.same fr02.same⟩
      have hzy : ys.length < sizeLine := by
        have := md.len
        omega
      refine ⟨.ref D, 0, "list", rfl, .lst hD2, .inr ⟨D, ys, rfl, hD2, hk, hzy, fun H3 fr3 => ?_⟩⟩
      have fr03 := fr02.trans fr3
      refine ⟨_, rfl, ?_⟩
      rw [e]
      cases c1 : cyclesL 0 ((rs.filter fun r => !r.is "go").map Rw.at) with
      | false =>
        have z : logOk rs = false := by unfold logOk cycV; rw [c1]; rfl
        have q := q H3 fr03
        simp only [z] at q
        exact q
      | true =>
        have zq : logOk rs = stopsOk rs := by unfold logOk cycV; rw [c1]; rfl
        have h3 := fr03.same _ _ h
        have hz2 : xs.length + 1 ≤ sizeLine := by rw [sizeLine_eq]; omega
        refine ⟨(by show 1 ≤ sizeLine; decide), fun p hp => ?_⟩
        have frA : Fr [] H3 (upd H3 p (.lst [V.non])) := Fr.new hp
        refine ⟨_, rfl, p, a, [V.non], xs, rfl, rfl, upd_same, frA.same _ _ h3, (by show 1 + xs.length ≤ sizeLine; omega), fun p2 hp2 => ?_⟩
        have frB : Fr [] (upd H3 p (.lst [V.non])) (upd (upd H3 p (.lst [V.non])) p2 (.lst ([V.non] ++ xs))) := Fr.new hp2
        refine ⟨_, rfl, (by show 1 ≤ sizeLine; decide), fun p3 hp3 => ?_⟩
        have frC := Fr.new (M := []) (o := .lst [V.non]) hp3
        have fr3C := frA.trans (frB.trans frC)
        refine ⟨a, p3, xs, [V.non], rfl, rfl, fr3C.same _ _ h3, upd_same, (by show xs.length + 1 ≤ sizeLine; omega), fun p4 hp4 => ?_⟩
        have frD := Fr.new (M := []) (o := .lst (xs ++ [V.non])) hp4
        have frN := fr3C.trans frD
        have c2 := (frC.trans frD).same p2 _ upd_same
        refine ⟨p2, p4, [V.non] ++ xs, xs ++ [V.non], rfl, SqL.of c2, SqL.of upd_same, ?_⟩
        have all1 : ∀ {H'}, Fr [] H3 H' → Paired (OptAt H') ([V.non] ++ xs) (none :: rs.map some) := fun fr => .cons rfl (opt_map (L2.Paired.mapP r fun x y c => c.same (fr03.trans fr).same))
        have all2 : ∀ {H'}, Fr [] H3 H' → Paired (OptAt H') (xs ++ [V.non]) (rs.map some ++ [none]) := fun fr => Paired.app (opt_map (L2.Paired.mapP r fun x y c => c.same (fr03.trans fr).same)) (.cons rfl .nil)
        refine RZ.for_zipL (K := K) (xs := [V.non] ++ xs) (ys := xs ++ [V.non]) (by simp [Nat.add_comm]) (fun i σ H' => (∃ s1 s2 s3 s4, σ = [some (V.ref a), s1, s2, s3, s4]) ∧ Fr [] _ H' ∧
          ∀ (j : Nat) (o1 o2 : Option Rw), j < i → (none :: rs.map some)[j]? = some o1 → (rs.map some ++ [none])[j]? = some o2 → stopPair o1 o2 = true)
          ⟨⟨_, _, _, _, rfl⟩, Fr.refl _ _, fun _ _ _ z => absurd z (Nat.not_lt_zero _)⟩ ?_ ?_ ?_
        · rintro i σ H' ⟨_, fr, _⟩
          exact ⟨fr.same.seq (SqL.of c2), fr.same.seq (SqL.of upd_same)⟩
        · rintro i x y T2 σ H' hx hy ⟨⟨s1, s2, s3, s4, rfl⟩, fr, old⟩ new
          have frT := Fr.new (M := []) (o := .tup [x, y]) new
          have frE := frN.trans (fr.trans frT)
          obtain ⟨o1, g1, a1⟩ := Paired.get (all1 frE) hx
          obtain ⟨o2, g2, a2⟩ := Paired.get (all2 frE) hy
          refine ⟨T2, [x, y], rfl, SqT.of upd_same, rfl, x, [y], rfl, y, [], rfl, rfl, ?_⟩
          refine ev_nm (K := K) (n := "stop") rfl a1 ?_
          refine ev_nm (K := K) (n := "go") rfl a2 ?_
          refine ⟨_, rfl, _, rfl, by cases isNm "go" o2 <;> cases isNm "stop" o1 <;> rfl, _, rfl, ?_⟩
          have done : stopPair o1 o2 = true → (∃ s1 s2 s3 s4, ([some (V.ref a), some x, some y, some (V.bl (isNm "stop" o1)), some (V.bl (isNm "go" o2))] : L2.St) = [some (V.ref a), s1, s2, s3, s4]) ∧ Fr [] _ (upd H' T2 (.tup [x, y])) ∧
              ∀ (j : Nat) (o1 o2 : Option Rw), j < i + 1 → (none :: rs.map some)[j]? = some o1 → (rs.map some ++ [none])[j]? = some o2 → stopPair o1 o2 = true := fun ok =>
            ⟨⟨_, _, _, _, rfl⟩, fr.trans frT, fun j u1 u2 hj e1 e2 => by
              rcases Nat.lt_succ_iff_lt_or_eq.mp hj with h | rfl
              · exact old j u1 u2 h e1 e2
              · cases g1.symm.trans e1
                cases g2.symm.trans e2
                exact ok⟩
          have bad : stopPair o1 o2 = false → E (.ref C) none (upd H' T2 (.tup [x, y])) := fun z => by
            have zz : logOk rs = false := by rw [zq]; exact stops_at g1 g2 z
            have q := q _ (fr03.trans frE)
            simp only [zz] at q
            exact q
          have n2 : (y = V.non) ↔ o2.isNone = true := by
            cases o2 with
            | none => exact ⟨fun _ => rfl, fun _ => a2⟩
            | some r2 =>
              obtain ⟨p, e, _⟩ := (show RwAt _ y r2 from a2).tup
              subst e
              exact ⟨fun z => (nomatch z), fun z => (nomatch z)⟩
          cases d1 : isNm "stop" o1 <;> cases d2 : isNm "go" o2 <;> rw [d1, d2] at done
          · exact done (by unfold stopPair; rw [d1, d2]; rfl)
          · refine ⟨_, rfl, _, rfl, ?_⟩
            exact bad (by unfold stopPair; rw [d1, d2]; rfl)
          · refine ⟨_, rfl, _, rfl, _, rfl, _, rfl, ?_⟩
            by_cases yn : y = V.non
            · rw [decide_eq_true yn]
              exact done (by unfold stopPair; rw [d1, d2, n2.mp yn]; rfl)
            · rw [decide_eq_false yn]
              have : o2.isNone = false := by
                cases z : o2.isNone with
                | false => rfl
                | true => exact absurd (n2.mpr z) yn
              exact bad (by unfold stopPair; rw [d1, d2, this]; rfl)
          · exact done (by unfold stopPair; rw [d1, d2]; rfl)
        · rintro σ H' ⟨_, fr, old⟩
          have zz : logOk rs = true := by
            rw [zq]
            refine stops_all fun i o1 o2 e1 e2 => old i o1 o2 ?_ e1 e2
            have := (List.getElem?_eq_some_iff.mp e1).1
            have l := PySem.Paired.length r
            simp at this ⊢
            omega
          have q := q _ (fr03.trans (frN.trans fr))
          simp only [zz] at q
          exact q
end
end Tk

set_option Elab.async false
set_option linter.all false
set_option maxRecDepth 100000
set_option maxHeartbeats 4000000
namespace Tk
open PySem PySem.Spec PyProof.Rows L2

/-! ### what with_looks makes -/
def Rw.c (r : Rw) : Int := match r.at with | .int i => i | _ => 0
inductive Out where
  | look (c : Int)
  | row (r : Rw)
def merge : List Rw → List Int → List Out
  | [], ls => ls.map .look
  | r :: rs, ls => if r.is "go" = true then .row r :: merge rs ls else (ls.takeWhile fun c => decide (c ≤ r.c)).map .look ++ .row r :: merge rs (ls.dropWhile fun c => decide (c ≤ r.c))
theorem merge_cons (r : Rw) (rs : List Rw) (ls : List Int) : merge (r :: rs) ls =
    if r.is "go" = true then .row r :: merge rs ls else (ls.takeWhile fun c => decide (c ≤ r.c)).map .look ++ .row r :: merge rs (ls.dropWhile fun c => decide (c ≤ r.c)) := rfl
theorem merge_look {r : Rw} {rs : List Rw} {c : Int} {ls : List Int} (h : r.is "go" = false) (hc : c ≤ r.c) : merge (r :: rs) (c :: ls) = .look c :: merge (r :: rs) ls := by
  rw [merge_cons, merge_cons, h, if_neg Bool.false_ne_true, if_neg Bool.false_ne_true, List.takeWhile_cons_of_pos (by simpa using hc), List.dropWhile_cons_of_pos (by simpa using hc)]
  rfl
theorem merge_row {r : Rw} {rs : List Rw} {ls : List Int} (h : r.is "go" = true ∨ ls = [] ∨ ∃ c l, ls = c :: l ∧ ¬ c ≤ r.c) : merge (r :: rs) ls = .row r :: merge rs ls := by
  rw [merge_cons]
  cases e : r.is "go" with
  | true => rw [if_pos rfl]
  | false =>
    rw [if_neg Bool.false_ne_true]
    rcases h with h | rfl | ⟨c, l, rfl, hc⟩
    · rw [e] at h; cases h
    · simp
    · rw [List.takeWhile_cons_of_neg (by simpa using hc), List.dropWhile_cons_of_neg (by simpa using hc)]
      rfl
def late (rs : List Rw) (ls : List Int) : Bool := match rs.getLast?, ls.getLast? with
  | some r, some c => r.is "stop" && decide (r.c < c)
  | _, _ => false
/-- what stands in the returned list -/
def OutAt (H0 H : Hp) (y : V) : Out → Prop
  | .look c => ∃ q, y = .ref q ∧ H0 q = none ∧ H q = some (.tup [.str "look", .int c])
  | .row r => ∃ q vs, y = .ref q ∧ H0 q = none ∧ H q = some (.tup vs) ∧ Paired (Cpy H0 H) r.vs vs
theorem OutAt.same {H0 H H' : Hp} {y : V} {o : Out} (e : Same H H') (a : OutAt H0 H y o) : OutAt H0 H' y o := by
  cases o with
  | look c => obtain ⟨q, h1, h2, h3⟩ := a; exact ⟨q, h1, h2, e _ _ h3⟩
  | row r => obtain ⟨q, vs, h1, h2, h3, h4⟩ := a; exact ⟨q, vs, h1, h2, e _ _ h3, L2.Paired.mapP h4 fun x y c => c.same e⟩
/-- looks as they come in -/
inductive LooksRs (H : Hp) (y : V) : Option (List Int) → Prop where
  | no {t : String} (k : Kd H y t) (h : t ≠ "list") : LooksRs H y none
  | bad {b : Addr} {xs : List V} (e : y = .ref b) (h : H b = some (.lst xs)) (k : ∀ z, z ∈ xs → ∃ u, Kd H z u) (z : xs.length < sizeLine) (c : cyclesL 0 xs = false) : LooksRs H y none
  | ok {b : Addr} {ls : List Int} (e : y = .ref b) (h : H b = some (.lst (ls.map V.int))) (z : ls.length < 1000000) (c : cyclesL 0 (ls.map V.int) = true) : LooksRs H y (some ls)

theorem Kd.one {H : Hp} {x : V} {t t' : String} (a : Kd H x t) (b : Kd H x t') : t = t' := by
  cases a <;> cases b <;> first | rfl | (rename_i h1 _ h2; cases h1.symm.trans h2)
theorem Cpy.back {H0 H H' : Hp} {x y : V} (fr : Fr [] H0 H) (k : ∃ t, Kd H0 x t) (c : Cpy H H' x y) : Cpy H0 H' x y := by
  obtain ⟨t, k⟩ := k
  rcases c with ⟨⟨t', k', ne⟩, e⟩ | ⟨a, xs, p, rfl, h, e2, hp, h'⟩
  · obtain rfl := (k.same fr.same).one k'
    exact .inl ⟨⟨t, k, ne⟩, e⟩
  · refine .inr ⟨a, xs, p, rfl, ?_, e2, fr.none hp, h'⟩
    cases k with
    | lst e => cases (fr.same _ _ e).symm.trans h; exact e
    | tup e => cases (fr.same _ _ e).symm.trans h
    | dK e => cases (fr.same _ _ e).symm.trans h
theorem if_reading {c : TT} {t u : TS} {D : Ends} {σ : L2.St} {H : Hp} (b : Bool) (hc : ∀ Q : Bool → Hp → Prop, (∀ H', Fr [] H H' → Q b H') → c σ H Q) (h : ∀ H', Fr [] H H' → if b = true then t D σ H' else u D σ H') :
    tIfS c t u D σ H := hc _ h
theorem if_reading2 {c : TT} {t u rest : TS} {D : Ends} {σ : L2.St} {H : Hp} (b : Bool) (hc : ∀ Q : Bool → Hp → Prop, (∀ H', Fr [] H H' → Q b H') → c σ H Q)
    (h : ∀ H', Fr [] H H' → if b = true then t { D with nx := rest D } σ H' else u { D with nx := rest D } σ H') : tSeq (tIfS c t u) rest D σ H := hc _ h
theorem row_int {rs : List Rw} (h : logOk rs = true) {r : Rw} (m : r ∈ rs) (g : r.is "go" = false) : r.at = .int r.c := by
  have c : cyclesL 0 (cycV rs) = true := by
    unfold logOk at h
    exact (Bool.and_eq_true_iff.mp h).1
  have c1 : (cycV rs).all (fun x => wholeV x (.int 0)) = true := (Bool.and_eq_true_iff.mp c).1
  have m2 : r.at ∈ cycV rs := List.mem_map.mpr ⟨r, List.mem_filter.mpr ⟨m, by rw [g]; rfl⟩, rfl⟩
  obtain ⟨i, e⟩ := whole_int (List.all_eq_true.mp c1 _ m2)
  unfold Rw.c
  rw [e]
theorem last_map {α β : Type} (f : α → β) : ∀ (l : List α), (l.map f).getLast? = l.getLast?.map f := fun l => by simp [List.getLast?_map]
theorem paired_last {α β : Type} {F : α → β → Prop} {xs : List α} {ys : List β} (p : Paired F xs ys) {x : α} (h : xs.getLast? = some x) : ∃ y, ys.getLast? = some y ∧ F x y := by
  have l := PySem.Paired.length p
  rw [List.getLast?_eq_getElem?] at h
  obtain ⟨y, e, q⟩ := Paired.get p h
  refine ⟨y, ?_, q⟩
  rw [List.getLast?_eq_getElem?, ← l]
  exact e
end Tk

set_option Elab.async false
set_option linter.all false
set_option maxRecDepth 100000
set_option maxHeartbeats 4000000
namespace Tk
open PySem PySem.Spec PyProof.Rows L2

/-! ### counts, and the looks that keep them -/
def mo (w : Nat) : Int := 2 ^ w - 1
def lkN (w : Nat) (m : Int) : Nat := ((m + mo w - 1) / mo w - 1).toNat
def lks (w : Nat) (a : Int) : Nat → List Out
  | 0 => []
  | n + 1 => .look a :: lks w (a + mo w) n
theorem mo_pos {w : Nat} (h : 1 ≤ w) : 1 ≤ mo w := by
  have h2 : (2 : Int) ^ 1 ≤ 2 ^ w := by
    have : (2 : Nat) ^ 1 ≤ 2 ^ w := Nat.pow_le_pow_right (by decide) h
    exact_mod_cast this
  unfold mo; omega
theorem mo_lt {w : Nat} (h : w ≤ 64) : mo w < 2 ^ 64 := by
  have : (2 : Nat) ^ w ≤ 2 ^ 64 := Nat.pow_le_pow_right (by decide) h
  have h2 : (2 : Int) ^ w ≤ 2 ^ 64 := by exact_mod_cast this
  unfold mo; omega
theorem lks_snoc (w : Nat) : ∀ (n : Nat) (a : Int), lks w a (n + 1) = lks w a n ++ [.look (a + n * mo w)]
  | 0, a => by simp [lks]
  | n + 1, a => by
    have ih := lks_snoc w n (a + mo w)
    show Out.look a :: lks w (a + mo w) (n + 1) = Out.look a :: lks w (a + mo w) n ++ [.look (a + ((n + 1 : Nat) : Int) * mo w)]
    rw [ih, List.cons_append]
    congr 4
    rw [Int.natCast_add, Int.add_mul, Int.add_assoc]
    congr 1
    simp [Int.add_comm]
theorem lks_len (w : Nat) : ∀ (n : Nat) (a : Int), (lks w a n).length = n
  | 0, _ => rfl
  | n + 1, a => by simp [lks, lks_len w n]
def onlyV : List V := [.str "look", .str "read", .str "expired", .str "running", .str "waiting", .str "sampled"]
def Rw.only (r : Rw) : Bool := inV (.str r.name) onlyV
def atR (l : Int) (r : Rw) : Int := if r.is "go" = true then l else r.c
def shortGo (w : Nat) : Int → Int → Int → List Rw → List Out
  | b, l, m, [] => if b < l then lks w (l - m + mo w) (lkN w m) ++ [.look l] else []
  | b, l, m, r :: rs =>
    if r.only = true then shortGo w b (atR l r) (m + (atR l r - l) % 2 ^ w) rs
    else lks w (atR l r - (m + (atR l r - l) % 2 ^ w) + mo w) (lkN w (m + (atR l r - l) % 2 ^ w)) ++ .row r :: shortGo w (atR l r) (atR l r) 0 rs
def shortL (w : Nat) (rs : List Rw) : List Out := shortGo w 0 0 0 rs
theorem lkN_le {w : Nat} (h : 1 ≤ w) {m : Int} {n : Nat} (hm : m ≤ (n + 1 : Nat) * mo w) : lkN w m ≤ n := by
  have p := mo_pos h
  have q : (m + mo w - 1) / mo w ≤ n + 1 := by
    refine Int.le_of_lt_add_one ((Int.ediv_lt_iff_lt_mul (by omega)).mpr ?_)
    have e : ((n : Int) + 1 + 1) * mo w = ((n + 1 : Nat) : Int) * mo w + mo w := by rw [Int.add_mul ((n : Int) + 1) 1, Int.one_mul]; simp
    rw [e]; omega
  unfold lkN
  omega

section
variable {P : Program} {w : World} {K : PySem.W.Frag} {mg : Str → Option Value} {base : Heap} {CW CC : Addr}
/-! ### check_width, power -/
def okW : V → Bool
  | .int i => decide (1 ≤ i) && !decide (64 < i)
  | _ => false
def spWidth (CW : Addr) : Sp := fun vs H Q E => ∃ x t, vs = [x] ∧ Kd H x t ∧ (okW x = false → E (.ref CW) none H) ∧ (okW x = true → Q .non H)
theorem sc_width : FnScope ["width"] ["width"] (defScope s_check_width) := ⟨rfl, rfl, rfl, by decide +kernel, rfl, by decide +kernel, by decide +kernel⟩
theorem ok_width {tk : Tok} (F : FunAt K mg "check_width" s_check_width) (T_NoWidth : ExcC K mg "NoWidth" CW) (G_MOST_WIDTH : mg "MOST_WIDTH" = some (.int 64 tk)) (C_is_whole : Cal P w K mg base CX0 1 "is_whole" ["thing", "least"] [] spWhole) :
    Cal P w K mg base (L2.CX P w) 2 "check_width" ["width"] [] (spWidth CW) := by
  refine Cal.mkX F sc_width (by rintro _ _ _ _ ⟨_, _, rfl, _⟩; rfl) (fun _ _ _ _ _ _ us hl => match us, hl with | [_], _ => rfl) ?_
  rintro f cdv A outer s H vs Q E hr ⟨x, t, rfl, k, qb, q⟩
  have nd := sc_width.nd
  refine ⟨_, (pss_one (ps_if (PW.pt (pw_or (pt_not (pt_val (pe_c C_is_whole (hr.mono (by decide)) (by rfl) pass0 (pa_cons (pv 0) (pa_cons pe_int pa_nil))))) (pw_or1 (pt_cmpR op_gt (pv 0) (pe_glob (v := .int 64) (by rfl) G_MOST_WIDTH ⟨_, rfl⟩) (nomark _)))))
      (pss_one (ps_rs T_NoWidth rfl (takes_of rfl rfl rfl rfl)))
      pss_nil)), ?_⟩
  refine ⟨_, rfl, x, .int 1, t, rfl, k, .inr ⟨1, rfl⟩, ?_⟩
  cases x with
  | int i =>
    by_cases h1 : 1 ≤ i
    · have e1 : wholeV (.int i) (.int 1) = true := decide_eq_true h1
      rw [e1]
      refine ⟨_, rfl, ?_⟩
      refine negT ⟨_, rfl, i, 64, rfl, rfl, _, rfl, ?_⟩
      refine ite2 (fun h2 => ?_) (fun h2 => ?_)
      · refine qb ?_
        show (decide (1 ≤ i) && !decide (64 < i)) = false
        rw [h2]; simp
      · refine q ?_
        show (decide (1 ≤ i) && !decide (64 < i)) = true
        rw [decide_eq_true h1, Bool.eq_false_iff.mpr h2]; rfl
    · have e1 : wholeV (.int i) (.int 1) = false := decide_eq_false h1
      rw [e1]
      refine ⟨_, rfl, ?_⟩
      refine negF (qb ?_)
      show (decide (1 ≤ i) && !decide (64 < i)) = false
      rw [decide_eq_false h1]; rfl
  | _ => exact ⟨_, rfl, negF (qb rfl)⟩
def spPower : Sp := fun vs H Q _ => ∃ n : Nat, vs = [.int n] ∧ n ≤ 64 ∧ Q (.int (2 ^ n)) H
theorem sc_power : FnScope ["number"] ["number"] (defScope s_power) := ⟨rfl, rfl, rfl, by decide +kernel, rfl, by decide +kernel, by decide +kernel⟩
theorem ok_power (F : FunAt K mg "power" s_power) : Cal P w K mg base CX0 1 "power" ["number"] [] spPower := by
  refine Cal.mk0 F sc_power (by rintro _ _ _ _ ⟨_, rfl, _⟩; rfl) (fun _ _ _ _ _ _ us hl => match us, hl with | [_], _ => rfl) ?_
  rintro f cdv A outer s H vs Q E hr ⟨n, rfl, hn, q⟩
  refine ⟨_, (pss_one (ps_ret (pe_op op_shl pe_int (pv 0)))), ?_⟩
  refine ⟨_, rfl, 1, n, rfl, rfl, ⟨by omega, by omega, by decide⟩, ?_⟩
  show Q (V.int (1 * 2 ^ (n : Int).toNat)) H
  rw [Int.one_mul, Int.toNat_natCast]
  exact q
/-! ### looks_between -/
def spLB : Sp := fun vs H Q _ => ∃ (n : Nat) (b g m : Int), vs = [.int n, .int b, .int g, .int m] ∧ 1 ≤ n ∧ n ≤ 64 ∧ lkN n m ≤ 1000 ∧
  ∀ p ys H', H p = none → H' p = some (.lst ys) → Fr [] H H' → Paired (OutAt H H') ys (lks n (b + g - m + mo n) (lkN n m)) → Q (.ref p) H'
theorem sc_lb : FnScope ["width", "begin", "gap", "many", "most", "found", "look", "number"] ["width", "begin", "gap", "many"] (defScope s_looks_between) := ⟨rfl, rfl, rfl, by decide +kernel, rfl, by decide +kernel, by decide +kernel⟩
theorem ok_lb (F : FunAt K mg "looks_between" s_looks_between) (G : NoGl mg) (C_power : Cal P w K mg base CX0 1 "power" ["number"] [] spPower) : Cal P w K mg base CX0 2 "looks_between" ["width", "begin", "gap", "many"] [] spLB := by
  refine Cal.mk0 F sc_lb (by rintro _ _ _ _ ⟨_, _, _, _, rfl, _⟩; rfl) (fun _ _ _ _ _ _ us hl => match us, hl with | [_, _, _, _], _ => rfl) ?_
  rintro f cdv A outer s H vs Q E hr ⟨n, b, g, m, rfl, n1, n64, hk, q⟩
  have nd := sc_lb.nd
  refine ⟨_, (pss_cons (ps_set (i := 4) nd rfl (.inl rfl) (pe_op op_sub (pe_c C_power (hr.mono (by decide)) (by rfl) pass0 (pa_cons (pv 0) pa_nil)) pe_int))
    (pss_cons (ps_set (i := 5) nd rfl (.inl rfl) (pe_lst pa_nil))
    (pss_cons (ps_set (i := 6) nd rfl (.inl rfl) (pe_op op_add (pe_op op_sub (pe_op op_add (pv 1) (pv 2)) (pv 3)) (pv 4)))
    (pss_cons (ps_for PassesOwn.never rfl (pi_range1 (by rfl) G.range (pa_cons (pe_callB (call_max2 rfl) (by rfl) G.max (by decide +kernel) (pa_cons pe_int (pa_cons (pe_op op_sub (pe_op op_fdivW (pe_op op_sub (pe_op op_add (pv 3) (pv 4)) pe_int) (pv 4)) pe_int) pa_nil))) pa_nil)) (pg_name (i := 7) nd rfl (.inl rfl))
      (pss_cons (ps_expr (pe_bm PySem.F.plainAttrs_list PySem.F.slot_list_append PySem.F.type_list_append mt_append (pv 5) (pa_cons (pe_tup (pa_cons pe_str (pa_cons (pv 6) pa_nil))) pa_nil)))
      (pss_one (ps_aug (i := 6) nd rfl (.inl rfl) (pv 4) ip_add))))
    (pss_one (ps_ret (pv 5))))))), ?_⟩
  have mp := mo_pos n1
  have ml := mo_lt n64
  refine ⟨_, rfl, n, rfl, n64, _, _, rfl, rfl, ?_⟩
  have emo : (2 : Int) ^ n - 1 = mo n := rfl
  refine ⟨(by show 0 ≤ sizeLine; decide), fun fo nfo => ?_⟩
  refine ⟨_, rfl, _, rfl, _, _, rfl, rfl, _, rfl, _, _, rfl, rfl, _, rfl, _, _, rfl, rfl, ?_⟩
  have fr0 := Fr.new (M := []) (o := .lst []) nfo
  have lg : (mo n).natAbs.log2 < 9000 := (Nat.log2_lt (by omega)).mpr (Nat.lt_of_lt_of_le (by omega : (mo n).natAbs < 2 ^ 64) (Nat.pow_le_pow_right (by decide) (by decide)))
  refine ⟨_, rfl, _, rfl, _, _, rfl, rfl, _, _, rfl, rfl, _, rfl, _, _, rfl, rfl, ⟨by show 0 < mo n; omega, lg⟩, _, _, rfl, rfl, _, _, rfl, lkN n m, ?_, by omega, by omega, ?_⟩
  · show [V.int (if (m + mo n - 1) / mo n - 1 > 0 then (m + mo n - 1) / mo n - 1 else 0)] = [V.int (lkN n m)]
    congr 2
    unfold lkN
    split <;> omega
  refine for_range (lo := 0) (n := lkN n m) (fun i σ H' => ∃ (s7 : Option V) (ys : List V), σ = [some (V.int n), some (V.int b), some (V.int g), some (V.int m), some (V.int (mo n)), some (V.ref fo), some (V.int (b + g - m + mo n + i * mo n)), s7] ∧
      H' fo = some (.lst ys) ∧ Fr [] H H' ∧ Paired (OutAt H (Hd [fo] H')) ys (lks n (b + g - m + mo n) i)) ⟨none, [], ?_, upd_same, fr0, .nil⟩ ?_ ?_
  · show _ = [some (V.int n), some (V.int b), some (V.int g), some (V.int m), some (V.int (mo n)), some (V.ref fo), some (V.int (b + g - m + mo n + (0 : Nat) * mo n)), none]
    rw [show b + g - m + mo n + ((0 : Nat) : Int) * mo n = b + g - m + mo n by simp]
    rfl
  · rintro i σ H' hi ⟨s7, ys, rfl, hf, fr, po⟩
    have ly := PySem.Paired.length po
    rw [lks_len] at ly
    refine ⟨_, rfl, .inl ⟨rfl, _, SqL.of hf⟩, _, rfl, (by show 2 ≤ sizeLine; decide), fun pt npt => ?_⟩
    have frt := Fr.new (M := []) (o := .tup [.str "look", .int (b + g - m + mo n + i * mo n)]) npt
    have ntf : pt ≠ fo := (ne_of_none hf npt).symm
    refine ⟨fo, ys, _, rfl, rfl, frt.same _ _ hf, (by rw [sizeLine_eq]; omega), _, rfl, _, rfl, _, _, rfl, rfl, ?_⟩
    have frS := frt.weak (p := fo) |>.trans (Fr.set (o := .lst (ys ++ [V.ref pt])) List.mem_cons_self)
    refine ⟨some (V.int (0 + (i : Int))), ys ++ [.ref pt], ?_, upd_same, Fr.drop ((fr.weak).trans frS) nfo, ?_⟩
    · show _ = [some (V.int n), some (V.int b), some (V.int g), some (V.int m), some (V.int (mo n)), some (V.ref fo), some (V.int (b + g - m + mo n + ((i + 1 : Nat) : Int) * mo n)), some (V.int (0 + (i : Int)))]
      rw [show b + g - m + mo n + ((i + 1 : Nat) : Int) * mo n = b + g - m + mo n + i * mo n + mo n by rw [Int.natCast_add, Int.add_mul]; simp [Int.add_assoc]]
      rfl
    · rw [lks_snoc]
      refine Paired.app (L2.Paired.mapP po fun x y c => c.same frS.hd) (.cons ⟨pt, rfl, fr.none npt, ?_⟩ .nil)
      rw [Hd_of (by simpa using ntf), upd_ne ntf, upd_same]
  · rintro σ H' ⟨s7, ys, rfl, hf, fr, po⟩
    exact ⟨_, rfl, q fo ys H' nfo hf fr (L2.Paired.mapP po fun x y c => c.same Hd_same)⟩
end
end Tk

set_option Elab.async false
set_option linter.all false
set_option maxRecDepth 100000
set_option maxHeartbeats 4000000
namespace Tk
open PySem PySem.Spec PyProof.Rows L2

/-! ### shortest -/
theorem lk_base {H Hg H1 : Hp} (fr : Fr [] H Hg) {w : Nat} : ∀ {n : Nat} {a : Int} {ys : List V}, Paired (OutAt Hg H1) ys (lks w a n) → Paired (OutAt H H1) ys (lks w a n)
  | 0, _, _, .nil => .nil
  | n + 1, a, _, .cons ⟨q, h1, h2, h3⟩ b => .cons ⟨q, h1, fr.none h2, h3⟩ (lk_base fr b)
theorem cpy_base {H Hg H1 : Hp} (fr : Fr [] H Hg) : ∀ {xs ys : List V}, Paired (Cpy Hg H1) xs ys → (∀ x, x ∈ xs → ∃ t, Kd H x t) → Paired (Cpy H H1) xs ys
  | _, _, .nil, _ => .nil
  | _, _, .cons a b, h => .cons (a.back fr (h _ List.mem_cons_self)) (cpy_base fr b fun x m => h x (List.mem_cons_of_mem _ m))
section
variable {P : Program} {w : World} {K : PySem.W.Frag} {mg : Str → Option Value} {base : Heap} {CW CC : Addr}
theorem ev_at {σ : L2.St} {i j : Nat} {x : V} {rr : Rw} {l : Int} {H : Hp} {Q : VK} (h3 : σ[i]? = some (some x)) (h5 : σ[j]? = some (some (.int l))) (ax : RwAt H x rr) (ci : rr.is "go" = false → rr.at = .int rr.c) (q : Q (.int (atR l rr)) H) :
    tIf (tTest (tOp rEq (tOp (rIxT K) (tVar i) (tC (.int 0))) (tC (.str "go")))) (tVar j) (tOp (rIxT K) (tVar i) (tC (.int 1))) σ H Q := by
  obtain ⟨p, e, st, i0, i1⟩ := row_ix (K := K) ax
  subst e
  refine ⟨_, h3, p, _, _, _, rfl, rfl, st, i0, rfl, _, rfl, ?_⟩
  rw [dec_str]
  cases hg : rr.is "go" with
  | true =>
    have e : decide (rr.name = "go") = true := hg
    have e2 : atR l rr = l := if_pos hg
    rw [e]
    rw [e2] at q
    exact ⟨_, h5, q⟩
  | false =>
    have e : decide (rr.name = "go") = false := hg
    have e2 : atR l rr = rr.c := if_neg (by rw [hg]; exact Bool.false_ne_true)
    rw [e]
    rw [e2] at q
    rw [ci hg] at i1
    exact ⟨_, h3, p, _, _, _, rfl, rfl, st, i1, q⟩
def okLg : Option (List Rw) → Bool
  | some rs => logOk rs
  | none => false
def spShort (CW CC : Addr) : Sp := fun vs H Q E => ∃ (x : V) (t : String) (y : V) (o : Option (List Rw)), vs = [x, y] ∧ Kd H x t ∧ LogRs H y o ∧ (okW x = false → ∀ H', Fr [] H H' → E (.ref CW) none H') ∧
  (okW x = true → (okLg o = false → ∀ H', Fr [] H H' → E (.ref CC) none H') ∧ ∀ (n : Nat) (rs : List Rw), x = .int n → o = some rs → logOk rs = true → rs.length ≤ 1000 ∧
    ∀ p ys H', H p = none → H' p = some (.lst ys) → Fr [] H H' → Paired (OutAt H H') ys (shortL n rs) → ys.length ≤ rs.length → Q (.ref p) H')
theorem sc_short : FnScope ["width", "log", "found", "row", "begin", "last", "many", "at"] ["width", "log"] (defScope s_shortest) := ⟨rfl, rfl, rfl, by decide +kernel, rfl, by decide +kernel, by decide +kernel⟩
theorem ok_short {ol : Addr} (F : FunAt K mg "shortest" s_shortest) (G : NoGl mg) (G_ONLY_LOOKS : mg "ONLY_LOOKS" = some (.ref ol)) (hol : ∀ H, SqT K H ol onlyV) (C_check_width : Cal P w K mg base (L2.CX P w) 2 "check_width" ["width"] [] (spWidth CW))
    (C_check_cycles : Cal P w K mg base (L2.CX P w) 4 "check_cycles" ["log"] [] (spCheckCycles CC)) (C_power : Cal P w K mg base CX0 1 "power" ["number"] [] spPower) (C_looks_between : Cal P w K mg base CX0 2 "looks_between" ["width", "begin", "gap", "many"] [] spLB)
    (C_copied : Cal P w K mg base CX0 1 "copied" ["row"] [] spCopied) : Cal P w K mg base (L2.CX P w) 5 "shortest" ["width", "log"] [] (spShort CW CC) := by
  refine Cal.mkX F sc_short (by rintro _ _ _ _ ⟨_, _, _, _, rfl, _⟩; rfl) (fun _ _ _ _ _ _ us hl => match us, hl with | [_, _], _ => rfl) ?_
  rintro f cdv A outer s H vs Q E hr ⟨x, t, y, o, rfl, kx, lr, qw, q⟩
  have nd := sc_short.nd
  refine ⟨_, (pss_cons (ps_expr (pe_c C_check_width (hr.mono (by decide)) (by rfl) (passes_call (takes_of rfl rfl rfl rfl) (fun _ _ _ _ h => h)) (pa_cons (pv 0) pa_nil)))
    (pss_cons (ps_expr (pe_c C_check_cycles (hr.mono (by decide)) (by rfl) (passes_call (takes_of rfl rfl rfl rfl) (fun _ _ _ _ h => h)) (pa_cons (pv 1) pa_nil)))
    (pss_cons (ps_set (i := 2) nd rfl (.inl rfl) (pe_lst pa_nil))
    (pss_cons (ps_asg (pe_tup (pa_cons pe_int (pa_cons pe_int (pa_cons pe_int pa_nil)))) (pg_tup rfl (pgs_cons (pg_name (i := 4) nd rfl (.inl rfl)) (pgs_cons (pg_name (i := 5) nd rfl (.inl rfl)) (pgs_cons (pg_name (i := 6) nd rfl (.inl rfl)) pgs_nil)))))
    (pss_cons (ps_for (passes_of rfl) rfl (pi_list (pv 1)) (pg_name (i := 3) nd rfl (.inl rfl))
      (pss_cons (ps_set (i := 7) nd rfl (.inl rfl) (pe_ifExp (pt_cmpR op_eq (pe_ix ix_tup (pv 3) pe_int (fun _ _ => rfl)) pe_str (nomark _)) (pv 5) (pe_ix ix_tup (pv 3) pe_int (fun _ _ => rfl))))
      (pss_cons (ps_aug (i := 6) nd rfl (.inl rfl) (pe_op op_mod (pe_op op_sub (pv 7) (pv 5)) (pe_c C_power (hr.mono (by decide)) (by rfl) pass0 (pa_cons (pv 0) pa_nil))) ip_add)
      (pss_cons (ps_set (i := 5) nd rfl (.inl rfl) (pv 7))
      (pss_one (ps_if (pt_cmpR op_notIn_seq (pe_ix ix_tup (pv 3) pe_int (fun _ _ => rfl)) (pe_glob (v := .ref ol) (by rfl) G_ONLY_LOOKS rfl) rfl)
        (pss_cons (ps_set (i := 2) nd rfl (.inl rfl) (pe_op op_cat (pe_op op_cat (pv 2) (pe_c C_looks_between (hr.mono (by decide)) (by rfl) pass0 (pa_cons (pv 0) (pa_cons (pv 4) (pa_cons (pe_op op_sub (pv 7) (pv 4)) (pa_cons (pv 6) pa_nil)))))) (pe_lst (pa_cons (pe_c C_copied (hr.mono (by decide)) (by rfl) pass0 (pa_cons (pv 3) pa_nil)) pa_nil))))
        (pss_one (ps_par (i := 4) (j := 6) (by rfl) nd rfl rfl (by decide) rfl rfl (pa_cons (pv 7) (pa_cons pe_int pa_nil)) (by rfl))))
        pss_nil))))))
    (pss_cons (ps_if (pt_cmpR op_gt (pv 5) (pv 4) (nomark _))
      (pss_one (ps_set (i := 2) nd rfl (.inl rfl) (pe_op op_cat (pe_op op_cat (pv 2) (pe_c C_looks_between (hr.mono (by decide)) (by rfl) pass0 (pa_cons (pv 0) (pa_cons (pv 4) (pa_cons (pe_op op_sub (pv 5) (pv 4)) (pa_cons (pv 6) pa_nil)))))) (pe_lst (pa_cons (pe_tup (pa_cons pe_str (pa_cons (pv 5) pa_nil))) pa_nil)))))
      pss_nil)
    (pss_one (ps_ret (pv 2))))))))), ?_⟩
  refine ⟨_, rfl, x, t, rfl, kx, fun h => qw h H (Fr.refl _ _), fun hw => ?_⟩
  obtain ⟨qc, q⟩ := q hw
  obtain ⟨n, rfl, n1, n64⟩ : ∃ n : Nat, x = .int n ∧ 1 ≤ n ∧ n ≤ 64 := by
    cases x with
    | int i =>
      have hw : (decide (1 ≤ i) && !decide (64 < i)) = true := hw
      rw [Bool.and_eq_true, decide_eq_true_eq, Bool.not_eq_true', decide_eq_false_iff_not] at hw
      exact ⟨i.toNat, by rw [Int.toNat_of_nonneg (by omega)], by omega, by omega⟩
    | _ => cases hw
  refine ⟨_, rfl, _, _, rfl, lr, fun H1 fr1 => ?_⟩
  cases lr with
  | bad h => exact qc rfl H1 fr1
  | @ok a xs rs e h z r =>
    subst e
    show if logOk rs = true then _ else _
    cases okl : logOk rs with
    | false => exact qc okl H1 fr1
    | true =>
      rw [if_pos rfl]
      obtain ⟨len, q⟩ := q n rs rfl rfl okl
      have lenx := PySem.Paired.length r
      have mp := mo_pos n1
      have pw : (0 : Int) < 2 ^ n := by have : mo n = 2 ^ n - 1 := rfl; omega
      refine ⟨(by show 0 ≤ sizeLine; decide), fun f0 nf0 => ?_⟩
      have fr2 := Fr.new (M := []) (o := .lst []) nf0
      have ci : ∀ rr, rr ∈ rs → rr.is "go" = false → rr.at = .int rr.c := fun rr m g => row_int okl m g
      -- begin, last, many = 0, 0, 0
      refine ⟨(by show 3 ≤ sizeLine; decide), fun pt npt => ⟨pt, [.int 0, .int 0, .int 0], rfl, SqT.of upd_same, rfl, _, _, rfl, _, _, rfl, _, _, rfl, rfl, ?_⟩⟩
      have frt := Fr.new (M := []) (o := .tup [V.int 0, V.int 0, V.int 0]) npt
      have fr02 := fr1.trans (fr2.trans frt)
      refine ⟨_, rfl, a, rfl, ⟨xs, SqL.of (fr02.same _ _ h)⟩, ?_⟩
      refine for_list (K := K) (a := a) (xs := xs) (fun i σ H' => ∃ (fo : Addr) (s3 s7 : Option V) (b l m : Int) (c : Nat) (ys : List V) (outs : List Out), σ = [some (V.int n), some (V.ref a), some (V.ref fo), s3, some (V.int b), some (V.int l), some (V.int m), s7] ∧
          H fo = none ∧ H' fo = some (.lst ys) ∧ Fr [] H H' ∧ Paired (OutAt H H') ys outs ∧ outs ++ shortGo n b l m (rs.drop i) = shortL n rs ∧ m ≤ c * mo n ∧ ys.length + c ≤ i ∧ (b < l → 1 ≤ c))
        ⟨f0, _, _, 0, 0, 0, 0, [], [], rfl, fr1.none nf0, frt.same _ _ upd_same, fr02, .nil, rfl, by simp, by simp, fun z => absurd z (by decide)⟩ ?_ ?_ ?_
      · rintro i σ H' _ ⟨_, _, _, _, _, _, _, _, _, _, _, _, fr, _⟩
        exact fr.same.seq (SqL.of h)
      · rintro i x σ H' hx ⟨fo, s3, s7, b, l, m, c, ys, outs, rfl, nfo, hF, fr, po, eq, hm, hc, hbl⟩
        obtain ⟨rr, hrr, ax⟩ := Paired.get r hx
        have hi : i < rs.length := (List.getElem?_eq_some_iff.mp hrr).1
        have ed : rs.drop i = rr :: rs.drop (i + 1) := by
          rw [List.drop_eq_getElem_cons hi, (List.getElem?_eq_some_iff.mp hrr).2]
        rw [ed] at eq
        have mrr : rr ∈ rs := List.mem_of_getElem? hrr
        have ax' := ax.same fr.same
        dsimp only [L2.gName, L2.tSeq, L2.tAsg]
        refine ev_at (K := K) (i := 3) (j := 5) (x := x) (l := l) (rr := rr) rfl rfl ax' (ci rr mrr) ?_
        obtain ⟨pr, e, st, i0, i1⟩ := row_ix (K := K) ax'
        subst e
        generalize hat : atR l rr = at_ at *
        have md0 : 0 ≤ (at_ - l) % 2 ^ n := Int.emod_nonneg _ (by omega)
        have md1 : (at_ - l) % 2 ^ n ≤ mo n := by
          have := Int.emod_lt_of_pos (at_ - l) pw
          have e : mo n = 2 ^ n - 1 := rfl
          omega
        refine ⟨_, rfl, _, rfl, _, rfl, _, _, rfl, rfl, _, rfl, n, rfl, n64, _, _, rfl, rfl, pw, _, _, rfl, rfl, ?_⟩
        refine ⟨_, rfl, ?_⟩
        have hm' : m + (at_ - l) % 2 ^ n ≤ ((c + 1 : Nat) : Int) * mo n := by
          rw [Int.natCast_add, Int.add_mul]; simp; omega
        refine ⟨_, rfl, pr, _, _, _, rfl, rfl, st, i0, ol, onlyV, rfl, .inr (hol _), rfl, rfl, _, rfl, ?_⟩
        cases ho : inV (V.str rr.name) onlyV with
        | true =>
          have ho' : rr.only = true := ho
          have eq : outs ++ shortGo n b at_ (m + (at_ - l) % 2 ^ n) (rs.drop (i + 1)) = shortL n rs := by
            rw [← eq]
            show _ = outs ++ if rr.only = true then shortGo n b (atR l rr) (m + (atR l rr - l) % 2 ^ n) (rs.drop (i + 1)) else _
            rw [if_pos ho', hat]
          exact ⟨fo, _, _, b, at_, _, c + 1, ys, outs, rfl, nfo, hF, fr, po, eq, hm', by omega, fun _ => by omega⟩
        | false =>
          have ho' : rr.only = false := ho
          have eq : outs ++ (lks n (at_ - (m + (at_ - l) % 2 ^ n) + mo n) (lkN n (m + (at_ - l) % 2 ^ n)) ++ .row rr :: shortGo n at_ at_ 0 (rs.drop (i + 1))) = shortL n rs := by
            rw [← eq]
            show _ = outs ++ if rr.only = true then _ else (lks n (atR l rr - (m + (atR l rr - l) % 2 ^ n) + mo n) (lkN n (m + (atR l rr - l) % 2 ^ n)) ++ .row rr :: shortGo n (atR l rr) (atR l rr) 0 (rs.drop (i + 1)))
            rw [if_neg (by rw [ho']; exact Bool.false_ne_true), hat]
          have hk := lkN_le n1 hm'
          dsimp only
          generalize hmm : m + (at_ - l) % 2 ^ n = m' at *
          refine ⟨_, rfl, _, rfl, _, rfl, _, rfl, _, rfl, _, _, rfl, rfl, _, rfl, n, b, at_ - b, m', rfl, n1, n64, (by omega), fun p1 y1 H1 np1 hp1 fr1 po1 => ?_⟩
          rw [show b + (at_ - b) - m' + mo n = at_ - m' + mo n by omega] at po1
          have ly1 := PySem.Paired.length po1
          rw [lks_len] at ly1
          refine ⟨fo, p1, ys, y1, rfl, rfl, fr1.same _ _ hF, hp1, (by rw [sizeLine_eq]; omega), fun p2 np2 => ?_⟩
          have fr2 := Fr.new (M := []) (o := .lst (ys ++ y1)) np2
          obtain ⟨pr', e', tr⟩ := ax.tup
          cases e'
          have fr12 := fr1.trans fr2
          have frH2 := fr.trans fr12
          have zr : rr.vs.length < sizeLine := by
            obtain ⟨y0, l0, e0, _, h5⟩ := ax.args
            show rr.args.length + 1 < sizeLine
            rw [e0, sizeLine_eq, List.length_cons]; omega
          have kds : ∀ y, y ∈ rr.vs → ∃ t, Kd H y t := fun y hy => by
            rcases List.mem_cons.mp hy with rfl | hm
            · exact ⟨_, .str _⟩
            · exact ax.kd y hm
          refine ⟨_, rfl, pr, rr.vs, rfl, frH2.same _ _ tr, zr, fun y hy => let ⟨t, k⟩ := kds y hy; ⟨t, k.same frH2.same⟩, fun q0 vs0 H3 nq hq3 fr3 cp => ?_⟩
          refine ⟨(by show 1 ≤ sizeLine; decide), fun p4 np4 => ?_⟩
          have fr4 := Fr.new (M := []) (o := .lst [V.ref q0]) np4
          have fr34 := fr3.trans fr4
          refine ⟨p2, p4, _, _, rfl, rfl, fr34.same _ _ upd_same, upd_same, (by rw [List.length_append, sizeLine_eq]; show _ + 1 ≤ _; omega), fun p5 np5 => ?_⟩
          have fr5 := Fr.new (M := []) (o := .lst (ys ++ y1 ++ [V.ref q0])) np5
          have fr35 := fr34.trans fr5
          have fr15 := fr12.trans fr35
          refine ⟨_, rfl, _, _, rfl, ?_⟩
          refine ⟨p5, _, _, at_, at_, 0, 0, ys ++ y1 ++ [V.ref q0], outs ++ lks n (at_ - m' + mo n) (lkN n m') ++ [.row rr], rfl, (frH2.trans fr34).none np5, upd_same, fr.trans fr15, ?_, ?_, by simp, by rw [List.length_append, List.length_append, List.length_singleton]; omega, fun z => absurd z (Int.lt_irrefl _)⟩
          · refine Paired.app (Paired.app (L2.Paired.mapP po fun x y c => c.same fr15.same) (L2.Paired.mapP (lk_base fr po1) fun x y c => c.same (fr2.trans fr35).same)) (.cons ⟨q0, vs0, rfl, frH2.none nq, (fr4.trans fr5).same _ _ hq3, ?_⟩ .nil)
            exact L2.Paired.mapP (cpy_base frH2 cp kds) fun x y c => c.same (fr4.trans fr5).same
          · rw [← eq]; simp
      · rintro σ H' ⟨fo, s3, s7, b, l, m, c, ys, outs, rfl, nfo, hF, fr, po, eq, hm, hc, hbl⟩
        rw [lenx, List.drop_length] at eq
        refine ⟨_, rfl, _, rfl, _, _, rfl, rfl, _, rfl, ?_⟩
        refine ite2 (fun hlt => ?_) (fun hlt => ?_)
        · have hlt : b < l := of_decide_eq_true hlt
          have eq : outs ++ (lks n (l - m + mo n) (lkN n m) ++ [.look l]) = shortL n rs := by
            rw [← eq]
            show _ = outs ++ if b < l then _ else _
            rw [if_pos hlt]
          have hc1 := hbl hlt
          obtain ⟨c, rfl⟩ : ∃ c', c = c' + 1 := ⟨c - 1, by omega⟩
          have hk := lkN_le n1 hm
          refine ⟨_, rfl, _, rfl, _, rfl, _, rfl, _, rfl, _, _, rfl, rfl, _, rfl, n, b, l - b, m, rfl, n1, n64, (by omega), fun p1 y1 H1 np1 hp1 fr1 po1 => ?_⟩
          rw [show b + (l - b) - m + mo n = l - m + mo n by omega] at po1
          have ly1 := PySem.Paired.length po1
          rw [lks_len] at ly1
          refine ⟨fo, p1, ys, y1, rfl, rfl, fr1.same _ _ hF, hp1, (by rw [sizeLine_eq]; omega), fun p2 np2 => ?_⟩
          have fr2 := Fr.new (M := []) (o := .lst (ys ++ y1)) np2
          refine ⟨_, rfl, (by show 2 ≤ sizeLine; decide), fun q0 nq => ?_⟩
          have fr3 := Fr.new (M := []) (o := .tup [V.str "look", V.int l]) nq
          refine ⟨(by show 1 ≤ sizeLine; decide), fun p4 np4 => ?_⟩
          have fr4 := Fr.new (M := []) (o := .lst [V.ref q0]) np4
          have fr34 := fr3.trans fr4
          refine ⟨p2, p4, _, _, rfl, rfl, fr34.same _ _ upd_same, upd_same, (by rw [List.length_append, sizeLine_eq]; show _ + 1 ≤ _; omega), fun p5 np5 => ?_⟩
          have fr5 := Fr.new (M := []) (o := .lst (ys ++ y1 ++ [V.ref q0])) np5
          have fr45 := fr4.trans fr5
          have fr25 := fr2.trans (fr3.trans fr45)
          have fr15 := fr1.trans fr25
          refine ⟨_, rfl, q p5 _ _ ((fr.trans (fr1.trans (fr2.trans fr34))).none np5) upd_same (fr.trans fr15) ?_ (by rw [List.length_append, List.length_append, List.length_singleton]; omega)⟩
          rw [← eq, ← List.append_assoc]
          exact Paired.app (Paired.app (L2.Paired.mapP po fun x y c => c.same fr15.same) (L2.Paired.mapP (lk_base fr po1) fun x y c => c.same fr25.same)) (.cons ⟨q0, rfl, (fr.trans (fr1.trans fr2)).none nq, fr45.same _ _ upd_same⟩ .nil)
        · have hlt : ¬ b < l := fun z => hlt (decide_eq_true z)
          have eq : outs = shortL n rs := by
            rw [← eq]
            show outs = outs ++ if b < l then _ else []
            rw [if_neg hlt, List.append_nil]
          rw [← eq] at q
          exact ⟨_, rfl, q fo ys H' nfo hF fr po (by omega)⟩
end
end Tk

set_option Elab.async false
set_option linter.all false
set_option maxRecDepth 100000
set_option maxHeartbeats 4000000
namespace Tk
open PySem PySem.Spec PyProof.Rows L2

/-! ### zip of two lists in a comprehension: a test, and an element that may be new -/
inductive MadeZ (p : V → V → Bool) (R : V → V → V → Hp → Prop) (H : Hp) : List (V × V) → List V → Prop where
  | nil : MadeZ p R H [] []
  | take {x y z : V} {qs : List (V × V)} {zs : List V} : p x y = true → R x y z H → MadeZ p R H qs zs → MadeZ p R H ((x, y) :: qs) (z :: zs)
  | skip {x y : V} {qs : List (V × V)} {zs : List V} : p x y = false → MadeZ p R H qs zs → MadeZ p R H ((x, y) :: qs) zs
section
variable {p : V → V → Bool} {R : V → V → V → Hp → Prop} {H H' : Hp}
theorem MadeZ.same (mono : ∀ x y z H H', Same H H' → R x y z H → R x y z H') (e : Same H H') : ∀ {qs : List (V × V)} {zs : List V}, MadeZ p R H qs zs → MadeZ p R H' qs zs
  | _, _, .nil => .nil
  | _, _, .take a b c => .take a (mono _ _ _ _ _ e b) (MadeZ.same mono e c)
  | _, _, .skip a c => .skip a (MadeZ.same mono e c)
theorem MadeZ.snoc {x y z : V} (hp : p x y = true) (r : R x y z H) : ∀ {qs : List (V × V)} {zs : List V}, MadeZ p R H qs zs → MadeZ p R H (qs ++ [(x, y)]) (zs ++ [z])
  | _, _, .nil => .take hp r .nil
  | _, _, .take a b c => .take a b (MadeZ.snoc hp r c)
  | _, _, .skip a c => .skip a (MadeZ.snoc hp r c)
theorem MadeZ.out {x y : V} (hp : p x y = false) : ∀ {qs : List (V × V)} {zs : List V}, MadeZ p R H qs zs → MadeZ p R H (qs ++ [(x, y)]) zs
  | _, _, .nil => .skip hp .nil
  | _, _, .take a b c => .take a b (MadeZ.out hp c)
  | _, _, .skip a c => .skip a (MadeZ.out hp c)
theorem MadeZ.len : ∀ {qs : List (V × V)} {zs : List V}, MadeZ p R H qs zs → zs.length ≤ qs.length
  | _, _, .nil => Nat.le_refl _
  | _, _, .take a b c => Nat.succ_le_succ (MadeZ.len c)
  | _, _, .skip a c => Nat.le_succ_of_le (MadeZ.len c)
/-- by two lists that say what the pairs are -/
theorem MadeZ.paired {α β : Type} {F : V → α → Prop} {G : V → β → Prop} {U : V → α × β → Prop} {pr : α → β → Bool} (hp : ∀ x y a b, F x a → G y b → p x y = pr a b) (hR : ∀ x y z a b, F x a → G y b → R x y z H → U z (a, b)) :
    ∀ {xs ys zs : List V} {as : List α} {bs : List β}, Paired F xs as → Paired G ys bs → MadeZ p R H (xs.zip ys) zs → Paired U zs ((as.zip bs).filter fun q => pr q.1 q.2)
  | [], _, _, _, _, .nil, _, .nil => .nil
  | _ :: _, [], _, _, _, .cons _ _, .nil, .nil => .nil
  | x :: xs, y :: ys, _, a :: as, b :: bs, .cons f fs, .cons g gs, m => by
    have e := hp x y a b f g
    rw [List.zip_cons_cons] at m ⊢
    cases m with
    | take h r m => rw [List.filter_cons_of_pos (by rw [← e]; exact h)]; exact .cons (hR _ _ _ _ _ f g r) (MadeZ.paired hp hR fs gs m)
    | skip h m => rw [List.filter_cons_of_neg (by rw [← e, h]; exact Bool.false_ne_true)]; exact MadeZ.paired hp hR fs gs m
end
section
variable {K : PySem.W.Frag} {a b : Addr} {xs ys : List V} {tt : TT} {te : TE} {vs : List Nat} {σ : L2.St} {H1 : Hp} {D : Addr} {i1 i2 : Nat} {Qd : Hp → Prop}
theorem lc_zipR (p : V → V → Bool) (R : V → V → V → Hp → Prop) (mono : ∀ x y z H H', Same H H' → R x y z H → R x y z H') (nD : H1 D = none) (hl : xs.length < sizeLine) (sx : SqL K H1 a xs) (sy : SqL K H1 b ys)
    (hw : ∀ x y, wipe (((wipe σ vs).set i1 (some x)).set i2 (some y)) vs = wipe σ vs)
    (ht : ∀ x y H Q', (x, y) ∈ xs.zip ys → Fr [] H1 H → (∃ acc, H D = some (.lst acc)) → (∀ H', Fr [] H H' → Q' (p x y) H') → tt (((wipe σ vs).set i1 (some x)).set i2 (some y)) H Q')
    (he : ∀ x y H Q', (x, y) ∈ xs.zip ys → p x y = true → Fr [] H1 H → (∃ acc, H D = some (.lst acc)) → (∀ z H', Fr [] H H' → R x y z (Hd [D] H') → Q' z H') → te (((wipe σ vs).set i1 (some x)).set i2 (some y)) H Q')
    (hd : ∀ H zs, H D = some (.lst zs) → Fr [] H1 H → MadeZ p R (Hd [D] H) (xs.zip ys) zs → Qd H) :
    ∃ W : Nat → Nat → Hp → Prop, (∃ m, W 0 m (upd H1 D (.lst []))) ∧ ∀ i m H, W i m H →
      ((Itz K a b).stop i H ∧ Qd H) ∨ ((Itz K a b).go i H ∧ ∃ Nx : Hp → Prop, (∀ H', Nx H' → ∃ m', m' < m ∧ W (i + 1) m' H') ∧ ∀ x H', (Itz K a b).yld i H x H' → LcTurn (gTup K 2 (gCons (gName i1) (gCons (gName i2) gNil))) tt te vs σ D H' x Nx) := by
  let Pv : Nat → Hp → Prop := fun i H => ∃ zs, H D = some (.lst zs) ∧ Fr [] H1 H ∧ MadeZ p R (Hd [D] H) ((xs.zip ys).take i) zs
  refine ⟨fun i m H => m = (xs.zip ys).length - i ∧ i ≤ (xs.zip ys).length ∧ Pv i H, ⟨_, rfl, Nat.zero_le _, [], upd_same, Fr.new nD, by rw [List.take_zero]; exact .nil⟩, ?_⟩
  rintro i m H ⟨rfl, hi, zs, hD, fr, md⟩
  have qx := fr.same.seq sx
  have qy := fr.same.seq sy
  rw [List.length_zip] at hi ⊢
  by_cases hlt : i < xs.length ∧ i < ys.length
  · have hx : xs[i]? = some xs[i] := List.getElem?_eq_getElem hlt.1
    have hy : ys[i]? = some ys[i] := List.getElem?_eq_getElem hlt.2
    refine .inr ⟨⟨xs, ys, _, _, qx, qy, hx, hy⟩, Pv (i + 1), fun H' p' => ⟨min xs.length ys.length - (i + 1), by omega, rfl, by omega, p'⟩, fun v H' yl => ?_⟩
    obtain ⟨T, x', y', rfl, hT, rfl, f1, f2⟩ := yl
    have ex := f1 xs qx
    have ey := f2 ys qy
    have hm := List.mem_of_getElem? (zip_get ex ey)
    refine ⟨T, [x', y'], rfl, SqT.of upd_same, rfl, x', [y'], rfl, y', [], rfl, rfl, hw x' y', ?_⟩
    have fr1 : Fr [] H (upd H T (.tup [x', y'])) := Fr.new hT
    have hD1 := fr1.same _ _ hD
    refine ht x' y' _ _ hm (fr.trans fr1) ⟨_, hD1⟩ fun H2 fr2 => ?_
    have hD2 := fr2.same _ _ hD1
    have md2 := MadeZ.same mono ((fr1.trans fr2).hdIn (N := [D]) (fun _ z => nomatch z)) md
    by_cases hp : p x' y' = true
    · rw [if_pos hp]
      refine he x' y' H2 _ hm hp (fr.trans (fr1.trans fr2)) ⟨_, hD2⟩ fun z H4 fr4 r => ?_
      have hD4 := fr4.same _ _ hD2
      have hz : zs.length < sizeLine := by
        have h1 := md.len
        rw [List.length_take, List.length_zip] at h1
        omega
      have fr5 : Fr [D] H4 (upd H4 D (.lst (zs ++ [z]))) := Fr.set (List.mem_singleton.mpr rfl)
      refine ⟨zs, hD4, hz, zs ++ [z], upd_same, Fr.drop (((fr.trans (fr1.trans (fr2.trans fr4))).weak).trans fr5) nD, ?_⟩
      rw [zip_take_snoc ex ey]
      exact MadeZ.snoc hp (mono _ _ _ _ _ fr5.hd r) (MadeZ.same mono ((fr4.hdIn (N := [D]) (fun _ z => nomatch z)).trans fr5.hd) md2)
    · have hp' : p x' y' = false := by simpa using hp
      rw [if_neg hp]
      refine ⟨zs, hD2, fr.trans (fr1.trans fr2), ?_⟩
      rw [zip_take_snoc ex ey]
      exact MadeZ.out hp' md2
  · refine .inl ⟨⟨xs, ys, qx, qy, by omega⟩, hd H zs hD fr ?_⟩
    have e : i = (xs.zip ys).length := by rw [List.length_zip]; omega
    rw [e, List.take_length] at md
    exact md
end
end Tk

set_option Elab.async false
set_option linter.all false
set_option maxRecDepth 100000
set_option maxHeartbeats 4000000
namespace Tk
open PySem PySem.Spec PyProof.Rows L2

/-! ### the law's counts, row by row -/
def foundR (w : Nat) : Int → Int → List Rw → List (Int × Int)
  | _, _, [] => []
  | l, m, r :: rs => (atR l r, m + (atR l r - l) % 2 ^ w) :: foundR w (atR l r) (m + (atR l r - l) % 2 ^ w) rs
def PlAt (H : Hp) (y : V) (q : Int × Int) : Prop := ∃ a, y = .ref a ∧ H a = some (.tup [.int q.1, .int q.2])
theorem PlAt.same {H H' : Hp} {y : V} {q : Int × Int} (e : Same H H') (a : PlAt H y q) : PlAt H' y q := by
  obtain ⟨p, h1, h2⟩ := a
  exact ⟨p, h1, e _ _ h2⟩
theorem foundR_len (w : Nat) : ∀ (rs : List Rw) (l m : Int), (foundR w l m rs).length = rs.length
  | [], _, _ => rfl
  | r :: rs, l, m => by
    show (foundR w _ _ rs).length + 1 = _
    rw [foundR_len w rs]; rfl
section
variable {P : Program} {w : World} {K : PySem.W.Frag} {mg : Str → Option Value} {base : Heap}
def spFound : Sp := fun vs H Q _ => ∃ (n : Nat) (p : Addr) (xs : List V) (rs : List Rw), vs = [.int n, .ref p] ∧ n ≤ 64 ∧ H p = some (.lst xs) ∧ Paired (RwAt H) xs rs ∧ (∀ r, r ∈ rs → r.is "go" = false → r.at = .int r.c) ∧ rs.length ≤ 1000 ∧
  ∀ q ys H', H q = none → H' q = some (.lst ys) → Fr [] H H' → Paired (PlAt H') ys (foundR n 0 0 rs) → Q (.ref q) H'
theorem sc_found : FnScope ["width", "rows", "row", "found", "last", "many", "at"] ["width", "rows"] (defScope s__law_found) := ⟨rfl, rfl, rfl, by decide +kernel, rfl, by decide +kernel, by decide +kernel⟩
theorem ok_found (F : FunAt K mg "_law_found" s__law_found) (G : NoGl mg) : Cal P w K mg base CX0 1 "_law_found" ["width", "rows"] [] spFound := by
  refine Cal.mk0 F sc_found (by rintro _ _ _ _ ⟨_, _, _, _, rfl, _⟩; rfl) (fun _ _ _ _ _ _ us hl => match us, hl with | [_, _], _ => rfl) ?_
  rintro f cdv A outer s H vs Q E hr ⟨n, a, xs, rs, rfl, n64, h, r, ci, len, q⟩
  have nd := sc_found.nd
  refine ⟨_, (pss_cons (ps_par3 (i := 3) (j := 4) (l := 5) (by rfl) nd rfl rfl rfl (by decide) (by decide) (by decide) rfl rfl rfl (pa_cons (pe_lst pa_nil) (pa_cons pe_int (pa_cons pe_int pa_nil))) (by rfl))
    (pss_cons (ps_for PassesOwn.never rfl (pi_list (pv 1)) (pg_name (i := 2) nd rfl (.inl rfl))
      (pss_cons (ps_set (i := 6) nd rfl (.inl rfl) (pe_ifExp (pt_cmpR op_eq (pe_ix ix_tup (pv 2) pe_int (fun _ _ => rfl)) pe_str (nomark _)) (pv 4) (pe_ix ix_tup (pv 2) pe_int (fun _ _ => rfl))))
      (pss_cons (ps_set (i := 5) nd rfl (.inl rfl) (pe_op op_add (pv 5) (pe_op op_mod (pe_callTy (T := "int") call_int1 (by rfl) G.int (by decide +kernel) (pa_cons (pe_op op_sub (pv 6) (pv 4)) pa_nil)) (pe_op op_shl pe_int (pv 0)))))
      (pss_cons (ps_set (i := 4) nd rfl (.inl rfl) (pv 6))
      (pss_one (ps_expr (pe_bm PySem.F.plainAttrs_list PySem.F.slot_list_append PySem.F.type_list_append mt_append (pv 3) (pa_cons (pe_tup (pa_cons (pv 6) (pa_cons (pv 5) pa_nil))) pa_nil))))))))
    (pss_one (ps_ret (pv 3))))), ?_⟩
  have lenx := PySem.Paired.length r
  have pw : (0 : Int) < 2 ^ n := by have : (0 : Nat) < 2 ^ n := Nat.two_pow_pos n; exact_mod_cast this
  refine ⟨(by show 0 ≤ sizeLine; decide), fun fo nfo => ⟨_, _, _, rfl, ?_⟩⟩
  have fr0 := Fr.new (M := []) (o := .lst []) nfo
  refine ⟨_, rfl, a, rfl, ⟨xs, SqL.of (fr0.same _ _ h)⟩, ?_⟩
  refine for_list (K := K) (a := a) (xs := xs) (fun i σ H' => ∃ (s2 s6 : Option V) (l m : Int) (ys : List V) (ps : List (Int × Int)), σ = [some (V.int n), some (V.ref a), s2, some (V.ref fo), some (V.int l), some (V.int m), s6] ∧
      H' fo = some (.lst ys) ∧ Fr [] H H' ∧ Paired (PlAt (Hd [fo] H')) ys ps ∧ ps ++ foundR n l m (rs.drop i) = foundR n 0 0 rs ∧ ys.length ≤ i)
    ⟨_, _, 0, 0, [], [], rfl, upd_same, fr0, .nil, rfl, Nat.le_refl _⟩ ?_ ?_ ?_
  · rintro i σ H' _ ⟨_, _, _, _, _, _, _, _, fr, _⟩
    exact fr.same.seq (SqL.of h)
  · rintro i x σ H' hx ⟨s2, s6, l, m, ys, ps, rfl, hF, fr, po, eq, hn⟩
    obtain ⟨rr, hrr, ax⟩ := Paired.get r hx
    have hi : i < rs.length := (List.getElem?_eq_some_iff.mp hrr).1
    have ed : rs.drop i = rr :: rs.drop (i + 1) := by
      rw [List.drop_eq_getElem_cons hi, (List.getElem?_eq_some_iff.mp hrr).2]
    rw [ed] at eq
    have mrr : rr ∈ rs := List.mem_of_getElem? hrr
    dsimp only [L2.gName, L2.tSeq, L2.tAsg]
    refine ev_at (K := K) (i := 2) (j := 4) (x := x) (l := l) (rr := rr) rfl rfl (ax.same fr.same) (ci rr mrr) ?_
    have eq : ps ++ ((atR l rr, m + (atR l rr - l) % 2 ^ n) :: foundR n (atR l rr) (m + (atR l rr - l) % 2 ^ n) (rs.drop (i + 1))) = foundR n 0 0 rs := eq
    have es : (1 : Int) * 2 ^ ((n : Int).toNat) = 2 ^ n := by rw [Int.one_mul, Int.toNat_natCast]
    refine ⟨_, rfl, _, rfl, _, rfl, _, _, rfl, rfl, .inl ⟨_, rfl, _, rfl, 1, n, rfl, rfl, ⟨by omega, by omega, by decide⟩, _, _, rfl, rfl, (by show (0 : Int) < 1 * 2 ^ ((n : Int).toNat); rw [es]; exact pw), _, _, rfl, rfl, ?_⟩⟩
    dsimp only
    rw [es]
    generalize atR l rr = at_ at *
    generalize m + (at_ - l) % 2 ^ n = m' at *
    refine ⟨_, rfl, ?_⟩
    refine ⟨_, rfl, .inl ⟨rfl, _, SqL.of hF⟩, _, rfl, _, rfl, (by show 2 ≤ sizeLine; decide), fun pt npt => ?_⟩
    have frt := Fr.new (M := []) (o := .tup [V.int at_, V.int m']) npt
    have ntf : pt ≠ fo := (ne_of_none hF npt).symm
    have frS := frt.weak (p := fo) |>.trans (Fr.set (o := .lst (ys ++ [V.ref pt])) List.mem_cons_self)
    refine ⟨fo, ys, _, rfl, rfl, frt.same _ _ hF, (by rw [sizeLine_eq]; omega), _, _, at_, m', ys ++ [.ref pt], ps ++ [(at_, m')], rfl, upd_same, Fr.drop ((fr.weak).trans frS) nfo, ?_, by rw [← eq]; simp, by rw [List.length_append, List.length_singleton]; omega⟩
    refine Paired.app (L2.Paired.mapP po fun x y c => c.same frS.hd) (.cons ⟨pt, rfl, ?_⟩ .nil)
    rw [Hd_of (by simpa using ntf), upd_ne ntf, upd_same]
  · rintro σ H' ⟨s2, s6, l, m, ys, ps, rfl, hF, fr, po, eq, hn⟩
    rw [lenx, List.drop_length] at eq
    have eq : ps = foundR n 0 0 rs := by rw [← eq]; exact (List.append_nil _).symm
    rw [← eq] at q
    exact ⟨_, rfl, q fo ys H' nfo hF fr (L2.Paired.mapP po fun x y c => c.same Hd_same)⟩
/-! ### _law_changes -/
def spChanges : Sp := fun vs H Q _ => ∃ (x : V) (r : Rw), vs = [x] ∧ RwAt H x r ∧ ∀ H', Fr [] H H' → Q (.bl (!r.only)) H'
theorem sc_changes : FnScope ["row"] ["row"] (defScope s__law_changes) := ⟨rfl, rfl, rfl, by decide +kernel, rfl, by decide +kernel, by decide +kernel⟩
theorem ok_changes (F : FunAt K mg "_law_changes" s__law_changes) : Cal P w K mg base CX0 1 "_law_changes" ["row"] [] spChanges := by
  refine Cal.mk0 F sc_changes (by rintro _ _ _ _ ⟨_, _, rfl, _⟩; rfl) (fun _ _ _ _ _ _ us hl => match us, hl with | [_], _ => rfl) ?_
  rintro f cdv A outer s H vs Q E hr ⟨x, r, rfl, ax, q⟩
  refine ⟨_, (pss_one (ps_ret (pe_cmpR op_notIn_seq (pe_ix ix_tup (pv 0) pe_int (fun _ _ => rfl)) (pe_tup (pa_cons pe_str (pa_cons pe_str (pa_cons pe_str (pa_cons pe_str (pa_cons pe_str (pa_cons pe_str pa_nil))))))) rfl))), ?_⟩
  obtain ⟨pr, e, st, i0, i1⟩ := row_ix (K := K) ax
  subst e
  exact ⟨_, rfl, pr, _, _, _, rfl, rfl, st, i0, (by show 6 ≤ sizeLine; decide), fun pt npt => ⟨pt, onlyV, rfl, .inr (SqT.of upd_same), rfl, rfl, q _ (Fr.new npt)⟩⟩
/-! ### _law_between -/
def btN (w : Nat) (m : Int) : Nat := lkN w m
def spBetween : Sp := fun vs H Q _ => ∃ (n : Nat) (y z : V) (b c p m : Int), vs = [.int n, y, z] ∧ 1 ≤ n ∧ n ≤ 64 ∧ PlAt H y (b, c) ∧ PlAt H z (p, m) ∧ lkN n (m - c) ≤ 1000 ∧
  ∀ q ys H', H q = none → H' q = some (.lst ys) → Fr [] H H' → Paired (OutAt H H') ys (lks n (p - (m - c) + mo n) (lkN n (m - c))) → Q (.ref q) H'
theorem sc_between : FnScope ["width", "begin", "place", "turns", "at", "turn", "most", "found", "left"] ["width", "begin", "place"] (defScope s__law_between) := ⟨rfl, rfl, rfl, by decide +kernel, rfl, by decide +kernel, by decide +kernel⟩
theorem lkN_turns {n : Nat} (h : 1 ≤ n) {m : Int} {t : Nat} (h1 : ¬ m > (t + 1) * mo n) (h2 : t = 0 ∨ m > t * mo n) : t = lkN n m := by
  have p := mo_pos h
  have le : lkN n m ≤ t := lkN_le h (by simpa using Int.not_lt.mp h1)
  rcases h2 with rfl | h2
  · omega
  · have ge : (t : Int) + 1 ≤ (m + mo n - 1) / mo n := by
      refine (Int.le_ediv_iff_mul_le (by omega)).mpr ?_
      rw [Int.add_mul, Int.one_mul]; omega
    unfold lkN at le ⊢
    omega
theorem lks_rev (w : Nat) : ∀ (n : Nat) (a : Int), lks w (a - n * mo w) (n + 1) = lks w (a - n * mo w) n ++ [.look a] := fun n a => by
  rw [lks_snoc]
  congr 3
  omega
theorem ok_between (F : FunAt K mg "_law_between" s__law_between) (G : NoGl mg) : Cal P w K mg base CX0 1 "_law_between" ["width", "begin", "place"] [] spBetween := by
  refine Cal.mk0 F sc_between (by rintro _ _ _ _ ⟨_, _, _, _, _, _, _, rfl, _⟩; rfl) (fun _ _ _ _ _ _ us hl => match us, hl with | [_, _, _], _ => rfl) ?_
  rintro f cdv A outer s H vs Q E hr ⟨n, y, z, b, c, p, m, rfl, n1, n64, ⟨pb, rfl, hb⟩, ⟨pz, rfl, hz⟩, hk, q⟩
  have nd := sc_between.nd
  refine ⟨_, (pss_cons (ps_par (i := 6) (j := 7) (by rfl) nd rfl rfl (by decide) rfl rfl (pa_cons (pe_op op_sub (pe_op op_shl pe_int (pv 0)) pe_int) (pa_cons (pe_lst pa_nil) pa_nil)) (by rfl))
    (pss_cons (ps_par (i := 4) (j := 8) (by rfl) nd rfl rfl (by decide) rfl rfl (pa_cons (pe_ix ix_tup (pv 2) pe_int (fun _ _ => rfl)) (pa_cons (pe_op op_sub (pe_ix ix_tup (pv 2) pe_int (fun _ _ => rfl)) (pe_ix ix_tup (pv 1) pe_int (fun _ _ => rfl))) pa_nil)) (by rfl))
    (pss_cons (ps_set (i := 3) nd rfl (.inl rfl) pe_int)
    (pss_cons (ps_while PassesOwn.never (pt_cmpR op_gt (pv 8) (pe_op op_mul (pe_op op_add (pv 3) pe_int) (pv 6)) (nomark _))
      (pss_one (ps_set (i := 3) nd rfl (.inl rfl) (pe_op op_add (pv 3) pe_int))))
    (pss_cons (ps_set (i := 4) nd rfl (.inl rfl) (pe_op op_sub (pv 4) (pe_op op_sub (pv 8) (pe_op op_mul (pv 3) (pv 6)))))
    (pss_cons (ps_for PassesOwn.never rfl (pi_range1 (by rfl) G.range (pa_cons (pv 3) pa_nil)) (pg_name (i := 5) nd rfl (.inl rfl))
      (pss_cons (ps_expr (pe_bm PySem.F.plainAttrs_list PySem.F.slot_list_append PySem.F.type_list_append mt_append (pv 7) (pa_cons (pe_tup (pa_cons pe_str (pa_cons (pv 4) pa_nil))) pa_nil)))
      (pss_one (ps_set (i := 4) nd rfl (.inl rfl) (pe_op op_sub (pv 4) (pv 6))))))
    (pss_one (ps_ret (pe_revL (pv 7)))))))))), ?_⟩
  have es : (1 : Int) * 2 ^ ((n : Int).toNat) - 1 = mo n := by rw [Int.one_mul, Int.toNat_natCast]; rfl
  have mp := mo_pos n1
  have ml := mo_lt n64
  refine ⟨_, rfl, 1, n, rfl, rfl, ⟨by omega, by omega, by decide⟩, _, _, rfl, rfl, (by show 0 ≤ sizeLine; decide), fun fo nfo => ⟨_, _, rfl, ?_⟩⟩
  have fr0 := Fr.new (M := []) (o := .lst []) nfo
  have hb0 := fr0.same _ _ hb
  have hz0 := fr0.same _ _ hz
  refine ⟨_, rfl, pz, _, _, _, rfl, rfl, SqT.of hz0, atI_nat (j := 0) rfl, _, rfl, pz, _, _, _, rfl, rfl, SqT.of hz0, atI_nat (j := 1) rfl, _, rfl, pb, _, _, _, rfl, rfl, SqT.of hb0, atI_nat (j := 1) rfl, _, _, rfl, rfl, _, _, rfl, ?_⟩
  dsimp only
  rw [es]
  generalize hlf : m - c = lf at *
  -- while
  refine ⟨fun μ σ H' => ∃ t : Nat, μ = (lf - t).toNat ∧ σ = [some (V.int n), some (V.ref pb), some (V.ref pz), some (V.int t), some (V.int p), none, some (V.int (mo n)), some (V.ref fo), some (V.int lf)] ∧ H' = upd H fo (.lst []) ∧ (t = 0 ∨ lf > t * mo n), ⟨_, 0, rfl, rfl, rfl, .inl rfl⟩, ?_⟩
  rintro μ σ H' ⟨t, rfl, rfl, rfl, ht⟩
  refine ⟨_, rfl, _, rfl, _, _, rfl, rfl, _, rfl, _, _, rfl, rfl, .inr ⟨by omega, ml⟩, _, _, rfl, rfl, _, rfl, ?_⟩
  refine ite2 (fun h => ?_) (fun h => ?_)
  · have h : ((t : Int) + 1) * mo n < lf := of_decide_eq_true h
    have ge : (t : Int) + 1 ≤ ((t : Int) + 1) * mo n := by
      have := Int.mul_le_mul_of_nonneg_left mp (by omega : 0 ≤ (t : Int) + 1)
      rw [Int.mul_one] at this; exact this
    refine ⟨fun σ H' => ∃ t' : Nat, t' = t + 1 ∧ σ = [some (V.int n), some (V.ref pb), some (V.ref pz), some (V.int t'), some (V.int p), none, some (V.int (mo n)), some (V.ref fo), some (V.int lf)] ∧ H' = upd H fo (.lst []), fun σ' H' z => ?_, ?_⟩
    · obtain ⟨_, rfl, rfl, rfl⟩ := z
      exact ⟨(lf - (t + 1 : Nat)).toNat, by omega, t + 1, rfl, rfl, rfl, .inr (by rw [Int.natCast_add]; exact h)⟩
    · exact ⟨_, rfl, _, _, rfl, rfl, t + 1, rfl, rfl, rfl⟩
  · have h : ¬ lf > ((t : Int) + 1) * mo n := fun z => h (decide_eq_true z)
    have et := lkN_turns n1 h ht
    refine ⟨_, rfl, _, rfl, _, rfl, _, rfl, _, _, rfl, rfl, .inr ⟨by omega, ml⟩, _, _, rfl, rfl, _, _, rfl, rfl, ?_⟩
    refine ⟨_, rfl, t, rfl, by omega, by omega, ?_⟩
    generalize hA : p - (lf - t * mo n) = A
    refine for_range (lo := 0) (n := t) (fun i σ H' => ∃ (s5 : Option V) (ys : List V), σ = [some (V.int n), some (V.ref pb), some (V.ref pz), some (V.int t), some (V.int (A - i * mo n)), s5, some (V.int (mo n)), some (V.ref fo), some (V.int lf)] ∧
      H' fo = some (.lst ys) ∧ Fr [] H H' ∧ Paired (OutAt H (Hd [fo] H')) ys.reverse (lks n (A - i * mo n + mo n) i)) ⟨none, [], ?_, upd_same, fr0, .nil⟩ ?_ ?_
    · show _ = [some (V.int n), some (V.ref pb), some (V.ref pz), some (V.int t), some (V.int (A - ((0 : Nat) : Int) * mo n)), none, some (V.int (mo n)), some (V.ref fo), some (V.int lf)]
      rw [show A - ((0 : Nat) : Int) * mo n = A by simp, ← hA]
      rfl
    · rintro i σ H' hi ⟨s5, ys, rfl, hf, fr, po⟩
      have ly := PySem.Paired.length po
      rw [lks_len, List.length_reverse] at ly
      refine ⟨_, rfl, .inl ⟨rfl, _, SqL.of hf⟩, _, rfl, (by show 2 ≤ sizeLine; decide), fun pt npt => ?_⟩
      have frt := Fr.new (M := []) (o := .tup [.str "look", .int (A - i * mo n)]) npt
      have ntf : pt ≠ fo := (ne_of_none hf npt).symm
      refine ⟨fo, ys, _, rfl, rfl, frt.same _ _ hf, (by rw [sizeLine_eq]; omega), _, rfl, _, rfl, _, _, rfl, rfl, ?_⟩
      have frS := frt.weak (p := fo) |>.trans (Fr.set (o := .lst (ys ++ [V.ref pt])) List.mem_cons_self)
      have e1 : A - ((i + 1 : Nat) : Int) * mo n = A - i * mo n - mo n := by rw [Int.natCast_add, Int.add_mul]; simp; omega
      refine ⟨some (V.int (0 + (i : Int))), ys ++ [.ref pt], ?_, upd_same, Fr.drop ((fr.weak).trans frS) nfo, ?_⟩
      · rw [e1]; rfl
      · rw [List.reverse_append, e1, show A - i * mo n - mo n + mo n = A - i * mo n by omega]
        refine .cons ⟨pt, rfl, fr.none npt, ?_⟩ (L2.Paired.mapP po fun x y c => c.same frS.hd)
        rw [Hd_of (by simpa using ntf), upd_ne ntf, upd_same]
    · rintro σ H' ⟨s5, ys, rfl, hf, fr, po⟩
      refine ⟨_, rfl, fo, ys, rfl, SqL.of hf, fun q1 nq1 => ?_⟩
      have frq := Fr.new (M := []) (o := .lst ys.reverse) nq1
      refine q q1 _ _ (fr.none nq1) upd_same (fr.trans frq) ?_
      rw [← et, show p - lf + mo n = A - t * mo n + mo n by rw [← hA]; omega]
      exact L2.Paired.mapP po fun x y c => (c.same Hd_same).same frq.same
end
end Tk

set_option Elab.async false
set_option linter.all false
set_option maxRecDepth 100000
set_option maxHeartbeats 4000000
namespace Tk
open PySem PySem.Spec PyProof.Rows L2

/-! ### _law_kept -/
theorem hd_new {H1 H2 : Hp} {D : Addr} (fr : Fr [] H1 H2) (n : H1 D = none) : Same H1 (Hd [D] H2) := fun b o h => by
  rw [Hd_of fun z => ne_of_none h n (List.mem_singleton.mp z)]
  exact fr.same _ _ h
def lastR (w : Nat) (rs : List Rw) : Int × Int := (foundR w 0 0 rs).getLast?.getD (0, 0)
def kpR (w : Nat) (rs : List Rw) : List (Rw × Int × Int) := (rs.zip (foundR w 0 0 rs)).filter fun q => !q.1.only
def baseK (k : List (Rw × Int × Int)) : Int := match k.getLast? with | some q => q.2.1 | none => 0
def lookRw (c : Int) : Rw := ⟨"look", [.int c]⟩
def keptR (w : Nat) (rs : List Rw) : List (Rw × Int × Int) := if baseK (kpR w rs) < (lastR w rs).1 then kpR w rs ++ [(lookRw (lastR w rs).1, lastR w rs)] else kpR w rs
def KpAt (H : Hp) (y : V) (q : Rw × Int × Int) : Prop := ∃ a x z, y = .ref a ∧ H a = some (.tup [x, z]) ∧ RwAt H x q.1 ∧ PlAt H z q.2
theorem KpAt.same {H H' : Hp} {y : V} {q : Rw × Int × Int} (e : Same H H') (k : KpAt H y q) : KpAt H' y q := by
  obtain ⟨a, x, z, h1, h2, h3, h4⟩ := k
  exact ⟨a, x, z, h1, e _ _ h2, h3.same e, h4.same e⟩
theorem lookRw_at {H : Hp} {p : Addr} {c : Int} (h : H p = some (.tup [.str "look", .int c])) : RwAt H (.ref p) (lookRw c) := by
  refine ⟨⟨p, rfl, h⟩, fun y hy => ?_, by show sizeV "look" = .int 2; decide +kernel⟩
  obtain rfl := List.mem_singleton.mp hy
  exact ⟨_, .int _⟩
section
variable {P : Program} {w : World} {K : PySem.W.Frag} {mg : Str → Option Value} {base : Heap}
/-- found[-1][1][0] if found != [] else 0 -/
theorem ev_base {σ : L2.St} {i : Nat} {l : Addr} {zs : List V} {k : List (Rw × Int × Int)} {H : Hp} {Q : VK} (h2 : σ[i]? = some (some (.ref l))) (h : H l = some (.lst zs)) (pk : Paired (KpAt H) zs k) (q : ∀ H', Fr [] H H' → Q (.int (baseK k)) H') :
    tIf (tTest (tOp (rNil SqL K true) (tVar i) (tLst tNil))) (tOp (rIxT K) (tOp (rIxT K) (tOp (rIxL K) (tVar i) (tUn (rU fun i => .int (-i)) (tC (.int 1)))) (tC (.int 1))) (tC (.int 0))) (tC (.int 0)) σ H Q := by
  refine ⟨_, h2, (by show 0 ≤ sizeLine; decide), fun p hp => ?_⟩
  have fr := Fr.new (M := []) (o := .lst []) hp
  have hl := fr.same _ _ h
  refine ⟨l, p, _, rfl, rfl, SqL.of hl, SqL.of upd_same, _, rfl, ?_⟩
  rcases List.eq_nil_or_concat zs with rfl | ⟨ys, x, rfl⟩
  · cases pk
    exact q _ fr
  · rw [List.concat_eq_append] at *
    obtain ⟨y, ey, a, x1, z1, rfl, ha, hr, pz, rfl, hz⟩ := paired_last pk (x := x) (by simp)
    have e0 : (!(ys ++ [V.ref a]).isEmpty) = true := by cases ys <;> rfl
    rw [e0]
    refine ifT rfl ?_
    refine ⟨_, h2, _, rfl, l, _, _, _, rfl, rfl, SqL.of hl, atI_last _ _, a, _, _, _, rfl, rfl, SqT.of (fr.same _ _ ha), atI_nat (j := 1) rfl, pz, _, _, _, rfl, rfl, SqT.of (fr.same _ _ hz), atI_nat (j := 0) rfl, ?_⟩
    have e : baseK k = y.2.1 := by unfold baseK; rw [ey]
    have q := q _ fr
    rw [e] at q
    exact q
/-- (_law_found(width, rows) + [(0, 0)])[len(rows) - 1] if rows != [] else (0, 0) -/
theorem ev_last {σ : L2.St} {n : Nat} {a : Addr} {xs : List V} {rs : List Rw} {H : Hp} {Q : VK} (h0 : σ[0]? = some (some (.int n))) (h1 : σ[1]? = some (some (.ref a))) (n64 : n ≤ 64) (h : H a = some (.lst xs)) (r : Paired (RwAt H) xs rs)
    (ci : ∀ r, r ∈ rs → r.is "go" = false → r.at = .int r.c) (len : rs.length ≤ 1000) (q : ∀ v H', Fr [] H H' → PlAt H' v (lastR n rs) → Q v H') :
    tIf (tTest (tOp (rNil SqL K true) (tVar 1) (tLst tNil))) (tOp (rIxL K) (tOp rCat (tCall spFound [] E0 (tCons (tVar 0) (tCons (tVar 1) tNil))) (tLst (tCons (tTup (tCons (tC (.int 0)) (tCons (tC (.int 0)) tNil))) tNil)))
      (tOp (rI0 fun i j => .int (i - j)) (tCB (fun vs H1 Q => ∃ p ys, vs = [.ref p] ∧ (SqL K H1 p ys ∨ SqT K H1 p ys) ∧ Q (.int ys.length) H1) (tCons (tVar 1) tNil)) (tC (.int 1)))) (tTup (tCons (tC (.int 0)) (tCons (tC (.int 0)) tNil))) σ H Q := by
  have lenx := PySem.Paired.length r
  refine ⟨_, h1, (by show 0 ≤ sizeLine; decide), fun e ne => ?_⟩
  have fre := Fr.new (M := []) (o := .lst []) ne
  refine ⟨a, e, xs, rfl, rfl, SqL.of (fre.same _ _ h), SqL.of upd_same, _, rfl, ?_⟩
  cases xs with
  | nil =>
    cases r
    refine ⟨(by show 2 ≤ sizeLine; decide), fun t nt => ?_⟩
    exact q _ _ (fre.trans (Fr.new nt)) ⟨t, rfl, upd_same⟩
  | cons x xs =>
    refine ifT rfl ?_
    refine ⟨_, h0, _, h1, n, a, x :: xs, rs, rfl, n64, fre.same _ _ h, L2.Paired.mapP r fun x y c => c.same fre.same, ci, len, fun b ys H3 nb hb fr3 po => ?_⟩
    have ly := PySem.Paired.length po
    rw [foundR_len, ← lenx, List.length_cons] at ly
    refine ⟨(by show 2 ≤ sizeLine; decide), fun t nt => ⟨(by show 1 ≤ sizeLine; decide), fun p4 np4 => ?_⟩⟩
    have fr4 := Fr.new (M := []) (o := .tup [V.int 0, V.int 0]) nt
    have fr5 := Fr.new (M := []) (o := .lst [V.ref t]) np4
    have fr45 := fr4.trans fr5
    refine ⟨b, p4, ys, _, rfl, rfl, fr45.same _ _ hb, upd_same, (by rw [ly, sizeLine_eq]; show _ + 1 ≤ _; rw [List.length_cons] at lenx; omega), fun p5 np5 => ?_⟩
    have fr6 := Fr.new (M := []) (o := .lst (ys ++ [V.ref t])) np5
    have frA := fr3.trans (fr45.trans fr6)
    have frH := fre.trans frA
    obtain ⟨v, hv⟩ : ∃ v, ys[xs.length]? = some v := ⟨_, List.getElem?_eq_getElem (by omega)⟩
    obtain ⟨pl, hpl, av⟩ := Paired.get po hv
    have el : lastR n rs = pl := by
      unfold lastR
      rw [List.getLast?_eq_getElem?, foundR_len, ← lenx, List.length_cons, Nat.add_sub_cancel, hpl]; rfl
    refine ⟨_, h1, a, x :: xs, rfl, .inl (SqL.of (frH.same _ _ h)), _, _, rfl, rfl, p5, _, _, v, rfl, rfl, SqL.of upd_same, ?_, ?_⟩
    · have e1 : (((x :: xs).length : Nat) : Int) - 1 = (xs.length : Nat) := by rw [List.length_cons]; omega
      show atI (ys ++ [V.ref t]) ((((x :: xs).length : Nat) : Int) - 1) = some v
      rw [e1]
      exact atI_nat (j := xs.length) (by rw [List.getElem?_append_left (by omega)]; exact hv)
    · refine q v _ frH ?_
      rw [el]
      exact av.same (fr45.trans fr6).same
def spKept : Sp := fun vs H Q _ => ∃ (n : Nat) (p : Addr) (xs : List V) (rs : List Rw), vs = [.int n, .ref p] ∧ n ≤ 64 ∧ H p = some (.lst xs) ∧ Paired (RwAt H) xs rs ∧ (∀ r, r ∈ rs → r.is "go" = false → r.at = .int r.c) ∧ rs.length ≤ 1000 ∧
  ∀ q ys H', H q = none → H' q = some (.lst ys) → Fr [] H H' → Paired (KpAt H') ys (keptR n rs) → ys.length ≤ 1001 → Q (.ref q) H'
theorem sc_kept : FnScope ["width", "rows", "found", "last", "row", "place"] ["width", "rows"] (defScope s__law_kept) := ⟨rfl, rfl, rfl, by decide +kernel, rfl, by decide +kernel, by decide +kernel⟩
theorem ok_kept (F : FunAt K mg "_law_kept" s__law_kept) (G : NoGl mg) (C__law_found : Cal P w K mg base CX0 1 "_law_found" ["width", "rows"] [] spFound) (C__law_changes : Cal P w K mg base CX0 1 "_law_changes" ["row"] [] spChanges) :
    Cal P w K mg base CX0 2 "_law_kept" ["width", "rows"] [] spKept := by
  refine Cal.mk0 F sc_kept (by rintro _ _ _ _ ⟨_, _, _, _, rfl, _⟩; rfl) (fun _ _ _ _ _ _ us hl => match us, hl with | [_, _], _ => rfl) ?_
  rintro f cdv A outer s H vs Q E hr ⟨n, a, xs, rs, rfl, n64, h, r, ci, len, q⟩
  have nd := sc_kept.nd
  refine ⟨_, (pss_cons (ps_setLc (i := 2) (own := [("row", 4), ("place", 5)]) (g := gTup K 2 (gCons (gName 4) (gCons (gName 5) gNil))) (tt := (tB (tCall spChanges [] E0 (tCons (tVar 4) tNil)))) rfl nd rfl rfl (sw_true rfl rfl rfl (by decide +kernel)) (pi_zip (by rfl) G.zip (pa_cons (pv 1) (pa_cons (pe_c C__law_found (hr.mono (by decide)) (by rfl) pass0 (pa_cons (pv 0) (pa_cons (pv 1) pa_nil))) pa_nil)))
        (blkOk_by (own := [("row", 4), ("place", 5)]) (N := ["width", "rows", "found", "last", "row", "place"]) (sc := defScope s__law_kept) (by decide +kernel))
        (fun _ _ _ _ _ => (pg_tup rfl (pgs_cons (pg_name (i := 4) nd rfl (.inl rfl) (Or.inr rfl)) (pgs_cons (pg_name (i := 5) nd rfl (.inl rfl) (Or.inr rfl)) pgs_nil)))) (fun _ _ _ _ _ => (pts_one (pt_val (pe_c C__law_changes (hr.mono (by decide)) (by rfl) pass0 (pa_cons (pv 4) pa_nil)))))
        (fun _ _ _ _ _ => (pe_tup (pa_cons (pv 4) (pa_cons (pv 5) pa_nil)))))
    (pss_cons (ps_set (i := 3) nd rfl (.inl rfl) (pe_ifExp (pt_cmpR (op_neNilL hr.units0) (pv 1) (pe_lst pa_nil) (nomark _)) (pe_ix ix_list (pe_op op_cat (pe_c C__law_found (hr.mono (by decide)) (by rfl) pass0 (pa_cons (pv 0) (pa_cons (pv 1) pa_nil))) (pe_lst (pa_cons (pe_tup (pa_cons pe_int (pa_cons pe_int pa_nil))) pa_nil))) (pe_op op_sub (pe_callB call_len_seq (by rfl) G.len (by decide +kernel) (pa_cons (pv 1) pa_nil)) pe_int) (fun _ _ => rfl)) (pe_tup (pa_cons pe_int (pa_cons pe_int pa_nil)))))
    (pss_cons (ps_if (pt_cmpR op_gt (pe_ix ix_tup (pv 3) pe_int (fun _ _ => rfl)) (pe_ifExp (pt_cmpR (op_neNilL hr.units0) (pv 2) (pe_lst pa_nil) (nomark _)) (pe_ix ix_tup (pe_ix ix_tup (pe_ix ix_list (pv 2) (pe_un un_neg pe_int) (fun _ _ => rfl)) pe_int (fun _ _ => rfl)) pe_int (fun _ _ => rfl)) pe_int) (nomark _))
      (pss_one (ps_expr (pe_bm PySem.F.plainAttrs_list PySem.F.slot_list_append PySem.F.type_list_append mt_append (pv 2) (pa_cons (pe_tup (pa_cons (pe_tup (pa_cons pe_str (pa_cons (pe_ix ix_tup (pv 3) pe_int (fun _ _ => rfl)) pa_nil))) (pa_cons (pv 3) pa_nil))) pa_nil))))
      pss_nil)
    (pss_one (ps_ret (pv 2)))))), ?_⟩
  have lenx := PySem.Paired.length r
  refine ⟨_, rfl, _, rfl, _, rfl, n, a, xs, rs, rfl, n64, h, r, ci, len, fun b ys H1 nb hb fr1 po1 => ?_⟩
  have ly := PySem.Paired.length po1
  rw [foundR_len] at ly
  refine ⟨a, b, xs, ys, rfl, SqL.of (fr1.same _ _ h), SqL.of hb, fun D hD => ?_⟩
  refine lc_zipR (K := K) (fun x _ => !(rowOf H x).only) (fun x y z H' => ∃ t, z = .ref t ∧ H' t = some (.tup [x, y])) (fun x y z H H' e ⟨t, e1, e2⟩ => ⟨t, e1, e _ _ e2⟩) hD (by rw [sizeLine_eq]; omega) (SqL.of (fr1.same _ _ h)) (SqL.of hb) (fun _ _ => rfl) ?_ ?_ ?_
  · intro x y H2 Q' hm fr2 _ hq
    obtain ⟨rr, _, ax⟩ := Paired.mem r (List.of_mem_zip hm).1
    have fr12 := fr1.trans fr2
    refine ⟨_, rfl, x, rr, rfl, ax.same fr12.same, fun H3 fr3 => ⟨_, rfl, ?_⟩⟩
    have hq := hq H3 fr3
    rw [rowOf_eq ax] at hq
    exact hq
  · intro x y H2 Q' hm _ fr2 ⟨acc, hacc⟩ hq
    refine ⟨_, rfl, _, rfl, (by show 2 ≤ sizeLine; decide), fun t nt => ?_⟩
    have ne : t ∉ [D] := fun z => ne_of_none hacc nt (List.mem_singleton.mp z).symm
    exact hq _ _ (Fr.new nt) ⟨t, rfl, by rw [Hd_of ne]; exact upd_same⟩
  · intro H2 zs hD2 fr2 md
    have lz := md.len
    rw [List.length_zip] at lz
    have fr12 := fr1.trans fr2
    have pkD : Paired (KpAt (Hd [D] H2)) zs (kpR n rs) := md.paired (F := fun x r => RwAt H x r) (G := fun y q => PlAt H1 y q) (U := KpAt (Hd [D] H2)) (pr := fun r _ => !r.only) (fun x y r q hx _ => by rw [rowOf_eq hx])
      (fun x y z r q hx hy ⟨t, e, ht⟩ => ⟨t, x, y, e, ht, hx.same (hd_new fr12 (fr1.none hD)), hy.same (hd_new fr2 hD)⟩) r po1
    have pk := L2.Paired.mapP pkD fun x y c => c.same Hd_same
    dsimp only [L2.gName, L2.tSeq, L2.tAsg]
    refine ev_last (K := K) rfl rfl n64 (fr12.same _ _ h) (L2.Paired.mapP r fun x y c => c.same fr12.same) ci len fun v H4 fr4 ⟨pv, ev, hv⟩ => ?_
    subst ev
    have hD4 := fr4.same _ _ hD2
    have pk4 := L2.Paired.mapP pk fun x y c => c.same fr4.same
    refine ⟨_, rfl, pv, _, _, _, rfl, rfl, SqT.of hv, atI_nat (j := 0) rfl, ?_⟩
    refine ev_base (K := K) (i := 2) rfl hD4 pk4 fun H5 fr5 => ?_
    refine ⟨_, _, rfl, rfl, _, rfl, ?_⟩
    have fr45 := fr4.trans fr5
    have fr15 := fr12.trans fr45
    have hD5 := fr5.same _ _ hD4
    have hv5 := fr5.same _ _ hv
    have nD : H D = none := fr1.none hD
    have pk5 := L2.Paired.mapP pk fun x y c => c.same fr45.same
    refine ite2 (fun hlt => ?_) (fun hlt => ?_)
    · have hlt : baseK (kpR n rs) < (lastR n rs).1 := of_decide_eq_true hlt
      have ek : keptR n rs = kpR n rs ++ [(lookRw (lastR n rs).1, lastR n rs)] := if_pos hlt
      refine ⟨_, rfl, .inl ⟨rfl, _, SqL.of hD5⟩, _, rfl, pv, _, _, _, rfl, rfl, SqT.of hv5, atI_nat (j := 0) rfl, (by show 2 ≤ sizeLine; decide), fun t1 nt1 => ⟨_, rfl, (by show 2 ≤ sizeLine; decide), fun t2 nt2 => ?_⟩⟩
      have fr6 := Fr.new (M := []) (o := .tup [V.str "look", V.int (lastR n rs).1]) nt1
      have fr7 := Fr.new (M := []) (o := .tup [V.ref t1, V.ref pv]) nt2
      have fr67 := fr6.trans fr7
      have hD7 := fr67.same _ _ hD5
      have n1 : t1 ≠ D := (ne_of_none hD5 nt1).symm
      have n2 : t2 ≠ D := (ne_of_none (fr6.same _ _ hD5) nt2).symm
      have npv : pv ≠ D := fun z => by rw [z] at hv5; cases hv5.symm.trans hD5
      have frS := fr67.weak (p := D) |>.trans (Fr.set (o := .lst (zs ++ [V.ref t2])) List.mem_cons_self)
      refine ⟨D, zs, _, rfl, rfl, hD7, (by rw [sizeLine_eq]; omega), _, rfl, q D _ _ nD upd_same (Fr.drop (fr15.weak.trans frS) nD) ?_ (by rw [List.length_append, List.length_singleton]; omega)⟩
      rw [ek]
      have hvF : Hd [D] H5 pv = some (.tup [V.int (lastR n rs).1, V.int (lastR n rs).2]) := by rw [Hd_of (by simpa using npv)]; exact hv5
      have sF := (frS.hd (M := [D])).trans Hd_same
      refine Paired.app ?_ (.cons ⟨t2, .ref t1, .ref pv, rfl, by rw [upd_ne n2]; exact upd_same, ?_, ⟨pv, rfl, sF _ _ hvF⟩⟩ .nil)
      · exact L2.Paired.mapP pkD fun x y c => (c.same (fr45.hdIn (N := [D]) (fun _ z => nomatch z))).same sF
      · exact lookRw_at (by rw [upd_ne n1]; exact fr7.same _ _ upd_same)
    · have hlt : ¬ baseK (kpR n rs) < (lastR n rs).1 := fun z => hlt (decide_eq_true z)
      have ek : keptR n rs = kpR n rs := if_neg hlt
      rw [← ek] at pk5
      exact ⟨_, rfl, q D zs H5 nD hD5 fr15 pk5 (by omega)⟩
end
end Tk

set_option Elab.async false
set_option linter.all false
set_option maxRecDepth 100000
set_option maxHeartbeats 4000000
namespace Tk
open PySem PySem.Spec PyProof.Rows L2

/-! ### set(list of tuples of ints), the list of any length, where few of its items differ -/
/-- no set of these has 63 members -/
def FewT (ks : List (Addr × List Int)) : Prop := ∀ L : List (Addr × List Int), (∀ p ∈ L, p ∈ ks) → (L.map (·.2)).Nodup → L.length < 63
/-- L: a set's members after the first i items -/
structure Mem (ks : List (Addr × List Int)) (i : Nat) (L : List (Addr × List Int)) : Prop where
  old : ∀ p ∈ L, p ∈ ks
  has : ∀ p ∈ ks.take i, p.2 ∈ L.map (·.2)
theorem Mem.step {ks L L' : List (Addr × List Int)} {i : Nat} {x : Addr × List Int} (g : Mem ks i L) (h : ks[i]? = some x) (a : x.2 ∈ L.map (·.2) → L' = L) (b : x.2 ∉ L.map (·.2) → L'.Perm (x :: L)) : Mem ks (i + 1) L' := by
  have ht := L2.take_next h
  by_cases c : x.2 ∈ L.map (·.2)
  · obtain rfl := a c
    refine ⟨g.old, fun p hp => ?_⟩
    rw [ht, List.mem_append, List.mem_singleton] at hp
    rcases hp with z | rfl
    · exact g.has p z
    · exact c
  · have pm := b c
    refine ⟨fun p hp => ?_, fun p hp => ?_⟩
    · rcases List.mem_cons.mp (pm.mem_iff.mp hp) with rfl | z
      · exact List.mem_of_getElem? h
      · exact g.old p z
    · refine (pm.map (·.2)).mem_iff.mpr ?_
      rw [ht, List.mem_append, List.mem_singleton] at hp
      rw [List.map_cons]
      rcases hp with z | rfl
      · exact .tail _ (g.has p z)
      · exact .head _
section
variable {P : Program} {w : World} {A : Around} {E : Value → Shared → Prop}
/-- one item more -/
theorem upd_loop {I S : Addr} {fp wr : List Addr} {G : Array GenState → Array GenState → Prop} {n : Nat} {Pv : Nat → Value → Prop} {St : Nat → Shared → Prop} {R : Result → Shared → Prop} (W : WalksS P w A.in1 I fp wr G n Pv St) (sf : S ∉ fp)
    {ks : List (Addr × List Int)} (len : ks.length = n) (few : FewT ks) (val : ∀ i v, Pv i v → ∃ p, ks[i]? = some p ∧ v = .ref p.1) {g0 : Heap} (tup : ∀ p ∈ ks, IsT P w g0 p.2 p.1) (nS : g0.get? S = none) (nw : ∀ b ∈ wr, g0.get? b = none) (un : A.in1.units < cLine) :
    ∀ (d i : Nat) (z : Shared), i + d = n → St i z → (∀ b o, g0.get? b = some o → z.heap.get? b = some o) → (∃ L es ep t, SetTR P w z.heap S L es ep t ∧ Mem ks i L) →
      (∀ y L es ep t, Moved (S :: wr) G z y → SetTR P w y.heap S L es ep t → Mem ks n L → (∀ b o, g0.get? b = some o → y.heap.get? b = some o) → R (.ok (.ret .none)) y) →
      codeAny (model P w) A (.builtin "set.update.loop" ⟨[.ref S, .ref I], []⟩) R z
  | d, i, z, hd, hst, kp, ⟨L, es, ep, t, hT, g⟩, fin => by
    have sw : S ∉ wr := fun m => sf (W.sub _ m)
    have wide : ∀ b ∈ wr, b ∈ S :: wr := fun b m => .tail _ m
    have kept : ∀ {u v : Shared}, Moved wr G u v → (∀ b o, g0.get? b = some o → u.heap.get? b = some o) → ∀ b o, g0.get? b = some o → v.heap.get? b = some o := fun mv q b o e => by
      refine mv.heap b o (fun m => ?_) (q b o e)
      rw [nw b m] at e; cases e
    refine codeAny_builtin F.entry_set_update_loop ?_
    rw [Around.under_plainId F.plain_set_update_loop _]
    show wpAny _ A.in1 (pyNext (.ref I) >>= _) _ _ z
    match d, hd with
    | 0, hd =>
      obtain rfl : i = n := hd
      refine wpAny_bind (W.done z _ _ hst fun y mv => ?_)
      show wpAny _ A.in1 (ret Value.none) _ _ y
      have kp2 := kept mv kp
      exact wpAny_pure (fin y L es ep t (mv.mono wide) (hT.keep (fun o e => mv.heap S o sw e) fun p m => isT_keep (tup p (g.old p m)) kp2) g kp2)
    | d + 1, hd =>
      have lt : i < n := by omega
      refine wpAny_bind (W.item i z _ _ lt hst fun v y pv hst2 mv => ?_)
      obtain ⟨p, hp, rfl⟩ := val i v pv
      have kp2 := kept mv kp
      have hT2 : SetTR P w y.heap S L es ep t := hT.keep (fun o e => mv.heap S o sw e) fun q m => isT_keep (tup q (g.old q m)) kp2
      have hx : IsT P w y.heap p.2 p.1 := isT_keep (tup p (List.mem_of_getElem? hp)) kp2
      show wpAny _ A.in1 (holding [Value.ref p.1] (setAdd S (.ref p.1)) >>= _) _ _ y
      refine wpAny_bind (wpAny_holding ?_)
      unfold setAdd
      refine wpAny_holding (wpAny_bind (wpAny_pyHash_tuple un hx ?_))
      refine add_at (s := { y with toks := y.toks + (p.2.length + 1) }) hT2 hx un (Nat.succ_lt_succ (few L g.old hT.nd)) fun b h2 L2 es2 ep2 t2 sb hS2 c1 c2 => ?_
      have g2 := g.step hp c1 c2
      have kp3 : ∀ b o, g0.get? b = some o → h2.get? b = some o := fun b o e => by
        have : b ≠ S := fun q => by rw [q, nS] at e; cases e
        exact (sb.2 b this).trans (kp2 b o e)
      refine wpAny_pure ⟨plainId_quiet F.plain_set_update_loop _, ?_⟩
      refine upd_loop W sf len few val tup nS nw un d (i + 1) _ (by omega) (W.frame _ y _ _ hst2 (Nat.le_add_right _ _) fun b m o e => ?_) kp3 ⟨L2, es2, ep2, t2, hS2, g2⟩ fun u L3 es3 ep3 t3 mv3 hS3 g3 kp4 => ?_
      · rw [sb.2 b fun q : b = S => sf (q ▸ m)]; exact e
      · refine fin u L3 es3 ep3 t3 (Moved.trans W.gtrans ((mv.mono wide).then_heap (Nat.le_add_right _ _) fun b o nb e => ?_) mv3) hS3 g3 kp4
        rw [sb.2 b fun q : b = S => nb (q ▸ .head _)]; exact e
/-- what set(l) leaves: the set at the next address -/
def SetNew (P : Program) (w : World) (s : Shared) (ks : List (Addr × List Int)) (S : Addr) (g : Heap) : Prop := ∃ L es ep t, SetTR P w g S L es ep t ∧ Mem ks ks.length L ∧ ∀ b o, s.heap.get? b = some o → g.get? b = some o
abbrev emptySet (w : World) : Obj := { cls := .type "set", dict := none, data := .set #[] 0 (.fresh 0 0 (!w.params.followText "set-order")) }
set_option maxRecDepth 100000 in
theorem call_setFew {s : Shared} {l : Addr} {its : Array Value} {ks : List (Addr × List Int)} {Q : Value → Shared → Prop} (nh : A.handled = none) (isl : s.heap.IsList l its) (eq : its.toList = ks.map fun p => Value.ref p.1) (tup : ∀ p ∈ ks, IsT P w s.heap p.2 p.1) (few : FewT ks) (un : A.units + 3 < cLine)
    (fin : ∀ (g : Heap) (k : Nat), SetNew P w s ks s.heap.objs.size g → Q (.ref s.heap.objs.size) { s with heap := g, toks := k }) : wpAny (model P w) A (call (.type "set") [.ref l]) Q E s := by
  have zl : its.size = ks.length := by rw [← Array.length_toList, eq, List.length_map]
  obtain ⟨c, tl, hmro⟩ := F.called_set.mro
  have m1 := F.called_set.made
  have m2 := F.called_set.sub
  have m3 := F.called_set.notType
  have m4 := F.called_set.canCreate
  have m5 := F.typeCall_set_1 (.ref l)
  refine wpAny_call (codeAny_of_tree ?_)
  show wpAny _ _ (callAny (.type "set") _) _ _ _
  refine wpAny_pure ⟨Code.quiet_builtin _ (by decide +kernel), codeAny_builtin F.entry_type_call ?_⟩
  rw [Around.under_plain (weight_type_call_type "set" [.ref l] []) rfl]
  repeat (any_goals (first | assumption | wp_step))
  refine codeAny_mono (code_set_led1 (.ref l) (E := E) (Q₁ := fun v u => v = .ref s.heap.objs.size ∧ u = { s with heap := s.heap.push (emptySet w) }) ⟨rfl, rfl⟩) fun r u hr => ?_
  match r, hr with
  | .error e, hr => exact hr
  | .ok (.ret v), hr =>
    obtain ⟨rfl, rfl⟩ := hr
    have at0 : (s.heap.push (emptySet w)).get? s.heap.objs.size = some (emptySet w) := Heap.get?_push_size _ rfl
    have ty0 : Shared.TypeIs { s with heap := s.heap.push (emptySet w) } (.ref s.heap.objs.size) "set" := ⟨_, at0, rfl⟩
    have i1 := F.called_set.init.lookup
    have i2 := F.called_set.init.bind (.ref s.heap.objs.size)
    repeat (any_goals (first | assumption | wp_step))
    refine codeAny_mono (codeAny_call_builtin (R := wants (fun r u => r = .none ∧ ∃ g k, u = { s with heap := g, toks := k } ∧ SetNew P w s ks s.heap.objs.size g) E) F.called_set.init.plain F.entry_set_init (check_set_init_1 ty0 ?_)) fun r2 u2 hr2 => ?_
    · obtain ⟨⟨oc, od, dt, os⟩, hol, hcl, nl, hdl⟩ := isl
      simp only at hcl hdl
      subst hcl hdl
      have lt := Heap.lt_size hol
      have hol2 : (s.heap.push (emptySet w)).get? l = some { cls := .type "list", dict := od, data := .seq its nl, slots := os } := Heap.get?_push_of_some _ hol
      have isl2 : (s.heap.push (emptySet w)).IsList l its := ⟨_, hol2, rfl, nl, rfl⟩
      have b1 := F.sub_list_set
      have b2 := F.sub_list_frozenset
      have b3 : (Value.type "list" == Value.type "dict") = false := by decide
      unfold Builtin.«set.__init__» noKeywords Builtin.Frozenset.updateFrom
      generalize hit : pyIter = IT
      wp_walk
      subst hit
      refine wpAny_pyIter_list isl2 ?_
      refine wpAny_bind (wpAny_runValue ?_)
      have nh3 : A.in1.in1.in1.handled = none := by simp [nh]
      have zz : (s.heap.push (emptySet w)).objs.size = s.heap.objs.size + 1 := Heap.size_push ..
      have ne1 : l ≠ (s.heap.push (emptySet w)).objs.size := by rw [zz]; exact Nat.ne_of_lt (Nat.lt_succ_of_lt lt)
      have gone : ∀ b, s.heap.objs.size ≤ b → s.heap.get? b = none := fun b hb => by
        cases e : s.heap.get? b with
        | none => rfl
        | some o => exact (Nat.lt_irrefl _ (Nat.lt_of_lt_of_le (Heap.lt_size e) hb)).elim
      have val : ∀ (i : Nat) (v : Value), its[i]? = some v → ∃ p, ks[i]? = some p ∧ v = .ref p.1 := fun i v hv => by
        rw [← Array.getElem?_toList, eq, List.getElem?_map, Option.map_eq_some_iff] at hv
        obtain ⟨p, h1, h2⟩ := hv
        exact ⟨p, h1, h2.symm⟩
      have st0 : ((s.heap.push (emptySet w)).push { cls := .type "list_iterator", data := .fields #[.ref l, .int 0 0] }).get? s.heap.objs.size = some (emptySet w) := Heap.get?_push_of_some _ at0
      refine upd_loop (Walks.list nh3 _ l ne1 its).toS (S := s.heap.objs.size) ?_ zl.symm few val tup (gone _ (Nat.le_refl _)) (fun b hb => gone b ?_) un its.size 0 _ (Nat.zero_add _) ⟨⟨_, Heap.get?_push_size _ rfl, rfl, rfl⟩, isl2.push _⟩
        (fun b o e => Heap.get?_push_of_some _ (Heap.get?_push_of_some _ e)) ⟨[], #[], 0, _, setTR_fresh st0, fun p m => (nomatch m), fun p m => by simp at m⟩ ?_
      · simp only [List.mem_cons, List.not_mem_nil, or_false, not_or]
        exact ⟨by rw [zz]; exact Nat.ne_of_lt (Nat.lt_succ_self _), Nat.ne_of_gt lt⟩
      · rw [List.mem_singleton.mp hb]; omega
      · intro y L es ep t mv hT g kp
        obtain ⟨h', g2, d', tk', os'⟩ := y
        have e1 : g2 = s.gens := mv.gens
        have e2 : d' = s.drawn := mv.drawn
        have e3 : os' = s.os := mv.os
        subst e1 e2 e3
        show wpAny _ _ _ _ _ _
        refine wpAny_pure ?_
        show wpAny _ _ (ret Value.none) _ _ _
        rw [zl] at g
        exact wpAny_pure ⟨rfl, h', tk', rfl, L, es, ep, t, hT, g, kp⟩
    · match r2, hr2 with
      | .error e, hr2 => exact hr2
      | .ok (.ret v), hr2 =>
        obtain ⟨rfl, g, k, rfl, sn⟩ := hr2
        repeat (any_goals (first | assumption | wp_step))
        exact fin g k sn
end
section
variable {X : Cx}
/-- set(xs) -/
def rSetFew (K : PySem.W.Frag) (P : Program) (w : World) : List V → Hp → VK → Prop := fun xs H Q => ∃ (l : Addr) (ks : List (Addr × List Int)), xs = [V.ref l] ∧ SqL K H l (ks.map fun p => V.ref p.1) ∧ (∀ p ∈ ks, SqT K H p.1 (p.2.map V.int)) ∧ FewT ks ∧
  ∀ a L, H a = none → (∀ p ∈ L, p ∈ ks) → (∀ p ∈ ks, p.2 ∈ L.map (·.2)) → Q (.ref a) (upd H a (SetTO P w a L))
theorem cr_setFew (hc : X.calm = true) (hu : X.A.units + 64 < cLine) : CallR X (.type "set") (rSetFew X.K X.prog X.w) := by
  rintro pins s σ H xs us Q I r ⟨l, ks, rfl, hl, hk, few, q⟩
  rw [Vals.ref1 r]
  obtain ⟨its, rv, pl, _⟩ := I.list hl
  refine call_setFew (ks := ks) (I.ok.hd hc) pl.isList (by simpa using refs_of_vals rv) (fun p m => Inv.isT I (hk p m)) few (by omega) fun g k ⟨L, es, ep, t, hT, mem, kp⟩ => ?_
  have nS : H s.heap.objs.size = none := I.hok.fresh (Nat.le_refl _)
  exact ⟨.ref s.heap.objs.size, upd H s.heap.objs.size (SetTO X.prog X.w s.heap.objs.size L), I.laid (t' := k) kp (Nat.le_refl _) (setTO_new hT.t0), rfl, q _ L nS mem.old fun p m => mem.has p (by rw [List.take_length]; exact m)⟩
end
end Tk

set_option Elab.async false
set_option linter.all false
set_option maxRecDepth 100000
set_option maxHeartbeats 4000000
namespace Tk
open PySem PySem.Spec PyProof.Rows L2

/-! ### _law_tried: with so few looks the count is too small -/
def GoodP (n g t : Nat) (p : List Int) : Prop := ∃ x y : Int, p = [x, y] ∧ 0 ≤ x ∧ x ≤ g ∧ 0 ≤ y ∧ y ≤ t * mo n ∧ (y - x) % 2 ^ n = 0
theorem good_few {n g t : Nat} (n1 : 1 ≤ n) (hg : g ≤ 16) (ht : t ≤ 3) {ks : List (Addr × List Int)} (h : ∀ p, p ∈ ks → GoodP n g t p.2) : FewT ks := by
  intro L sub nd
  have pw : (1 : Int) ≤ 2 ^ n := by have := mo_pos n1; have e : mo n = 2 ^ n - 1 := rfl; omega
  let f : List Int → Nat := fun p => match p with | [x, y] => x.toNat + 17 * (y / 2 ^ n).toNat | _ => 0
  have len : ((L.map (·.2)).map f).length ≤ (List.range 51).length := by
    refine nat_nodup_len _ _ ?_ ?_
    · refine List.pairwise_map.mpr (List.Pairwise.imp_of_mem (fun {p q} hp hq ne e => ne ?_) nd)
      obtain ⟨p', hp', rfl⟩ := List.mem_map.mp hp
      obtain ⟨q', hq', rfl⟩ := List.mem_map.mp hq
      obtain ⟨x, y, e1, x0, x1, y0, y1, d1⟩ := h _ (sub _ hp')
      obtain ⟨u, v, e2, u0, u1, v0, v1, d2⟩ := h _ (sub _ hq')
      rw [e1, e2] at e ⊢
      have e : x.toNat + 17 * (y / 2 ^ n).toNat = u.toNat + 17 * (v / 2 ^ n).toNat := e
      have a0 : 0 ≤ y / 2 ^ n := Int.ediv_nonneg y0 (by omega)
      have b0 : 0 ≤ v / 2 ^ n := Int.ediv_nonneg v0 (by omega)
      have ex : x = u := by omega
      have ed : y / 2 ^ n = v / 2 ^ n := by omega
      subst ex
      have m1 : y % 2 ^ n = x % 2 ^ n := Int.emod_eq_emod_iff_emod_sub_eq_zero.mpr d1
      have m2 : v % 2 ^ n = x % 2 ^ n := Int.emod_eq_emod_iff_emod_sub_eq_zero.mpr d2
      have q1 := Int.mul_ediv_add_emod y (2 ^ n)
      have q2 := Int.mul_ediv_add_emod v (2 ^ n)
      rw [ed, m1, ← m2] at q1
      rw [← q1, q2]
    · intro k hk
      obtain ⟨p, hp, rfl⟩ := List.mem_map.mp hk
      obtain ⟨p', hp', rfl⟩ := List.mem_map.mp hp
      obtain ⟨x, y, e1, x0, x1, y0, y1, d1⟩ := h _ (sub _ hp')
      rw [e1, List.mem_range]
      show x.toNat + 17 * (y / 2 ^ n).toNat < 51
      have b : y / 2 ^ n < 3 := by
        refine (Int.ediv_lt_iff_lt_mul (by omega)).mpr ?_
        have e : mo n = 2 ^ n - 1 := rfl
        have : (t : Int) * mo n ≤ 3 * mo n := Int.mul_le_mul_of_nonneg_right (by omega) (by omega)
        omega
      have a0 : 0 ≤ y / 2 ^ n := Int.ediv_nonneg y0 (by omega)
      omega
  rw [List.length_map, List.length_map, List.length_range] at len
  omega
theorem good_step {n g t : Nat} (n1 : 1 ≤ n) {x y : Int} {r : Nat} (x0 : 0 ≤ x) (y0 : 0 ≤ y) (y1 : y ≤ t * mo n) (d1 : (y - x) % 2 ^ n = 0) (hr : x + r ≤ g) : GoodP n g (t + 1) [x + r, y + (x + r - x) % 2 ^ n] := by
  have em : mo n = 2 ^ n - 1 := rfl
  have mp := mo_pos n1
  have e : x + r - x = r := by omega
  have b0 : 0 ≤ (r : Int) % 2 ^ n := Int.emod_nonneg _ (by omega)
  have b1 : (r : Int) % 2 ^ n < 2 ^ n := Int.emod_lt_of_pos _ (by omega)
  refine ⟨_, _, rfl, by omega, hr, by rw [e]; omega, ?_, ?_⟩
  · rw [e, Int.natCast_add, Int.add_mul]; simp; omega
  · rw [e]
    have q := Int.mul_ediv_add_emod (r : Int) (2 ^ n)
    have e2 : y + (r : Int) % 2 ^ n - (x + r) = (y - x) - 2 ^ n * ((r : Int) / 2 ^ n) := by omega
    rw [e2]
    exact Int.emod_eq_zero_of_dvd (Int.dvd_sub (Int.dvd_of_emod_eq_zero d1) (Int.dvd_mul_right _ _))
section
variable {P : Program} {w : World} {K : PySem.W.Frag} {mg : Str → Option Value} {base : Heap}
def spTried : Sp := fun vs H Q _ => ∃ (n g k : Nat) (m : Int), vs = [.int n, .int g, .int m, .int k] ∧ 1 ≤ n ∧ n ≤ 64 ∧ g ≤ 16 ∧ k ≤ 3 ∧ ((k : Int) + 1) * mo n < m ∧ ∀ H', Fr [] H H' → Q (.bl false) H'
theorem sc_tried : FnScope ["width", "gap", "many", "looks", "some", "turn", "more", "here", "count", "there"] ["width", "gap", "many", "looks"] (defScope s__law_tried) := ⟨rfl, rfl, rfl, by decide +kernel, rfl, by decide +kernel, by decide +kernel⟩
theorem ok_tried (F : FunAt K mg "_law_tried" s__law_tried) (G : NoGl mg) (Gset : mg "set" = none) : Cal P w K mg base CX0 1 "_law_tried" ["width", "gap", "many", "looks"] [] spTried := by
  refine Cal.mk0 F sc_tried (by rintro _ _ _ _ ⟨_, _, _, _, rfl, _⟩; rfl) (fun _ _ _ _ _ _ us hl => match us, hl with | [_, _, _, _], _ => rfl) ?_
  rintro f cdv A outer s H vs Q E hr ⟨n, g, k, m, rfl, n1, n64, hg, hk, hm, q⟩
  have nd := sc_tried.nd
  have hu := hr.units
  refine ⟨_, (pss_cons (ps_set (i := 4) nd rfl (.inl rfl) (pe_lst (pa_cons (pe_tup (pa_cons pe_int (pa_cons pe_int pa_nil))) pa_nil)))
    (pss_cons (ps_for PassesOwn.never rfl (pi_range1 (by rfl) G.range (pa_cons (pv 3) pa_nil)) (pg_name (i := 5) nd rfl (.inl rfl))
      (pss_cons (ps_set (i := 6) nd rfl (.inl rfl) (pe_lst pa_nil))
      (pss_cons (ps_for PassesOwn.never rfl (pi_list (pv 4)) (pg_tup rfl (pgs_cons (pg_name (i := 7) nd rfl (.inl rfl)) (pgs_cons (pg_name (i := 8) nd rfl (.inl rfl)) pgs_nil)))
        (pss_one (ps_for PassesOwn.never rfl (pi_range2 (by rfl) G.range (pa_cons (pv 7) (pa_cons (pe_op op_add (pv 1) pe_int) pa_nil))) (pg_name (i := 9) nd rfl (.inl rfl))
          (pss_one (ps_expr (pe_bm PySem.F.plainAttrs_list PySem.F.slot_list_append PySem.F.type_list_append mt_append (pv 6) (pa_cons (pe_tup (pa_cons (pv 9) (pa_cons (pe_op op_add (pv 8) (pe_op op_mod (pe_callTy (T := "int") call_int1 (by rfl) G.int (by decide +kernel) (pa_cons (pe_op op_sub (pv 9) (pv 7)) pa_nil)) (pe_op op_shl pe_int (pv 0)))) pa_nil))) pa_nil)))))))
      (pss_one (ps_set (i := 4) nd rfl (.inl rfl) (pe_callB (cr_sortedT rfl) (by rfl) G.sorted (by decide +kernel) (pa_cons (pe_callTy (T := "set") (cr_setFew rfl hu) (by rfl) Gset (by decide +kernel) (pa_cons (pv 6) pa_nil)) pa_nil)))))))
    (pss_one (ps_ret (pe_cmpR (op_neNilL hr.units0) (pe_lc (own := [("here", 7), ("count", 8)]) (g := gTup K 2 (gCons (gName 7) (gCons (gName 8) gNil))) (tt := tTest (tOp rEq (tOp (rI0 fun i j => .int (i + j)) (tVar 8) (tOp (rI (fun _ j => 0 < j) fun i j => .int (i % j)) (tCB (fun xs H Q => (∃ i, xs = [.int i] ∧ Q (.int i) H) ∨ ∃ k, xs = [.bl k] ∧ Q (.int (if k then 1 else 0)) H) (tCons (tOp (rI0 fun i j => .int (i - j)) (tVar 1) (tVar 7)) tNil)) (tOp (rI CPow fun i j => .int (i * 2 ^ j.toNat)) (tC (.int 1)) (tVar 0)))) (tVar 2))) rfl nd (pi_list (pv 4))
        (blkOk_by (own := [("here", 7), ("count", 8)]) (N := ["width", "gap", "many", "looks", "some", "turn", "more", "here", "count", "there"]) (sc := defScope s__law_tried) (by decide +kernel))
        (fun _ _ _ _ _ => (pg_tup rfl (pgs_cons (pg_name (i := 7) nd rfl (.inl rfl) (Or.inr rfl)) (pgs_cons (pg_name (i := 8) nd rfl (.inl rfl) (Or.inr rfl)) pgs_nil)))) (fun _ _ _ _ _ => (pts_one (pt_cmpR op_eq (pe_op op_add (pv 8) (pe_op op_mod (pe_callTy (T := "int") call_int1 (by rfl) G.int (by decide +kernel) (pa_cons (pe_op op_sub (pv 1) (pv 7)) pa_nil)) (pe_op op_shl pe_int (pv 0)))) (pv 2) (nomark _))))
        (fun _ _ _ _ _ => pe_int)) (pe_lst pa_nil) (nomark _)))))), ?_⟩
  have es : (1 : Int) * 2 ^ ((n : Int).toNat) = 2 ^ n := by rw [Int.one_mul, Int.toNat_natCast]
  have mp := mo_pos n1
  have em : mo n = 2 ^ n - 1 := rfl
  have pw : (0 : Int) < 1 * 2 ^ ((n : Int).toNat) := by rw [es]; omega
  refine ⟨(by show 2 ≤ sizeLine; decide), fun t0 nt0 => ⟨(by show 1 ≤ sizeLine; decide), fun s0 ns0 => ?_⟩⟩
  have f1 := Fr.new (M := []) (o := .tup [V.int 0, V.int 0]) nt0
  have f2 := Fr.new (M := []) (o := .lst [V.ref t0]) ns0
  refine ⟨_, rfl, k, rfl, by omega, by omega, ?_⟩
  refine for_range (lo := 0) (n := k) (fun i σ H' => ∃ (so : Addr) (ks : List (Addr × List Int)) (s5 s6 s7 s8 s9 : Option V), σ = [some (V.int n), some (V.int g), some (V.int m), some (V.int k), some (V.ref so), s5, s6, s7, s8, s9] ∧
      H' so = some (.lst (ks.map fun p => V.ref p.1)) ∧ (∀ p, p ∈ ks → H' p.1 = some (.tup (p.2.map V.int)) ∧ GoodP n g i p.2) ∧ ks.length < 64 ∧ Fr [] H H')
    ⟨s0, [(t0, [0, 0])], _, _, _, _, _, rfl, upd_same, fun p hp => ?_, (by show 1 < 64; decide), f1.trans f2⟩ ?_ ?_
  · obtain rfl := List.mem_singleton.mp hp
    exact ⟨f2.same _ _ upd_same, 0, 0, rfl, by decide, by omega, by decide, by simp, by simp⟩
  · rintro i σ H' hi ⟨so, ks, s5, s6, s7, s8, s9, rfl, hso, hks, lks, fr⟩
    refine ⟨(by show 0 ≤ sizeLine; decide), fun fm nfm => ?_⟩
    have fr1 := Fr.new (M := []) (o := .lst []) nfm
    have hso1 := fr1.same _ _ hso
    have nso : so ≠ fm := ne_of_none hso nfm
    have nfmH : H fm = none := fr.none nfm
    refine ⟨_, rfl, so, rfl, ⟨_, SqL.of hso1⟩, ?_⟩
    refine for_list (K := K) (a := so) (xs := ks.map fun p => V.ref p.1) (fun j σ H2 => ∃ (ns : List (Addr × List Int)) (s7 s8 s9 : Option V), σ = [some (V.int n), some (V.int g), some (V.int m), some (V.int k), some (V.ref so), some (V.int (0 + (i : Int))), some (V.ref fm), s7, s8, s9] ∧
        H2 fm = some (.lst (ns.map fun p => V.ref p.1)) ∧ (∀ p, p ∈ ns → H2 p.1 = some (.tup (p.2.map V.int)) ∧ GoodP n g (i + 1) p.2) ∧ ns.length ≤ 17 * j ∧ Fr [fm] H' H2)
      ⟨[], _, _, _, rfl, upd_same, (fun _ z => nomatch z), by simp, fr1.weak⟩ ?_ ?_ ?_
    · rintro j σ H2 _ ⟨_, _, _, _, _, _, _, _, fr2⟩
      exact SqL.of (fr2.at hso (by simpa using nso))
    · rintro j x σ H2 hx ⟨ns, s7, s8, s9, rfl, hfm, hns, lns, fr2⟩
      rw [List.getElem?_map, Option.map_eq_some_iff] at hx
      obtain ⟨p, hp, rfl⟩ := hx
      have hj : j < ks.length := (List.getElem?_eq_some_iff.mp hp).1
      obtain ⟨tp, x, y, e, x0, x1, y0, y1, d1⟩ := hks p (List.mem_of_getElem? hp)
      rw [e] at tp
      have npf : p.1 ≠ fm := ne_of_none tp nfm
      have tp2 := fr2.at tp (by simpa using npf)
      refine ⟨p.1, _, rfl, SqT.of tp2, rfl, _, _, rfl, _, _, rfl, rfl, ?_⟩
      refine ⟨_, rfl, _, rfl, _, _, rfl, rfl, x, (g : Int) + 1, rfl, ⟨by omega, by omega, by omega, by omega⟩, ?_⟩
      refine for_range (lo := x) (n := ((g : Int) + 1 - x).toNat) (fun r σ H3 => ∃ (ns : List (Addr × List Int)) (s9 : Option V), σ = [some (V.int n), some (V.int g), some (V.int m), some (V.int k), some (V.ref so), some (V.int (0 + (i : Int))), some (V.ref fm), some (V.int x), some (V.int y), s9] ∧
          H3 fm = some (.lst (ns.map fun p => V.ref p.1)) ∧ (∀ p, p ∈ ns → H3 p.1 = some (.tup (p.2.map V.int)) ∧ GoodP n g (i + 1) p.2) ∧ ns.length ≤ 17 * j + r ∧ Fr [fm] H' H3)
        ⟨ns, _, rfl, hfm, hns, by omega, fr2⟩ ?_ ?_
      · rintro r σ H3 hr ⟨ns, s9, rfl, hfm, hns, lns, fr3⟩
        refine ⟨_, rfl, .inl ⟨rfl, _, SqL.of hfm⟩, _, rfl, _, rfl, _, rfl, _, rfl, _, _, rfl, rfl, .inl ⟨_, rfl, _, rfl, 1, n, rfl, rfl, ⟨by omega, by omega, by decide⟩, _, _, rfl, rfl, pw, _, _, rfl, rfl, ?_⟩⟩
        dsimp only
        rw [es]
        refine ⟨(by show 2 ≤ sizeLine; decide), fun pt npt => ?_⟩
        have frt := Fr.new (M := [fm]) (o := .tup [V.int (x + r), V.int (y + (x + r - x) % 2 ^ n)]) npt
        have ntf : pt ≠ fm := (ne_of_none hfm npt).symm
        refine ⟨fm, _, _, rfl, rfl, by rw [upd_ne ntf.symm]; exact hfm, (by rw [List.length_map, sizeLine_eq]; omega), ns ++ [(pt, [x + r, y + (x + r - x) % 2 ^ n])], _, rfl, ?_, fun p hp => ?_, by rw [List.length_append, List.length_singleton]; omega, fr3.trans (frt.trans (Fr.set List.mem_cons_self))⟩
        · rw [upd_same, List.map_append]; rfl
        · rcases List.mem_append.mp hp with hp | hp
          · obtain ⟨h1, h2⟩ := hns p hp
            have n1' : p.1 ≠ fm := fun z => by rw [z, hfm] at h1; cases h1
            have n2' : p.1 ≠ pt := ne_of_none h1 npt
            exact ⟨by rw [upd_ne n1', upd_ne n2']; exact h1, h2⟩
          · obtain rfl := List.mem_singleton.mp hp
            exact ⟨by rw [upd_ne ntf]; exact upd_same, good_step n1 x0 y0 y1 d1 (by omega)⟩
      · rintro σ H3 ⟨ns, s9, rfl, hfm, hns, lns, fr3⟩
        exact ⟨ns, _, _, _, rfl, hfm, hns, by omega, fr3⟩
    · rintro σ H2 ⟨ns, s7, s8, s9, rfl, hfm, hns, lns, fr2⟩
      have frH := Fr.drop (fr.weak.trans fr2) nfmH
      refine ⟨_, rfl, fm, ns, rfl, SqL.of hfm, fun p hp => SqT.of (hns p hp).1, good_few n1 hg (by omega) (fun p hp => (hns p hp).2), fun S L nS sub cov => ?_⟩
      have frs := Fr.new (M := []) (o := SetTO P w S L) nS
      refine ⟨S, L, 2, 2 ^ 70, rfl, upd_same, fun p hp => SqT.of (frs.same _ _ (hns p (sub p hp)).1), by decide, fun p hp => ?_, fun L' p' perm nodup l64 pws np' => ?_⟩
      · obtain ⟨x, y, e, x0, x1, y0, y1, d1⟩ := (hns p (sub p hp)).2
        rw [e]
        have ml := mo_lt n64
        have : ((i + 1 : Nat) : Int) * mo n ≤ 3 * mo n := Int.mul_le_mul_of_nonneg_right (by omega) (by omega)
        refine ⟨rfl, fun v hv => ?_⟩
        rcases List.mem_cons.mp hv with rfl | hv
        · omega
        · obtain rfl := List.mem_singleton.mp hv; omega
      · have frp := Fr.new (M := []) (o := .lst (L'.map fun q => V.ref q.1)) np'
        exact ⟨p', L', _, _, _, _, _, rfl, upd_same, fun p hp => ⟨(frs.trans frp).same _ _ (hns p (sub p (perm.mem_iff.mp hp))).1, (hns p (sub p (perm.mem_iff.mp hp))).2⟩, l64, frH.trans (frs.trans frp)⟩
  · rintro σ H' ⟨so, ks, s5, s6, s7, s8, s9, rfl, hso, hks, lks, fr⟩
    refine ⟨_, rfl, so, rfl, ⟨_, SqL.of hso⟩, fun D hD => ?_⟩
    refine lc_list (K := K) (a := so) (xs := ks.map fun p => V.ref p.1) (fun _ H2 => H2 D = some (.lst []) ∧ Fr [] H' H2) ⟨upd_same, Fr.new hD⟩ (fun i H2 _ I => SqL.of (I.2.same _ _ hso)) (fun i x H2 hx ⟨hD2, fr2⟩ => ?_) fun H2 ⟨hD2, fr2⟩ => ?_
    · rw [List.getElem?_map, Option.map_eq_some_iff] at hx
      obtain ⟨p, hp, rfl⟩ := hx
      obtain ⟨tp, x, y, e, x0, x1, y0, y1, d1⟩ := hks p (List.mem_of_getElem? hp)
      rw [e] at tp
      refine ⟨p.1, _, rfl, SqT.of (fr2.same _ _ tp), rfl, _, _, rfl, _, _, rfl, rfl, rfl, ?_⟩
      refine ⟨_, rfl, _, rfl, _, rfl, _, _, rfl, rfl, .inl ⟨_, rfl, _, rfl, 1, n, rfl, rfl, ⟨by omega, by omega, by decide⟩, _, _, rfl, rfl, pw, _, _, rfl, rfl, _, rfl, rfl, _, rfl, ?_⟩⟩
      have b1 : ((g : Int) - x) % (1 * 2 ^ ((n : Int).toNat)) ≤ mo n := by
        have := Int.emod_lt_of_pos ((g : Int) - x) pw
        rw [es] at this ⊢
        omega
      have e1 : ((k : Int) + 1) * mo n = k * mo n + mo n := by rw [Int.add_mul, Int.one_mul]
      refine ifF (decide_eq_false fun z => ?_) ⟨hD2, fr2⟩
      injection z with z
      omega
    · refine ⟨(by show 0 ≤ sizeLine; decide), fun e ne => ?_⟩
      have fre := Fr.new (M := []) (o := .lst []) ne
      exact ⟨D, e, [], rfl, rfl, SqL.of (fre.same _ _ hD2), SqL.of upd_same, q _ (fr.trans (fr2.trans fre))⟩
end
end Tk

set_option Elab.async false
set_option linter.all false
set_option maxRecDepth 100000
set_option maxHeartbeats 4000000
namespace Tk
open PySem PySem.Spec PyProof.Rows L2

/-! ### cycles in order -/
theorem zip_le : ∀ {cs : List Int}, cs.Pairwise (· ≤ ·) → (((cs.map V.int).zip ((cs.map V.int).drop 1)).all fun q => leV q.1 q.2) = true
  | [], _ => rfl
  | [c], _ => rfl
  | c :: d :: r, h => by
    have ih := zip_le (cs := d :: r) h.tail
    have h1 : c ≤ d := (List.pairwise_cons.mp h).1 d List.mem_cons_self
    show ((V.int c, V.int d) :: ((d :: r).map V.int).zip (((d :: r).map V.int).drop 1)).all _ = true
    rw [List.all_cons, ih]
    show (decide (c ≤ d) && true) = true
    rw [decide_eq_true h1]
    rfl
theorem cycles_of {cs : List Int} (h0 : ∀ c, c ∈ cs → 0 ≤ c) (h : cs.Pairwise (· ≤ ·)) : cyclesL 0 (cs.map V.int) = true := by
  unfold cyclesL
  rw [zip_le h, Bool.and_true, List.all_eq_true]
  intro x hx
  obtain ⟨c, hc, rfl⟩ := List.mem_map.mp hx
  exact decide_eq_true (h0 c hc)

/-! ### stops and goes -/
def stopsR : Bool → List Rw → Bool
  | _, [] => true
  | p, r :: rs => (r.is "go" == p) && stopsR (r.is "stop") rs
def endStop : Bool → List Rw → Bool
  | p, [] => p
  | _, r :: rs => endStop (r.is "stop") rs
theorem stops_go : ∀ (o : Option Rw) (rs : List Rw), (((o :: rs.map some).zip (rs.map some ++ [none])).all fun q => stopPair q.1 q.2) = stopsR (isNm "stop" o) rs
  | o, [] => by
    show (stopPair o none && true) = true
    unfold stopPair
    cases isNm "stop" o <;> rfl
  | o, r :: rs => by
    have ih := stops_go (some r) rs
    show (stopPair o (some r) && ((some r :: rs.map some).zip (rs.map some ++ [none])).all fun q => stopPair q.1 q.2) = ((r.is "go" == isNm "stop" o) && stopsR (r.is "stop") rs)
    rw [ih]
    have e : stopPair o (some r) = (r.is "go" == isNm "stop" o) := by
      unfold stopPair
      show (!(decide (r.is "go" ≠ isNm "stop" o) && !(isNm "stop" o && false))) = _
      cases r.is "go" <;> cases isNm "stop" o <;> rfl
    rw [e]
    rfl
theorem stopsOk_eq (rs : List Rw) : stopsOk rs = stopsR false rs := stops_go none rs
theorem stopsR_app : ∀ (p : Bool) (xs ys : List Rw), stopsR p (xs ++ ys) = (stopsR p xs && stopsR (endStop p xs) ys)
  | p, [], ys => by simp [stopsR, endStop]
  | p, x :: xs, ys => by
    have ih := stopsR_app (x.is "stop") xs ys
    show ((x.is "go" == p) && stopsR (x.is "stop") (xs ++ ys)) = (((x.is "go" == p) && stopsR (x.is "stop") xs) && stopsR (endStop (x.is "stop") xs) ys)
    rw [ih, Bool.and_assoc]
theorem endStop_app : ∀ (p : Bool) (xs ys : List Rw), endStop p (xs ++ ys) = endStop (endStop p xs) ys
  | _, [], _ => rfl
  | _, x :: xs, ys => endStop_app (x.is "stop") xs ys

/-! ### rows in the making -/
structure Mk0 (rs : List Rw) (at_ : Int) : Prop where
  cyc : ∃ cs : List Int, cycV rs = cs.map V.int ∧ cs.Pairwise (· ≤ ·) ∧ ∀ c, c ∈ cs → 0 ≤ c ∧ c ≤ at_
  st : stopsR false rs = true
  en : endStop false rs = false
theorem Mk0.nil : Mk0 [] 0 := ⟨⟨[], rfl, .nil, fun _ h => nomatch h⟩, rfl, rfl⟩
theorem cyc_app (xs ys : List Rw) : cycV (xs ++ ys) = cycV xs ++ cycV ys := by simp [cycV, List.filter_append, List.map_append]
theorem cyc_snoc {cs : List Int} {a b : Int} (h : cs.Pairwise (· ≤ ·)) (k : ∀ c, c ∈ cs → 0 ≤ c ∧ c ≤ a) (ab : a ≤ b) (h0 : 0 ≤ b) : (cs ++ [b]).Pairwise (· ≤ ·) ∧ ∀ c, c ∈ cs ++ [b] → 0 ≤ c ∧ c ≤ b := by
  refine ⟨List.pairwise_append.mpr ⟨h, List.pairwise_singleton _ _, fun x hx y hy => ?_⟩, fun c hc => ?_⟩
  · obtain rfl := List.mem_singleton.mp hy
    exact Int.le_trans (k x hx).2 ab
  · rcases List.mem_append.mp hc with h | h
    · exact ⟨(k c h).1, Int.le_trans (k c h).2 ab⟩
    · obtain rfl := List.mem_singleton.mp h
      exact ⟨h0, Int.le_refl _⟩
section
variable {rs : List Rw} {a b : Int} {r : Rw}
theorem Mk0.plain (m : Mk0 rs a) (h0 : 0 ≤ a) (ab : a ≤ b) (g : r.is "go" = false) (s : r.is "stop" = false) (e : r.at = .int b) : Mk0 (rs ++ [r]) b := by
  obtain ⟨cs, c1, c2, c3⟩ := m.cyc
  obtain ⟨p1, p2⟩ := cyc_snoc c2 c3 ab (Int.le_trans h0 ab)
  refine ⟨⟨cs ++ [b], ?_, p1, p2⟩, ?_, ?_⟩
  · rw [cyc_app, c1, List.map_append]
    congr 1
    simp [cycV, g, e]
  · rw [stopsR_app, m.st, m.en]
    simp [stopsR, g]
  · rw [endStop_app]; exact s
theorem Mk0.pair {r' : Rw} (m : Mk0 rs a) (h0 : 0 ≤ a) (ab : a ≤ b) (s : r.is "stop" = true) (g : r.is "go" = false) (e : r.at = .int b) (g' : r'.is "go" = true) (s' : r'.is "stop" = false) : Mk0 (rs ++ [r, r']) b := by
  obtain ⟨cs, c1, c2, c3⟩ := m.cyc
  obtain ⟨p1, p2⟩ := cyc_snoc c2 c3 ab (Int.le_trans h0 ab)
  refine ⟨⟨cs ++ [b], ?_, p1, p2⟩, ?_, ?_⟩
  · rw [cyc_app, c1, List.map_append]
    congr 1
    simp [cycV, g, g', e]
  · rw [stopsR_app, m.st, m.en]
    simp [stopsR, g, s, g']
  · rw [endStop_app]; exact s'
/-- what a finished list of rows is -/
structure Mk1 (rs : List Rw) : Prop where
  ok : logOk rs = true
  sorted : ∃ cs : List Int, cycV rs = cs.map V.int ∧ cs.Pairwise (· ≤ ·) ∧ ∀ c, c ∈ cs → 0 ≤ c
theorem Mk0.done (m : Mk0 rs a) : Mk1 rs := by
  obtain ⟨cs, c1, c2, c3⟩ := m.cyc
  refine ⟨?_, cs, c1, c2, fun c h => (c3 c h).1⟩
  unfold logOk
  rw [c1, cycles_of (fun c h => (c3 c h).1) c2, stopsOk_eq, m.st]
  rfl
theorem Mk0.stop (m : Mk0 rs a) (h0 : 0 ≤ a) (ab : a ≤ b) (s : r.is "stop" = true) (g : r.is "go" = false) (e : r.at = .int b) : Mk1 (rs ++ [r]) := by
  obtain ⟨cs, c1, c2, c3⟩ := m.cyc
  obtain ⟨p1, p2⟩ := cyc_snoc c2 c3 ab (Int.le_trans h0 ab)
  have c : cycV (rs ++ [r]) = (cs ++ [b]).map V.int := by
    rw [cyc_app, c1, List.map_append]
    congr 1
    simp [cycV, g, e]
  refine ⟨?_, cs ++ [b], c, p1, fun c h => (p2 c h).1⟩
  unfold logOk
  rw [c, cycles_of (fun c h => (p2 c h).1) p1, stopsOk_eq, stopsR_app, m.st, m.en]
  simp [stopsR, g]
end

/-! ### the law's own way to put looks in -/
def dueGo : List Rw → List Int → List Out × List Int
  | [], left => ([], left)
  | r :: rs, left =>
    let here := left.filter fun c => !r.is "go" && decide (c ≤ r.c)
    let q := dueGo rs (left.drop here.length)
    (here.map .look ++ .row r :: q.1, q.2)
def dueO (rs : List Rw) (ls : List Int) : Option (List Out) :=
  let q := dueGo rs ls
  if (decide (q.2 ≠ []) && (decide (rs ≠ []) && endStop false rs)) = true then none else some (q.1 ++ q.2.map .look)
theorem filter_take : ∀ {ls : List Int} (k : Int), ls.Pairwise (· ≤ ·) → (ls.filter fun c => decide (c ≤ k)) = ls.takeWhile fun c => decide (c ≤ k)
  | [], _, _ => rfl
  | c :: ls, k, h => by
    by_cases hc : c ≤ k
    · rw [List.filter_cons_of_pos (by simpa using hc), List.takeWhile_cons_of_pos (by simpa using hc), filter_take (ls := ls) k h.tail]
    · rw [List.filter_cons_of_neg (by simpa using hc), List.takeWhile_cons_of_neg (by simpa using hc), List.filter_eq_nil_iff.mpr]
      intro d hd
      have := (List.pairwise_cons.mp h).1 d hd
      simp; omega
theorem drop_take {α : Type} (p : α → Bool) : ∀ ls : List α, ls.drop (ls.takeWhile p).length = ls.dropWhile p
  | [] => rfl
  | c :: ls => by
    cases h : p c with
    | true => rw [List.takeWhile_cons_of_pos h, List.dropWhile_cons_of_pos h]; exact drop_take p ls
    | false =>
      have h' : ¬ p c = true := by rw [h]; exact Bool.false_ne_true
      rw [List.takeWhile_cons_of_neg h', List.dropWhile_cons_of_neg h']
      rfl
theorem here_nongo {r : Rw} {ls : List Int} (g : r.is "go" = false) (h : ls.Pairwise (· ≤ ·)) : (ls.filter fun c => !r.is "go" && decide (c ≤ r.c)) = ls.takeWhile fun c => decide (c ≤ r.c) := by
  rw [← filter_take r.c h]
  congr 1
  funext c
  rw [g]; rfl
theorem here_go {r : Rw} {ls : List Int} (g : r.is "go" = true) : (ls.filter fun c => !r.is "go" && decide (c ≤ r.c)) = [] := by
  rw [g]; simp
theorem dropWhile_sorted {ls : List Int} (p : Int → Bool) (h : ls.Pairwise (· ≤ ·)) : (ls.dropWhile p).Pairwise (· ≤ ·) := h.sublist (List.dropWhile_sublist p)
theorem dueGo_go {r : Rw} {rs : List Rw} {ls : List Int} (g : r.is "go" = true) : dueGo (r :: rs) ls = (.row r :: (dueGo rs ls).1, (dueGo rs ls).2) := by
  show ((ls.filter _).map Out.look ++ .row r :: (dueGo rs (ls.drop (ls.filter _).length)).1, (dueGo rs (ls.drop (ls.filter _).length)).2) = _
  rw [here_go g]
  rfl
theorem dueGo_non {r : Rw} {rs : List Rw} {ls : List Int} (g : r.is "go" = false) (h : ls.Pairwise (· ≤ ·)) :
    dueGo (r :: rs) ls = ((ls.takeWhile fun c => decide (c ≤ r.c)).map .look ++ .row r :: (dueGo rs (ls.dropWhile fun c => decide (c ≤ r.c))).1, (dueGo rs (ls.dropWhile fun c => decide (c ≤ r.c))).2) := by
  show ((ls.filter _).map Out.look ++ .row r :: (dueGo rs (ls.drop (ls.filter _).length)).1, (dueGo rs (ls.drop (ls.filter _).length)).2) = _
  rw [here_nongo g h, drop_take]
theorem dueGo_merge : ∀ {rs : List Rw} {ls : List Int}, ls.Pairwise (· ≤ ·) → (dueGo rs ls).1 ++ (dueGo rs ls).2.map .look = merge rs ls
  | [], ls, _ => rfl
  | r :: rs, ls, h => by
    cases g : r.is "go" with
    | true =>
      rw [dueGo_go g, merge_cons, if_pos g]
      show Out.row r :: ((dueGo rs ls).1 ++ _) = _
      rw [dueGo_merge h]
    | false =>
      rw [dueGo_non g h, merge_cons, if_neg (by rw [g]; exact Bool.false_ne_true)]
      show (_ ++ Out.row r :: _) ++ _ = _
      rw [List.append_assoc, List.cons_append, dueGo_merge (dropWhile_sorted _ h)]
theorem dropWhile_dropWhile {c d : Int} (h : c ≤ d) : ∀ ls : List Int, (ls.dropWhile fun x => decide (x ≤ c)).dropWhile (fun x => decide (x ≤ d)) = ls.dropWhile fun x => decide (x ≤ d)
  | [] => rfl
  | x :: ls => by
    by_cases hx : x ≤ c
    · rw [List.dropWhile_cons_of_pos (by simpa using hx), List.dropWhile_cons_of_pos (by simp; omega)]
      exact dropWhile_dropWhile h ls
    · rw [List.dropWhile_cons_of_neg (by simpa using hx)]
theorem left_drop {d : Int} : ∀ {rs : List Rw} {ls : List Int}, ls.Pairwise (· ≤ ·) → (∀ r, r ∈ rs → r.is "go" = false → r.c ≤ d) → ((dueGo rs ls).2.dropWhile fun x => decide (x ≤ d)) = ls.dropWhile fun x => decide (x ≤ d)
  | [], _, _, _ => rfl
  | r :: rs, ls, h, k => by
    cases g : r.is "go" with
    | true =>
      rw [dueGo_go g]
      exact left_drop h fun r' m => k r' (List.mem_cons_of_mem _ m)
    | false =>
      rw [dueGo_non g h]
      show ((dueGo rs _).2.dropWhile _) = _
      rw [left_drop (dropWhile_sorted _ h) fun r' m => k r' (List.mem_cons_of_mem _ m), dropWhile_dropWhile (k r List.mem_cons_self g)]
theorem dueGo_app : ∀ {rs : List Rw} {r : Rw} {ls : List Int}, ls.Pairwise (· ≤ ·) → r.is "go" = false → (dueGo (rs ++ [r]) ls).2 = (dueGo rs ls).2.dropWhile fun x => decide (x ≤ r.c)
  | [], r, ls, h, g => by
    show (dueGo [r] ls).2 = ls.dropWhile _
    rw [dueGo_non g h]
    rfl
  | q :: rs, r, ls, h, g => by
    cases gq : q.is "go" with
    | true =>
      rw [List.cons_append, dueGo_go gq, dueGo_go gq]
      exact dueGo_app h g
    | false =>
      rw [List.cons_append, dueGo_non gq h, dueGo_non gq h]
      exact dueGo_app (dropWhile_sorted _ h) g
theorem dropWhile_last {d : Int} : ∀ {ls : List Int} {c : Int}, ls.Pairwise (· ≤ ·) → ls.getLast? = some c → (decide ((ls.dropWhile fun x => decide (x ≤ d)) ≠ []) = decide (d < c))
  | [], _, _, h => by simp at h
  | [x], c, _, h => by
    have e : x = c := by simpa using h
    subst e
    by_cases hx : x ≤ d
    · rw [List.dropWhile_cons_of_pos (by simpa using hx)]
      simp; omega
    · rw [List.dropWhile_cons_of_neg (by simpa using hx)]
      simp; omega
  | x :: y :: r, c, p, h => by
    have h' : (y :: r).getLast? = some c := by rw [← h]; simp [List.getLast?_cons_cons]
    by_cases hx : x ≤ d
    · rw [List.dropWhile_cons_of_pos (by simpa using hx)]
      exact dropWhile_last p.tail h'
    · rw [List.dropWhile_cons_of_neg (by simpa using hx)]
      have m : c ∈ y :: r := List.mem_of_getLast? h'
      have := (List.pairwise_cons.mp p).1 c m
      simp; omega
theorem endStop_last {rs : List Rw} {r : Rw} : endStop false (rs ++ [r]) = r.is "stop" := by rw [endStop_app]; rfl
theorem due_eq {rs : List Rw} {ls : List Int} (m : Mk1 rs) (h : ls.Pairwise (· ≤ ·)) : dueO rs ls = if late rs ls = true then none else some (merge rs ls) := by
  have e : (decide ((dueGo rs ls).2 ≠ []) && (decide (rs ≠ []) && endStop false rs)) = late rs ls := by
    rcases List.eq_nil_or_concat rs with rfl | ⟨qs, r, rfl⟩
    · simp [late]
    · rw [List.concat_eq_append] at *
      rw [endStop_last]
      unfold late
      rw [List.getLast?_append, List.getLast?_singleton, Option.some_or]
      cases s : r.is "stop" with
      | false => cases ls.getLast? <;> simp [s]
      | true =>
        have g : r.is "go" = false := by
          have z : r.name = "stop" := of_decide_eq_true s
          unfold Rw.is; rw [z]; decide
        rw [dueGo_app h g]
        obtain ⟨cs, c1, c2, _⟩ := m.sorted
        have er : r.at = .int r.c := row_int m.ok (by simp) g
        have k : ∀ r', r' ∈ qs → r'.is "go" = false → r'.c ≤ r.c := by
          intro r' hm g'
          have er' : r'.at = .int r'.c := row_int m.ok (by simp [hm]) g'
          rw [cyc_app] at c1
          have e2 : cycV [r] = [V.int r.c] := by simp [cycV, g, er]
          rw [e2] at c1
          obtain ⟨l1, l2, rfl, e3, e4⟩ := List.map_eq_append_iff.mp c1.symm
          obtain ⟨d, rfl, e5⟩ : ∃ d, l2 = [d] ∧ V.int d = V.int r.c := by
            cases l2 with
            | nil => cases e4
            | cons d t => cases t with
              | nil => exact ⟨d, rfl, by simpa using e4⟩
              | cons _ _ => simp at e4
          cases e5
          have m2 : V.int r'.c ∈ cycV qs := by rw [← er']; exact List.mem_map.mpr ⟨r', List.mem_filter.mpr ⟨hm, by rw [g']; rfl⟩, rfl⟩
          rw [← e3] at m2
          obtain ⟨c0, hc0, e6⟩ := List.mem_map.mp m2
          cases e6
          exact (List.pairwise_append.mp c2).2.2 _ hc0 _ (by simp)
        rw [left_drop h k]
        cases hl : ls.getLast? with
        | none =>
          rw [List.getLast?_eq_none_iff] at hl
          subst hl
          simp
        | some c =>
          rw [dropWhile_last h hl]
          simp [s]
  show (if (decide ((dueGo rs ls).2 ≠ []) && (decide (rs ≠ []) && endStop false rs)) = true then none else some _) = _
  rw [e, dueGo_merge h]
end Tk

set_option Elab.async false
set_option linter.all false
set_option maxRecDepth 100000
set_option maxHeartbeats 4000000
namespace Tk
open PySem PySem.Spec PyProof.Rows L2

/-! ### data that stands in the tracked heap -/
mutual
inductive Dd (H : Hp) : V → PyData → Prop
  | non : Dd H .non .none
  | bl (b : Bool) : Dd H (.bl b) (.bool b)
  | int (i : Int) : Dd H (.int i) (.int i)
  | str (x : Str) : Dd H (.str x) (.str x)
  | lst {a : Addr} {xs : List V} {ds : List PyData} : H a = some (.lst xs) → DdAll H xs ds → Dd H (.ref a) (.list ds)
  | tup {a : Addr} {xs : List V} {ds : List PyData} : H a = some (.tup xs) → DdAll H xs ds → Dd H (.ref a) (.tuple ds)
inductive DdAll (H : Hp) : List V → List PyData → Prop
  | nil : DdAll H [] []
  | cons {v : V} {vs : List V} {d : PyData} {ds : List PyData} : Dd H v d → DdAll H vs ds → DdAll H (v :: vs) (d :: ds)
end
section
variable {K : PySem.W.Frag} {H H' : Hp}
mutual
theorem Dd.dp : ∀ {v : V} {d : PyData}, Dd H v d → Dp K H v d
  | _, _, .non => .non
  | _, _, .bl b => .bl b
  | _, _, .int i => .int i
  | _, _, .str x => .str x
  | _, _, .lst s h => .lst (SqL.of s) (DdAll.dp h)
  | _, _, .tup s h => .tup (SqT.of s) (DdAll.dp h)
theorem DdAll.dp : ∀ {vs : List V} {ds : List PyData}, DdAll H vs ds → DpAll K H vs ds
  | _, _, .nil => .nil
  | _, _, .cons a b => .cons (Dd.dp a) (DdAll.dp b)
end
mutual
theorem Dd.same (e : Same H H') : ∀ {v : V} {d : PyData}, Dd H v d → Dd H' v d
  | _, _, .non => .non
  | _, _, .bl b => .bl b
  | _, _, .int i => .int i
  | _, _, .str x => .str x
  | _, _, .lst s h => .lst (e _ _ s) (DdAll.same e h)
  | _, _, .tup s h => .tup (e _ _ s) (DdAll.same e h)
theorem DdAll.same (e : Same H H') : ∀ {vs : List V} {ds : List PyData}, DdAll H vs ds → DdAll H' vs ds
  | _, _, .nil => .nil
  | _, _, .cons a b => .cons (Dd.same e a) (DdAll.same e b)
end
mutual
theorem Dd.one : ∀ {v : V} {d d' : PyData}, Dd H v d → Dd H v d' → d = d'
  | _, _, _, .non, h => by cases h; rfl
  | _, _, _, .bl b, h => by cases h; rfl
  | _, _, _, .int i, h => by cases h; rfl
  | _, _, _, .str x, h => by cases h; rfl
  | _, _, _, .lst s a, h => by
    cases h with
    | lst s' a' => cases s.symm.trans s'; rw [DdAll.one a a']
    | tup s' a' => cases s.symm.trans s'
  | _, _, _, .tup s a, h => by
    cases h with
    | lst s' a' => cases s.symm.trans s'
    | tup s' a' => cases s.symm.trans s'; rw [DdAll.one a a']
theorem DdAll.one : ∀ {vs : List V} {ds ds' : List PyData}, DdAll H vs ds → DdAll H vs ds' → ds = ds'
  | _, _, _, .nil, h => by cases h; rfl
  | _, _, _, .cons a b, h => by
    cases h with
    | cons a' b' => rw [Dd.one a a', DdAll.one b b']
end
theorem DdAll.app : ∀ {xs ys : List V} {ds es : List PyData}, DdAll H xs ds → DdAll H ys es → DdAll H (xs ++ ys) (ds ++ es)
  | _, _, _, _, .nil, b => b
  | _, _, _, _, .cons a c, b => .cons a (DdAll.app c b)
theorem DdAll.ints : ∀ ns : List Int, DdAll H (ns.map V.int) (ns.map PyData.int)
  | [] => .nil
  | n :: ns => .cons (.int n) (DdAll.ints ns)
theorem DdAll.strs : ∀ ns : List Str, DdAll H (ns.map V.str) (ns.map PyData.str)
  | [] => .nil
  | n :: ns => .cons (.str n) (DdAll.strs ns)
end
/-- the data of a value -/
noncomputable def dOf (H : Hp) (v : V) : PyData := open Classical in if h : ∃ d, Dd H v d then Classical.choose h else .none
theorem dOf_eq {H : Hp} {v : V} {d : PyData} (h : Dd H v d) : dOf H v = d := by
  have e : ∃ d, Dd H v d := ⟨d, h⟩
  unfold dOf
  rw [dif_pos e]
  exact (Classical.choose_spec e).one h
theorem dOf_at {H : Hp} {v : V} (h : ∃ d, Dd H v d) : Dd H v (dOf H v) := by
  obtain ⟨d, h⟩ := h
  rw [dOf_eq h]; exact h

/-! ### small data: its text fits -/
mutual
def okD : PyData → Bool
  | .none | .bool _ => true
  | .int i => decide (i.natAbs < 10 ^ 40)
  | .str x => decide (x.length ≤ 64) && x.cps.toList.all fun c => decide (c < 128)
  | .list xs | .tuple xs => okDs xs
  | .dict _ => false
def okDs : List PyData → Bool
  | [] => true
  | x :: xs => okD x && okDs xs
end
mutual
def nodes : PyData → Nat
  | .none | .bool _ | .int _ | .str _ | .dict _ => 1
  | .list xs | .tuple xs => 1 + nodesAll xs
def nodesAll : List PyData → Nat
  | [] => 0
  | x :: xs => nodes x + nodesAll xs
end
theorem nodes_pos : ∀ d : PyData, 1 ≤ nodes d
  | .none | .bool _ | .int _ | .str _ | .dict _ => by simp only [nodes]; omega
  | .list xs | .tuple xs => by simp only [nodes]; omega
theorem nodesAll_len : ∀ ds : List PyData, ds.length ≤ nodesAll ds
  | [] => Nat.zero_le _
  | d :: ds => by
    have h1 := nodes_pos d
    have h2 := nodesAll_len ds
    simp only [nodesAll, List.length_cons]; omega
theorem shownAll_len : ∀ ds : List PyData, (PyData.shownAll ds).length = ds.length
  | [] => by simp only [PyData.shownAll, List.length_nil]
  | d :: ds => by simp only [PyData.shownAll, List.length_cons, shownAll_len ds]
mutual
theorem shown_okD : ∀ d : PyData, okD d = true → d.shown.length + 5 ≤ 1000 * nodes d
  | .none, _ => by
    have e : (PyData.shown .none).length = 4 := rfl
    simp only [nodes]; omega
  | .bool b, _ => by
    have e : (PyData.shown (.bool b)).length ≤ 5 := by cases b <;> decide
    simp only [nodes]; omega
  | .int i, h => by
    have h : i.natAbs < 10 ^ 40 := by simpa only [okD, decide_eq_true_eq] using h
    have e := int_text_length_le10 (k := 40) (by decide) h
    have e2 : (PyData.shown (.int i)).length ≤ 41 := by
      show (Str.ofString (toString i)).length ≤ 41
      rw [PySem.ofString_length]; exact e
    simp only [nodes]; omega
  | .str x, h => by
    simp only [okD, Bool.and_eq_true, decide_eq_true_eq, List.all_eq_true] at h
    have e := StrLaws.reprText_len x fun c hc => Nat.lt_trans (h.2 c hc) (by decide)
    have e2 : (PyData.shown (.str x)).length ≤ 10 * x.length + 2 := by rw [PyData.shown]; exact e
    simp only [nodes]; omega
  | .list xs, h => by
    have h : okDs xs = true := by simpa only [okD] using h
    have e := shownAll_okD xs h
    have l := listText_len_le (PyData.shownAll xs)
    rw [shownAll_len] at l
    simp only [PyData.shown, nodes]; omega
  | .tuple xs, h => by
    have h : okDs xs = true := by simpa only [okD] using h
    have e := shownAll_okD xs h
    have l := tupleText_len_le (PyData.shownAll xs)
    rw [shownAll_len] at l
    simp only [PyData.shown, nodes]; omega
  | .dict _, h => by simp [okD] at h
theorem shownAll_okD : ∀ ds : List PyData, okDs ds = true → ((PyData.shownAll ds).map (·.length)).sum + 5 * ds.length ≤ 1000 * nodesAll ds
  | [], _ => by simp [PyData.shownAll]
  | d :: ds, h => by
    simp only [okDs, Bool.and_eq_true] at h
    have e1 := shown_okD d h.1
    have e2 := shownAll_okD ds h.2
    simp only [PyData.shownAll, List.map_cons, List.sum_cons, List.length_cons, nodesAll]; omega
end
mutual
theorem okD_showable : ∀ d : PyData, okD d = true → d.showable = true
  | .none, _ => by simp only [PyData.showable]
  | .bool b, _ => by simp only [PyData.showable]
  | .int i, h => by
    have h : i.natAbs < 10 ^ 40 := by simpa only [okD, decide_eq_true_eq] using h
    simp only [PyData.showable, decide_eq_true_eq]
    by_cases z : i.natAbs = 0
    · rw [z]; decide
    · exact (Nat.log2_lt z).mpr (Nat.lt_of_lt_of_le h (Nat.le_trans (by decide : 10 ^ 40 ≤ 2 ^ 140) (Nat.pow_le_pow_right (by decide) (by decide))))
  | .str x, _ => by simp only [PyData.showable]
  | .list xs, h => by simp only [PyData.showable]; exact okDs_showable xs (by simpa only [okD] using h)
  | .tuple xs, h => by simp only [PyData.showable]; exact okDs_showable xs (by simpa only [okD] using h)
  | .dict _, h => by simp [okD] at h
theorem okDs_showable : ∀ ds : List PyData, okDs ds = true → PyData.showableAll ds = true
  | [], _ => by simp only [PyData.showableAll]
  | d :: ds, h => by
    simp only [okDs, Bool.and_eq_true] at h
    simp only [PyData.showableAll, okD_showable d h.1, okDs_showable ds h.2, Bool.and_self]
end
theorem shown_fits {d : PyData} (h : okD d = true) (n : nodes d ≤ 16000) : d.shown.length ≤ sizeLine := by
  have e := shown_okD d h
  rw [sizeLine_eq]; omega
/-- repr of small data -/
theorem repr_at {K : PySem.W.Frag} {H : Hp} {v : V} {d : PyData} {Q : VK} (h : Dd H v d) (ok : okD d = true) (n : nodes d ≤ 16000) (dp : d.depth ≤ 60) (q : Q (.str d.shown) H) : rRepr K [v] H Q :=
  ⟨v, d, rfl, h.dp, okD_showable d ok, dp, shown_fits ok n, q⟩
end Tk

set_option Elab.async false
set_option linter.all false
set_option maxRecDepth 100000
set_option maxHeartbeats 4000000
namespace Tk
open PySem PySem.Spec PyProof.Rows L2

/-! ### the law's table of sizes -/
def szA : List (Str × Int) := [("look", 1), ("read", 2), ("set_rate", 2), ("set_real", 2), ("slew", 3), ("stop", 2), ("go", 1), ("put", 6),
  ("drop", 2)]
def szB : List (Str × Int) := [("expired", 2), ("take", 1), ("put_tick", 3), ("hand_over", 3), ("process", 1), ("thread", 2),
  ("run", 4)]
def szC : List (Str × Int) := [("join", 3), ("leave", 2), ("sleep", 3), ("limit", 3), ("waiting", 2), ("running", 2),
  ("sampled", 2)]
def lawSizes : List (Str × Int) := szA ++ szB ++ szC
def toKV (l : List (Str × Int)) : List (Key × V) := l.map fun q => ((Sum.inr q.1 : Key), V.int q.2)
theorem valV_none {kvs : List (Key × V)} {k : Key} (h : k ∉ kvs.map (·.1)) : valV kvs k = none := by
  induction kvs with
  | nil => rfl
  | cons p r ih =>
    rw [List.map_cons, List.mem_cons, not_or] at h
    rw [valV_neg fun z => h.1 z.symm]
    exact ih h.2
theorem merge_new : ∀ {more kvs : List (Key × V)}, ((kvs ++ more).map (·.1)).Nodup → mergeK kvs more = kvs ++ more
  | [], kvs, _ => by rw [List.append_nil]; rfl
  | p :: r, kvs, h => by
    have e : putK kvs p.1 p.2 = kvs ++ [p] := by
      refine putK_new _ (valV_none fun m => ?_)
      rw [List.map_append, List.nodup_append] at h
      exact h.2.2 _ m p.1 (by simp) rfl
    show mergeK (putK kvs p.1 p.2) r = _
    rw [e, merge_new (by rw [List.append_assoc]; exact h), List.append_assoc]
    rfl
theorem keys_kv (l : List (Str × Int)) : (toKV l).map (·.1) = (l.map (·.1)).map Sum.inr := by simp [toKV, List.map_map]
theorem nodup_kv {l : List (Str × Int)} (h : (l.map (·.1)).Nodup) : ((toKV l).map (·.1)).Nodup := by
  rw [keys_kv]
  exact List.Pairwise.map _ (fun _ _ n z => n (Sum.inr.inj z)) h
theorem kv_app (a b : List (Str × Int)) : toKV (a ++ b) = toKV a ++ toKV b := by simp [toKV]
theorem sz_nodup : (lawSizes.map (·.1)).Nodup := by decide +kernel
theorem szAB_nodup : ((szA ++ szB).map (·.1)).Nodup := by decide +kernel
theorem szA_nodup : (szA.map (·.1)).Nodup := by decide +kernel
theorem szB_nodup : (szB.map (·.1)).Nodup := by decide +kernel
theorem szC_nodup : (szC.map (·.1)).Nodup := by decide +kernel
theorem mrg0 {l : List (Str × Int)} (h : (l.map (·.1)).Nodup) : mergeK [] (toKV l) = toKV l := merge_new (kvs := []) (nodup_kv h)
theorem mrg1 : mergeK (toKV szA) (toKV szB) = toKV (szA ++ szB) := by rw [kv_app]; exact merge_new (by rw [← kv_app]; exact nodup_kv szAB_nodup)
theorem mrg2 : mergeK (toKV (szA ++ szB)) (toKV szC) = toKV lawSizes := by
  show _ = toKV (szA ++ szB ++ szC)
  rw [kv_app (szA ++ szB) szC]
  exact merge_new (by rw [← kv_app]; exact nodup_kv sz_nodup)
theorem sz_val {q : Str × Int} (h : q ∈ lawSizes) : valV (toKV lawSizes) (Sum.inr q.1) = some (.int q.2) := by
  have ok : (lawSizes.all fun q => decide (valV (toKV lawSizes) (Sum.inr q.1) = some (.int q.2))) = true := by decide +kernel
  exact of_decide_eq_true (List.all_eq_true.mp ok _ h)
theorem sz_size {q : Str × Int} (h : q ∈ lawSizes) : sizeV q.1 = .int (q.2 + 1) ∧ 1 ≤ q.2 ∧ q.2 ≤ 6 := by
  have ok : (lawSizes.all fun q => decide (sizeV q.1 = .int (q.2 + 1) ∧ 1 ≤ q.2 ∧ q.2 ≤ 6)) = true := by decide +kernel
  exact of_decide_eq_true (List.all_eq_true.mp ok _ h)
section
variable {P : Program} {w : World} {K : PySem.W.Frag} {mg : Str → Option Value} {base : Heap}
def spSizes : Sp := fun vs H Q _ => vs = [] ∧ ∀ d H', H d = none → H' d = some (.dK (toKV lawSizes)) → Fr [] H H' → Q (.ref d) H'
theorem sc_sizes : FnScope ["found"] [] (defScope s__law_sizes) := ⟨rfl, rfl, rfl, by decide +kernel, rfl, by decide +kernel, by decide +kernel⟩
theorem ok_sizes (F : FunAt K mg "_law_sizes" s__law_sizes) : Cal P w K mg base CX0 1 "_law_sizes" [] [] spSizes := by
  refine Cal.mk0 F sc_sizes (by rintro _ _ _ _ ⟨rfl, _⟩; rfl) (fun _ _ _ _ _ _ us hl => match us, hl with | [], _ => rfl) ?_
  rintro f cdv A outer s H vs Q E hr ⟨rfl, q⟩
  have nd := sc_sizes.nd
  refine ⟨_, (pss_cons (ps_set (i := 0) nd rfl (.inl rfl) (pe_disp (pps_cons pe_str pe_int (pps_cons pe_str pe_int (pps_cons pe_str pe_int (pps_cons pe_str pe_int (pps_cons pe_str pe_int (pps_cons pe_str pe_int (pps_cons pe_str pe_int (pps_cons pe_str pe_int (pps_cons pe_str pe_int pps_nil))))))))) (by rfl) (by rfl) (fun z => by cases z) (by decide)))
    (pss_cons (ps_expr (pe_bm PySem.F.plainAttrs_dict PySem.F.slot_dict_update PySem.F.type_dict_update mt_update (pv 0) (pa_cons (pe_disp (pps_cons pe_str pe_int (pps_cons pe_str pe_int (pps_cons pe_str pe_int (pps_cons pe_str pe_int (pps_cons pe_str pe_int (pps_cons pe_str pe_int (pps_cons pe_str pe_int pps_nil))))))) (by rfl) (by rfl) (fun z => by cases z) (by decide)) pa_nil)))
    (pss_cons (ps_expr (pe_bm PySem.F.plainAttrs_dict PySem.F.slot_dict_update PySem.F.type_dict_update mt_update (pv 0) (pa_cons (pe_disp (pps_cons pe_str pe_int (pps_cons pe_str pe_int (pps_cons pe_str pe_int (pps_cons pe_str pe_int (pps_cons pe_str pe_int (pps_cons pe_str pe_int (pps_cons pe_str pe_int pps_nil))))))) (by rfl) (by rfl) (fun z => by cases z) (by decide)) pa_nil)))
    (pss_one (ps_ret (pv 0)))))), ?_⟩
  intro d hd
  have f1 : Fr [] H (upd H d (.dK [])) := Fr.new hd
  have f2 : Fr [d] (upd H d (.dK [])) (upd (upd H d (.dK [])) d (.dK (mergeK [] (toKV szA)))) := Fr.set (List.mem_singleton.mpr rfl)
  have n1 := Fr.drop (f1.weak.trans f2) hd
  refine ⟨upd_same, toKV szA, rfl, (by decide), ?_⟩
  rw [mrg0 szA_nodup] at n1 ⊢
  refine ⟨_, rfl, .inr (.inr (.inl ⟨rfl, .inl ⟨_, upd_same⟩⟩)), fun p hp => ?_⟩
  have np : d ≠ p := ne_of_none upd_same hp
  have f3 := Fr.new (M := [d]) (o := .dK []) hp
  refine ⟨upd_same, toKV szB, rfl, (by decide), ?_⟩
  rw [mrg0 szB_nodup]
  refine ⟨d, p, _, _, rfl, rfl, np, by rw [upd_ne np, upd_ne np]; exact upd_same, upd_same, (by decide), ?_⟩
  rw [mrg1]
  refine ⟨_, rfl, .inr (.inr (.inl ⟨rfl, .inl ⟨_, upd_same⟩⟩)), fun p2 hp2 => ?_⟩
  have np2 : d ≠ p2 := ne_of_none upd_same hp2
  refine ⟨upd_same, toKV szC, rfl, (by decide), ?_⟩
  rw [mrg0 szC_nodup]
  refine ⟨d, p2, _, _, rfl, rfl, np2, by rw [upd_ne np2, upd_ne np2]; exact upd_same, upd_same, (by decide), ?_⟩
  rw [mrg2]
  refine ⟨_, rfl, q d _ hd upd_same ?_⟩
  refine Fr.drop (n1.weak.trans ?_) hd
  have g1 : ∀ {H : Hp} {o : HO}, Fr [d] H (upd H d o) := Fr.set (List.mem_singleton.mpr rfl)
  exact (Fr.drop ((Fr.new hp).weak.trans (Fr.set (List.mem_cons_self))) hp).trans (g1.trans ((Fr.drop ((Fr.new hp2).weak.trans (Fr.set (List.mem_cons_self))) hp2).trans g1))
end
end Tk

set_option Elab.async false
set_option linter.all false
set_option maxRecDepth 100000
set_option maxHeartbeats 4000000
namespace Tk
open PySem PySem.Spec PyProof.Rows L2

/-! ### the law's rows -/
/-- a row of ints -/
def GoodRw (r : Rw) : Prop := ∃ (q : Str × Int) (ns : List Int), q ∈ lawSizes ∧ r = ⟨q.1, ns.map V.int⟩ ∧ (ns.length : Int) = q.2 ∧ ∀ i, i ∈ ns → 0 ≤ i ∧ i < 10 ^ 13
theorem rwAt_of {H : Hp} {p : Addr} {q : Str × Int} {ns : List Int} (m : q ∈ lawSizes) (l : (ns.length : Int) = q.2) (h : H p = some (.tup (.str q.1 :: ns.map V.int))) : RwAt H (.ref p) ⟨q.1, ns.map V.int⟩ := by
  refine ⟨⟨p, rfl, h⟩, fun y hy => ?_, ?_⟩
  · obtain ⟨i, _, rfl⟩ := List.mem_map.mp hy
    exact ⟨_, .int i⟩
  · rw [(sz_size m).1]
    simp only [List.length_map]
    congr 1
    omega
theorem eqv_str (a b : Str) : eqV (.str a) (.str b) = decide (a = b) := by
  show (a == b) = _
  by_cases h : a = b
  · subst h; simp
  · rw [decide_eq_false h]; exact beq_eq_false_iff_ne.mpr h
theorem in_goStop (n : Str) : inV (.str n) [.str "go", .str "stop"] = (decide (n = "go") || decide (n = "stop")) := by
  show (eqV (.str "go") (.str n) || (eqV (.str "stop") (.str n) || false)) = _
  rw [eqv_str, eqv_str, Bool.or_false]
  congr 1 <;> (congr 1; exact propext ⟨Eq.symm, Eq.symm⟩)
theorem go_mem : (("go", 1) : Str × Int) ∈ lawSizes := by decide +kernel
theorem stop_mem : (("stop", 2) : Str × Int) ∈ lawSizes := by decide +kernel
/-- what the loop over the turns keeps -/
structure RowsI (H : Hp) (a pn : Addr) (y span : Int) (names : List Str) (i : Nat) (fo : Addr) (at_ : Int) (H' : Hp) : Prop where
  src : ∃ x z, H' a = some (srcO x y z)
  nm : H' pn = some (.lst (names.map V.str))
  ls : ∃ xs rs, H' fo = some (.lst xs) ∧ Paired (RwAt (Hd [a, fo] H')) xs rs ∧ (∀ r, r ∈ rs → GoodRw r) ∧ Mk0 rs at_ ∧ rs.length ≤ 2 * i
  new : H fo = none
  nfa : fo ≠ a
  npf : pn ≠ fo
  fr : Fr [a] H H'
  rng : 0 ≤ at_ ∧ at_ ≤ i * span
theorem hd_move {H' H2 : Hp} {a fo p : Addr} (fr : Fr [a] H' H2) (n : H' p = none) : Same (Hd [a, fo] H') (Hd [a, p] H2) := by
  intro b o h
  obtain ⟨m, h⟩ := of_Hd h
  have na : b ≠ a := fun z => m (by simp [z])
  have np : b ≠ p := ne_of_none h n
  rw [Hd_of (by simp [na, np])]
  exact fr.at h (by simpa using na)
section
variable {P : Program} {w : World} {K : PySem.W.Frag} {mg : Str → Option Value} {base : Heap}
def spRows : Sp := fun vs H Q _ => ∃ (a : Addr) (x y z span : Int) (many : Nat), vs = [.ref a, .int span, .int many] ∧ H a = some (srcO x y z) ∧ 0 < span ∧ span ≤ 10 ^ 10 ∧ many ≤ 16 ∧
  ∀ p xs rs H', H p = none → p ≠ a → H' p = some (.lst xs) → (∃ x z, H' a = some (srcO x y z)) → Fr [a] H H' → Paired (RwAt (Hd [a] H')) xs rs → (∀ r, r ∈ rs → GoodRw r) → Mk1 rs → rs.length ≤ 40 → Q (.ref p) H'
theorem sc_rows : FnScope ["source", "span", "many", "names", "turn", "found", "at", "name", "place"] ["source", "span", "many"] (defScope s__law_rows) := ⟨rfl, rfl, rfl, by decide +kernel, rfl, by decide +kernel, by decide +kernel⟩
theorem ok_rows (F : FunAt K mg "_law_rows" s__law_rows) (G : NoGl mg) (C__law_sizes : Cal P w K mg base CX0 1 "_law_sizes" [] [] spSizes) (C__law_next : Cal P w K mg base CX0 2 "_law_next" ["source", "many"] [] spDraw) :
    Cal P w K mg base CX0 3 "_law_rows" ["source", "span", "many"] [] spRows := by
  refine Cal.mk0 F sc_rows (by rintro _ _ _ _ ⟨_, _, _, _, _, _, rfl, _⟩; rfl) (fun _ _ _ _ _ _ us hl => match us, hl with | [_, _, _], _ => rfl) ?_
  rintro f cdv A outer s H vs Q E hr ⟨a, x, y, z, span, many, rfl, hs, sp0, sp1, hm, q⟩
  have nd := sc_rows.nd
  have hu1 := hu_of hr
  refine ⟨_, (pss_cons (ps_set (i := 3) nd rfl (.inl rfl) (pe_callB (call_sortedD rfl) (by rfl) G.sorted (by decide +kernel) (pa_cons (pe_c0 C__law_sizes (hr.mono (by decide)) (by rfl) pass0) pa_nil)))
    (pss_cons (ps_par (i := 5) (j := 6) (by rfl) nd rfl rfl (by decide) rfl rfl (pa_cons (pe_lst pa_nil) (pa_cons pe_int pa_nil)) (by rfl))
    (pss_cons (ps_for PassesOwn.never rfl (pi_range1 (by rfl) G.range (pa_cons (pv 2) pa_nil)) (pg_name (i := 4) nd rfl (.inl rfl))
      (pss_cons (ps_set (i := 6) nd rfl (.inl rfl) (pe_op op_add (pv 6) (pe_c C__law_next (hr.mono (by decide)) (by rfl) pass0 (pa_cons (pv 0) (pa_cons (pv 1) pa_nil)))))
      (pss_cons (ps_set (i := 7) nd rfl (.inl rfl) (pe_ix ix_list (pv 3) (pe_c C__law_next (hr.mono (by decide)) (by rfl) pass0 (pa_cons (pv 0) (pa_cons (pe_callB call_len_seq (by rfl) G.len (by decide +kernel) (pa_cons (pv 3) pa_nil)) pa_nil))) (fun _ _ => rfl)))
      (pss_one (ps_if (pt_cmpR op_in_seq (pv 7) (pe_tup (pa_cons pe_str (pa_cons pe_str pa_nil))) rfl)
        (pss_one (ps_set (i := 5) nd rfl (.inl rfl) (pe_op op_cat (pv 5) (pe_lst (pa_cons (pe_tup (pa_cons pe_str (pa_cons (pv 6) (pa_cons pe_int pa_nil)))) (pa_cons (pe_tup (pa_cons pe_str (pa_cons (pe_op op_add pe_int (pe_c C__law_next (hr.mono (by decide)) (by rfl) pass0 (pa_cons (pv 0) (pa_cons pe_int pa_nil)))) pa_nil))) pa_nil))))))
        (pss_one (ps_expr (pe_bm PySem.F.plainAttrs_list PySem.F.slot_list_append PySem.F.type_list_append mt_append (pv 5) (pa_cons (pe_op op_catT (pe_tup (pa_cons (pv 7) (pa_cons (pv 6) pa_nil))) (pe_callTy (T := "tuple") call_tuple_of (by rfl) G.tuple (by decide +kernel) (pa_cons (pe_lc (own := [("place", 8)]) (g := gName 8) (tt := tYes) rfl nd (pi_range1 (by rfl) G.range (pa_cons (pe_op op_sub (pe_dget hu1 (pe_c0 C__law_sizes (hr.mono (by decide)) (by rfl) pass0) (pv 7) (fun _ _ => rfl)) pe_int) pa_nil))
        (blkOk_by (own := [("place", 8)]) (N := ["source", "span", "many", "names", "turn", "found", "at", "name", "place"]) (sc := defScope s__law_rows) (by decide +kernel))
        (fun _ _ _ _ _ => (pg_name (i := 8) nd rfl (.inl rfl) (Or.inr rfl))) (fun _ _ _ _ _ => pts_nil)
        (fun _ _ _ _ _ => (pe_c C__law_next (hr.mono (by decide)) (by rfl) pass0 (pa_cons (pv 0) (pa_cons pe_int pa_nil))))) pa_nil))) pa_nil)))))))))
    (pss_one (ps_ret (pe_op op_cat (pv 5) (pe_op op_rep (pe_lst (pa_cons (pe_tup (pa_cons pe_str (pa_cons (pe_op op_add (pv 6) (pe_c C__law_next (hr.mono (by decide)) (by rfl) pass0 (pa_cons (pv 0) (pa_cons (pv 1) pa_nil)))) (pa_cons pe_int pa_nil)))) pa_nil)) (pe_callTy (T := "int") call_int1 (by rfl) G.int (by decide +kernel) (pa_cons (pe_cmpR op_eq (pe_c C__law_next (hr.mono (by decide)) (by rfl) pass0 (pa_cons (pv 0) (pa_cons pe_int pa_nil))) pe_int (nomark _)) pa_nil))))))))), ?_⟩
  -- names = sorted(_law_sizes())
  refine ⟨rfl, fun d H1 hd hd1 fr1 => ?_⟩
  refine ⟨d, _, lawSizes.map (·.1), rfl, .inl hd1, keys_kv _, (by decide), fun names pn hperm _ hpn => ?_⟩
  have frn := Fr.new (M := []) (o := .lst (names.map V.str)) hpn
  have ln : names.length = 23 := hperm.length_eq
  have s1 := (fr1.trans frn).same _ _ hs
  -- found, at = [], 0
  refine ⟨(by show 0 ≤ sizeLine; decide), fun f0 hf0 => ⟨_, _, rfl, ?_⟩⟩
  have frf := Fr.new (M := []) (o := .lst []) hf0
  have fr0 := fr1.trans (frn.trans frf)
  refine ⟨_, rfl, many, rfl, (by omega), (by omega), ?_⟩
  have npn : pn ≠ a := (ne_of_none (fr1.same _ _ hs) hpn).symm
  have nf0 : f0 ≠ a := (ne_of_none s1 hf0).symm
  have npf : pn ≠ f0 := ne_of_none upd_same hf0
  refine for_range (lo := 0) (n := many) (fun i σ H' => ∃ fo at_ s4 s7 s8, σ = [some (V.ref a), some (V.int span), some (V.int many), some (V.ref pn), s4, some (V.ref fo), some (V.int at_), s7, s8] ∧ RowsI H a pn y span names i fo at_ H')
    ⟨f0, 0, _, _, _, rfl, ⟨x, z, frf.same _ _ s1⟩, frf.same _ _ upd_same, ⟨[], [], upd_same, .nil, (fun _ h => nomatch h), .nil, Nat.le_refl _⟩, (fr1.trans frn).none hf0, nf0, npf, fr0.mono (fun _ h => nomatch h), by omega, by omega⟩ ?_ ?_
  · rintro i σ H' hi ⟨fo, at_, s4, s7, s8, rfl, I⟩
    obtain ⟨⟨x1, z1, src1⟩, nm1, ⟨xs, rs, hfo, pr, good, mk, len⟩, new, nfa, npfo, fr, at0, at1⟩ := I
    have K1 : ∀ {H1 H2 : Hp}, Fr [a] H1 H2 → ∀ {b o}, H1 b = some o → b ≠ a → H2 b = some o := fun fr b o h ne => fr.at h (by simpa using ne)
    -- at
    refine ⟨_, rfl, _, rfl, _, rfl, a, x1, y, z1, span, rfl, src1, sp0, (by omega), fun d1 x2 z2 H2 d10 d11 src2 fr2 => ⟨_, _, rfl, rfl, ?_⟩⟩
    have nm2 := K1 fr2 nm1 npn
    have hfo2 := K1 fr2 hfo nfa
    -- name
    refine ⟨_, rfl, _, rfl, _, rfl, pn, _, rfl, .inl (SqL.of nm2), a, x2, y, z2, _, rfl, src2, (by rw [List.length_map, ln]; decide), (by rw [List.length_map, ln]; decide), fun d2 x3 z3 H3 d20 d21 src3 fr3 => ?_⟩
    have nm3 := K1 fr3 nm2 npn
    have hfo3 := K1 fr3 hfo2 nfa
    rw [List.length_map, ln] at d21
    obtain ⟨j, rfl⟩ : ∃ j : Nat, d2 = j := ⟨d2.toNat, by omega⟩
    have hj : j < names.length := by omega
    have mem : names[j] ∈ lawSizes.map (·.1) := hperm.mem_iff.mp (List.getElem_mem hj)
    generalize hn : names[j] = n at mem
    refine ⟨pn, _, _, V.str n, rfl, rfl, SqL.of nm3, atI_nat (j := j) (by rw [List.getElem?_map, List.getElem?_eq_getElem hj, hn]; rfl), ?_⟩
    -- name in ('go', 'stop')
    refine ⟨_, rfl, (by show 2 ≤ sizeLine; decide), fun pt hpt => ⟨pt, _, rfl, .inr (SqT.of upd_same), rfl, rfl, _, rfl, ?_⟩⟩
    have frt := Fr.new (M := []) (o := .tup [V.str "go", V.str "stop"]) hpt
    have src4 := frt.same _ _ src3
    have nm4 := frt.same _ _ nm3
    have hfo4 := frt.same _ _ hfo3
    have fr14 : Fr [a] H' (upd H3 pt (.tup [V.str "go", V.str "stop"])) := fr2.trans (fr3.trans (frt.mono fun _ h => nomatch h))
    have fo3 : Hd [a, fo] H' = Hd [a, fo] H' := rfl
    show if inV (V.str n) [V.str "go", V.str "stop"] = true then _ else _
    rw [in_goStop]
    have lx := PySem.Paired.length pr
    have atn : at_ ≤ at_ + d1 := by omega
    have at0' : 0 ≤ at_ + d1 := by omega
    have at1' : at_ + d1 ≤ (i + 1 : Nat) * span := by
      have : ((i + 1 : Nat) : Int) * span = i * span + span := by rw [Int.natCast_add, Int.add_mul]; simp
      omega
    have at2 : at_ + d1 < 10 ^ 13 := by
      have h1 : ((i + 1 : Nat) : Int) ≤ 16 := by omega
      have h2 : ((i + 1 : Nat) : Int) * span ≤ 16 * span := Int.mul_le_mul_of_nonneg_right h1 (by omega)
      omega
    refine ite2 (fun c => ?_) (fun c => ?_)
    · -- found = found + [('stop', at, 3), ('go', 3 + draw)]
      refine ⟨_, rfl, _, rfl, (by show 3 ≤ sizeLine; decide), fun p1 hp1 => ⟨_, rfl, a, x3, y, z3, 5, rfl, ?_⟩⟩
      have frp1 := Fr.new (M := []) (o := .tup [V.str "stop", V.int (at_ + d1), V.int 3]) hp1
      refine ⟨frp1.same _ _ src4, by decide, by decide, fun d5 x5 z5 H5 d50 d51 src5 fr5 => ⟨_, _, rfl, rfl, (by show 2 ≤ sizeLine; decide), fun p2 hp2 => ⟨(by show 2 ≤ sizeLine; decide), fun p3 hp3 => ?_⟩⟩⟩
      have np1a : p1 ≠ a := (ne_of_none src4 hp1).symm
      have h15 := K1 fr5 upd_same np1a
      have frp2 := Fr.new (M := []) (o := .tup [V.str "go", V.int (3 + d5)]) hp2
      have frp3 := Fr.new (M := []) (o := .lst [V.ref p1, V.ref p2]) hp3
      have fr13 : ∀ {M}, Fr M _ _ := fun {M} => (frp2.trans frp3).mono (N := M) fun _ h => nomatch h
      have hfo5 := fr13.at (M := []) (K1 fr5 (frp1.same _ _ hfo4) nfa) List.not_mem_nil
      refine ⟨fo, p3, xs, _, rfl, rfl, hfo5, upd_same, (by rw [sizeLine_eq]; show xs.length + 2 ≤ _; omega), fun p4 hp4 => ?_⟩
      have frp4 := Fr.new (M := []) (o := .lst (xs ++ [V.ref p1, V.ref p2])) hp4
      have frA : Fr [a] H' _ := fr14.trans ((frp1.mono (fun _ h => nomatch h)).trans (fr5.trans (fr13.trans (frp4.mono (fun _ h => nomatch h)))))
      have fr1B := fr14.trans ((frp1.mono (fun _ h => nomatch h)).trans (fr5.trans (fr13 (M := [a]))))
      have np4 : p4 ≠ a := (ne_of_none (fr13.at (M := []) src5 List.not_mem_nil) hp4).symm
      have np4n : pn ≠ p4 := ne_of_none (fr13.at (M := []) (K1 fr5 (frp1.same _ _ nm4) npn) List.not_mem_nil) hp4
      have e1 : (upd (upd (upd H5 p2 (.tup [V.str "go", V.int (3 + d5)])) p3 (.lst [V.ref p1, V.ref p2])) p4 (.lst (xs ++ [V.ref p1, V.ref p2]))) p1 = some (.tup [V.str "stop", V.int (at_ + d1), V.int 3]) := frp4.same _ _ (fr13.at (M := []) h15 List.not_mem_nil)
      have e2 := frp4.same p2 _ (frp3.same p2 _ upd_same)
      have nn1 : p1 ≠ p4 := ne_of_none (fr13.at (M := []) h15 List.not_mem_nil) hp4
      have nn2 : p2 ≠ p4 := ne_of_none (frp3.same p2 _ upd_same) hp4
      have np2a : p2 ≠ a := (ne_of_none src5 hp2).symm
      refine ⟨p4, at_ + d1, _, _, _, rfl, ⟨x5, z5, frp4.same _ _ (fr13.at (M := []) src5 List.not_mem_nil)⟩, frA.at nm1 (by simpa using npn),
        ⟨xs ++ [V.ref p1, V.ref p2], rs ++ [⟨"stop", [V.int (at_ + d1), V.int 3]⟩, ⟨"go", [V.int (3 + d5)]⟩], upd_same, ?_, ?_, ?_, ?_⟩, (fr.trans fr1B).none hp4, np4, np4n, fr.trans frA, at0', at1'⟩
      · refine Paired.app (L2.Paired.mapP pr fun x y c => c.same (hd_move frA (fr1B.none hp4))) (.cons (rwAt_of (ns := [at_ + d1, 3]) stop_mem rfl ?_) (.cons (rwAt_of (ns := [3 + d5]) go_mem rfl ?_) .nil))
        · rw [Hd_of (by simp [np1a, nn1])]; exact e1
        · rw [Hd_of (by simp [np2a, nn2])]; exact e2
      · intro r hr
        rcases List.mem_append.mp hr with h | h
        · exact good r h
        · rcases List.mem_cons.mp h with rfl | h
          · exact ⟨_, [at_ + d1, 3], stop_mem, rfl, rfl, fun k hk => by simp at hk; omega⟩
          · obtain rfl := List.mem_singleton.mp h
            exact ⟨_, [3 + d5], go_mem, rfl, rfl, fun k hk => by simp at hk; omega⟩
      · exact mk.pair at0 atn rfl rfl rfl rfl rfl
      · rw [List.length_append]; show rs.length + 2 ≤ _; omega
    · -- found.append((name, at) + tuple([draws]))
      have ng : n ≠ "go" ∧ n ≠ "stop" := by
        rw [Bool.or_eq_true, decide_eq_true_eq, decide_eq_true_eq, not_or] at c
        exact c
      obtain ⟨⟨n', k⟩, mk', rfl⟩ := List.mem_map.mp mem
      obtain ⟨_, k1, k6⟩ := sz_size mk'
      have k1 : 1 ≤ k := k1
      have k6 : k ≤ 6 := k6
      refine ⟨_, rfl, .inl ⟨rfl, _, SqL.of hfo4⟩, _, rfl, _, rfl, (by show 2 ≤ sizeLine; decide), fun p1 hp1 => ?_⟩
      have frp1 := Fr.new (M := []) (o := .tup [V.str n', V.int (at_ + d1)]) hp1
      refine ⟨rfl, fun d H5 hd hd5 fr5 => ?_⟩
      have dg : DGet H5 d (V.str n') (some (V.int k)) := by
        have t := DGet.k (k := (Sum.inr n' : Key)) hd5
        rw [sz_val mk'] at t
        exact t
      refine ⟨_, rfl, d, _, rfl, dg, _, _, rfl, rfl, k - 1, rfl, (by omega), (by omega), fun D hD => ?_⟩
      have src5 := fr5.same _ _ (frp1.same _ _ src4)
      have fr15 : Fr [a] H' H5 := fr14.trans ((frp1.trans fr5).mono fun _ h => nomatch h)
      have nDa : D ≠ a := (ne_of_none src5 hD).symm
      have nDf : D ≠ fo := (ne_of_none (K1 fr15 hfo nfa) hD).symm
      have hp15 := fr5.same p1 _ upd_same
      have np1a : p1 ≠ a := (ne_of_none src4 hp1).symm
      have np1f : p1 ≠ fo := (ne_of_none hfo4 hp1).symm
      refine lc_range (lo := 0) (n := (k - 1).toNat) (fun j H6 => ∃ ns : List Int, ns.length = j ∧ (∀ x, x ∈ ns → 0 ≤ x ∧ x < 5) ∧ H6 D = some (.lst (ns.map V.int)) ∧ (∃ x z, H6 a = some (srcO x y z)) ∧ Fr [a] H5 H6)
        ⟨[], rfl, (fun _ h => nomatch h), upd_same, ⟨x3, z3, by rw [upd_ne nDa.symm]; exact src5⟩, Fr.new hD⟩ ?_ ?_
      · rintro j H6 hj6 ⟨ns, l6, b6, hD6, ⟨x6, z6, src6⟩, fr6⟩
        refine ⟨rfl, _, rfl, a, x6, y, z6, 5, rfl, src6, by decide, by decide, fun d7 x7 z7 H7 d70 d71 src7 fr7 => ?_⟩
        have hD7 := K1 fr7 hD6 nDa
        refine ⟨_, hD7, (by rw [List.length_map, sizeLine_eq]; omega), ns ++ [d7], (by rw [List.length_append]; show ns.length + 1 = _; omega), ?_, ?_, ⟨x7, z7, by rw [upd_ne nDa.symm]; exact src7⟩, ?_⟩
        · intro x hx
          rcases List.mem_append.mp hx with h | h
          · exact b6 x h
          · obtain rfl := List.mem_singleton.mp h
            exact ⟨d70, d71⟩
        · rw [upd_same, List.map_append]; rfl
        · exact Fr.drop ((fr6.trans fr7).weak.trans (Fr.set List.mem_cons_self)) hD
      · rintro H6 ⟨ns, l6, b6, hD6, ⟨x6, z6, src6⟩, fr6⟩
        refine ⟨D, _, rfl, .inl ⟨SqL.of hD6, fun l hl => ?_⟩⟩
        have frl := Fr.new (M := []) (o := .tup (ns.map V.int)) hl
        have frA : Fr [a] H' (upd H6 l (.tup (ns.map V.int))) := fr15.trans (fr6.trans (frl.mono fun _ h => nomatch h))
        have hp16 := frl.same _ _ (K1 fr6 hp15 np1a)
        have lk : (ns.length : Int) = k - 1 := by omega
        have fin : ∀ (Hx : Hp) (pt : Addr), Fr [a] H' Hx → Hx pt = some (.tup (V.str n' :: V.int (at_ + d1) :: ns.map V.int)) → pt ≠ a → pt ≠ fo → (∃ x z, Hx a = some (srcO x y z)) →
            RowsI H a pn y span names (i + 1) fo (at_ + d1) (upd Hx fo (.lst (xs ++ [V.ref pt]))) := by
          intro Hx pt frx hx nxa nxf ⟨x9, z9, src9⟩
          have frX : Fr [a, fo] H' (upd Hx fo (.lst (xs ++ [V.ref pt]))) := (frx.mono (by simp)).trans (Fr.set (by simp))
          refine ⟨⟨x9, z9, by rw [upd_ne nfa.symm]; exact src9⟩, by rw [upd_ne npfo]; exact K1 frx nm1 npn, ⟨xs ++ [V.ref pt], rs ++ [⟨n', ((at_ + d1) :: ns).map V.int⟩], upd_same, ?_, ?_, ?_, ?_⟩, new, nfa, npfo, ?_, at0', at1'⟩
          · refine Paired.app (L2.Paired.mapP pr fun x y c => c.same frX.hd) (.cons (rwAt_of (q := (n', k)) mk' (by rw [List.length_cons]; omega) ?_) .nil)
            rw [Hd_of (by simp [nxa, nxf]), upd_ne nxf]; exact hx
          · intro r hr
            rcases List.mem_append.mp hr with h | h
            · exact good r h
            · obtain rfl := List.mem_singleton.mp h
              refine ⟨(n', k), (at_ + d1) :: ns, mk', rfl, by rw [List.length_cons]; show ((ns.length + 1 : Nat) : Int) = k; omega, fun x hx => ?_⟩
              rcases List.mem_cons.mp hx with rfl | h
              · exact ⟨at0', at2⟩
              · have := b6 x h; omega
          · exact mk.plain at0 atn (decide_eq_false ng.1) (decide_eq_false ng.2) rfl
          · rw [List.length_append]; show rs.length + 1 ≤ _; omega
          · exact Fr.drop ((fr.trans frx).weak.trans (Fr.set List.mem_cons_self)) new
        have hfoA := frA.at hfo (by simpa using nfa)
        have hsrcA : (upd H6 l (.tup (ns.map V.int))) a = some (srcO x6 y z6) := frl.same _ _ src6
        refine ⟨p1, l, _, _, rfl, rfl, SqT.of hp16, SqT.of upd_same, (fun z => nomatch z), (by rw [List.length_map, sizeLine_eq]; show 2 + ns.length ≤ _; omega), fun e => ?_, fun _ p5 hp5 => ?_⟩
        · have en : ns = [] := List.map_eq_nil_iff.mp e
          refine ⟨fo, xs, _, rfl, rfl, hfoA, (by rw [sizeLine_eq]; omega), fo, at_ + d1, _, _, _, rfl, fin _ p1 frA ?_ np1a np1f ⟨x6, z6, hsrcA⟩⟩
          rw [hp16, en]
          rfl
        · have frp5 := Fr.new (M := []) (o := .tup ([V.str n', V.int (at_ + d1)] ++ ns.map V.int)) hp5
          refine ⟨fo, xs, _, rfl, rfl, frp5.same _ _ hfoA, (by rw [sizeLine_eq]; omega), fo, at_ + d1, _, _, _, rfl, fin _ p5 (frA.trans (frp5.mono fun _ h => nomatch h)) upd_same (ne_of_none hsrcA hp5).symm (ne_of_none hfoA hp5).symm ⟨x6, z6, frp5.same _ _ hsrcA⟩⟩
  · rintro σ H' ⟨fo, at_, s4, s7, s8, rfl, I⟩
    obtain ⟨⟨x1, z1, src1⟩, nm1, ⟨xs, rs, hfo, pr, good, mk, len⟩, new, nfa, npfo, fr, at0, at1⟩ := I
    have K1 : ∀ {H1 H2 : Hp}, Fr [a] H1 H2 → ∀ {b o}, H1 b = some o → b ≠ a → H2 b = some o := fun fr b o h ne => fr.at h (by simpa using ne)
    have lx := PySem.Paired.length pr
    refine ⟨_, rfl, _, rfl, _, rfl, _, rfl, a, x1, y, z1, span, rfl, src1, sp0, (by omega), fun d1 x2 z2 H2 d10 d11 src2 fr2 => ⟨_, _, rfl, rfl, (by show 3 ≤ sizeLine; decide), fun p1 hp1 => ⟨(by show 1 ≤ sizeLine; decide), fun p2 hp2 => ?_⟩⟩⟩
    have frp1 := Fr.new (M := []) (o := .tup [V.str "stop", V.int (at_ + d1), V.int 1]) hp1
    have frp2 := Fr.new (M := []) (o := .lst [V.ref p1]) hp2
    have src3 := frp2.same _ _ (frp1.same _ _ src2)
    refine ⟨_, rfl, a, x2, y, z2, 6, rfl, src3, by decide, by decide, fun d2 x3 z3 H3 d20 d21 src4 fr3 => ⟨rfl, .inr ⟨_, rfl, ?_⟩⟩⟩
    have fr13 : Fr [a] H' H3 := fr2.trans (((frp1.trans frp2).mono (fun _ h => nomatch h)).trans fr3)
    have hfo3 := K1 fr13 hfo nfa
    have np1a : p1 ≠ a := (ne_of_none src2 hp1).symm
    have np2a : p2 ≠ a := (ne_of_none (frp1.same _ _ src2) hp2).symm
    have hp13 := K1 fr3 (frp2.same p1 _ upd_same) np1a
    have hp23 := K1 fr3 (b := p2) upd_same np2a
    have at2 : at_ + d1 < 10 ^ 13 := by
      have h2 : (many : Int) * span ≤ 16 * span := Int.mul_le_mul_of_nonneg_right (by omega) (by omega)
      omega
    generalize decide (V.int d2 = V.int 0) = b
    refine ⟨p2, _, [V.ref p1], rfl, rfl, hp23, (by cases b <;> decide), (by cases b <;> decide), (by cases b <;> (rw [sizeLine_eq]; simp)), fun p3 hp3 => ?_⟩
    have frp3 : ∀ o, Fr [] H3 (upd H3 p3 o) := fun o => Fr.new hp3
    refine ⟨fo, p3, xs, _, rfl, rfl, (frp3 _).same _ _ hfo3, upd_same, (by cases b <;> (rw [sizeLine_eq]; simp; omega)), fun p4 hp4 => ?_⟩
    have frp4 : ∀ o, Fr [] _ (upd _ p4 o) := fun o => Fr.new hp4
    have frA : ∀ o, Fr [a] H' (upd _ p4 o) := fun o => fr13.trans (((frp3 _).trans (frp4 o)).mono (fun _ h => nomatch h))
    have nfr : H' p4 = none := (fr13.trans ((frp3 _).mono (fun _ h => nomatch h))).none hp4
    have np4a : p4 ≠ a := (ne_of_none ((frp3 _).same _ _ src4) hp4).symm
    have move : ∀ o, Same (Hd [a, fo] H') (Hd [a] (upd _ p4 o)) := fun o => Same.trans (frA o |>.mono (by simp)).hd (Hd_mono (by simp))
    have rows : ∀ o, Paired (RwAt (Hd [a] (upd _ p4 o))) xs rs := fun o => L2.Paired.mapP pr fun x y c => c.same (move o)
    cases b with
    | false =>
      exact q p4 _ rs _ (fr.none nfr) np4a upd_same ⟨x3, z3, (frp4 _).same _ _ ((frp3 _).same _ _ src4)⟩ (fr.trans (frA _)) (by
        have e : xs ++ (List.replicate (Int.toNat (if false = true then 1 else 0)) [V.ref p1]).flatten = xs := by simp
        rw [e]
        exact rows _) good mk.done (by omega)
    | true =>
      refine q p4 _ (rs ++ [⟨"stop", [V.int (at_ + d1), V.int 1]⟩]) _ (fr.none nfr) np4a upd_same ⟨x3, z3, (frp4 _).same _ _ ((frp3 _).same _ _ src4)⟩ (fr.trans (frA _)) ?_ ?_ (mk.stop at0 (by omega : at_ ≤ at_ + d1) rfl rfl rfl) (by rw [List.length_append]; show rs.length + 1 ≤ _; omega)
      · refine Paired.app (rows _) (.cons (rwAt_of (ns := [at_ + d1, 1]) stop_mem rfl ?_) .nil)
        rw [Hd_of (by simp [np1a])]
        exact (frp4 _).same _ _ ((frp3 _).same _ _ hp13)
      · intro r hr
        rcases List.mem_append.mp hr with h | h
        · exact good r h
        · obtain rfl := List.mem_singleton.mp h
          exact ⟨_, [at_ + d1, 1], stop_mem, rfl, rfl, fun k hk => by simp at hk; omega⟩
end
end Tk

set_option Elab.async false
set_option linter.all false
set_option maxRecDepth 100000
set_option maxHeartbeats 4000000
namespace Tk
open PySem PySem.Spec PyProof.Rows L2

/-! ### the plain law of shortest logs -/
abbrev Kp := Rw × Int × Int
def outRw : Out → Rw
  | .look c => lookRw c
  | .row r => r
/-- the rows that stay, and a look for the end -/
def fullGo (n : Nat) : Int → Int → Int → List Rw → List Kp
  | b, l, M, [] => if b < l then [(lookRw l, l, M)] else []
  | b, l, M, r :: rs =>
    if r.only = true then fullGo n b (atR l r) (M + (atR l r - l) % 2 ^ n) rs
    else (r, atR l r, M + (atR l r - l) % 2 ^ n) :: fullGo n (atR l r) (atR l r) (M + (atR l r - l) % 2 ^ n) rs
/-- looks between them -/
def dueK (n : Nat) : Int → Int → List Kp → List Rw
  | _, _, [] => []
  | b, C, (r, p, M) :: ks => (lks n (p - (M - C) + mo n) (lkN n (M - C))).map outRw ++ r :: dueK n p M ks
def lastGo (n : Nat) : Int → Int → List Rw → Int × Int
  | l, M, [] => (l, M)
  | l, M, r :: rs => lastGo n (atR l r) (M + (atR l r - l) % 2 ^ n) rs
def endPl (b C : Int) (ks : List Kp) : Int × Int := match ks.getLast? with | some q => q.2 | none => (b, C)
theorem short_due (n : Nat) : ∀ (rs : List Rw) (b l m C : Int), (shortGo n b l m rs).map outRw = dueK n b C (fullGo n b l (C + m) rs)
  | [], b, l, m, C => by
    unfold shortGo fullGo
    by_cases h : b < l
    · rw [if_pos h, if_pos h, List.map_append]
      show _ = (lks n (l - (C + m - C) + mo n) (lkN n (C + m - C))).map outRw ++ [lookRw l]
      rw [show C + m - C = m by omega]; rfl
    · rw [if_neg h, if_neg h]; rfl
  | r :: rs, b, l, m, C => by
    have ih := short_due n rs
    unfold shortGo fullGo
    by_cases h : r.only = true
    · rw [if_pos h, if_pos h, ih b _ _ C, Int.add_assoc]
    · rw [if_neg h, if_neg h, List.map_append, List.map_cons, ih _ _ 0 (C + m + (atR l r - l) % 2 ^ n)]
      show _ = (lks n (atR l r - (C + m + (atR l r - l) % 2 ^ n - C) + mo n) (lkN n (C + m + (atR l r - l) % 2 ^ n - C))).map outRw ++ r :: dueK n _ _ _
      rw [show C + m + (atR l r - l) % 2 ^ n - C = m + (atR l r - l) % 2 ^ n by omega, Int.add_zero]; rfl
theorem lookRw_only (c : Int) : (lookRw c).only = true := rfl
theorem lookRw_go (c : Int) : (lookRw c).is "go" = false := by show decide (("look" : Str) = "go") = false; decide
theorem lookRw_c (c : Int) : (lookRw c).c = c := rfl
theorem atR_look (l c : Int) : atR l (lookRw c) = c := by unfold atR; rw [lookRw_go, if_neg Bool.false_ne_true]; rfl
/-- what holds of the rows that stay -/
def Vld (n : Nat) : Bool → Int → Int → List Kp → Prop
  | _, _, _, [] => True
  | pv, b, C, (r, p, M) :: ks => b ≤ p ∧ 0 ≤ M - C ∧ M - C ≤ p - b ∧ (p - b - (M - C)) % 2 ^ n = 0 ∧ r.is "go" = pv ∧ (pv = true → p = b ∧ M = C) ∧ (pv = false → r.at = .int p) ∧
    ((r.only = false ∧ Vld n (r.is "stop") p M ks) ∨ (r = lookRw p ∧ b < p ∧ ks = []))
/-- cycles that rise from l on -/
def Srt : Int → List Rw → Prop
  | _, [] => True
  | l, r :: rs => l ≤ atR l r ∧ (r.is "go" = false → r.at = .int r.c) ∧ Srt (atR l r) rs
theorem only_go {r : Rw} (h : r.only = true) : r.is "go" = false ∧ r.is "stop" = false := by
  have : r.name ∈ (["look", "read", "expired", "running", "waiting", "sampled"] : List Str) := by
    have e : inV (.str r.name) onlyV = true := h
    unfold onlyV at e
    simp only [inV, List.any_cons, List.any_nil, eqv_str, Bool.or_false, Bool.or_eq_true, decide_eq_true_eq] at e
    rcases e with e | e | e | e | e | e <;> (rw [← e]; simp)
  have d : ((["look", "read", "expired", "running", "waiting", "sampled"] : List Str).all fun x => !decide (x = "go") && !decide (x = "stop")) = true := by decide
  have q := List.all_eq_true.mp d _ this
  rw [Bool.and_eq_true, Bool.not_eq_true', Bool.not_eq_true'] at q
  exact q
theorem full_vld {n : Nat} (n1 : 1 ≤ n) : ∀ {rs : List Rw} {pv : Bool} {b l C M : Int}, Srt l rs → stopsR pv rs = true → b ≤ l → 0 ≤ M - C → M - C ≤ l - b → (l - b - (M - C)) % 2 ^ n = 0 → (pv = true → b = l) → Vld n pv b C (fullGo n b l M rs)
  | [], pv, b, l, C, M, _, _, h1, h2, h3, h4, h5 => by
    unfold fullGo
    by_cases h : b < l
    · rw [if_pos h]
      have pf : pv = false := by cases pv with | false => rfl | true => exact absurd (h5 rfl) (by omega)
      subst pf
      exact ⟨h1, h2, h3, h4, lookRw_go l, fun z => (nomatch z), fun _ => rfl, .inr ⟨rfl, h, rfl⟩⟩
    · rw [if_neg h]; trivial
  | r :: rs, pv, b, l, C, M, ⟨s1, s2, s3⟩, st, h1, h2, h3, h4, h5 => by
    have em : mo n = 2 ^ n - 1 := rfl
    have mp := mo_pos n1
    obtain ⟨st1, st2⟩ := Bool.and_eq_true_iff.mp st
    have st1 : r.is "go" = pv := by simpa using st1
    have d0 : 0 ≤ (atR l r - l) % 2 ^ n := Int.emod_nonneg _ (by omega)
    have d1 : (atR l r - l) % 2 ^ n ≤ atR l r - l := by
      have := Int.mul_ediv_add_emod (atR l r - l) (2 ^ n)
      have q0 : 0 ≤ (atR l r - l) / 2 ^ n := Int.ediv_nonneg (by omega) (by omega)
      have := Int.mul_nonneg (by omega : (0 : Int) ≤ 2 ^ n) q0
      omega
    have d2 : (atR l r - b - (M + (atR l r - l) % 2 ^ n - C)) % 2 ^ n = 0 := by
      have q := Int.mul_ediv_add_emod (atR l r - l) (2 ^ n)
      have e : atR l r - b - (M + (atR l r - l) % 2 ^ n - C) = (l - b - (M - C)) + 2 ^ n * ((atR l r - l) / 2 ^ n) := by omega
      rw [e]
      exact Int.emod_eq_zero_of_dvd (Int.dvd_add (Int.dvd_of_emod_eq_zero h4) (Int.dvd_mul_right _ _))
    unfold fullGo
    by_cases h : r.only = true
    · rw [if_pos h]
      obtain ⟨o1, o2⟩ := only_go h
      rw [o1] at st1
      subst st1
      rw [o2] at st2
      exact full_vld n1 s3 st2 (by omega) (by omega) (by omega) d2 (fun z => nomatch z)
    · rw [if_neg h]
      have h' : r.only = false := by simpa using h
      refine ⟨by omega, by omega, by omega, d2, st1, fun z => ?_, fun z => ?_, .inl ⟨h', full_vld n1 s3 st2 (Int.le_refl _) (by omega) (by omega) (by simp) (fun _ => rfl)⟩⟩
      · have g : r.is "go" = true := st1.trans z
        have ea : atR l r = l := if_pos g
        have := h5 z
        rw [ea]
        simp
        omega
      · have g : r.is "go" = false := st1.trans z
        have ea : atR l r = r.c := if_neg (by rw [g]; exact Bool.false_ne_true)
        rw [s2 g, ea]
theorem lks_one {n : Nat} (n1 : 1 ≤ n) {a l : Int} (h : a = l + mo n) : (a - l) % 2 ^ n = mo n := by
  have em : mo n = 2 ^ n - 1 := rfl
  have mp := mo_pos n1
  rw [h, show l + mo n - l = mo n by omega]
  exact Int.emod_eq_of_lt (by omega) (by omega)
theorem full_lks {n : Nat} (n1 : 1 ≤ n) : ∀ (k : Nat) (b l M a : Int) (rest : List Rw), (a - l) % 2 ^ n = mo n → fullGo n b l M ((lks n a (k + 1)).map outRw ++ rest) = fullGo n b (a + k * mo n) (M + (k + 1) * mo n) rest
  | 0, b, l, M, a, rest, h => by
    show fullGo n b l M (lookRw a :: rest) = _
    conv => lhs; unfold fullGo
    rw [if_pos (lookRw_only a), atR_look, h]
    simp
  | k + 1, b, l, M, a, rest, h => by
    show fullGo n b l M (lookRw a :: ((lks n (a + mo n) (k + 1)).map outRw ++ rest)) = _
    conv => lhs; unfold fullGo
    rw [if_pos (lookRw_only a), atR_look, h, full_lks n1 k b a (M + mo n) (a + mo n) rest (lks_one n1 rfl)]
    have e : ((k + 1 : Nat) : Int) * mo n = k * mo n + mo n := by rw [Int.natCast_add, Int.add_mul]; simp
    rw [Int.add_mul, e, Int.add_mul, Int.one_mul]
    congr 1 <;> omega
theorem lkN_up {n : Nat} (n1 : 1 ≤ n) (q : Int) : q ≤ (lkN n q + 1) * mo n := by
  have mp := mo_pos n1
  have h : (q + mo n - 1) / mo n ≤ lkN n q + 1 := by unfold lkN; omega
  have := (Int.ediv_lt_iff_lt_mul (a := q + mo n - 1) (b := lkN n q + 1 + 1) (by omega : 0 < mo n)).mp (by omega)
  rw [Int.add_mul _ 1, Int.one_mul] at this
  omega
theorem lkN_lo {n k : Nat} (n1 : 1 ≤ n) {q : Int} (h : lkN n q = k + 1) : (k + 1) * mo n < q := by
  have mp := mo_pos n1
  have h : (k : Int) + 2 ≤ (q + mo n - 1) / mo n := by unfold lkN at h; omega
  have := (Int.le_ediv_iff_mul_le (by omega : 0 < mo n)).mp h
  have e : ((k : Int) + 2) * mo n = (k + 1) * mo n + mo n := by rw [show (k : Int) + 2 = k + 1 + 1 by omega, Int.add_mul _ 1, Int.one_mul]
  omega
/-- the state ahead of a row that stays -/
theorem full_reach {n : Nat} (n1 : 1 ≤ n) {b C p M : Int} (q0 : 0 ≤ M - C) (md : (p - b - (M - C)) % 2 ^ n = 0) (rest : List Rw) :
    ∃ l' M', fullGo n b b C ((lks n (p - (M - C) + mo n) (lkN n (M - C))).map outRw ++ rest) = fullGo n b l' M' rest ∧ M' + (p - l') % 2 ^ n = M ∧ (M = C → l' = b) := by
  have em : mo n = 2 ^ n - 1 := rfl
  have mp := mo_pos n1
  have up := lkN_up n1 (M - C)
  obtain ⟨t, ht⟩ := Int.dvd_of_emod_eq_zero md
  cases hk : lkN n (M - C) with
  | zero =>
    rw [hk] at up
    refine ⟨b, C, rfl, ?_, fun _ => rfl⟩
    rw [show p - b = M - C + 2 ^ n * t by omega, Int.add_mul_emod_self_left, Int.emod_eq_of_lt q0 (by simp at up; omega)]
    omega
  | succ j =>
    rw [hk] at up
    have lo := lkN_lo n1 hk
    refine ⟨p - (M - C) + mo n + j * mo n, C + (j + 1) * mo n, ?_, ?_, fun e => ?_⟩
    · refine full_lks n1 j b b C _ rest ?_
      rw [show p - (M - C) + mo n - b = mo n + 2 ^ n * t by omega, Int.add_mul_emod_self_left]
      exact Int.emod_eq_of_lt (by omega) (by omega)
    · have e1 : ((j : Int) + 1) * mo n = j * mo n + mo n := by rw [Int.add_mul, Int.one_mul]
      have e2 : (((j + 1 : Nat) : Int) + 1) * mo n = j * mo n + mo n + mo n := by rw [Int.natCast_add, Int.add_mul, Int.add_mul]; simp
      rw [e2] at up
      rw [e1] at lo ⊢
      rw [show p - (p - (M - C) + mo n + j * mo n) = M - C - (j * mo n + mo n) by omega, Int.emod_eq_of_lt (by omega) (by omega)]
      omega
    · exfalso
      have : 0 < ((j : Int) + 1) * mo n := Int.mul_pos (by omega) (by omega)
      omega
theorem rw_c {r : Rw} {p : Int} (h : r.at = .int p) : r.c = p := by unfold Rw.c; rw [h]
theorem full_due {n : Nat} (n1 : 1 ≤ n) : ∀ {ks : List Kp} {pv : Bool} {b C : Int}, Vld n pv b C ks → fullGo n b b C (dueK n b C ks) = ks
  | [], pv, b, C, _ => by
    show (if b < b then _ else []) = _
    rw [if_neg (Int.lt_irrefl b)]
  | (r, p, M) :: ks, pv, b, C, ⟨h1, h2, h3, h4, h5, h6, h7, h8⟩ => by
    show fullGo n b b C ((lks n (p - (M - C) + mo n) (lkN n (M - C))).map outRw ++ r :: dueK n p M ks) = _
    obtain ⟨l', M', e, em, el⟩ := full_reach n1 (b := b) h2 h4 (r :: dueK n p M ks)
    rw [e]
    have ea : atR l' r = p := by
      cases pv with
      | true =>
        obtain ⟨e1, e2⟩ := h6 rfl
        have : atR l' r = l' := if_pos h5
        rw [this, el e2, e1]
      | false =>
        have : atR l' r = r.c := if_neg (by rw [h5]; exact Bool.false_ne_true)
        rw [this, rw_c (h7 rfl)]
    conv => lhs; unfold fullGo
    rw [ea, em]
    rcases h8 with ⟨ho, hv⟩ | ⟨rfl, hl, rfl⟩
    · rw [if_neg (by rw [ho]; exact Bool.false_ne_true), full_due n1 hv]
    · rw [if_pos (lookRw_only p)]
      show (if b < p then _ else []) = _
      rw [if_pos hl]
theorem endPl_cons (b C p M : Int) (r : Rw) (ks : List Kp) : endPl b C ((r, p, M) :: ks) = endPl p M ks := by
  unfold endPl
  cases ks with
  | nil => rfl
  | cons k ks => rw [List.getLast?_cons_cons]; cases h : (k :: ks).getLast? with
    | none => simp at h
    | some q => rfl
theorem full_end {n : Nat} (n1 : 1 ≤ n) : ∀ {rs : List Rw} {b l C M : Int}, Srt l rs → b ≤ l → 0 ≤ M - C → M - C ≤ l - b → endPl b C (fullGo n b l M rs) = lastGo n l M rs
  | [], b, l, C, M, _, h1, h2, h3 => by
    unfold fullGo
    by_cases h : b < l
    · rw [if_pos h]; rfl
    · rw [if_neg h]
      show (b, C) = (l, M)
      congr 1 <;> omega
  | r :: rs, b, l, C, M, ⟨s1, s2, s3⟩, h1, h2, h3 => by
    have em : mo n = 2 ^ n - 1 := rfl
    have mp := mo_pos n1
    have d0 : 0 ≤ (atR l r - l) % 2 ^ n := Int.emod_nonneg _ (by omega)
    have d1 : (atR l r - l) % 2 ^ n ≤ atR l r - l := by
      have := Int.mul_ediv_add_emod (atR l r - l) (2 ^ n)
      have q0 : 0 ≤ (atR l r - l) / 2 ^ n := Int.ediv_nonneg (by omega) (by omega)
      have := Int.mul_nonneg (by omega : (0 : Int) ≤ 2 ^ n) q0
      omega
    unfold fullGo
    show _ = lastGo n (atR l r) (M + (atR l r - l) % 2 ^ n) rs
    by_cases h : r.only = true
    · rw [if_pos h]
      exact full_end n1 s3 (by omega) (by omega) (by omega)
    · rw [if_neg h, endPl_cons]
      exact full_end n1 s3 (Int.le_refl _) (by omega) (by omega)
end Tk

set_option Elab.async false
set_option linter.all false
set_option maxRecDepth 100000
set_option maxHeartbeats 4000000
namespace Tk
open PySem PySem.Spec PyProof.Rows L2

theorem short_len {n : Nat} (n1 : 1 ≤ n) : ∀ {rs : List Rw} {b l m : Int} {c : Nat}, m ≤ c * mo n → (b < l → 1 ≤ c) → (shortGo n b l m rs).length ≤ rs.length + c
  | [], b, l, m, c, h1, h2 => by
    unfold shortGo
    by_cases h : b < l
    · rw [if_pos h, List.length_append, lks_len]
      obtain ⟨d, rfl⟩ : ∃ d, c = d + 1 := ⟨c - 1, by have := h2 h; omega⟩
      have := lkN_le n1 h1
      simp
      omega
    · rw [if_neg h]; simp
  | r :: rs, b, l, m, c, h1, h2 => by
    have em : mo n = 2 ^ n - 1 := rfl
    have mp := mo_pos n1
    have d1 : (atR l r - l) % 2 ^ n ≤ mo n := by
      have := Int.emod_lt_of_pos (atR l r - l) (by omega : (0 : Int) < 2 ^ n)
      omega
    have hm : m + (atR l r - l) % 2 ^ n ≤ ((c + 1 : Nat) : Int) * mo n := by rw [Int.natCast_add, Int.add_mul]; simp; omega
    unfold shortGo
    by_cases h : r.only = true
    · rw [if_pos h]
      have := short_len n1 (rs := rs) (b := b) (l := atR l r) hm (fun _ => by omega)
      rw [List.length_cons]; omega
    · rw [if_neg h, List.length_append, lks_len, List.length_cons, List.length_cons]
      have := lkN_le n1 hm
      have := short_len n1 (rs := rs) (b := atR l r) (l := atR l r) (m := 0) (c := 0) (by simp) (fun z => absurd z (Int.lt_irrefl _))
      omega
/-! ### what the law finds, by its own words -/
def kpGo (n : Nat) (l M : Int) (rs : List Rw) : List Kp := (rs.zip (foundR n l M rs)).filter fun q => !q.1.only
def baseD (b : Int) (ks : List Kp) : Int := match ks.getLast? with | some q => q.2.1 | none => b
theorem baseD_cons (b p M : Int) (r : Rw) (ks : List Kp) : baseD b ((r, p, M) :: ks) = baseD p ks := by
  unfold baseD
  cases ks with
  | nil => rfl
  | cons k ks => rw [List.getLast?_cons_cons]; cases h : (k :: ks).getLast? with
    | none => simp at h
    | some q => rfl
theorem full_kp (n : Nat) : ∀ (rs : List Rw) (b l M : Int), fullGo n b l M rs = kpGo n l M rs ++ if baseD b (kpGo n l M rs) < (lastGo n l M rs).1 then [(lookRw (lastGo n l M rs).1, lastGo n l M rs)] else []
  | [], b, l, M => rfl
  | r :: rs, b, l, M => by
    have ih := full_kp n rs
    unfold fullGo
    by_cases h : r.only = true
    · have e : kpGo n l M (r :: rs) = kpGo n (atR l r) (M + (atR l r - l) % 2 ^ n) rs := by
        show List.filter _ ((r, _) :: rs.zip _) = _
        rw [List.filter_cons_of_neg (by rw [h]; decide)]; rfl
      rw [if_pos h, ih, e]; rfl
    · have h' : r.only = false := by simpa using h
      have e : kpGo n l M (r :: rs) = (r, atR l r, M + (atR l r - l) % 2 ^ n) :: kpGo n (atR l r) (M + (atR l r - l) % 2 ^ n) rs := by
        show List.filter _ ((r, _) :: rs.zip _) = _
        rw [List.filter_cons_of_pos (by rw [h']; rfl)]; rfl
      rw [if_neg h, ih, e, baseD_cons]; rfl
theorem last_go (n : Nat) : ∀ (rs : List Rw) (l M : Int), (foundR n l M rs).getLast?.getD (l, M) = lastGo n l M rs
  | [], _, _ => rfl
  | r :: rs, l, M => by
    have ih := last_go n rs (atR l r) (M + (atR l r - l) % 2 ^ n)
    show ((atR l r, M + (atR l r - l) % 2 ^ n) :: foundR n (atR l r) (M + (atR l r - l) % 2 ^ n) rs).getLast?.getD (l, M) = lastGo n (atR l r) (M + (atR l r - l) % 2 ^ n) rs
    rw [← ih, List.getLast?_cons]
    rfl
theorem kept_full (n : Nat) (rs : List Rw) : keptR n rs = fullGo n 0 0 0 rs := by
  have e1 : lastR n rs = lastGo n 0 0 rs := last_go n rs 0 0
  rw [full_kp]
  unfold keptR
  rw [e1]
  have e2 : baseK (kpR n rs) = baseD 0 (kpGo n 0 0 rs) := rfl
  rw [e2]
  split
  · rfl
  · exact (List.append_nil _).symm
theorem kp_filter (n : Nat) (b l M : Int) (rs : List Rw) : (fullGo n b l M rs).filter (fun q => !q.1.only) = kpGo n l M rs := by
  rw [full_kp, List.filter_append]
  have e1 : (kpGo n l M rs).filter (fun q => !q.1.only) = kpGo n l M rs := by unfold kpGo; rw [List.filter_filter]; simp
  rw [e1]
  split
  · rw [List.filter_cons_of_neg (by rw [lookRw_only]; decide)]; simp
  · simp
/-! ### the shortest log is a log -/
def GoodC (b : Int) (xs : List V) : Prop := ∃ cs : List Int, xs = cs.map V.int ∧ cs.Pairwise (· ≤ ·) ∧ ∀ c, c ∈ cs → b ≤ c
theorem lks_cyc (n : Nat) (n1 : 1 ≤ n) : ∀ (k : Nat) (a p : Int), a + k * mo n ≤ p + mo n → ∃ cs : List Int, cycV ((lks n a k).map outRw) = cs.map V.int ∧ cs.Pairwise (· ≤ ·) ∧ ∀ c, c ∈ cs → a ≤ c ∧ c ≤ p
  | 0, a, p, _ => ⟨[], rfl, .nil, fun _ z => nomatch z⟩
  | k + 1, a, p, h => by
    have mp := mo_pos n1
    have e : ((k + 1 : Nat) : Int) * mo n = k * mo n + mo n := by rw [Int.natCast_add, Int.add_mul]; simp
    have k0 : 0 ≤ (k : Int) * mo n := Int.mul_nonneg (by omega) (by omega)
    obtain ⟨cs, c1, c2, c3⟩ := lks_cyc n n1 k (a + mo n) p (by omega)
    refine ⟨a :: cs, ?_, List.pairwise_cons.mpr ⟨fun c hc => ?_, c2⟩, fun c hc => ?_⟩
    · show cycV (lookRw a :: (lks n (a + mo n) k).map outRw) = _
      have : cycV (lookRw a :: (lks n (a + mo n) k).map outRw) = V.int a :: cycV ((lks n (a + mo n) k).map outRw) := by
        unfold cycV
        rw [List.filter_cons_of_pos (by rw [lookRw_go]; rfl)]; rfl
      rw [this, c1]; rfl
    · have := (c3 c hc).1; omega
    · rcases List.mem_cons.mp hc with rfl | hc
      · exact ⟨Int.le_refl _, by omega⟩
      · have := c3 c hc; exact ⟨by omega, this.2⟩
theorem lks_stops (n : Nat) : ∀ (k : Nat) (a : Int) (pv : Bool) (rest : List Rw), (k = 0 ∨ pv = false) → stopsR pv ((lks n a k).map outRw ++ rest) = stopsR pv rest
  | 0, _, _, _, _ => rfl
  | k + 1, a, pv, rest, h => by
    have hp : pv = false := h.resolve_left (Nat.succ_ne_zero k)
    subst hp
    show ((lookRw a).is "go" == false && stopsR ((lookRw a).is "stop") ((lks n (a + mo n) k).map outRw ++ rest)) = _
    rw [lookRw_go, show (lookRw a).is "stop" = false from (only_go (lookRw_only a)).2, lks_stops n k (a + mo n) false rest (.inr rfl)]
    rfl
theorem due_log {n : Nat} (n1 : 1 ≤ n) : ∀ {ks : List Kp} {pv : Bool} {b C : Int}, Vld n pv b C ks → GoodC b (cycV (dueK n b C ks)) ∧ stopsR pv (dueK n b C ks) = true
  | [], pv, b, C, _ => ⟨⟨[], rfl, .nil, fun _ z => nomatch z⟩, rfl⟩
  | (r, p, M) :: ks, pv, b, C, ⟨h1, h2, h3, h4, h5, h6, h7, h8⟩ => by
    have mp := mo_pos n1
    have tail : GoodC p (cycV (dueK n p M ks)) ∧ stopsR (r.is "stop") (dueK n p M ks) = true := by
      rcases h8 with ⟨_, hv⟩ | ⟨_, _, rfl⟩
      · exact due_log n1 hv
      · exact ⟨⟨[], rfl, .nil, fun _ z => nomatch z⟩, rfl⟩
    obtain ⟨⟨cs, c1, c2, c3⟩, st⟩ := tail
    have kz : pv = true → lkN n (M - C) = 0 := fun z => by
      have := h6 z
      have : lkN n (M - C) ≤ 0 := lkN_le n1 (by rw [this.2]; simp; omega)
      omega
    have up : p - (M - C) + mo n + (lkN n (M - C) : Int) * mo n ≤ p + mo n := by
      cases hk : lkN n (M - C) with
      | zero => simp; omega
      | succ j =>
        have := lkN_lo n1 hk
        have e : ((j + 1 : Nat) : Int) * mo n = ((j : Int) + 1) * mo n := by rw [Int.natCast_add]; rfl
        rw [e]; omega
    obtain ⟨ds, d1, d2, d3⟩ := lks_cyc n n1 (lkN n (M - C)) (p - (M - C) + mo n) p up
    refine ⟨?_, ?_⟩
    · show GoodC b (cycV ((lks n (p - (M - C) + mo n) (lkN n (M - C))).map outRw ++ r :: dueK n p M ks))
      rw [cyc_app, d1]
      cases pv with
      | true =>
        have e : cycV (r :: dueK n p M ks) = cycV (dueK n p M ks) := by
          unfold cycV
          rw [List.filter_cons_of_neg (by rw [h5]; decide)]
        have dn : ds = [] := by
          have : ((lks n (p - (M - C) + mo n) (lkN n (M - C))).map outRw) = [] := by rw [kz rfl]; rfl
          rw [this] at d1
          cases ds with
          | nil => rfl
          | cons _ _ => cases d1
        subst dn
        rw [e, c1]
        exact ⟨cs, rfl, c2, fun c hc => Int.le_trans h1 (c3 c hc)⟩
      | false =>
        have e : cycV (r :: dueK n p M ks) = V.int p :: cycV (dueK n p M ks) := by
          unfold cycV
          rw [List.filter_cons_of_pos (by rw [h5]; rfl), List.map_cons, h7 rfl]
        rw [e, c1]
        refine ⟨ds ++ p :: cs, by simp, List.pairwise_append.mpr ⟨d2, List.pairwise_cons.mpr ⟨c3, c2⟩, fun x hx y hy => ?_⟩, fun c hc => ?_⟩
        · rcases List.mem_cons.mp hy with rfl | hy
          · exact (d3 x hx).2
          · exact Int.le_trans (d3 x hx).2 (c3 y hy)
        · rcases List.mem_append.mp hc with hc | hc
          · have := (d3 c hc).1; omega
          · rcases List.mem_cons.mp hc with rfl | hc
            · exact h1
            · exact Int.le_trans h1 (c3 c hc)
    · show stopsR pv ((lks n (p - (M - C) + mo n) (lkN n (M - C))).map outRw ++ r :: dueK n p M ks) = true
      rw [lks_stops n _ _ pv _ (by cases pv with | true => exact .inl (kz rfl) | false => exact .inr rfl)]
      show ((r.is "go" == pv) && stopsR (r.is "stop") (dueK n p M ks)) = true
      rw [st, h5]; simp
end Tk

set_option Elab.async false
set_option linter.all false
set_option maxRecDepth 100000
set_option maxHeartbeats 4000000
namespace Tk
open PySem PySem.Spec PyProof.Rows L2

theorem srt_of : ∀ {rs : List Rw} {l : Int} {cs : List Int}, cycV rs = cs.map V.int → cs.Pairwise (· ≤ ·) → (∀ c, c ∈ cs → l ≤ c) → (∀ r, r ∈ rs → r.is "go" = false → r.at = .int r.c) → Srt l rs
  | [], _, _, _, _, _, _ => trivial
  | r :: rs, l, cs, h1, h2, h3, h4 => by
    cases g : r.is "go" with
    | true =>
      have e : cycV (r :: rs) = cycV rs := by unfold cycV; rw [List.filter_cons_of_neg (by rw [g]; decide)]
      rw [e] at h1
      have ea : atR l r = l := if_pos g
      refine ⟨by rw [ea]; exact Int.le_refl _, fun z => (by rw [g] at z; cases z), ?_⟩
      rw [ea]
      exact srt_of h1 h2 h3 fun r m => h4 r (List.mem_cons_of_mem _ m)
    | false =>
      have e : cycV (r :: rs) = V.int r.c :: cycV rs := by unfold cycV; rw [List.filter_cons_of_pos (by rw [g]; rfl), List.map_cons, h4 r List.mem_cons_self g]
      rw [e] at h1
      have ea : atR l r = r.c := if_neg (by rw [g]; exact Bool.false_ne_true)
      cases cs with
      | nil => cases h1
      | cons c cs =>
        rw [List.map_cons] at h1
        injection h1 with e1 e2
        injection e1 with e1
        rw [List.pairwise_cons] at h2
        refine ⟨by rw [ea, e1]; exact h3 c List.mem_cons_self, fun _ => h4 r List.mem_cons_self g, ?_⟩
        rw [ea, e1]
        exact srt_of e2 h2.2 h2.1 fun r m => h4 r (List.mem_cons_of_mem _ m)
theorem Mk1.ats {rs : List Rw} (m : Mk1 rs) : ∀ r, r ∈ rs → r.is "go" = false → r.at = .int r.c := fun r h g => row_int m.ok h g
theorem Mk1.srt {rs : List Rw} (m : Mk1 rs) : Srt 0 rs := by
  obtain ⟨cs, c1, c2, c3⟩ := m.sorted
  exact srt_of c1 c2 c3 m.ats
theorem Mk1.stops {rs : List Rw} (m : Mk1 rs) : stopsR false rs = true := by
  rw [← stopsOk_eq]
  exact (Bool.and_eq_true_iff.mp m.ok).2
def toldR (n : Nat) (rs : List Rw) : List Rw := (shortL n rs).map outRw
section
variable {n : Nat} {rs : List Rw}
theorem told_eq : toldR n rs = dueK n 0 0 (keptR n rs) := by
  rw [kept_full]
  exact short_due n rs 0 0 0 0
theorem Mk1.vld (m : Mk1 rs) (n1 : 1 ≤ n) : Vld n false 0 0 (keptR n rs) := by
  rw [kept_full]
  exact full_vld n1 m.srt m.stops (Int.le_refl _) (by decide) (by decide) (by simp) (fun z => nomatch z)
theorem Mk1.told (m : Mk1 rs) (n1 : 1 ≤ n) : Mk1 (toldR n rs) := by
  obtain ⟨⟨cs, c1, c2, c3⟩, st⟩ := due_log n1 (m.vld n1)
  rw [← told_eq] at c1 st
  refine ⟨?_, cs, c1, c2, c3⟩
  unfold logOk
  rw [c1, cycles_of c3 c2, stopsOk_eq, st]; rfl
theorem Mk1.kept_told (m : Mk1 rs) (n1 : 1 ≤ n) : keptR n (toldR n rs) = keptR n rs := by
  rw [kept_full, told_eq]
  exact full_due n1 (m.vld n1)
theorem Mk1.told_told (m : Mk1 rs) (n1 : 1 ≤ n) : toldR n (toldR n rs) = toldR n rs := by
  rw [told_eq, m.kept_told n1, ← told_eq]
theorem kp_kept : kpR n rs = (keptR n rs).filter fun q => !q.1.only := by
  rw [kept_full, kp_filter]; rfl
theorem Mk1.kp_told (m : Mk1 rs) (n1 : 1 ≤ n) : kpR n (toldR n rs) = kpR n rs := by
  rw [kp_kept, m.kept_told n1, ← kp_kept]
theorem Mk1.last (m : Mk1 rs) (n1 : 1 ≤ n) : lastR n rs = endPl 0 0 (keptR n rs) := by
  have e1 : lastR n rs = lastGo n 0 0 rs := last_go n rs 0 0
  rw [e1, kept_full]
  exact (full_end n1 m.srt (Int.le_refl _) (by decide) (by decide)).symm
theorem Mk1.last_told (m : Mk1 rs) (n1 : 1 ≤ n) : lastR n (toldR n rs) = lastR n rs := by
  rw [(m.told n1).last n1, m.kept_told n1, ← m.last n1]
theorem told_len (n1 : 1 ≤ n) : (toldR n rs).length ≤ rs.length := by
  unfold toldR shortL
  rw [List.length_map]
  exact short_len n1 (c := 0) (by simp) (fun z => absurd z (by decide))
end
/-! ### what stands in it -/
theorem full_mem {n : Nat} : ∀ {rs : List Rw} {b l M : Int} {q : Kp}, q ∈ fullGo n b l M rs → (q.1 ∈ rs ∨ q.1 = lookRw q.2.1) ∧ (q.2.1 = l ∨ ∃ r, r ∈ rs ∧ r.is "go" = false ∧ q.2.1 = r.c)
  | [], b, l, M, q, h => by
    unfold fullGo at h
    by_cases hl : b < l
    · rw [if_pos hl] at h
      obtain rfl := List.mem_singleton.mp h
      exact ⟨.inr rfl, .inl rfl⟩
    · rw [if_neg hl] at h; cases h
  | r :: rs, b, l, M, q, h => by
    have at_ : atR l r = l ∨ (r.is "go" = false ∧ atR l r = r.c) := by
      cases g : r.is "go" with
      | true => exact .inl (if_pos g)
      | false => exact .inr ⟨rfl, if_neg (by rw [g]; exact Bool.false_ne_true)⟩
    have up : ∀ {q : Kp}, (q.1 ∈ rs ∨ q.1 = lookRw q.2.1) ∧ (q.2.1 = atR l r ∨ ∃ r, r ∈ rs ∧ r.is "go" = false ∧ q.2.1 = r.c) → (q.1 ∈ r :: rs ∨ q.1 = lookRw q.2.1) ∧ (q.2.1 = l ∨ ∃ r', r' ∈ r :: rs ∧ r'.is "go" = false ∧ q.2.1 = r'.c) := by
      rintro q ⟨a, c⟩
      refine ⟨a.imp (List.mem_cons_of_mem _) id, ?_⟩
      rcases c with c | ⟨r', m, c⟩
      · rcases at_ with e | ⟨g, e⟩
        · exact .inl (c.trans e)
        · exact .inr ⟨r, List.mem_cons_self, g, c.trans e⟩
      · exact .inr ⟨r', List.mem_cons_of_mem _ m, c⟩
    unfold fullGo at h
    by_cases ho : r.only = true
    · rw [if_pos ho] at h
      exact up (full_mem h)
    · rw [if_neg ho] at h
      rcases List.mem_cons.mp h with rfl | h
      · refine ⟨.inl List.mem_cons_self, ?_⟩
        rcases at_ with e | ⟨g, e⟩
        · exact .inl e
        · exact .inr ⟨r, List.mem_cons_self, g, e⟩
      · exact up (full_mem h)
theorem lks_mem {n : Nat} (n1 : 1 ≤ n) : ∀ {k : Nat} {a p : Int} {o : Out}, a + k * mo n ≤ p + mo n → o ∈ lks n a k → ∃ c, o = .look c ∧ a ≤ c ∧ c ≤ p
  | 0, _, _, _, _, h => nomatch h
  | k + 1, a, p, o, hp, h => by
    have mp := mo_pos n1
    have e : ((k + 1 : Nat) : Int) * mo n = k * mo n + mo n := by rw [Int.natCast_add, Int.add_mul]; simp
    have k0 : 0 ≤ (k : Int) * mo n := Int.mul_nonneg (by omega) (by omega)
    rcases List.mem_cons.mp h with rfl | h
    · exact ⟨a, rfl, Int.le_refl _, by omega⟩
    · obtain ⟨c, e1, e2, e3⟩ := lks_mem n1 (p := p) (by omega) h
      exact ⟨c, e1, by omega, e3⟩
theorem lk_up {n : Nat} (n1 : 1 ≤ n) {p q : Int} (q0 : 0 ≤ q) : p - q + mo n + (lkN n q : Int) * mo n ≤ p + mo n := by
  cases hk : lkN n q with
  | zero => simp; omega
  | succ j =>
    have := lkN_lo n1 hk
    have e : ((j + 1 : Nat) : Int) * mo n = ((j : Int) + 1) * mo n := by rw [Int.natCast_add]; rfl
    rw [e]; omega
theorem due_mem {n : Nat} (n1 : 1 ≤ n) {x : Rw} : ∀ {ks : List Kp} {pv : Bool} {b C : Int}, Vld n pv b C ks → x ∈ dueK n b C ks → (∃ q, q ∈ ks ∧ x = q.1) ∨ ∃ c q, q ∈ ks ∧ x = lookRw c ∧ b ≤ c ∧ c ≤ q.2.1
  | [], _, _, _, _, h => nomatch h
  | (r, p, M) :: ks, pv, b, C, ⟨h1, h2, h3, h4, h5, h6, h7, h8⟩, h => by
    have h : x ∈ (lks n (p - (M - C) + mo n) (lkN n (M - C))).map outRw ++ r :: dueK n p M ks := h
    have mp := mo_pos n1
    rcases List.mem_append.mp h with h | h
    · obtain ⟨o, ho, rfl⟩ := List.mem_map.mp h
      obtain ⟨c, rfl, c1, c2⟩ := lks_mem n1 (lk_up n1 (p := p) h2) ho
      exact .inr ⟨c, _, List.mem_cons_self, rfl, by omega, c2⟩
    · rcases List.mem_cons.mp h with rfl | h
      · exact .inl ⟨_, List.mem_cons_self, rfl⟩
      · rcases h8 with ⟨_, hv⟩ | ⟨_, _, rfl⟩
        · rcases due_mem n1 hv h with ⟨q, m, e⟩ | ⟨c, q, m, e, l1, l2⟩
          · exact .inl ⟨q, List.mem_cons_of_mem _ m, e⟩
          · exact .inr ⟨c, q, List.mem_cons_of_mem _ m, e, Int.le_trans h1 l1, l2⟩
        · cases h
theorem look_mem : (("look", 1) : Str × Int) ∈ lawSizes := by decide +kernel
theorem good_look {c : Int} (c0 : 0 ≤ c) (c1 : c < 10 ^ 13) : GoodRw (lookRw c) := ⟨("look", 1), [c], look_mem, rfl, rfl, fun i hi => by obtain rfl := List.mem_singleton.mp hi; exact ⟨c0, c1⟩⟩
theorem good_c {r : Rw} (g : GoodRw r) (h : r.at = .int r.c) : 0 ≤ r.c ∧ r.c < 10 ^ 13 := by
  obtain ⟨q, ns, m, rfl, l, b⟩ := g
  cases ns with
  | nil => cases h
  | cons i ns =>
    have : (⟨q.1, (i :: ns).map V.int⟩ : Rw).c = i := rfl
    rw [this]
    exact b i List.mem_cons_self
theorem kept_good {n : Nat} {rs : List Rw} (m : Mk1 rs) (g : ∀ r, r ∈ rs → GoodRw r) {q : Kp} (h : q ∈ keptR n rs) : GoodRw q.1 ∧ 0 ≤ q.2.1 ∧ q.2.1 < 10 ^ 13 := by
  rw [kept_full] at h
  obtain ⟨a, c⟩ := full_mem h
  have b : 0 ≤ q.2.1 ∧ q.2.1 < 10 ^ 13 := by
    rcases c with c | ⟨r, hr, hg, c⟩
    · rw [c]; decide
    · rw [c]; exact good_c (g r hr) (m.ats r hr hg)
  refine ⟨?_, b⟩
  rcases a with a | a
  · exact g _ a
  · rw [a]; exact good_look b.1 b.2
theorem told_good {n : Nat} (n1 : 1 ≤ n) {rs : List Rw} (m : Mk1 rs) (g : ∀ r, r ∈ rs → GoodRw r) : ∀ r, r ∈ toldR n rs → GoodRw r := by
  intro r h
  rw [told_eq] at h
  rcases due_mem n1 (m.vld n1) h with ⟨q, hq, rfl⟩ | ⟨c, q, hq, rfl, c0, c1⟩
  · exact (kept_good m g hq).1
  · exact good_look c0 (Int.lt_of_le_of_lt c1 (kept_good m g hq).2.2)
theorem look_is {c c' : Int} (h : lookRw c = lookRw c') : c = c' := by
  injection h with _ h
  injection h with h _
  injection h
end Tk

set_option Elab.async false
set_option linter.all false
set_option maxRecDepth 100000
set_option maxHeartbeats 4000000
namespace Tk
open PySem PySem.Spec PyProof.Rows L2

/-! ### rows and looks as data -/
def SmA (H : Hp) (a : V) : Prop := ∃ d, Dd H a d ∧ okD d = true ∧ nodes d ≤ 8 ∧ d.depth ≤ 3
theorem SmA.same {H H' : Hp} {a : V} (e : Same H H') (s : SmA H a) : SmA H' a := by
  obtain ⟨d, h, r⟩ := s
  exact ⟨d, h.same e, r⟩
structure RwD (H : Hp) (r : Rw) : Prop where
  nm : okD (.str r.name) = true
  len : r.args.length ≤ 6
  sm : ∀ a, a ∈ r.args → SmA H a
noncomputable def rowD (H : Hp) (r : Rw) : PyData := .tuple (.str r.name :: r.args.map (dOf H))
noncomputable def outD (H : Hp) : Out → PyData
  | .look c => .tuple [.str "look", .int c]
  | .row r => rowD H r
theorem args_dd {H : Hp} : ∀ {l : List V}, (∀ a, a ∈ l → SmA H a) → DdAll H l (l.map (dOf H))
  | [], _ => .nil
  | a :: l, h => .cons (dOf_at (let ⟨d, q, _⟩ := h a List.mem_cons_self; ⟨d, q⟩)) (args_dd fun b m => h b (List.mem_cons_of_mem _ m))
theorem row_dd {H H' : Hp} {y : V} {r : Rw} (a : RwAt H' y r) (e : Same H H') (g : RwD H r) : Dd H' y (rowD H r) := by
  obtain ⟨p, rfl, h⟩ := a.tup
  exact .tup h (.cons (.str _) (DdAll.same e (args_dd g.sm)))
theorem rows_dd {H H' : Hp} (e : Same H H') : ∀ {xs : List V} {rs : List Rw}, Paired (RwAt H') xs rs → (∀ r, r ∈ rs → RwD H r) → DdAll H' xs (rs.map (rowD H))
  | _, _, .nil, _ => .nil
  | _, _, .cons a b, g => .cons (row_dd a e (g _ List.mem_cons_self)) (rows_dd e b fun r m => g r (List.mem_cons_of_mem _ m))
theorem cpy_dd {H H' : Hp} {x y : V} {d : PyData} (e : Same H H') (c : Cpy H H' x y) (h : Dd H x d) : Dd H' y d := by
  rcases c with ⟨_, rfl⟩ | ⟨a, xs, p, rfl, h1, rfl, _, h2⟩
  · exact h.same e
  · cases h with
    | lst s k => cases s.symm.trans h1; exact .lst h2 (DdAll.same e k)
    | tup s k => cases s.symm.trans h1
theorem cpys_dd {H H' : Hp} (e : Same H H') : ∀ {l ys : List V}, Paired (Cpy H H') l ys → (∀ a, a ∈ l → SmA H a) → DdAll H' ys (l.map (dOf H))
  | _, _, .nil, _ => .nil
  | _, _, .cons a b, g => .cons (cpy_dd e a (dOf_at (let ⟨d, q, _⟩ := g _ List.mem_cons_self; ⟨d, q⟩))) (cpys_dd e b fun r m => g r (List.mem_cons_of_mem _ m))
def GoodO (H : Hp) : Out → Prop
  | .look c => c.natAbs < 10 ^ 40
  | .row r => RwD H r
theorem out_dd {H H' : Hp} {y : V} {o : Out} (e : Same H H') (a : OutAt H H' y o) (g : GoodO H o) : Dd H' y (outD H o) := by
  cases o with
  | look c => obtain ⟨q, rfl, _, h⟩ := a; exact .tup h (.cons (.str _) (.cons (.int _) .nil))
  | row r =>
    obtain ⟨q, vs, rfl, _, h, p⟩ := a
    cases p with
    | cons c cs => exact .tup h (.cons (cpy_dd e c (.str _)) (cpys_dd e cs (g : RwD H r).sm))
theorem outs_dd {H H' : Hp} (e : Same H H') : ∀ {ys : List V} {os : List Out}, Paired (OutAt H H') ys os → (∀ o, o ∈ os → GoodO H o) → DdAll H' ys (os.map (outD H))
  | _, _, .nil, _ => .nil
  | _, _, .cons a b, g => .cons (out_dd e a (g _ List.mem_cons_self)) (outs_dd e b fun r m => g r (List.mem_cons_of_mem _ m))
/-! ### and how large they are -/
theorem all_small {n k : Nat} : ∀ {ds : List PyData}, (∀ d, d ∈ ds → okD d = true ∧ nodes d ≤ n ∧ d.depth ≤ k) → okDs ds = true ∧ nodesAll ds ≤ n * ds.length ∧ PyData.depthAll ds ≤ k
  | [], _ => ⟨by simp only [okDs], by simp [nodesAll], by simp [PyData.depthAll]⟩
  | d :: ds, h => by
    obtain ⟨a, b, c⟩ := h d List.mem_cons_self
    obtain ⟨a2, b2, c2⟩ := all_small (ds := ds) fun e m => h e (List.mem_cons_of_mem _ m)
    refine ⟨by simp only [okDs, a, a2, Bool.and_self], ?_, ?_⟩
    · simp only [nodesAll, List.length_cons, Nat.mul_add, Nat.mul_one]; omega
    · simp only [PyData.depthAll]; omega
theorem small_list {n k m : Nat} {ds : List PyData} (h : ∀ d, d ∈ ds → okD d = true ∧ nodes d ≤ n ∧ d.depth ≤ k) (l : n * ds.length ≤ m) : okD (.list ds) = true ∧ nodes (.list ds) ≤ m + 1 ∧ (PyData.list ds).depth ≤ k + 1 := by
  obtain ⟨a, b, c⟩ := all_small h
  refine ⟨by simp only [okD, a], ?_, ?_⟩
  · simp only [nodes]; omega
  · simp only [PyData.depth]; omega
theorem row_small {H : Hp} {r : Rw} (g : RwD H r) : okD (rowD H r) = true ∧ nodes (rowD H r) ≤ 57 ∧ (rowD H r).depth ≤ 4 := by
  obtain ⟨a, b, c⟩ := all_small (n := 8) (k := 3) (ds := .str r.name :: r.args.map (dOf H)) (by
    intro d hd
    rcases List.mem_cons.mp hd with rfl | hd
    · exact ⟨g.nm, by simp [nodes], by simp [PyData.depth]⟩
    · obtain ⟨v, hv, rfl⟩ := List.mem_map.mp hd
      obtain ⟨d, q, r1⟩ := g.sm v hv
      rw [dOf_eq q]; exact r1)
  have l := g.len
  rw [List.length_cons, List.length_map] at b
  unfold rowD
  refine ⟨by simp only [okD, a], ?_, ?_⟩
  · simp only [nodes]; omega
  · simp only [PyData.depth]; omega
theorem out_small {H : Hp} {o : Out} (g : GoodO H o) : okD (outD H o) = true ∧ nodes (outD H o) ≤ 57 ∧ (outD H o).depth ≤ 4 := by
  cases o with
  | look c =>
    have g : c.natAbs < 10 ^ 40 := g
    have s : okD (.str "look") = true := by decide
    refine ⟨?_, ?_, ?_⟩
    · simp only [outD, okD, okDs, decide_eq_true g, Bool.and_true]; exact s
    · simp [outD, nodes, nodesAll]
    · simp [outD, PyData.depth, PyData.depthAll]
  | row r => exact row_small g
theorem outs_small {H : Hp} {os : List Out} (g : ∀ o, o ∈ os → GoodO H o) (l : os.length ≤ 60) : okD (.list (os.map (outD H))) = true ∧ nodes (.list (os.map (outD H))) ≤ 16000 ∧ (PyData.list (os.map (outD H))).depth ≤ 60 := by
  obtain ⟨a, b, c⟩ := small_list (n := 57) (k := 4) (m := 57 * 60) (ds := os.map (outD H)) (by
    intro d hd
    obtain ⟨o, ho, rfl⟩ := List.mem_map.mp hd
    exact out_small (g o ho)) (by rw [List.length_map]; omega)
  exact ⟨a, by omega, by omega⟩
theorem rows_small {H : Hp} {rs : List Rw} (g : ∀ r, r ∈ rs → RwD H r) (l : rs.length ≤ 60) : okD (.list (rs.map (rowD H))) = true ∧ nodes (.list (rs.map (rowD H))) ≤ 16000 ∧ (PyData.list (rs.map (rowD H))).depth ≤ 60 := by
  obtain ⟨a, b, c⟩ := small_list (n := 57) (k := 4) (m := 57 * 60) (ds := rs.map (rowD H)) (by
    intro d hd
    obtain ⟨o, ho, rfl⟩ := List.mem_map.mp hd
    exact row_small (g o ho)) (by rw [List.length_map]; omega)
  exact ⟨a, by omega, by omega⟩
theorem ints_small {ls : List Int} (g : ∀ c, c ∈ ls → c.natAbs < 10 ^ 40) (l : ls.length ≤ 60) : okD (.list (ls.map .int)) = true ∧ nodes (.list (ls.map .int)) ≤ 16000 ∧ (PyData.list (ls.map .int)).depth ≤ 60 := by
  obtain ⟨a, b, c⟩ := small_list (n := 1) (k := 0) (m := 60) (ds := ls.map PyData.int) (by
    intro d hd
    obtain ⟨o, ho, rfl⟩ := List.mem_map.mp hd
    exact ⟨by simp only [okD, decide_eq_true (g o ho)], by simp [nodes], by simp [PyData.depth]⟩) (by rw [List.length_map]; omega)
  exact ⟨a, by omega, by omega⟩
theorem good_rwd {H : Hp} {r : Rw} (g : GoodRw r) : RwD H r := by
  obtain ⟨q, ns, m, rfl, l, b⟩ := g
  refine ⟨?_, ?_, fun a ha => ?_⟩
  · have ok : (lawSizes.all fun q => okD (.str q.1)) = true := by decide +kernel
    exact List.all_eq_true.mp ok _ m
  · have := (sz_size m).2.2
    rw [List.length_map]; omega
  · obtain ⟨i, hi, rfl⟩ := List.mem_map.mp ha
    obtain ⟨b0, b1⟩ := b i hi
    refine ⟨.int i, .int i, ?_, by simp [nodes], by simp [PyData.depth]⟩
    simp only [okD, decide_eq_true_eq]
    omega
abbrev H0 : Hp := fun _ => none
theorem s0 {H : Hp} : Same H0 H := fun _ _ h => nomatch h
noncomputable def dR (rs : List Rw) : PyData := .list (rs.map (rowD H0))
def Sml (d : PyData) : Prop := okD d = true ∧ nodes d ≤ 16000 ∧ d.depth ≤ 60
theorem rep_at {K : PySem.W.Frag} {H : Hp} {v : V} {d : PyData} {Q : VK} (h : Dd H v d) (s : Sml d) (q : Q (.str d.shown) H) : rRepr K [v] H Q := repr_at h s.1 s.2.1 s.2.2 q
theorem goods_sml {rs : List Rw} (g : ∀ r, r ∈ rs → GoodRw r) (l : rs.length ≤ 60) : Sml (dR rs) := rows_small (fun r m => good_rwd (g r m)) l
theorem goods_dd {H : Hp} {R : Addr} {xs : List V} {rs : List Rw} (g : ∀ r, r ∈ rs → GoodRw r) (h : H R = some (.lst xs)) (pr : Paired (RwAt H) xs rs) : Dd H (.ref R) (dR rs) := .lst h (rows_dd s0 pr fun r m => good_rwd (g r m))
theorem cpy_v {H H' : Hp} {x y : V} (c : Cpy H H' x y) (n : ∀ a, x ≠ .ref a) : y = x := by
  rcases c with ⟨_, e⟩ | ⟨a, _, _, e, _⟩
  · exact e
  · exact absurd e (n a)
theorem cpy_l {H H' : Hp} {y : V} {L : Addr} {xs : List V} (c : Cpy H H' (.ref L) y) (h : H L = some (.lst xs)) : ∃ p, y = .ref p ∧ H p = none ∧ H' p = some (.lst xs) := by
  rcases c with ⟨⟨t, k, n⟩, e⟩ | ⟨a, zs, p, e, h1, h2, h3, h4⟩
  · exact absurd (k.one (.lst h)) n
  · cases e
    cases h.symm.trans h1
    exact ⟨p, h2, h3, h4⟩
theorem cpys_v {H H' : Hp} : ∀ {l ys : List V}, Paired (Cpy H H') l ys → (∀ x, x ∈ l → ∀ a, x ≠ .ref a) → ys = l
  | _, _, .nil, _ => rfl
  | _, _, .cons a b, h => by rw [cpy_v a (h _ List.mem_cons_self), cpys_v b fun x m => h x (List.mem_cons_of_mem _ m)]
theorem out_rw {H H' : Hp} {y : V} {o : Out} (a : OutAt H H' y o) (g : ∀ r, o = .row r → GoodRw r) : RwAt H' y (outRw o) := by
  cases o with
  | look c => obtain ⟨q, rfl, _, h⟩ := a; exact lookRw_at h
  | row r =>
    obtain ⟨q, vs, rfl, _, h, p⟩ := a
    obtain ⟨t, ns, m, e, l, b⟩ := g r rfl
    have ev := cpys_v p (fun x hx a z => by
      rw [e] at hx
      rcases List.mem_cons.mp hx with e | hx
      · rw [e] at z; cases z
      · obtain ⟨i, _, rfl⟩ := List.mem_map.mp hx; cases z)
    rw [ev] at h
    show RwAt H' _ r
    rw [e] at h ⊢
    exact rwAt_of m l h
theorem outs_rw {H H' : Hp} : ∀ {ys : List V} {os : List Out}, Paired (OutAt H H') ys os → (∀ o, o ∈ os → ∀ r, o = .row r → GoodRw r) → Paired (RwAt H') ys (os.map outRw)
  | _, _, .nil, _ => .nil
  | _, _, .cons a b, g => .cons (out_rw a (g _ List.mem_cons_self)) (outs_rw b fun o m => g o (List.mem_cons_of_mem _ m))
/-- what stands in a shortest log -/
def InShort (rs : List Rw) (b B : Int) : Out → Prop
  | .row r => r ∈ rs
  | .look c => b ≤ c ∧ c ≤ B
theorem short_mem {n : Nat} (n1 : 1 ≤ n) : ∀ {rs : List Rw} {b l m B : Int}, Srt l rs → 0 ≤ m → m ≤ l - b → l ≤ B → (∀ r, r ∈ rs → r.is "go" = false → r.c ≤ B) → ∀ o, o ∈ shortGo n b l m rs → InShort rs b B o
  | [], b, l, m, B, _, h1, h2, h3, _, o, h => by
    have mp := mo_pos n1
    unfold shortGo at h
    by_cases hl : b < l
    · rw [if_pos hl] at h
      rcases List.mem_append.mp h with h | h
      · obtain ⟨c, rfl, c1, c2⟩ := lks_mem n1 (lk_up n1 (p := l) h1) h
        exact ⟨by omega, by omega⟩
      · obtain rfl := List.mem_singleton.mp h
        exact ⟨by omega, h3⟩
    · rw [if_neg hl] at h; cases h
  | r :: rs, b, l, m, B, ⟨s1, s2, s3⟩, h1, h2, h3, h4, o, h => by
    have em : mo n = 2 ^ n - 1 := rfl
    have mp := mo_pos n1
    have d0 : 0 ≤ (atR l r - l) % 2 ^ n := Int.emod_nonneg _ (by omega)
    have d1 : (atR l r - l) % 2 ^ n ≤ atR l r - l := by
      have := Int.mul_ediv_add_emod (atR l r - l) (2 ^ n)
      have q0 : 0 ≤ (atR l r - l) / 2 ^ n := Int.ediv_nonneg (by omega) (by omega)
      have := Int.mul_nonneg (by omega : (0 : Int) ≤ 2 ^ n) q0
      omega
    have aB : atR l r ≤ B := by
      cases g : r.is "go" with
      | true => rw [show atR l r = l from if_pos g]; exact h3
      | false => rw [show atR l r = r.c from if_neg (by rw [g]; exact Bool.false_ne_true)]; exact h4 r List.mem_cons_self g
    have up : ∀ {b'}, b ≤ b' → InShort rs b' B o → InShort (r :: rs) b B o := by
      intro b' hb z
      cases o with
      | row r' => exact List.mem_cons_of_mem _ (z : r' ∈ rs)
      | look c => exact ⟨Int.le_trans hb (z : b' ≤ c ∧ c ≤ B).1, (z : b' ≤ c ∧ c ≤ B).2⟩
    unfold shortGo at h
    by_cases ho : r.only = true
    · rw [if_pos ho] at h
      exact up (Int.le_refl _) (short_mem n1 s3 (by omega) (by omega) aB (fun r m => h4 r (List.mem_cons_of_mem _ m)) o h)
    · rw [if_neg ho] at h
      rcases List.mem_append.mp h with h | h
      · obtain ⟨c, rfl, c1, c2⟩ := lks_mem n1 (lk_up n1 (p := atR l r) (q := m + (atR l r - l) % 2 ^ n) (by omega)) h
        exact ⟨by omega, by omega⟩
      · rcases List.mem_cons.mp h with rfl | h
        · exact List.mem_cons_self
        · exact up (by omega) (short_mem n1 s3 (Int.le_refl _) (by omega) aB (fun r m => h4 r (List.mem_cons_of_mem _ m)) o h)
theorem short_app {n : Nat} {R : Addr} {xs : List V} {rs : List Rw} {H : Hp} {Q : VK} {E : XK} {CW CC : Addr} (n1 : 1 ≤ n) (n64 : n ≤ 64) (h : H R = some (.lst xs)) (pr : Paired (RwAt H) xs rs) (len : rs.length ≤ 1000) (ok : logOk rs = true)
    (q : ∀ p ys H', H p = none → H' p = some (.lst ys) → Fr [] H H' → Paired (OutAt H H') ys (shortL n rs) → ys.length ≤ rs.length → Q (.ref p) H') : spShort CW CC [.int n, .ref R] H Q E := by
  have hw : okW (.int n) = true := by
    show (decide (1 ≤ (n : Int)) && !decide (64 < (n : Int))) = true
    rw [decide_eq_true (by omega), decide_eq_false (by omega)]; rfl
  have lx := PySem.Paired.length pr
  refine ⟨_, _, _, some rs, rfl, .int _, .ok rfl h (by omega) pr, fun z => (by rw [hw] at z; cases z), fun _ => ⟨fun z => ?_, fun n' rs' e1 e2 _ => ?_⟩⟩
  · rw [show okLg (some rs) = logOk rs from rfl, ok] at z; cases z
  · cases e2
    injection e1 with e1
    obtain rfl : n = n' := by omega
    exact ⟨len, q⟩
end Tk

set_option Elab.async false
set_option linter.all false
set_option maxRecDepth 100000
set_option maxHeartbeats 4000000
namespace Tk
open PySem PySem.Spec PyProof.Rows L2

/-! ### the shortest log has its own lists -/
def ownRs (d : Int) (L : Addr) : List Rw := [⟨"process", [.int 0]⟩, ⟨"look", [.int d]⟩, ⟨"run", [.int (d + 1), .int 0, .ref L, .non]⟩, ⟨"look", [.int (d + 5)]⟩]
structure OwnAt (H : Hp) (R t1 t2 t3 t4 L : Addr) (d : Int) : Prop where
  r : H R = some (.lst [.ref t1, .ref t2, .ref t3, .ref t4])
  h1 : H t1 = some (.tup [.str "process", .int 0])
  h2 : H t2 = some (.tup [.str "look", .int d])
  h3 : H t3 = some (.tup [.str "run", .int (d + 1), .int 0, .ref L, .non])
  h4 : H t4 = some (.tup [.str "look", .int (d + 5)])
  hL : H L = some (.lst [.int 0, .int 1, .int d])
section
variable {H H' : Hp} {R t1 t2 t3 t4 L : Addr} {d : Int} {n : Nat}
theorem OwnAt.same (e : Same H H') (o : OwnAt H R t1 t2 t3 t4 L d) : OwnAt H' R t1 t2 t3 t4 L d :=
  ⟨e _ _ o.r, e _ _ o.h1, e _ _ o.h2, e _ _ o.h3, e _ _ o.h4, e _ _ o.hL⟩
theorem OwnAt.rows (o : OwnAt H R t1 t2 t3 t4 L d) : Paired (RwAt H) [.ref t1, .ref t2, .ref t3, .ref t4] (ownRs d L) := by
  refine .cons ⟨⟨t1, rfl, o.h1⟩, ?_, by show sizeV "process" = .int 2; decide +kernel⟩ (.cons (lookRw_at o.h2) (.cons ⟨⟨t3, rfl, o.h3⟩, ?_, by show sizeV "run" = .int 5; decide +kernel⟩ (.cons (lookRw_at o.h4) .nil)))
  · intro y hy; obtain rfl := List.mem_singleton.mp hy; exact ⟨_, .int _⟩
  · intro y hy
    rcases List.mem_cons.mp hy with rfl | hy
    · exact ⟨_, .int _⟩
    rcases List.mem_cons.mp hy with rfl | hy
    · exact ⟨_, .int _⟩
    rcases List.mem_cons.mp hy with rfl | hy
    · exact ⟨_, .lst o.hL⟩
    obtain rfl := List.mem_singleton.mp hy
    exact ⟨_, .non⟩
theorem sm_int {i : Int} (h : i.natAbs < 10 ^ 40) : SmA H (.int i) := ⟨.int i, .int i, by simp only [okD, decide_eq_true h], by simp [nodes], by simp [PyData.depth]⟩
theorem rwd_look {c : Int} (h : c.natAbs < 10 ^ 40) : RwD H (lookRw c) := by
  refine ⟨by show okD (.str "look") = true; decide +kernel, by show 1 ≤ 6; decide, fun a ha => ?_⟩
  obtain rfl := List.mem_singleton.mp ha
  exact sm_int h
theorem OwnAt.good (o : OwnAt H R t1 t2 t3 t4 L d) (d0 : 0 ≤ d) (d1 : d < 9) : ∀ r, r ∈ ownRs d L → RwD H r := by
  intro r hr
  rcases List.mem_cons.mp hr with rfl | hr
  · refine ⟨by decide +kernel, by decide, fun a ha => ?_⟩
    obtain rfl := List.mem_singleton.mp ha; exact sm_int (by decide)
  rcases List.mem_cons.mp hr with rfl | hr
  · exact rwd_look (by omega)
  rcases List.mem_cons.mp hr with rfl | hr
  · refine ⟨by show okD (.str "run") = true; decide +kernel, by show 4 ≤ 6; decide, fun a ha => ?_⟩
    rcases List.mem_cons.mp ha with rfl | ha
    · exact sm_int (by omega)
    rcases List.mem_cons.mp ha with rfl | ha
    · exact sm_int (by decide)
    rcases List.mem_cons.mp ha with rfl | ha
    · have e1 : d.natAbs < 10 ^ 40 := by omega
      refine ⟨.list [.int 0, .int 1, .int d], .lst o.hL (.cons (.int 0) (.cons (.int 1) (.cons (.int d) .nil))), ?_, by simp [nodes, nodesAll], by simp [PyData.depth, PyData.depthAll]⟩
      simp only [okD, okDs, decide_eq_true e1]; decide
    obtain rfl := List.mem_singleton.mp ha
    exact ⟨.none, .non, by simp only [okD], by simp [nodes], by simp [PyData.depth]⟩
  obtain rfl := List.mem_singleton.mp hr
  exact rwd_look (by omega)
theorem own_mk1 (d0 : 0 ≤ d) : Mk1 (ownRs d L) := by
  have e : cycV (ownRs d L) = [(0 : Int), d, d + 1, d + 5].map V.int := rfl
  have s : [(0 : Int), d, d + 1, d + 5].Pairwise (· ≤ ·) := by simp; omega
  have p : ∀ c, c ∈ [(0 : Int), d, d + 1, d + 5] → 0 ≤ c := by intro c hc; simp at hc; omega
  refine ⟨?_, _, e, s, p⟩
  unfold logOk
  rw [e, stopsOk_eq, cycles_of p s, Bool.true_and]
  rfl
end
theorem outD_same {H H' : Hp} (e : Same H H') {o : Out} (g : GoodO H o) : outD H' o = outD H o := by
  cases o with
  | look c => rfl
  | row r =>
    show PyData.tuple _ = PyData.tuple _
    congr 2
    refine List.map_congr_left fun a ha => ?_
    obtain ⟨d, h, _⟩ := (g : RwD H r).sm a ha
    rw [dOf_eq h, dOf_eq (h.same e)]
theorem outsD_same {H H' : Hp} (e : Same H H') {os : List Out} (g : ∀ o, o ∈ os → GoodO H o) : os.map (outD H') = os.map (outD H) := List.map_congr_left fun o m => outD_same e (g o m)
theorem goodO_same {H H' : Hp} (e : Same H H') {o : Out} (g : GoodO H o) : GoodO H' o := by
  cases o with
  | look c => exact g
  | row r => exact ⟨(g : RwD H r).nm, (g : RwD H r).len, fun a m => ((g : RwD H r).sm a m).same e⟩
structure OwnI (H1 H2 : Hp) (p : Addr) (ys : List V) (i : Nat) (H' : Hp) : Prop where
  fr : Fr [] H1 H'
  tups : ∀ q vs, H2 q = some (.tup vs) → H' q = some (.tup vs)
  ls : ∀ q xs, q ≠ p → H2 q = some (.lst xs) → xs.length ≤ 3 → ∃ xs', H' q = some (.lst xs') ∧ xs'.length ≤ 3 + i
  hp : H' p = some (.lst ys)
section
variable {P : Program} {w : World} {K : PySem.W.Frag} {mg : Str → Option Value} {base : Heap} {CW CC : Addr}
def spOwn : Sp := fun vs H Q _ => ∃ (a : Addr) (x y z : Int) (n : Nat), vs = [.ref a, .int n] ∧ 1 ≤ n ∧ n ≤ 64 ∧ H a = some (srcO x y z) ∧ ∀ H', (∃ x z, H' a = some (srcO x y z)) → Fr [a] H H' → Q (.bl true) H'
theorem sc_own : FnScope ["source", "width", "begin", "rows", "due", "row", "kept", "found"] ["source", "width"] (defScope s__law_own_right) := ⟨rfl, rfl, rfl, by decide +kernel, rfl, by decide +kernel, by decide +kernel⟩
theorem ok_own (F : FunAt K mg "_law_own_right" s__law_own_right) (G : NoGl mg) (C__law_next : Cal P w K mg base CX0 2 "_law_next" ["source", "many"] [] spDraw)
    (C_shortest : Cal P w K mg base (L2.CX P w) 5 "shortest" ["width", "log"] [] (spShort CW CC)) :
    CalG P w K mg base CX0 6 "_law_own_right" ["source", "width"] [] spOwn := by
  refine CalG.mk0 F sc_own (by rintro _ _ _ _ ⟨_, _, _, _, _, rfl, _⟩; rfl) (fun _ _ _ _ _ _ us hl => match us, hl with | [_, _], _ => rfl) ?_
  rintro f cdv A outer s H vs Q E hf hr ⟨a, x, y, z, n, rfl, n1, n64, hs, q⟩
  have nd := sc_own.nd
  have hu := hr.units
  refine ⟨_, (pss_cons (ps_set (i := 2) nd rfl (.inl rfl) (pe_c C__law_next (hr.mono (by decide)) (by rfl) pass0 (pa_cons (pv 0) (pa_cons pe_int pa_nil))))
    (pss_cons (ps_set (i := 3) nd rfl (.inl rfl) (pe_lst (pa_cons (pe_tup (pa_cons pe_str (pa_cons pe_int pa_nil))) (pa_cons (pe_tup (pa_cons pe_str (pa_cons (pv 2) pa_nil))) (pa_cons (pe_tup (pa_cons pe_str (pa_cons (pe_op op_add (pv 2) pe_int) (pa_cons pe_int (pa_cons (pe_lst (pa_cons pe_int (pa_cons pe_int (pa_cons (pv 2) pa_nil)))) (pa_cons pe_non pa_nil)))))) (pa_cons (pe_tup (pa_cons pe_str (pa_cons (pe_op op_add (pv 2) pe_int) pa_nil))) pa_nil))))))
    (pss_cons (ps_par (i := 6) (j := 7) (by rfl) nd rfl rfl (by decide) rfl rfl (pa_cons (pe_callB (call_repr hf hu) (by rfl) G.repr (by decide +kernel) (pa_cons (pv 3) pa_nil)) (pa_cons (pe_c C_shortest (hr.mono (by decide)) (by rfl) (passes_call (E := fun _ _ _ => False) (W := fun _ _ _ _ => False) takes0 (fun _ _ _ _ h => h)) (pa_cons (pv 1) (pa_cons (pv 3) pa_nil))) pa_nil)) (by rfl))
    (pss_cons (ps_set (i := 4) nd rfl (.inl rfl) (pe_callB (call_repr hf hu) (by rfl) G.repr (by decide +kernel) (pa_cons (pv 7) pa_nil)))
    (pss_cons (ps_for PassesOwn.never rfl (pi_list (pv 7)) (pg_name (i := 5) nd rfl (.inl rfl))
      (pss_one (ps_if (pt_cmpR op_eq (pe_ix ix_tup (pv 5) pe_int (fun _ _ => rfl)) pe_str (nomark _))
        (pss_one (ps_expr (pe_bm PySem.F.plainAttrs_list PySem.F.slot_list_append PySem.F.type_list_append mt_append (pe_ix ix_tup (pv 5) pe_int (fun _ _ => rfl)) (pa_cons pe_int pa_nil))))
        pss_nil)))
    (pss_one (ps_ret (pe_and (pe_cmpR op_eq (pe_callB (call_repr hf hu) (by rfl) G.repr (by decide +kernel) (pa_cons (pv 3) pa_nil)) (pv 6) (nomark _)) (pe_one (pe_cmpR op_eq (pe_callB (call_repr hf hu) (by rfl) G.repr (by decide +kernel) (pa_cons (pe_c C_shortest (hr.mono (by decide)) (by rfl) (passes_call (E := fun _ _ _ => False) (W := fun _ _ _ _ => False) takes0 (fun _ _ _ _ h => h)) (pa_cons (pv 1) (pa_cons (pv 3) pa_nil))) pa_nil)) (pv 4) (nomark _))))))))))), ?_⟩
  refine ⟨_, rfl, a, x, y, z, 9, rfl, hs, by decide, by decide, fun d x1 z1 H1 d0 d1 src1 fr1 => ?_⟩
  refine ⟨by show 2 ≤ sizeLine; decide, fun t1 m1 => ⟨_, rfl, by show 2 ≤ sizeLine; decide, fun t2 m2 => ⟨_, rfl, _, _, rfl, rfl, _, rfl, by show 3 ≤ sizeLine; decide, fun L nL => ⟨by show 5 ≤ sizeLine; decide, fun t3 m3 => ⟨_, rfl, _, _, rfl, rfl, by show 2 ≤ sizeLine; decide, fun t4 m4 => ⟨by show 4 ≤ sizeLine; decide, fun R nR => ?_⟩⟩⟩⟩⟩⟩
  have f1 := Fr.new (M := []) (o := .tup [V.str "process", V.int 0]) m1
  have f2 := Fr.new (M := []) (o := .tup [V.str "look", V.int d]) m2
  have f3 := Fr.new (M := []) (o := .lst [V.int 0, V.int 1, V.int d]) nL
  have f4 := Fr.new (M := []) (o := .tup [V.str "run", V.int (d + 1), V.int 0, V.ref L, V.non]) m3
  have f5 := Fr.new (M := []) (o := .tup [V.str "look", V.int (d + 5)]) m4
  have f6 := Fr.new (M := []) (o := .lst [V.ref t1, V.ref t2, V.ref t3, V.ref t4]) nR
  have f56 := f5.trans f6
  have f46 := f4.trans f56
  have f36 := f3.trans f46
  have f26 := f2.trans f36
  have fR := f1.trans f26
  have O : OwnAt _ R t1 t2 t3 t4 L d := ⟨upd_same, f26.same _ _ upd_same, f36.same _ _ upd_same, f56.same _ _ upd_same, f6.same _ _ upd_same, f46.same _ _ upd_same⟩
  have srcR := fR.same _ _ src1
  have frR := fr1.trans (Fr.mono (N := [a]) fR fun _ h => nomatch h)
  dsimp only [L2.gName, L2.tSeq]
  dsimp only at O srcR frR
  clear f1 f2 f3 f4 f5 f6 f56 f46 f36 f26 fR m1 m2 m3 m4 nL
  generalize hH5 : upd (upd (upd (upd (upd (upd H1 t1 (.tup [.str "process", .int 0])) t2 (.tup [.str "look", .int d])) L (.lst [.int 0, .int 1, .int d])) t3 (.tup [.str "run", .int (d + 1), .int 0, .ref L, .non])) t4 (.tup [.str "look", .int (d + 5)])) R (.lst [.ref t1, .ref t2, .ref t3, .ref t4]) = H5 at O srcR frR ⊢
  clear hH5 nR
  have g5 := O.good d0 d1
  have sm := rows_small g5 (by show 4 ≤ 60; decide)
  have mk := own_mk1 (L := L) d0
  have memS := short_mem n1 (rs := ownRs d L) (b := 0) (l := 0) (m := 0) (B := 100) mk.srt (by decide) (by decide) (by decide) (fun r hr g => by
    rcases List.mem_cons.mp hr with rfl | hr
    · exact (by decide : (0 : Int) ≤ 100)
    rcases List.mem_cons.mp hr with rfl | hr
    · show d ≤ 100; omega
    rcases List.mem_cons.mp hr with rfl | hr
    · show d + 1 ≤ 100; omega
    obtain rfl := List.mem_singleton.mp hr
    show d + 5 ≤ 100; omega)
  refine ⟨_, rfl, ?_⟩
  dsimp only [L2.tNil]
  refine repr_at (.lst O.r (rows_dd (fun _ _ h => h) O.rows g5)) sm.1 sm.2.1 sm.2.2 ?_
  refine ⟨_, rfl, _, rfl, ?_⟩
  dsimp only [L2.tNil]
  refine short_app n1 n64 O.r O.rows (by show 4 ≤ 1000; decide) mk.ok fun p ys H6 np hp fr6 po lys => ⟨_, _, rfl, ?_⟩
  have lo : (shortL n (ownRs d L)).length ≤ 60 := by
    have := told_len (rs := ownRs d L) n1
    unfold toldR at this
    rw [List.length_map] at this
    have e : (ownRs d L).length = 4 := rfl
    omega
  have mem : ∀ o, o ∈ shortL n (ownRs d L) → GoodO H5 o ∧ match o with | .row r => r ∈ ownRs d L | .look _ => True := fun o m => by
    have z := memS o m
    cases o with
    | row r => exact ⟨g5 r z, z⟩
    | look c => exact ⟨by have z : 0 ≤ c ∧ c ≤ 100 := z; show c.natAbs < 10 ^ 40; omega, trivial⟩
  have ly := PySem.Paired.length po
  have go := fun o m => (mem o m).1
  have so := outs_small go lo
  generalize hos : shortL n (ownRs d L) = os at *
  refine ⟨_, rfl, ?_⟩
  dsimp only [L2.tNil]
  refine repr_at (.lst hp (outs_dd fr6.same po go)) so.1 so.2.1 so.2.2 ?_
  refine ⟨_, rfl, p, rfl, ⟨_, SqL.of hp⟩, ?_⟩
  refine for_list (K := K) (a := p) (xs := ys) (fun i σ H' => ∃ (s5 : Option V), σ = [some (V.ref a), some (V.int n), some (V.int d), some (V.ref R), some (V.str (PyData.shown (.list (os.map (outD H5))))), s5, some (V.str (PyData.shown (.list ((ownRs d L).map (rowD H5))))), some (V.ref p)] ∧ OwnI H5 H6 p ys i H')
    ⟨_, rfl, fr6, (fun _ _ h => h), (fun q xs _ h l => ⟨xs, h, by omega⟩), hp⟩ ?_ ?_ ?_
  · rintro i σ H' _ ⟨_, _, I⟩
    exact SqL.of I.hp
  · rintro i x σ H' hx ⟨s5, rfl, I⟩
    obtain ⟨o, ho, ax⟩ := Paired.get po hx
    have hi : i < os.length := (List.getElem?_eq_some_iff.mp ho).1
    obtain ⟨_, mo'⟩ := mem o (List.mem_of_getElem? ho)
    have stay : ∀ {s5' : Option V}, ∃ (s5 : Option V), [some (V.ref a), some (V.int n), some (V.int d), some (V.ref R), some (V.str (PyData.shown (.list (os.map (outD H5))))), s5', some (V.str (PyData.shown (.list ((ownRs d L).map (rowD H5))))), some (V.ref p)] = [some (V.ref a), some (V.int n), some (V.int d), some (V.ref R), some (V.str (PyData.shown (.list (os.map (outD H5))))), s5, some (V.str (PyData.shown (.list ((ownRs d L).map (rowD H5))))), some (V.ref p)] ∧ OwnI H5 H6 p ys (i + 1) H' :=
      fun {s5'} => ⟨s5', rfl, I.fr, I.tups, (fun q xs n h l => let ⟨zs, h1, h2⟩ := I.ls q xs n h l; ⟨zs, h1, by omega⟩), I.hp⟩
    cases o with
    | look c =>
      obtain ⟨q0, rfl, _, hq⟩ := ax
      refine ⟨_, rfl, q0, _, _, _, rfl, rfl, SqT.of (I.tups _ _ hq), atI_nat (j := 0) rfl, rfl, _, rfl, ?_⟩
      rw [dec_str]
      exact ifF (by decide) stay
    | row r =>
      obtain ⟨q0, vs0, rfl, _, hq, cp⟩ := ax
      have hq' := I.tups _ _ hq
      rcases List.mem_cons.mp mo' with rfl | mo'
      · cases cp with
        | cons c cs =>
          obtain rfl := cpy_v c (fun _ e => nomatch e)
          refine ⟨_, rfl, q0, _, _, _, rfl, rfl, SqT.of hq', atI_nat (j := 0) rfl, rfl, _, rfl, ?_⟩
          rw [dec_str]
          exact ifF (by decide) stay
      rcases List.mem_cons.mp mo' with rfl | mo'
      · cases cp with
        | cons c cs =>
          obtain rfl := cpy_v c (fun _ e => nomatch e)
          refine ⟨_, rfl, q0, _, _, _, rfl, rfl, SqT.of hq', atI_nat (j := 0) rfl, rfl, _, rfl, ?_⟩
          rw [dec_str]
          exact ifF (by show decide (("look" : Str) = "run") = false; decide) stay
      rcases List.mem_cons.mp mo' with rfl | mo'
      · cases cp with
        | cons c cs =>
          obtain rfl := cpy_v c (fun _ e => nomatch e)
          cases cs with
          | cons c1 cs =>
            cases cs with
            | cons c2 cs =>
              cases cs with
              | cons c3 cs =>
                obtain ⟨p3, rfl, np3, hp3⟩ := cpy_l c3 O.hL
                have ne : p3 ≠ p := by
                  rintro rfl
                  cases hp.symm.trans hp3
                  cases po with
                  | cons u _ =>
                    cases ‹Out› with
                    | look c => obtain ⟨_, e, _⟩ := u; cases e
                    | row r => obtain ⟨_, _, e, _⟩ := u; cases e
                obtain ⟨zs, hz, lz⟩ := I.ls p3 _ ne hp3 (by show 3 ≤ 3; decide)
                refine ⟨_, rfl, q0, _, _, _, rfl, rfl, SqT.of hq', atI_nat (j := 0) rfl, rfl, _, rfl, ?_⟩
                rw [dec_str]
                refine ifT (by show decide (("run" : Str) = "run") = true; decide) ?_
                refine ⟨_, rfl, q0, _, _, _, rfl, rfl, SqT.of hq', atI_nat (j := 3) rfl, .inl ⟨rfl, _, SqL.of hz⟩, p3, zs, _, rfl, rfl, hz, (by rw [sizeLine_eq]; omega), _, rfl, ?_⟩
                refine ⟨Fr.drop (I.fr.weak.trans (Fr.set (List.mem_singleton.mpr rfl))) np3, fun q vs h => ?_, fun q xs n h l => ?_, ?_⟩
                · have := I.tups q vs h
                  rw [upd_ne fun z => by rw [z, hz] at this; cases this]; exact this
                · by_cases z : q = p3
                  · subst z
                    exact ⟨_, upd_same, by rw [List.length_append, List.length_singleton]; omega⟩
                  · obtain ⟨ws, h1, h2⟩ := I.ls q xs n h l
                    exact ⟨ws, by rw [upd_ne z]; exact h1, by omega⟩
                · rw [upd_ne ne.symm]; exact I.hp
      obtain rfl := List.mem_singleton.mp mo'
      cases cp with
      | cons c cs =>
        obtain rfl := cpy_v c (fun _ e => nomatch e)
        refine ⟨_, rfl, q0, _, _, _, rfl, rfl, SqT.of hq', atI_nat (j := 0) rfl, rfl, _, rfl, ?_⟩
        rw [dec_str]
        exact ifF (by show decide (("look" : Str) = "run") = false; decide) stay
  · rintro σ H' ⟨s5, rfl, I⟩
    have O7 := O.same I.fr.same
    refine ⟨_, rfl, ?_⟩
    dsimp only [L2.tNil]
    refine repr_at (.lst O7.r (rows_dd I.fr.same O7.rows g5)) sm.1 sm.2.1 sm.2.2 ?_
    refine ⟨_, rfl, rfl, _, rfl, ?_⟩
    refine ifT (by simp) ?_
    refine ⟨_, rfl, _, rfl, ?_⟩
    dsimp only [L2.tNil]
    refine short_app n1 n64 O7.r O7.rows (by show 4 ≤ 1000; decide) mk.ok fun p8 y8 H8 np8 hp8 fr8 po8 _ => ?_
    rw [hos] at po8
    have go8 := fun o m => goodO_same I.fr.same (go o m)
    have e8 := outsD_same (os := os) I.fr.same go
    refine repr_at (d := .list (os.map (outD H5))) (.lst hp8 (by rw [← e8]; exact outs_dd fr8.same po8 go8)) so.1 so.2.1 so.2.2 ?_
    refine ⟨_, rfl, rfl, ?_⟩
    rw [decide_eq_true rfl]
    exact q H8 ⟨x1, z1, (I.fr.trans fr8).same _ _ srcR⟩ (frR.trans (Fr.mono (N := [a]) (I.fr.trans fr8) fun _ h => nomatch h))
end
end Tk

set_option Elab.async false
set_option linter.all false
set_option maxRecDepth 100000
set_option maxHeartbeats 4000000
namespace Tk
open PySem PySem.Spec PyProof.Rows L2

/-! ### lists of places -/
def plD (q : Int × Int) : PyData := .tuple [.int q.1, .int q.2]
def plsD (l : List (Int × Int)) : PyData := .list (l.map plD)
theorem pls_dd {H : Hp} : ∀ {ys : List V} {l : List (Int × Int)}, Paired (PlAt H) ys l → DdAll H ys (l.map plD)
  | _, _, .nil => .nil
  | _, _, .cons ⟨a, e, h⟩ b => by
    subst e
    exact .cons (.tup h (.cons (.int _) (.cons (.int _) .nil))) (pls_dd b)
theorem pls_lay : ∀ l : List (Int × Int), PyData.canLayAll0 (l.map plD) = true
  | [] => by simp [PyData.canLayAll0]
  | q :: l => by
    have ih := pls_lay l
    simp only [List.map_cons, PyData.canLayAll0, ih, Bool.and_true]
    simp [plD, PyData.canLay0, PyData.canLayAll0]
theorem pls_depth : ∀ l : List (Int × Int), PyData.depthAll (l.map plD) ≤ 1
  | [] => by simp [PyData.depthAll]
  | q :: l => by
    have ih := pls_depth l
    simp only [List.map_cons, PyData.depthAll]
    have : (plD q).depth = 1 := by simp [plD, PyData.depth, PyData.depthAll]
    omega
theorem pls_shaped (l : List (Int × Int)) : SeqAt.shaped (plsD l) = true := by
  unfold SeqAt.shaped plsD
  have := pls_depth l
  rw [Bool.and_eq_true]
  refine ⟨by simp only [PyData.canLay0, pls_lay], decide_eq_true ?_⟩
  simp only [PyData.depth]
  omega
theorem pls_eq (l : List (Int × Int)) : PyData.eqv (plsD l) (plsD l) = true := PySem.SeqAt.eqv_refl _ (by unfold plsD; simp only [PyData.canLay0, pls_lay])
section
variable {K : PySem.W.Frag}
/-- [place for row, place in zip(l, _law_found(width, l)) if _law_changes(row)] -/
theorem ev_ends {σ : L2.St} {j n : Nat} {l : Addr} {xs : List V} {rs : List Rw} {H : Hp} {Q : VK} (h3 : σ[3]? = some (some (.int n))) (hj : σ[j]? = some (some (.ref l))) (z : σ.length = 15) (n64 : n ≤ 64) (h : H l = some (.lst xs)) (r : Paired (RwAt H) xs rs)
    (ci : ∀ r, r ∈ rs → r.is "go" = false → r.at = .int r.c) (len : rs.length ≤ 1000) (q : ∀ D zs H', H D = none → H' D = some (.lst zs) → Fr [] H H' → Paired (PlAt H') zs ((kpR n rs).map (·.2)) → Q (.ref D) H') :
    tLc (iZip K (tCons (tVar j) (tCons (tCall spFound [] E0 (tCons (tVar 3) (tCons (tVar j) tNil))) tNil))) (gTup K 2 (gCons (gName 10) (gCons (gName 11) gNil))) (tB (tCall spChanges [] E0 (tCons (tVar 10) tNil))) (tVar 11) [10, 11] σ H Q := by
  have lenx := PySem.Paired.length r
  refine ⟨_, hj, _, h3, _, hj, n, l, xs, rs, rfl, n64, h, r, ci, len, fun b ys H1 nb hb fr1 po1 => ?_⟩
  have ly := PySem.Paired.length po1
  rw [foundR_len] at ly
  refine ⟨l, b, xs, ys, rfl, SqL.of (fr1.same _ _ h), SqL.of hb, fun D hD => ?_⟩
  have hw10 : ∀ (x y : V), (((wipe σ [10, 11]).set 10 (some x)).set 11 (some y))[10]? = some (some x) := fun x y => by simp [wipe, z]
  have hw11 : ∀ (x y : V), (((wipe σ [10, 11]).set 10 (some x)).set 11 (some y))[11]? = some (some y) := fun x y => by simp [wipe, z]
  refine lc_zipR (K := K) (fun x _ => !(rowOf H x).only) (fun x y z H' => z = y) (fun _ _ _ _ _ _ e => e) hD (by rw [sizeLine_eq]; omega) (SqL.of (fr1.same _ _ h)) (SqL.of hb) (fun x y => ?_) ?_ ?_ ?_
  · simp only [wipe, List.foldl]
    apply List.ext_getElem?
    intro i
    simp only [List.getElem?_set, List.length_set]
    by_cases h1 : i = 10 <;> by_cases h2 : i = 11 <;> simp_all <;> omega
  · intro x y H2 Q' hm fr2 _ hq
    obtain ⟨rr, _, ax⟩ := Paired.mem r (List.of_mem_zip hm).1
    refine ⟨_, hw10 x y, x, rr, rfl, ax.same (fr1.trans fr2).same, fun H3 fr3 => ⟨_, rfl, ?_⟩⟩
    have hq := hq H3 fr3
    rw [rowOf_eq ax] at hq
    exact hq
  · intro x y H2 Q' hm _ fr2 _ hq
    exact ⟨_, hw11 x y, hq y _ (Fr.refl _ _) rfl⟩
  · intro H2 zs hD2 fr2 md
    have pk : Paired (fun y (q : Rw × Int × Int) => PlAt H2 y q.2) zs (kpR n rs) := md.paired (F := fun x r => RwAt H x r) (G := fun y q => PlAt H1 y q) (U := fun y (q : Rw × Int × Int) => PlAt H2 y q.2) (pr := fun r _ => !r.only) (fun x y r q hx _ => by rw [rowOf_eq hx])
      (fun x y z r q hx hy e => by subst e; exact hy.same fr2.same) r po1
    refine q D zs H2 (fr1.none hD) hD2 (fr1.trans fr2) ?_
    have go : ∀ {zs : List V} {l : List (Rw × Int × Int)}, Paired (fun y (q : Rw × Int × Int) => PlAt H2 y q.2) zs l → Paired (PlAt H2) zs (l.map (·.2)) := by
      intro zs l p
      induction p with
      | nil => exact .nil
      | cons a _ ih => exact .cons a ih
    exact go pk
theorem cut_last (xs : List V) : cutV xs (some (-1)) none = xs.drop (xs.length - 1) := by
  unfold cutV
  rw [HT.sIx_none]
  have e : HT.sIx xs.length 0 (some (-1)) = xs.length - 1 := by
    show (if (-1 : Int) < 0 then ((-1 : Int) + (xs.length : Int)).toNat else min (-1 : Int).toNat xs.length) = _
    rw [if_pos (by decide)]; omega
  rw [e]
  exact List.take_of_length_le (by rw [List.length_drop]; omega)
def tailR (n : Nat) (rs : List Rw) : List (Int × Int) := (foundR n 0 0 rs).drop (rs.length - 1)
theorem tailR_eq {n : Nat} {rs : List Rw} (h : rs ≠ []) : tailR n rs = [lastR n rs] := by
  unfold tailR lastR
  have l := foundR_len n rs 0 0
  generalize foundR n 0 0 rs = f at l ⊢
  rcases List.eq_nil_or_concat f with rfl | ⟨g, x, rfl⟩
  · exact absurd (List.eq_nil_of_length_eq_zero l.symm) h
  · rw [List.concat_eq_append] at *
    rw [List.length_append, List.length_singleton] at l
    rw [← l]; simp
/-- _law_found(width, l)[-1:] -/
theorem ev_tail {σ : L2.St} {j n : Nat} {l : Addr} {xs : List V} {rs : List Rw} {H : Hp} {Q : VK} (h3 : σ[3]? = some (some (.int n))) (hj : σ[j]? = some (some (.ref l))) (n64 : n ≤ 64) (h : H l = some (.lst xs)) (r : Paired (RwAt H) xs rs)
    (ci : ∀ r, r ∈ rs → r.is "go" = false → r.at = .int r.c) (len : rs.length ≤ 1000) (q : ∀ v H', Fr [] H H' → Dd H' v (plsD (tailR n rs)) → Q v H') :
    tSl (rSlL K) (tCall spFound [] E0 (tCons (tVar 3) (tCons (tVar j) tNil))) (tPart (tUn (rU fun i => .int (-i)) (tC (.int 1)))) tNoPart σ H Q := by
  have lenx := PySem.Paired.length r
  refine ⟨_, h3, _, hj, n, l, xs, rs, rfl, n64, h, r, ci, len, fun b ys H1 nb hb fr1 po1 => ?_⟩
  refine ⟨_, rfl, _, rfl, b, ys, rfl, SqL.of hb, fun p hp => ?_⟩
  have frp := Fr.new (M := []) (o := .lst (cutV ys (some (-1)) none)) hp
  refine q _ _ (fr1.trans frp) (.lst (xs := cutV ys (some (-1)) none) upd_same ?_)
  have ly := PySem.Paired.length po1
  rw [cut_last]
  unfold tailR
  have e : ys.length - 1 = rs.length - 1 := by rw [ly, foundR_len]
  rw [e]
  have drp : ∀ {k : Nat} {as : List V} {bs : List (Int × Int)}, Paired (PlAt H1) as bs → Paired (PlAt H1) (as.drop k) (bs.drop k) := by
    intro k
    induction k with
    | zero => intro as bs p; exact p
    | succ k ih =>
      intro as bs p
      cases p with
      | nil => exact .nil
      | cons a b => exact ih b
  rw [cut_last, e] at frp
  exact pls_dd (L2.Paired.mapP (drp po1) fun x y c => c.same frp.same)
end
end Tk

set_option Elab.async false
set_option linter.all false
set_option maxRecDepth 100000
set_option maxHeartbeats 4000000
namespace Tk
open PySem PySem.Spec PyProof.Rows L2

section
variable {P : Program} {w : World} {K : PySem.W.Frag} {mg : Str → Option Value} {base : Heap} {CW CC : Addr}
def spLaw (K : PySem.W.Frag) : Sp := fun vs H Q _ => ∃ (a : Addr) (ns : List Int), vs = [.ref a] ∧ SqL K H a (ns.map V.int) ∧ ns.length ≤ 63 ∧ ∀ H', Q (.bl true) H'
theorem sc_law : FnScope ["script", "index", "source", "width", "rows", "told", "ends", "kept", "due", "begin", "row", "place", "looks", "gap", "many"] ["script"] (defScope s_law) := ⟨rfl, rfl, rfl, by decide +kernel, rfl, by decide +kernel, by decide +kernel⟩
/-- 0 < len(looks) < 5 and gap < 17 and _law_tried(..): never -/
theorem ev_try {σ : L2.St} {n : Nat} {lq : Addr} {lys : List V} {g m : Int} {H : Hp} {Q : Bool → Hp → Prop} (h3 : σ[3]? = some (some (.int n))) (h12 : σ[12]? = some (some (.ref lq))) (h13 : σ[13]? = some (some (.int g))) (h14 : σ[14]? = some (some (.int m)))
    (n1 : 1 ≤ n) (n64 : n ≤ 64) (hl : H lq = some (.lst lys)) (ek : lys.length = lkN n m) (g0 : 0 ≤ g) (q : ∀ H', Fr [] H H' → Q false H') :
    tAnd (tTest (tChain (rI0 fun i j => .bl (decide (i < j))) (rI0 fun i j => .bl (decide (i < j))) (tC (.int 0)) (tCB (fun vs H1 Q => ∃ p ys, vs = [.ref p] ∧ (SqL K H1 p ys ∨ SqT K H1 p ys) ∧ Q (.int ys.length) H1) (tCons (tVar 12) tNil)) (tC (.int 5))))
      (tAnd (tTest (tOp (rI0 fun i j => .bl (decide (i < j))) (tVar 13) (tC (.int 17)))) (tB (tCall spTried [] E0 (tCons (tVar 3) (tCons (tVar 13) (tCons (tVar 14) (tCons (tOp (rI0 fun i j => .int (i - j))
        (tCB (fun vs H1 Q => ∃ p ys, vs = [.ref p] ∧ (SqL K H1 p ys ∨ SqT K H1 p ys) ∧ Q (.int ys.length) H1) (tCons (tVar 12) tNil)) (tC (.int 1))) tNil))))))) σ H Q := by
  refine ⟨_, h12, lq, lys, rfl, .inl (SqL.of hl), _, _, rfl, rfl, _, rfl, ?_⟩
  refine ite2 (fun c1 => ?_) (fun _ => ⟨_, rfl, q H (Fr.refl _ _)⟩)
  have c1 : (0 : Int) < lys.length := of_decide_eq_true c1
  refine ⟨_, _, rfl, rfl, _, rfl, ?_⟩
  refine ite2 (fun c2 => ?_) (fun _ => q H (Fr.refl _ _))
  have c2 : (lys.length : Int) < 5 := of_decide_eq_true c2
  refine ⟨_, h13, _, _, rfl, rfl, _, rfl, ?_⟩
  refine ite2 (fun c3 => ?_) (fun _ => q H (Fr.refl _ _))
  have c3 : g < 17 := of_decide_eq_true c3
  obtain ⟨k, hk⟩ : ∃ k, lkN n m = k + 1 := ⟨lkN n m - 1, by omega⟩
  have lo := lkN_lo n1 hk
  obtain ⟨g', rfl⟩ : ∃ g' : Nat, g = g' := ⟨g.toNat, by omega⟩
  refine ⟨_, h3, _, h13, _, h14, _, h12, lq, lys, rfl, .inl (SqL.of hl), _, _, rfl, rfl, n, g', k, m, ?_, n1, n64, by omega, by omega, lo, fun H' fr => ⟨_, rfl, q H' fr⟩⟩
  have : (lys.length : Int) - 1 = k := by omega
  show [V.int n, V.int g', V.int m, V.int ((lys.length : Int) - 1)] = _
  rw [this]
theorem ok_law {f : Addr} {fd : FuncData} (F : Fun K "law" "law" s_law f fd) (G : NoGl mg)
    (C__law_source : Cal P w K mg base CX0 2 "_law_source" ["script", "k"] [] (spSource K)) (C__law_next : Cal P w K mg base CX0 2 "_law_next" ["source", "many"] [] spDraw)
    (C__law_rows : Cal P w K mg base CX0 3 "_law_rows" ["source", "span", "many"] [] spRows) (C__law_found : Cal P w K mg base CX0 1 "_law_found" ["width", "rows"] [] spFound) (C__law_changes : Cal P w K mg base CX0 1 "_law_changes" ["row"] [] spChanges)
    (C__law_kept : Cal P w K mg base CX0 2 "_law_kept" ["width", "rows"] [] spKept) (C__law_between : Cal P w K mg base CX0 1 "_law_between" ["width", "begin", "place"] [] spBetween) (C__law_tried : Cal P w K mg base CX0 1 "_law_tried" ["width", "gap", "many", "looks"] [] spTried)
    (C_shortest : Cal P w K mg base (L2.CX P w) 5 "shortest" ["width", "log"] [] (spShort CW CC)) (C__law_own_right : CalG P w K mg base CX0 6 "_law_own_right" ["source", "width"] [] spOwn) :
    FnG P w K mg base CX0 7 f fd ["script"] (spLaw K) := by
  refine funG F sc_law (by rintro _ _ _ _ ⟨_, _, rfl, _⟩; rfl) fun cdv A outer s H vs Q E hf hr h => ?_
  obtain ⟨a, ns, rfl, hs, ln, q⟩ := h
  have nd := sc_law.nd
  have hu := hr.units
  suffices hh : ∃ t, PSs (cxOf CX0 P w K mg base ["script", "index", "source", "width", "rows", "told", "ends", "kept", "due", "begin", "row", "place", "looks", "gap", "many"] "law" (defScope s_law) f cdv A outer s H E).nox (defBody s_law) t ∧
      t { nx := fun _ H' => Q .non H', rt := Q } (start ["script", "index", "source", "width", "rows", "told", "ends", "kept", "due", "begin", "row", "place", "looks", "gap", "many"] [.ref a]) H by
    obtain ⟨t, ht, z⟩ := hh
    exact ⟨t, ht.nox, z⟩
  refine ⟨_, (pss_cons (ps_for PassesOwn.never rfl (pi_range1 (by rfl) G.range (pa_cons (pe_callB (call_max2 rfl) (by rfl) G.max (by decide +kernel) (pa_cons pe_int (pa_cons (pe_callB (call_min2 rfl) (by rfl) G.min (by decide +kernel) (pa_cons pe_int (pa_cons (pe_callB call_len_seq (by rfl) G.len (by decide +kernel) (pa_cons (pv 0) pa_nil)) pa_nil))) pa_nil))) pa_nil)) (pg_name (i := 1) nd rfl (.inl rfl))
      (pss_cons (ps_set (i := 2) nd rfl (.inl rfl) (pe_c C__law_source (hr.mono (by decide)) (by rfl) pass0 (pa_cons (pv 0) (pa_cons (pv 1) pa_nil))))
      (pss_cons (ps_set (i := 3) nd rfl (.inl rfl) (pe_op op_add pe_int (pe_c C__law_next (hr.mono (by decide)) (by rfl) pass0 (pa_cons (pv 2) (pa_cons pe_int pa_nil)))))
      (pss_cons (ps_set (i := 4) nd rfl (.inl rfl) (pe_c C__law_rows (hr.mono (by decide)) (by rfl) pass0 (pa_cons (pv 2) (pa_cons (pe_ix ix_list (pe_lst (pa_cons pe_int (pa_cons (pe_op op_shl pe_int (pv 3)) (pa_cons (pe_op op_mul pe_int (pe_op op_shl pe_int (pv 3))) pa_nil)))) (pe_c C__law_next (hr.mono (by decide)) (by rfl) pass0 (pa_cons (pv 2) (pa_cons pe_int pa_nil))) (fun _ _ => rfl)) (pa_cons (pe_c C__law_next (hr.mono (by decide)) (by rfl) pass0 (pa_cons (pv 2) (pa_cons pe_int pa_nil))) pa_nil)))))
      (pss_cons (ps_par3 (i := 7) (j := 8) (l := 9) (by rfl) nd rfl rfl rfl (by decide) (by decide) (by decide) rfl rfl rfl (pa_cons (pe_callB (call_repr hf hu) (by rfl) G.repr (by decide +kernel) (pa_cons (pv 4) pa_nil)) (pa_cons (pe_lst pa_nil) (pa_cons (pe_tup (pa_cons pe_int (pa_cons pe_int pa_nil))) pa_nil))) (by rfl))
      (pss_cons (ps_for PassesOwn.never rfl (pi_list (pe_c C__law_kept (hr.mono (by decide)) (by rfl) pass0 (pa_cons (pv 3) (pa_cons (pv 4) pa_nil)))) (pg_tup rfl (pgs_cons (pg_name (i := 10) nd rfl (.inl rfl)) (pgs_cons (pg_name (i := 11) nd rfl (.inl rfl)) pgs_nil)))
        (pss_cons (ps_par3 (i := 12) (j := 13) (l := 14) (by rfl) nd rfl rfl rfl (by decide) (by decide) (by decide) rfl rfl rfl (pa_cons (pe_c C__law_between (hr.mono (by decide)) (by rfl) pass0 (pa_cons (pv 3) (pa_cons (pv 9) (pa_cons (pv 11) pa_nil)))) (pa_cons (pe_op op_sub (pe_ix ix_tup (pv 11) pe_int (fun _ _ => rfl)) (pe_ix ix_tup (pv 9) pe_int (fun _ _ => rfl))) (pa_cons (pe_op op_sub (pe_ix ix_tup (pv 11) pe_int (fun _ _ => rfl)) (pe_ix ix_tup (pv 9) pe_int (fun _ _ => rfl))) pa_nil))) (by rfl))
        (pss_cons (ps_if (PW.pt (pw_and (pt_chain op_lt op_lt pe_int (pe_callB call_len_seq (by rfl) G.len (by decide +kernel) (pa_cons (pv 12) pa_nil)) pe_int) (pw_and (pt_cmpR op_lt (pv 13) pe_int (nomark _)) (pw_and1 (pt_val (pe_c C__law_tried (hr.mono (by decide)) (by rfl) pass0 (pa_cons (pv 3) (pa_cons (pv 13) (pa_cons (pv 14) (pa_cons (pe_op op_sub (pe_callB call_len_seq (by rfl) G.len (by decide +kernel) (pa_cons (pv 12) pa_nil)) pe_int) pa_nil))))))))))
          (pss_one (ps_ret pe_bl))
          pss_nil)
        (pss_cons (ps_set (i := 8) nd rfl (.inl rfl) (pe_op op_cat (pe_op op_cat (pv 8) (pv 12)) (pe_lst (pa_cons (pv 10) pa_nil))))
        (pss_one (ps_set (i := 9) nd rfl (.inl rfl) (pv 11)))))))
      (pss_cons (ps_set (i := 5) nd rfl (.inl rfl) (pe_c C_shortest (hr.mono (by decide)) (by rfl) (passes_call (E := fun _ _ _ => False) (W := fun _ _ _ _ => False) takes0 (fun _ _ _ _ h => h)) (pa_cons (pv 3) (pa_cons (pv 4) pa_nil))))
      (pss_cons (ps_if (PW.pt (pw_or (pt_cmpR op_ne (pe_callB (call_repr hf hu) (by rfl) G.repr (by decide +kernel) (pa_cons (pv 5) pa_nil)) (pe_callB (call_repr hf hu) (by rfl) G.repr (by decide +kernel) (pa_cons (pv 8) pa_nil)) (nomark _)) (pw_or (pt_cmpR op_ne (pe_callB (call_repr hf hu) (by rfl) G.repr (by decide +kernel) (pa_cons (pv 4) pa_nil)) (pv 7) (nomark _)) (pw_or1 (pt_cmpR op_gt (pe_callB call_len_seq (by rfl) G.len (by decide +kernel) (pa_cons (pv 5) pa_nil)) (pe_callB call_len_seq (by rfl) G.len (by decide +kernel) (pa_cons (pv 4) pa_nil)) (nomark _))))))
        (pss_one (ps_ret pe_bl))
        pss_nil)
      (pss_cons (ps_setLc (i := 6) (own := [("row", 10), ("place", 11)]) (g := gTup K 2 (gCons (gName 10) (gCons (gName 11) gNil))) (tt := (tB (tCall spChanges [] E0 (tCons (tVar 10) tNil)))) rfl nd rfl rfl (sw_true rfl rfl rfl (by decide +kernel)) (pi_zip (by rfl) G.zip (pa_cons (pv 5) (pa_cons (pe_c C__law_found (hr.mono (by decide)) (by rfl) pass0 (pa_cons (pv 3) (pa_cons (pv 5) pa_nil))) pa_nil)))
        (blkOk_by (own := [("row", 10), ("place", 11)]) (N := ["script", "index", "source", "width", "rows", "told", "ends", "kept", "due", "begin", "row", "place", "looks", "gap", "many"]) (sc := defScope s_law) (by decide +kernel))
        (fun _ _ _ _ _ => (pg_tup rfl (pgs_cons (pg_name (i := 10) nd rfl (.inl rfl) (Or.inr rfl)) (pgs_cons (pg_name (i := 11) nd rfl (.inl rfl) (Or.inr rfl)) pgs_nil)))) (fun _ _ _ _ _ => (pts_one (pt_val (pe_c C__law_changes (hr.mono (by decide)) (by rfl) pass0 (pa_cons (pv 10) pa_nil)))))
        (fun _ _ _ _ _ => (pv 11)))
      (pss_cons (ps_if (pt_cmpR (op_neD hr.units) (pv 6) (pe_lc (own := [("row", 10), ("place", 11)]) (g := gTup K 2 (gCons (gName 10) (gCons (gName 11) gNil))) (tt := (tB (tCall spChanges [] E0 (tCons (tVar 10) tNil)))) rfl nd (pi_zip (by rfl) G.zip (pa_cons (pv 4) (pa_cons (pe_c C__law_found (hr.mono (by decide)) (by rfl) pass0 (pa_cons (pv 3) (pa_cons (pv 4) pa_nil))) pa_nil)))
        (blkOk_by (own := [("row", 10), ("place", 11)]) (N := ["script", "index", "source", "width", "rows", "told", "ends", "kept", "due", "begin", "row", "place", "looks", "gap", "many"]) (sc := defScope s_law) (by decide +kernel))
        (fun _ _ _ _ _ => (pg_tup rfl (pgs_cons (pg_name (i := 10) nd rfl (.inl rfl) (Or.inr rfl)) (pgs_cons (pg_name (i := 11) nd rfl (.inl rfl) (Or.inr rfl)) pgs_nil)))) (fun _ _ _ _ _ => (pts_one (pt_val (pe_c C__law_changes (hr.mono (by decide)) (by rfl) pass0 (pa_cons (pv 10) pa_nil)))))
        (fun _ _ _ _ _ => (pv 11))) (nomark _))
        (pss_one (ps_ret pe_bl))
        pss_nil)
      (pss_cons (ps_if (PW.pt (pw_and (pt_cmpR (op_neD hr.units) (pe_slice sl_list (pe_c C__law_found (hr.mono (by decide)) (by rfl) pass0 (pa_cons (pv 3) (pa_cons (pv 5) pa_nil))) (po_some (pe_un un_neg pe_int)) po_none) (pe_slice sl_list (pe_c C__law_found (hr.mono (by decide)) (by rfl) pass0 (pa_cons (pv 3) (pa_cons (pv 4) pa_nil))) (po_some (pe_un un_neg pe_int)) po_none) (nomark _)) (pw_and (pt_cmpR (op_neNilL hr.units0) (pv 4) (pe_lst pa_nil) (nomark _)) (pw_and1 (pt_cmpR (op_neNilL hr.units0) (pv 5) (pe_lst pa_nil) (nomark _))))))
        (pss_one (ps_ret pe_bl))
        pss_nil)
      (pss_one (ps_if (PW.pt (pw_or (pt_cmpR op_ne (pe_callB (call_repr hf hu) (by rfl) G.repr (by decide +kernel) (pa_cons (pe_c C_shortest (hr.mono (by decide)) (by rfl) (passes_call (E := fun _ _ _ => False) (W := fun _ _ _ _ => False) takes0 (fun _ _ _ _ h => h)) (pa_cons (pv 3) (pa_cons (pv 5) pa_nil))) pa_nil)) (pe_callB (call_repr hf hu) (by rfl) G.repr (by decide +kernel) (pa_cons (pv 5) pa_nil)) (nomark _)) (pw_or1 (pt_not (pt_val (pe_cG C__law_own_right hf (hr.mono (by decide)) (by rfl) pass0 (pa_cons (pv 2) (pa_cons (pv 3) pa_nil))))))))
        (pss_one (ps_ret pe_bl))
        pss_nil)))))))))))))
    (pss_one (ps_ret pe_bl))), ?_⟩
  obtain ⟨m, em, m0, m1⟩ : ∃ m : Nat, (if (if ((ns.map V.int).length : Int) < 4 then ((ns.map V.int).length : Int) else 4) > 1 then (if ((ns.map V.int).length : Int) < 4 then ((ns.map V.int).length : Int) else 4) else 1) = (m : Int) ∧ 1 ≤ m ∧ m ≤ 4 := by
    refine ⟨(if (if ((ns.map V.int).length : Int) < 4 then ((ns.map V.int).length : Int) else 4) > 1 then (if ((ns.map V.int).length : Int) < 4 then ((ns.map V.int).length : Int) else 4) else 1).toNat, ?_, ?_, ?_⟩ <;> (split <;> split <;> omega)
  refine ⟨_, rfl, a, _, rfl, .inl hs, _, _, rfl, _, _, rfl, _, rfl, ?_⟩
  rw [em]
  refine ⟨by omega, by omega, ?_⟩
  refine for_range (lo := 0) (n := m) (fun i σ H' => ∃ s1 s2 s3 s4 s5 s6 s7 s8 s9 s10 s11 s12 s13 s14, σ = [some (V.ref a), s1, s2, s3, s4, s5, s6, s7, s8, s9, s10, s11, s12, s13, s14] ∧ Fr [] H H') ⟨_, _, _, _, _, _, _, _, _, _, _, _, _, _, rfl, Fr.refl _ _⟩ ?_ ?_
  · rintro i σ Ha hi ⟨s1, s2, s3, s4, s5, s6, s7, s8, s9, s10, s11, s12, s13, s14, rfl, fra⟩
    -- source
    refine ⟨_, rfl, _, rfl, a, i, ns, by simp, fra.same.seq hs, fun s Hb ns0 hsb frb => ?_⟩
    have frab := fra.trans frb
    -- width
    refine ⟨_, rfl, s, _, _, _, 4, rfl, hsb, by decide, by decide, fun d1 x1 z1 Hc d10 d11 src1 frc => ⟨_, _, rfl, rfl, ?_⟩⟩
    obtain ⟨j1, rfl⟩ : ∃ j : Nat, d1 = j := ⟨d1.toNat, by omega⟩
    dsimp only [L2.gName, L2.tSeq]
    rw [show (1 : Int) + (j1 : Int) = ((1 + j1 : Nat) : Int) by simp]
    have n1 : 1 ≤ 1 + j1 := by omega
    have n4 : 1 + j1 ≤ 4 := by omega
    generalize 1 + j1 = n at n1 n4 ⊢
    have n64 : n ≤ 64 := by omega
    have es : (1 : Int) * 2 ^ ((n : Int).toNat) = 2 ^ n := by rw [Int.one_mul, Int.toNat_natCast]
    -- the span
    refine ⟨_, rfl, _, rfl, 1, n, rfl, rfl, ⟨by omega, by omega, by decide⟩, _, rfl, 1, n, rfl, rfl, ⟨by omega, by omega, by decide⟩, _, _, rfl, rfl, .inl ⟨by decide, by decide⟩, (by show 3 ≤ sizeLine; decide), fun p8 np8 => ?_⟩
    have frd := Fr.new (M := []) (o := .lst [V.int 2, V.int (1 * 2 ^ ((n : Int).toNat)), V.int (3 * (1 * 2 ^ ((n : Int).toNat)))]) np8
    have srcd := frd.same _ _ src1
    have nps : p8 ≠ s := (ne_of_none src1 np8).symm
    refine ⟨_, rfl, s, _, _, _, 3, rfl, srcd, by decide, by decide, fun d2 x2 z2 He d20 d21 src2 fre => ?_⟩
    have h8 := fre.at (p := p8) upd_same (by simpa using nps)
    obtain ⟨span, eat, sp0, sp1⟩ : ∃ span : Int, atI [V.int 2, V.int (1 * 2 ^ ((n : Int).toNat)), V.int (3 * (1 * 2 ^ ((n : Int).toNat)))] d2 = some (.int span) ∧ 0 < span ∧ span ≤ 10 ^ 10 := by
      have b1 : (2 : Int) ^ n ≤ 2 ^ 4 := by
        have : (2 : Nat) ^ n ≤ 2 ^ 4 := Nat.pow_le_pow_right (by decide) n4
        exact_mod_cast this
      have b0 : (0 : Int) < 2 ^ n := by have : (0 : Nat) < 2 ^ n := Nat.two_pow_pos n; exact_mod_cast this
      rw [es]
      have h3 : d2 = 0 ∨ d2 = 1 ∨ d2 = 2 := by omega
      rcases h3 with rfl | rfl | rfl
      · exact ⟨2, atI_nat (j := 0) rfl, by decide, by decide⟩
      · exact ⟨2 ^ n, atI_nat (j := 1) rfl, b0, by omega⟩
      · exact ⟨3 * 2 ^ n, atI_nat (j := 2) rfl, by omega, by omega⟩
    refine ⟨p8, _, _, V.int span, rfl, rfl, SqL.of h8, eat, ?_⟩
    refine ⟨_, rfl, s, _, _, _, 13, rfl, src2, by decide, by decide, fun d3 x3 z3 Hf d30 d31 src3 frf => ?_⟩
    obtain ⟨j3, rfl⟩ : ∃ j : Nat, d3 = j := ⟨d3.toNat, by omega⟩
    refine ⟨s, x3, _, z3, span, j3, rfl, src3, sp0, sp1, by omega, fun R xs rs Hg nR neR hR ⟨x4, z4, src4⟩ frg pr good mk len => ?_⟩
    have frG : Fr [] H Hg := Fr.drop (p := s) (fra.weak.trans (frb.weak.trans (frc.trans (frd.weak.trans (fre.trans (frf.trans frg)))))) (fra.none ns0)
    have pr0 : Paired (RwAt Hg) xs rs := L2.Paired.mapP pr fun x y c => c.same Hd_same
    have lxs := PySem.Paired.length pr0
    clear pr frb frc frd fre frf frg h8 nR
    have ci := mk.ats
    have smR := goods_sml good (by omega)
    have mT := mk.told (n := n) n1
    have gT := told_good n1 mk good
    have lT := told_len (rs := rs) n1
    have smT := goods_sml gT (by omega)
    -- kept, due, begin
    refine ⟨_, rfl, ?_⟩
    dsimp only [L2.tNil]
    refine rep_at (goods_dd good hR pr0) smR ⟨(by show 0 ≤ sizeLine; decide), fun du0 nd0 => ⟨(by show 2 ≤ sizeLine; decide), fun b0 nb0 => ⟨_, _, _, rfl, ?_⟩⟩⟩
    have fr1 := Fr.new (M := []) (o := .lst []) nd0
    have fr2 := Fr.new (M := []) (o := .tup [V.int 0, V.int 0]) nb0
    have fr12 := fr1.trans fr2
    -- for row, place in _law_kept(width, rows)
    refine ⟨_, rfl, _, rfl, n, R, xs, rs, rfl, n64, fr12.same _ _ hR, L2.Paired.mapP pr0 fun x y c => c.same fr12.same, ci, by omega, fun kq kys Hk nk hk frk pk lk => ⟨kq, rfl, ⟨_, SqL.of hk⟩, ?_⟩⟩
    have fr1k := fr12.trans frk
    refine for_list (K := K) (a := kq) (xs := kys) (fun j σ H' => ∃ (s5 s6 s10 s11 s12 s13 s14 : Option V) (du pb : Addr) (b C : Int) (pv : Bool) (ys : List V) (done : List Rw),
        σ = [some (V.ref a), some (V.int (0 + (i : Int))), some (V.ref s), some (V.int n), some (V.ref R), s5, s6, some (V.str (dR rs).shown), some (V.ref du), some (V.ref pb), s10, s11, s12, s13, s14] ∧
        H' du = some (.lst ys) ∧ Paired (RwAt H') ys done ∧ H' pb = some (.tup [V.int b, V.int C]) ∧ done ++ dueK n b C ((keptR n rs).drop j) = toldR n rs ∧ Vld n pv b C ((keptR n rs).drop j) ∧ Fr [] Hk H')
      ⟨_, _, _, _, _, _, _, du0, b0, 0, 0, false, [], [], rfl, (fr2.trans frk).same _ _ upd_same, .nil, frk.same _ _ upd_same, told_eq.symm, mk.vld n1, Fr.refl _ _⟩ ?_ ?_ ?_
    · rintro j σ H' _ ⟨_, _, _, _, _, _, _, _, _, _, _, _, _, _, _, _, _, _, _, _, fr⟩
      exact fr.same.seq (SqL.of hk)
    · rintro j x σ H' hx ⟨s5, s6, s10, s11, s12, s13, s14, du, pb, b, C, pv, ys, done, rfl, hdu, pd, hb, eq, vl, fr⟩
      obtain ⟨⟨r, p, M⟩, hq, t, xr, xz, rfl, ht, har, pz, rfl, hz⟩ := Paired.get pk hx
      have hi : j < (keptR n rs).length := (List.getElem?_eq_some_iff.mp hq).1
      have ed : (keptR n rs).drop j = (r, p, M) :: (keptR n rs).drop (j + 1) := by
        rw [List.drop_eq_getElem_cons hi, (List.getElem?_eq_some_iff.mp hq).2]
      rw [ed] at eq vl
      obtain ⟨v1, v2, v3, v4, v5, v6, v7, v8⟩ := vl
      have eq : done ++ ((lks n (p - (M - C) + mo n) (lkN n (M - C))).map outRw ++ r :: dueK n p M ((keptR n rs).drop (j + 1))) = toldR n rs := eq
      have leq := congrArg List.length eq
      rw [List.length_append, List.length_append, List.length_map, lks_len, List.length_cons] at leq
      have lys := PySem.Paired.length pd
      have hz1 := fr.same _ _ hz
      refine ⟨t, _, rfl, SqT.of (fr.same _ _ ht), rfl, _, _, rfl, _, _, rfl, rfl, ?_⟩
      refine ⟨_, rfl, _, rfl, _, rfl, n, _, _, b, C, p, M, rfl, n1, n64, ⟨pb, rfl, hb⟩, ⟨pz, rfl, hz1⟩, by omega, fun lq lys2 H2 nl hl2 fr2' po2 => ?_⟩
      have hz2 := fr2'.same _ _ hz1
      have hb2 := fr2'.same _ _ hb
      refine ⟨_, rfl, pz, _, _, _, rfl, rfl, SqT.of hz2, atI_nat (j := 0) rfl, _, rfl, pb, _, _, _, rfl, rfl, SqT.of hb2, atI_nat (j := 0) rfl, _, _, rfl, rfl, _, rfl, pz, _, _, _, rfl, rfl, SqT.of hz2, atI_nat (j := 1) rfl, _, rfl, pb, _, _, _, rfl, rfl, SqT.of hb2, atI_nat (j := 1) rfl, _, _, rfl, rfl, _, _, _, rfl, ?_⟩
      have ll2 := PySem.Paired.length po2
      rw [lks_len] at ll2
      dsimp only
      refine if_reading2 false (fun Qt hq => ev_try (K := K) (lq := lq) (lys := lys2) (g := p - b) (m := M - C) rfl rfl rfl rfl n1 n64 hl2 ll2 (by omega) hq) fun H3 fr3 => ?_
      refine ifF rfl (nxt ?_)
      have fr23 := fr2'.trans fr3
      have pl2 : Paired (RwAt H3) lys2 ((lks n (p - (M - C) + mo n) (lkN n (M - C))).map outRw) := outs_rw (L2.Paired.mapP po2 fun x y c => c.same fr3.same) fun o ho r e => by
        obtain ⟨c, e2, _⟩ := lks_mem n1 (lk_up n1 (p := p) v2) ho
        rw [e2] at e; cases e
      refine ⟨_, rfl, _, rfl, du, lq, ys, lys2, rfl, rfl, fr23.same _ _ hdu, fr3.same _ _ hl2, (by rw [sizeLine_eq]; omega), fun p1 np1 => ?_⟩
      have fr4 := Fr.new (M := []) (o := .lst (ys ++ lys2)) np1
      refine ⟨_, rfl, (by show 1 ≤ sizeLine; decide), fun p2 np2 => ?_⟩
      have fr5 := Fr.new (M := []) (o := .lst [xr]) np2
      refine ⟨p1, p2, _, _, rfl, rfl, fr5.same _ _ upd_same, upd_same, (by rw [List.length_append, sizeLine_eq]; show _ + 1 ≤ _; omega), fun p3 np3 => ?_⟩
      have fr6 := Fr.new (M := []) (o := .lst (ys ++ lys2 ++ [xr])) np3
      have fr46 := fr4.trans (fr5.trans fr6)
      have fr26 := fr23.trans fr46
      refine ⟨_, rfl, _, _, _, _, _, _, _, p3, pz, p, M, r.is "stop", ys ++ lys2 ++ [xr], done ++ (lks n (p - (M - C) + mo n) (lkN n (M - C))).map outRw ++ [r], rfl, upd_same, ?_, fr26.same _ _ hz1, by rw [← eq]; simp, ?_, fr.trans fr26⟩
      · exact Paired.app (Paired.app (L2.Paired.mapP pd fun x y c => c.same fr26.same) (L2.Paired.mapP pl2 fun x y c => c.same fr46.same)) (.cons (har.same (fr.trans fr26).same) .nil)
      · rcases v8 with ⟨_, hv⟩ | ⟨_, _, e⟩
        · exact hv
        · rw [e]; trivial
    · rintro σ H' ⟨s5, s6, s10, s11, s12, s13, s14, du, pb, b, C, pv, ys, done, rfl, hdu, pd, hb, eq, vl, fr⟩
      rw [PySem.Paired.length pk, List.drop_length] at eq
      have eq : done = toldR n rs := by rw [← eq]; exact (List.append_nil _).symm
      subst eq
      have fr1' := fr1k.trans fr
      have hR1 := fr1'.same _ _ hR
      have pr1 := L2.Paired.mapP pr0 fun x y c => c.same fr1'.same
      -- told = shortest(width, rows)
      refine ⟨_, rfl, _, rfl, ?_⟩
      dsimp only [L2.tNil]
      refine short_app n1 n64 hR1 pr1 (by omega) mk.ok fun tq tys H3 nt ht fr3 po3 lt3 => ?_
      have pT : Paired (RwAt H3) tys (toldR n rs) := outs_rw po3 fun o ho r e => by
        have := gT (outRw o) (List.mem_map.mpr ⟨o, ho, rfl⟩)
        rw [e] at this; exact this
      have hR3 := fr3.same _ _ hR1
      have pr3 := L2.Paired.mapP pr1 fun x y c => c.same fr3.same
      have hdu3 := fr3.same _ _ hdu
      have pd3 := L2.Paired.mapP pd fun x y c => c.same fr3.same
      have ltys := PySem.Paired.length pT
      have ddT : ∀ {H'}, Fr [] H3 H' → Dd H' (.ref tq) (dR (toldR n rs)) := fun fr => goods_dd gT (fr.same _ _ ht) (L2.Paired.mapP pT fun x y c => c.same fr.same)
      have ddD : ∀ {H'}, Fr [] H3 H' → Dd H' (.ref du) (dR (toldR n rs)) := fun fr => goods_dd gT (fr.same _ _ hdu3) (L2.Paired.mapP pd3 fun x y c => c.same fr.same)
      have ddR : ∀ {H'}, Fr [] H3 H' → Dd H' (.ref R) (dR rs) := fun fr => goods_dd good (fr.same _ _ hR3) (L2.Paired.mapP pr3 fun x y c => c.same fr.same)
      dsimp only [L2.gName]
      refine if_reading2 false (fun Qt hq => ?_) fun H4 fr4 => ?_
      · refine ⟨_, rfl, ?_⟩
        dsimp only [L2.tNil]
        refine rep_at (ddT (Fr.refl _ _)) smT ⟨_, rfl, ?_⟩
        dsimp only [L2.tNil]
        refine rep_at (ddD (Fr.refl _ _)) smT ⟨rfl, _, rfl, ?_⟩
        refine ifF (by simp) ⟨_, rfl, ?_⟩
        dsimp only [L2.tNil]
        refine rep_at (ddR (Fr.refl _ _)) smR ⟨_, rfl, rfl, _, rfl, ?_⟩
        refine ifF (by simp) ⟨_, rfl, tq, tys, rfl, .inl (SqL.of ht), _, rfl, R, xs, rfl, .inl (SqL.of hR3), _, _, rfl, rfl, _, rfl, ?_⟩
        have e : decide ((xs.length : Int) < tys.length) = false := decide_eq_false (by omega)
        rw [e]
        exact hq _ (Fr.refl _ _)
      refine ifF rfl (nxt ?_)
      dsimp only [L2.tSeq, L2.tAsg]
      have pT4 := L2.Paired.mapP pT fun x y c => c.same fr4.same
      refine ev_ends (K := K) (j := 5) (n := n) rfl rfl rfl n64 (fr4.same _ _ ht) pT4 mT.ats (by omega) fun D5 zs5 H5 nD5 hD5 fr5 pe5 => ?_
      have fr35 := fr4.trans fr5
      dsimp only [L2.gName]
      rw [mk.kp_told n1] at pe5
      refine if_reading2 false (fun Qt hq => ?_) fun H6 fr6 => ?_
      · refine ⟨_, rfl, ?_⟩
        refine ev_ends (K := K) (j := 4) (n := n) rfl rfl rfl n64 (fr35.same _ _ hR3) (L2.Paired.mapP pr3 fun x y c => c.same fr35.same) ci (by omega) fun D6 zs6 H6 nD6 hD6 fr6 pe6 => ?_
        have d1 : Dd H6 (.ref D5) (plsD ((kpR n rs).map (·.2))) := .lst (fr6.same _ _ hD5) (pls_dd (L2.Paired.mapP pe5 fun x y c => c.same fr6.same))
        have d2 : Dd H6 (.ref D6) (plsD ((kpR n rs).map (·.2))) := .lst hD6 (pls_dd pe6)
        refine ⟨_, _, d1.dp, d2.dp, pls_shaped _, pls_shaped _, _, rfl, ?_⟩
        rw [pls_eq]
        exact hq _ fr6
      refine ifF rfl (nxt ?_)
      dsimp only
      have fr36 := fr35.trans fr6
      refine if_reading2 false (fun Qt hq => ?_) fun H7 fr7 => ?_
      · refine ev_tail (K := K) (j := 5) (n := n) rfl rfl n64 (fr36.same _ _ ht) (L2.Paired.mapP pT fun x y c => c.same fr36.same) mT.ats (by omega) fun v5 Hx frx d5 => ?_
        have fr3x := fr36.trans frx
        refine ev_tail (K := K) (j := 4) (n := n) rfl rfl n64 (fr3x.same _ _ hR3) (L2.Paired.mapP pr3 fun x y c => c.same fr3x.same) ci (by omega) fun v4 Hy fry d4 => ?_
        have fr3y := fr3x.trans fry
        have frxy := frx.trans fry
        refine ⟨_, _, (d5.same fry.same).dp, d4.dp, pls_shaped _, pls_shaped _, _, rfl, ?_⟩
        refine ite2 (fun hb => ?_) (fun _ => hq _ frxy)
        refine ⟨_, rfl, (by show 0 ≤ sizeLine; decide), fun e1 ne1 => ?_⟩
        have fre1 := Fr.new (M := []) (o := .lst []) ne1
        refine ⟨R, e1, xs, rfl, rfl, SqL.of ((fr3y.trans fre1).same _ _ hR3), SqL.of upd_same, _, rfl, ?_⟩
        cases xs with
        | nil => exact hq _ (frxy.trans fre1)
        | cons x xs =>
          refine ⟨_, rfl, (by show 0 ≤ sizeLine; decide), fun e2 ne2 => ?_⟩
          have fre2 := Fr.new (M := []) (o := .lst []) ne2
          have fre := fre1.trans fre2
          refine ⟨tq, e2, tys, rfl, rfl, SqL.of ((fr3y.trans fre).same _ _ ht), SqL.of upd_same, _, rfl, ?_⟩
          cases tys with
          | nil => exact hq _ (frxy.trans fre)
          | cons y tys =>
            exfalso
            have n1' : rs ≠ [] := fun z => by rw [z] at lxs; cases lxs
            have n2' : toldR n rs ≠ [] := fun z => by rw [z] at ltys; cases ltys
            rw [tailR_eq n1', tailR_eq n2', mk.last_told n1, pls_eq] at hb
            cases hb
      refine ifF rfl (nxt ?_)
      dsimp only
      have fr37 := fr36.trans fr7
      -- shortest(width, told), _law_own_right
      refine ⟨_, rfl, _, rfl, ?_⟩
      dsimp only [L2.tNil]
      refine short_app n1 n64 (fr37.same _ _ ht) (L2.Paired.mapP pT fun x y c => c.same fr37.same) (by omega) mT.ok fun uq uys H8 nu hu8 fr8 po8 lu => ?_
      have gU := told_good n1 mT gT
      have pU : Paired (RwAt H8) uys (toldR n (toldR n rs)) := outs_rw po8 fun o ho r e => by
        have := gU (outRw o) (List.mem_map.mpr ⟨o, ho, rfl⟩)
        rw [e] at this; exact this
      rw [mk.told_told n1] at pU
      have fr38 := fr37.trans fr8
      refine rep_at (goods_dd gT hu8 pU) smT ⟨_, rfl, ?_⟩
      dsimp only [L2.tNil]
      refine rep_at (ddT fr38) smT ⟨rfl, _, rfl, ?_⟩
      have frg8 := fr1'.trans (fr3.trans fr38)
      refine ifF (by simp) ⟨_, rfl, _, rfl, s, x4, _, z4, n, rfl, n1, n64, frg8.same _ _ src4, fun H9 src9 fr9 => ?_⟩
      refine ⟨_, rfl, ?_⟩
      refine ifF rfl ?_
      exact ⟨_, _, _, _, _, _, _, _, _, _, _, _, _, _, rfl, Fr.drop (p := s) (frG.weak.trans ((frg8.mono (N := [s]) fun _ h => nomatch h).trans fr9)) (fra.none ns0)⟩
  · rintro σ H' ⟨s1, s2, s3, s4, s5, s6, s7, s8, s9, s10, s11, s12, s13, s14, rfl, fra⟩
    exact q _
end
end Tk

set_option Elab.async false
set_option linter.all false
set_option maxRecDepth 100000
set_option maxHeartbeats 4000000
namespace Tk
open PySem PySem.Spec PyProof.Rows L2

/-! ### what the top has written -/
section
variable {K : PySem.W.Frag} {h : Heap} {mg : Str → Option Value} {w : World}
theorem funAt_mk {x : Str} {st : Stmt} {f : Addr} {oc : Value} {od an : Option Addr} {osl : Array (Option Value)} {kV doc pm cdv ct : Value} (X : K.In h) (G : h.Ns mainGlobals mg)
    (a : PySem.W.nsIn K mainGlobals x = some (some (.ref f))) (l : K.lookup f = some ⟨oc, od, .func (PySem.W.fnOf x x (defArgs st) (defBody st) (defScope st) .none kV doc pm an cdv ct), osl⟩)
    (c : PySem.W.codeIn K cdv x = true) (k : PySem.W.keepIn K (.ref f) = true) : FunAt K mg x st := ⟨_, _, PySem.W.mg_of X G a, fun_mk l c k⟩
theorem defAt_mk {x : Str} {st : Stmt} {f T : Addr} {oc o1 : Value} {od an o2 : Option Addr} {osl o3 : Array (Option Value)} {kV doc pm cdv ct : Value} {its : Array Value} {n : Nat} {dvs : List V} (X : K.In h) (G : h.Ns mainGlobals mg)
    (a : PySem.W.nsIn K mainGlobals x = some (some (.ref f))) (l : K.lookup f = some ⟨oc, od, .func (PySem.W.fnOf x x (defArgs st) (defBody st) (defScope st) (.ref T) kV doc pm an cdv ct), osl⟩)
    (c : PySem.W.codeIn K cdv x = true) (k : PySem.W.keepIn K (.ref f) = true) (lT : K.lookup T = some ⟨o1, o2, .seq its n, o3⟩) (rv : Vals dvs its.toList) (ne : dvs ≠ []) : DefAt K mg x st dvs :=
  ⟨_, _, PySem.W.mg_of X G a, ⟨⟨oc, od, _, kV, doc, pm, an, cdv, ct, osl, rfl, l, c, .inr ⟨ne, T, _, its.toList, n, rfl, lT, by simp, rv⟩, .inl rfl⟩, k⟩⟩
theorem ktab_mk {d : Addr} {tab : List (Str × Int)} {es : Array DictEntry} {n : Nat} (l : K.lookup d = some ⟨.type "dict", none, .dict es n, #[]⟩) (e : EntsAre w.params es.toList tab) (z : (d == sysModules) = false) : KTab K w d tab := ⟨⟨es, n, l, e⟩, z⟩
theorem tabs_mk {a b c : Addr} (X : K.In h) (G : h.Ns mainGlobals mg) (ga : PySem.W.nsIn K mainGlobals "SIZES" = some (some (.ref a))) (gb : PySem.W.nsIn K mainGlobals "MORE_SIZES" = some (some (.ref b))) (gc : PySem.W.nsIn K mainGlobals "LAST_SIZES" = some (some (.ref c)))
    (ta : KTab K w a tabA) (tb : KTab K w b tabB) (tc : KTab K w c tabC) : Tabs K w mg := ⟨a, b, c, PySem.W.mg_of X G ga, PySem.W.mg_of X G gb, PySem.W.mg_of X G gc, ta, tb, tc⟩
theorem excC_mk {x : Str} {C : Addr} (X : K.In h) (G : h.Ns mainGlobals mg) (g : PySem.W.nsIn K mainGlobals x = some (some (.ref C))) (ex : PySem.W.excIn K C [.type "ValueError", .type "Exception", .type "BaseException", .type "object"] "ValueError.__new__" = true)
    (kp : PySem.W.keepIn K (.ref C) = true) (sub : PySem.W.subIn K (.ref C) (.type "BaseException") = some true) (ty : PySem.W.typeIn K (.ref C) = some (.type "type")) : ∃ C, ExcC K mg x C := ⟨C, PySem.W.mg_of X G g, ex, kp, sub, ty⟩
theorem noGl_mk (X : K.In h) (G : h.Ns mainGlobals mg) (a1 : PySem.W.nsIn K mainGlobals "len" = some none) (a2 : PySem.W.nsIn K mainGlobals "int" = some none) (a3 : PySem.W.nsIn K mainGlobals "range" = some none) (a4 : PySem.W.nsIn K mainGlobals "isinstance" = some none) (a5 : PySem.W.nsIn K mainGlobals "bool" = some none) (a6 : PySem.W.nsIn K mainGlobals "list" = some none) (a7 : PySem.W.nsIn K mainGlobals "tuple" = some none) (a8 : PySem.W.nsIn K mainGlobals "str" = some none) (a9 : PySem.W.nsIn K mainGlobals "all" = some none) (a10 : PySem.W.nsIn K mainGlobals "zip" = some none) (a11 : PySem.W.nsIn K mainGlobals "sorted" = some none)
    (a12 : PySem.W.nsIn K mainGlobals "max" = some none) (a13 : PySem.W.nsIn K mainGlobals "min" = some none) (a14 : PySem.W.nsIn K mainGlobals "repr" = some none) : NoGl mg :=
  ⟨PySem.W.mg_none_of X G a1, PySem.W.mg_none_of X G a2, PySem.W.mg_none_of X G a3, PySem.W.mg_none_of X G a4, PySem.W.mg_none_of X G a5, PySem.W.mg_none_of X G a6, PySem.W.mg_none_of X G a7, PySem.W.mg_none_of X G a8, PySem.W.mg_none_of X G a9,
    PySem.W.mg_none_of X G a10, PySem.W.mg_none_of X G a11, PySem.W.mg_none_of X G a12, PySem.W.mg_none_of X G a13, PySem.W.mg_none_of X G a14⟩
theorem only_mk {ol : Addr} {oc : Option Addr} {its : Array Value} {n : Nat} {sl : Array (Option Value)} (l : K.lookup ol = some ⟨.type "tuple", oc, .seq its n, sl⟩) (z : its.size ≤ sizeLine) (rv : Vals onlyV its.toList) : ∀ H, SqT K H ol onlyV :=
  fun H => .inr ⟨_, its, n, l, rfl, rfl, z, rv⟩
theorem law_fd {P : Program} {fa ol : Addr} {tk : Tok} (X : K.In h) (G : h.Ns mainGlobals mg) (hfa : mg "law" = some (.ref fa)) (N : NoGl mg) (Ns : PySem.W.nsIn K mainGlobals "set" = some none) (T : Tabs K w mg) (E1 : ∃ C, ExcC K mg "NoCall" C) (E2 : ∃ C, ExcC K mg "NoWidth" C)
    (gM : PySem.W.nsIn K mainGlobals "MOST_WIDTH" = some (some (.int 64 tk))) (gO : PySem.W.nsIn K mainGlobals "ONLY_LOOKS" = some (some (.ref ol))) (hO : ∀ H, SqT K H ol onlyV)
    (D1 : DefAt K mg "is_whole" s_is_whole [.non]) (D2 : DefAt K mg "is_cycles" s_is_cycles [.int 0]) (F1 : FunAt K mg "size_of" s_size_of) (F2 : FunAt K mg "is_row" s_is_row) (F3 : FunAt K mg "check_log" s_check_log) (F4 : FunAt K mg "check_cycles" s_check_cycles)
    (F5 : FunAt K mg "check_width" s_check_width) (F6 : FunAt K mg "copied" s_copied) (F7 : FunAt K mg "_law_cell_at" s__law_cell_at) (F8 : FunAt K mg "_law_mixed" s__law_mixed) (F9 : FunAt K mg "_law_source" s__law_source) (F10 : FunAt K mg "_law_next" s__law_next)
    (F11 : FunAt K mg "_law_sizes" s__law_sizes) (F12 : FunAt K mg "_law_rows" s__law_rows) (F13 : FunAt K mg "power" s_power) (F14 : FunAt K mg "looks_between" s_looks_between) (F15 : FunAt K mg "shortest" s_shortest) (F16 : FunAt K mg "_law_found" s__law_found)
    (F17 : FunAt K mg "_law_changes" s__law_changes) (F18 : FunAt K mg "_law_kept" s__law_kept) (F19 : FunAt K mg "_law_between" s__law_between) (F20 : FunAt K mg "_law_tried" s__law_tried) (F21 : FunAt K mg "_law_own_right" s__law_own_right) (F22 : FunAt K mg "law" s_law) :
    ∃ fd : FuncData, (∀ (s : Shared) (v : Value), BindsTo s fd ⟨[v], []⟩ [("script", v)]) ∧ ∀ base : Heap, K.In base → base.Ns mainGlobals mg → FnG P w K mg base CX0 7 fa fd ["script"] (spLaw K) := by
  obtain ⟨CC, E1⟩ := E1
  obtain ⟨CW, E2⟩ := E2
  have gM := PySem.W.mg_of X G gM
  have gO := PySem.W.mg_of X G gO
  have gS := PySem.W.mg_none_of X G Ns
  obtain ⟨f, fd, hm, F22⟩ := F22.ex
  cases hfa.symm.trans hm
  refine ⟨fd, fun s v => ?_, fun base _ _ => ?_⟩
  · obtain ⟨oc, od, kV, doc, pm, an, cdv, ct, osl, rfl, _, _⟩ := F22.ex
    exact .of_eq rfl
  · have c1 : Cal P w K mg base CX0 1 "is_whole" ["thing", "least"] [] spWhole := ok_whole D1 N
    have c2 := ok_cycles D2 N c1
    have c3 : Cal P w K mg base CX0 1 "size_of" ["name"] [] spSizeOf := ok_sizeOf F1 T
    have c4 := ok_isRow F2 N c3
    have c5 := ok_checkLog F3 N E1 c4
    have c6 := ok_checkCycles F4 N E1 c5 c2
    have c7 : Cal P w K mg base CX0 1 "copied" ["row"] [] spCopied := ok_copied F6 N
    have c8 := ok_width F5 E2 gM c1
    have c9 : Cal P w K mg base CX0 1 "_law_cell_at" ["script", "k"] [] (spCellAt K) := ok_cellAt F7 N
    have c10 : Cal P w K mg base CX0 1 "_law_mixed" ["cell", "k"] [] spMixed := ok_mixed F8 N
    have c11 := ok_source F9 N c9 c10
    have c12 := draw_of (ok_next F10 N c10)
    have c13 : Cal P w K mg base CX0 1 "_law_sizes" [] [] spSizes := ok_sizes F11
    have c14 := ok_rows F12 N c13 c12
    have c15 : Cal P w K mg base CX0 1 "power" ["number"] [] spPower := ok_power F13
    have c16 := ok_lb F14 N c15
    have c17 := ok_short F15 N gO hO c8 c6 c15 c16 c7
    have c18 : Cal P w K mg base CX0 1 "_law_found" ["width", "rows"] [] spFound := ok_found F16 N
    have c19 : Cal P w K mg base CX0 1 "_law_changes" ["row"] [] spChanges := ok_changes F17
    have c20 := ok_kept F18 N c18 c19
    have c21 : Cal P w K mg base CX0 1 "_law_between" ["width", "begin", "place"] [] spBetween := ok_between F19 N
    have c22 : Cal P w K mg base CX0 1 "_law_tried" ["width", "gap", "many", "looks"] [] spTried := ok_tried F20 N gS
    have c23 := ok_own F21 N c12 c17
    exact ok_law F22 N c11 c12 c14 c18 c19 c20 c21 c22 c17 c23
end
end Tk

set_option Elab.async false
set_option maxRecDepth 100000
open PySem PySem.W PyProof.Rows
set_option maxRecDepth 100000 in
set_option maxHeartbeats 0 in
theorem PySem.Challenge.cw_timekernel_k85_shortest_logs_holds : PySem.Challenge.rw_timekernel_k85_shortest_logs.Holds := by
  w_on; o_law; k_head; (case hw => w_witness2)
  k_fill
  refine Tk.walk_G (l := PySem.Challenge.rw_timekernel_k85_shortest_logs) (k := 7) (CX := fun _ => L2.CX0) (sp := fun w => Tk.spLaw _) rfl rfl ⟨rfl, by decide, by decide⟩ (fun w h Y => PySem.W.kIn_of Y) ?F (fun w H a ns hl _ _ hS => ⟨a, ns, rfl, hS, hl, fun _ => rfl⟩) fun _ _ _ _ _ z => z
  case F =>
    intro w mg fa h KX G hmg
    refine' Tk.law_fd KX G hmg ?xN ?xS ?xT ?xE1 ?xE2 ?xM ?xO ?xH ?xD1 ?xD2 ?xF1 ?xF2 ?xF3 ?xF4 ?xF5 ?xF6 ?xF7 ?xF8 ?xF9 ?xF10 ?xF11 ?xF12 ?xF13 ?xF14 ?xF15 ?xF16 ?xF17 ?xF18 ?xF19 ?xF20 ?xF21 ?xF22
    case xN => refine' Tk.noGl_mk KX G ?ya1 ?ya2 ?ya3 ?ya4 ?ya5 ?ya6 ?ya7 ?ya8 ?ya9 ?ya10 ?ya11 ?ya12 ?ya13 ?ya14 <;> k_is
    case xS => k_is
    case xM => k_is
    case xO => k_is
    case xH => refine' Tk.only_mk ?yl ?yz ?yr; (case yl => k_is); (case yz => decide); (case yr => exact .cons ⟨_, rfl⟩ (.cons ⟨_, rfl⟩ (.cons ⟨_, rfl⟩ (.cons ⟨_, rfl⟩ (.cons ⟨_, rfl⟩ (.cons ⟨_, rfl⟩ .nil))))))
    case xE1 => refine' Tk.excC_mk KX G ?yg ?yex ?ykp ?ysub ?yty; (case yg => k_is); (case yex => k_exc); (case ykp => k_is); (case ysub => k_is); (case yty => k_is)
    case xE2 => refine' Tk.excC_mk KX G ?yg ?yex ?ykp ?ysub ?yty; (case yg => k_is); (case yex => k_exc); (case ykp => k_is); (case ysub => k_is); (case yty => k_is)
    case xT => refine' Tk.tabs_mk KX G ?yga ?ygb ?ygc ?yta ?ytb ?ytc; (case yga => k_is); (case ygb => k_is); (case ygc => k_is); (case yta => (refine' Tk.ktab_mk ?yl ?ye ?yz; (case yl => k_is); (case ye => exact ⟨⟨⟨_, rfl⟩, rfl, _, rfl⟩, ⟨⟨_, rfl⟩, rfl, _, rfl⟩, ⟨⟨_, rfl⟩, rfl, _, rfl⟩, ⟨⟨_, rfl⟩, rfl, _, rfl⟩, ⟨⟨_, rfl⟩, rfl, _, rfl⟩, ⟨⟨_, rfl⟩, rfl, _, rfl⟩, ⟨⟨_, rfl⟩, rfl, _, rfl⟩, ⟨⟨_, rfl⟩, rfl, _, rfl⟩, ⟨⟨_, rfl⟩, rfl, _, rfl⟩, trivial⟩); (case yz => rfl))); (case ytb => (refine' Tk.ktab_mk ?yl ?ye ?yz; (case yl => k_is); (case ye => exact ⟨⟨⟨_, rfl⟩, rfl, _, rfl⟩, ⟨⟨_, rfl⟩, rfl, _, rfl⟩, ⟨⟨_, rfl⟩, rfl, _, rfl⟩, ⟨⟨_, rfl⟩, rfl, _, rfl⟩, ⟨⟨_, rfl⟩, rfl, _, rfl⟩, ⟨⟨_, rfl⟩, rfl, _, rfl⟩, ⟨⟨_, rfl⟩, rfl, _, rfl⟩, ⟨⟨_, rfl⟩, rfl, _, rfl⟩, trivial⟩); (case yz => rfl))); (case ytc => (refine' Tk.ktab_mk ?yl ?ye ?yz; (case yl => k_is); (case ye => exact ⟨⟨⟨_, rfl⟩, rfl, _, rfl⟩, ⟨⟨_, rfl⟩, rfl, _, rfl⟩, ⟨⟨_, rfl⟩, rfl, _, rfl⟩, ⟨⟨_, rfl⟩, rfl, _, rfl⟩, ⟨⟨_, rfl⟩, rfl, _, rfl⟩, ⟨⟨_, rfl⟩, rfl, _, rfl⟩, trivial⟩); (case yz => rfl)))
    case xD1 => refine' Tk.defAt_mk KX G ?ya ?yl ?yc ?yk ?ylT ?yrv ?yne; (case ya => k_is); (case yl => k_is); (case yc => k_is); (case yk => k_is); (case ylT => k_is); (case yrv => exact .cons rfl .nil); (case yne => exact fun z => nomatch z)
    case xD2 => refine' Tk.defAt_mk KX G ?ya ?yl ?yc ?yk ?ylT ?yrv ?yne; (case ya => k_is); (case yl => k_is); (case yc => k_is); (case yk => k_is); (case ylT => k_is); (case yrv => exact .cons ⟨_, rfl⟩ .nil); (case yne => exact fun z => nomatch z)
    case xF1 => refine' Tk.funAt_mk KX G ?ya ?yl ?yc ?yk; (case ya => k_is); (case yl => k_is); (case yc => k_is); (case yk => k_is)
    case xF2 => refine' Tk.funAt_mk KX G ?ya ?yl ?yc ?yk; (case ya => k_is); (case yl => k_is); (case yc => k_is); (case yk => k_is)
    case xF3 => refine' Tk.funAt_mk KX G ?ya ?yl ?yc ?yk; (case ya => k_is); (case yl => k_is); (case yc => k_is); (case yk => k_is)
    case xF4 => refine' Tk.funAt_mk KX G ?ya ?yl ?yc ?yk; (case ya => k_is); (case yl => k_is); (case yc => k_is); (case yk => k_is)
    case xF5 => refine' Tk.funAt_mk KX G ?ya ?yl ?yc ?yk; (case ya => k_is); (case yl => k_is); (case yc => k_is); (case yk => k_is)
    case xF6 => refine' Tk.funAt_mk KX G ?ya ?yl ?yc ?yk; (case ya => k_is); (case yl => k_is); (case yc => k_is); (case yk => k_is)
    case xF7 => refine' Tk.funAt_mk KX G ?ya ?yl ?yc ?yk; (case ya => k_is); (case yl => k_is); (case yc => k_is); (case yk => k_is)
    case xF8 => refine' Tk.funAt_mk KX G ?ya ?yl ?yc ?yk; (case ya => k_is); (case yl => k_is); (case yc => k_is); (case yk => k_is)
    case xF9 => refine' Tk.funAt_mk KX G ?ya ?yl ?yc ?yk; (case ya => k_is); (case yl => k_is); (case yc => k_is); (case yk => k_is)
    case xF10 => refine' Tk.funAt_mk KX G ?ya ?yl ?yc ?yk; (case ya => k_is); (case yl => k_is); (case yc => k_is); (case yk => k_is)
    case xF11 => refine' Tk.funAt_mk KX G ?ya ?yl ?yc ?yk; (case ya => k_is); (case yl => k_is); (case yc => k_is); (case yk => k_is)
    case xF12 => refine' Tk.funAt_mk KX G ?ya ?yl ?yc ?yk; (case ya => k_is); (case yl => k_is); (case yc => k_is); (case yk => k_is)
    case xF13 => refine' Tk.funAt_mk KX G ?ya ?yl ?yc ?yk; (case ya => k_is); (case yl => k_is); (case yc => k_is); (case yk => k_is)
    case xF14 => refine' Tk.funAt_mk KX G ?ya ?yl ?yc ?yk; (case ya => k_is); (case yl => k_is); (case yc => k_is); (case yk => k_is)
    case xF15 => refine' Tk.funAt_mk KX G ?ya ?yl ?yc ?yk; (case ya => k_is); (case yl => k_is); (case yc => k_is); (case yk => k_is)
    case xF16 => refine' Tk.funAt_mk KX G ?ya ?yl ?yc ?yk; (case ya => k_is); (case yl => k_is); (case yc => k_is); (case yk => k_is)
    case xF17 => refine' Tk.funAt_mk KX G ?ya ?yl ?yc ?yk; (case ya => k_is); (case yl => k_is); (case yc => k_is); (case yk => k_is)
    case xF18 => refine' Tk.funAt_mk KX G ?ya ?yl ?yc ?yk; (case ya => k_is); (case yl => k_is); (case yc => k_is); (case yk => k_is)
    case xF19 => refine' Tk.funAt_mk KX G ?ya ?yl ?yc ?yk; (case ya => k_is); (case yl => k_is); (case yc => k_is); (case yk => k_is)
    case xF20 => refine' Tk.funAt_mk KX G ?ya ?yl ?yc ?yk; (case ya => k_is); (case yl => k_is); (case yc => k_is); (case yk => k_is)
    case xF21 => refine' Tk.funAt_mk KX G ?ya ?yl ?yc ?yk; (case ya => k_is); (case yl => k_is); (case yc => k_is); (case yk => k_is)
    case xF22 => refine' Tk.funAt_mk KX G ?ya ?yl ?yc ?yk; (case ya => k_is); (case yl => k_is); (case yc => k_is); (case yk => k_is)
