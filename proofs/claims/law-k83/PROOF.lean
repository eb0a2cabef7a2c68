import PyProof.Rows.All
import Wide.All
import OpenK.AllK
import Wide.FinOn
import HandS.ForMost
import HandS.EndBits
import HandS.Exc
import HandS.ExcOwn
import HandS.WordsExc
import HandS.TryOnly
import PyProof.ReprRoads
import HandS.More
import HandS.IsInst
import HandS.Zip
import PyProof.DictUpdate
import HandS.Defaults
import HandS.Wide
import PyProof.NeKinds
import PyProof.ReprLen
import PySem.Challenge.RW_timekernel_k83_looks_put_into_logs
set_option Elab.async false
set_option linter.all false
set_option maxRecDepth 100000
set_option maxHeartbeats 4000000
/-! Promises that also know that no repr is running around them. -/
namespace Tk
open PySem PySem.Spec PyProof.Rows L2

/-- no container's repr is under way around -/
abbrev Free (A : Around) : Prop := A.guards = some []

section
variable (P : Program) (w : World) (K : PySem.W.Frag) (mg : Str → Option Value) (base : Heap) (CX : CXT)
structure FnG (k : Nat) (f : Addr) (fd : FuncData) (ps : List Str) (sp : Sp) : Prop where
  len : ∀ vs H Q E, sp vs H Q E → vs.length = ps.length
  run : ∀ (A : Around) (outer : List Env) (s : Shared) (H : Hp) (args : Args) (us : List Value) (vs : List V) (Q : VK) (E : XK),
    Free A → Room k A → Env0 P w K mg base A outer s H → BindsTo s fd args (ps.zip us) → Vals vs us → sp vs H Q E →
    codeAny (model P w) A (.call (.ref f) args) (CR CX outer P w H s Q E) s
end

section
variable {P : Program} {w : World} {K : PySem.W.Frag} {mg : Str → Option Value} {base : Heap} {CX : CXT} {k : Nat} {f : Addr} {fd : FuncData} {ps : List Str} {sp : Sp}
theorem FnG.of (F : FnOk P w K mg base CX k f fd ps sp) : FnG P w K mg base CX k f fd ps sp :=
  ⟨F.len, fun A outer s H args us vs Q E _ => F.run A outer s H args us vs Q E⟩

theorem fnG_mk {name qual : Str} {params : Arguments} {body : List Stmt} {scope : Scope} {dV kV doc pm cdv ct oc : Value} {an od : Option Addr} {osl : Array (Option Value)} {N : List Str}
    (lk : K.lookup f = some ⟨oc, od, .func (PySem.W.fnOf name qual params body scope dV kV doc pm an cdv ct), osl⟩)
    (hcd : PySem.W.codeIn K cdv qual = true) (S : FnScope N ps scope) (len : ∀ vs H Q E, sp vs H Q E → vs.length = ps.length)
    (hb : ∀ (A : Around) (outer : List Env) (s : Shared) (H : Hp) (vs : List V) (Q : VK) (E : XK),
      Free (A.deeper (envOfC qual scope s.heap.objs.size f cdv)) → Room k (A.deeper (envOfC qual scope s.heap.objs.size f cdv)) → sp vs H Q E →
      ∃ t, PSs (cxOf CX P w K mg base N qual scope f cdv A outer s H E) body t ∧ t { nx := fun _ H' => Q .non H', rt := Q } (start N vs) H) :
    FnG P w K mg base CX (k + 1) f (PySem.W.fnOf name qual params body scope dV kV doc pm an cdv ct) ps sp := by
  constructor
  · exact len
  intro A outer s H args us vs Q E hg hr e0 hbd rv hsp
  have hlv := len _ _ _ _ hsp
  have hin : ∀ b o, base.get? b = some o → s.heap.get? b = some o := fun b o e => (e0.bs b o e).1
  have KX : K.In s.heap := e0.mod.kin.keeps hin
  have nl : s.heap.NoLimit := e0.mod.nolimit.keeps hin
  have hkd : ∀ y ∈ ps.zip us, scope.names.lookup y.1 = some .local ∨
      (scope.names.lookup y.1 = some .cell ∧ ((cellsFrom (s.heap.objs.size + 1) scope.names []).lookup y.1).isSome = true) := by
    rintro ⟨n, v⟩ hy
    have hp := S.par n (List.of_mem_zip hy).1
    exact hp.elim .inl fun q => .inr ⟨q, PySem.W.cellsFrom_some _ _ _ (.inl q)⟩
  refine codeAny_call_function hr.depth (KX _ _ lk) rfl S.co S.gen rfl (PySem.W.codeRec_of KX hcd) (hbd _ _ _ _ ?_)
  refine wpAny_newFunctionEnv_cells S.kind hkd ?_
  rintro env rfl s1 x
  refine ⟨nl.keeps x.toInCall.keep, codeAny_func ?_⟩
  obtain ⟨t, ht, hq⟩ := hb A outer s H vs Q E hg (hr.deeper _) hsp
  have J0 := inv_start (CX := CX) (N := N) (E := E) S hr.hd e0 hlv rv x
  refine wpAny_mono (ht.run [] s1 (start N vs) H _ J0 hq) ?_ (fun _ _ z => z)
  intro fl s' hs
  match fl, hs with
  | .ret u, ⟨v, σ', H', J, rv', q⟩ => exact ⟨v, H', J.os, J.bare, J.base, J.hok, rv', q⟩
  | .next, ⟨σ', H', J, q⟩ => exact ⟨V.non, H', J.os, J.bare, J.base, J.hok, rfl, q⟩
  | .brk, ⟨_, _, _, q⟩ => exact q.elim
  | .cont, ⟨_, _, _, q⟩ => exact q.elim

/-- a def of the text, nothing leaves it -/
theorem funG {x qual : Str} {st : Stmt} {N : List Str} (F : Fun K x qual st f fd) (S : FnScope N ps (defScope st)) (len : ∀ vs H Q E, sp vs H Q E → vs.length = ps.length)
    (hb : ∀ (cdv : Value) (A : Around) (outer : List Env) (s : Shared) (H : Hp) (vs : List V) (Q : VK) (E : XK),
      Free (A.deeper (envOfC qual (defScope st) s.heap.objs.size f cdv)) → Room k (A.deeper (envOfC qual (defScope st) s.heap.objs.size f cdv)) → sp vs H Q E →
      ∃ t, PSs (cxOf CX P w K mg base N qual (defScope st) f cdv A outer s H E) (defBody st) t ∧ t { nx := fun _ H' => Q .non H', rt := Q } (start N vs) H) :
    FnG P w K mg base CX (k + 1) f fd ps sp := by
  obtain ⟨oc, od, kV, doc, pm, an, cdv, ct, osl, rfl, lk, hcd⟩ := F.ex
  exact fnG_mk lk hcd S len fun A outer s H vs Q E hg hr hsp => hb cdv A outer s H vs Q E hg hr hsp
end

section
variable {X : Cx} {CX : CXT} {k : Nat} {f : Addr} {fd : FuncData} {ps : List Str} {sp : Sp} {dvs : List V} {ds : List Value} {E : XK} {x : Str} {p pos : Pos} {e : Expr} {es : List Expr} {t : TA}
theorem run_G {pins : List (Addr × Obj)} {σ : L2.St} {H : Hp} {s : Shared} {Q : VK} {us : List Value} {vs : List V}
    (F : FnG X.prog X.w X.K X.mg X.base CX k f fd ps sp) (hg : Free X.A) (hr : Room k X.A) (hb : Binds X.K fd ps ds) (hd : Vals dvs ds) (hx : Passes CX X E)
    (I : Inv X pins σ H s) (r : Vals vs us) (h : sp (vs ++ dvs) H Q E) : wpAny (model X.prog X.w) X.A (call (.ref f) us) (EP X pins σ Q) X.xe s := by
  have rr := r.append hd
  have hl : (us ++ ds).length = ps.length := rr.length ▸ F.len _ _ _ _ h
  refine wpAny_call (codeAny_mono (F.run X.A X.stack s H ⟨us, []⟩ _ _ Q E hg hr I.env0 (hb s us I.kIn hl) rr h) ?_)
  rintro (e | (_ | _ | _ | u)) s' hq
  · exact hx pins σ H s e s' I hq
  all_goals first | exact I.after hq | exact False.elim hq
theorem pe_callG (F : FnG X.prog X.w X.K X.mg X.base CX k f fd ps sp) (hfr : Free X.A) (hr : Room k X.A) (hg : Gl X x) (hm : X.mg x = some (.ref f)) (hk : PySem.W.keepIn X.K (.ref f) = true)
    (hb : Binds X.K fd ps ds) (hd : Vals dvs ds) (hx : Passes CX X E) (ha : PA X (e :: es) t) (hdb : (x == ("__debug__" : Str)) = false := by decide)
    (he : starEach (e :: es) X.env = (false, eval e X.env) :: starEach es X.env := by rfl) (hpl : (backTo pos (starEach es X.env)).any (·.1) = false := by rfl) :
    PE X (.Call (.Name x p) (e :: es) [] pos) (tCall sp dvs E t) := by
  constructor
  intro pins s σ H Q I h
  refine wpAny_Call_Name_kw (ld_glob I hg hm ?_ hdb)
  refine PySem.W.callWith_K (h₀ := X.base) I.ok.mod.kin hk (thn (ha.run pos pins s σ H _ I h) ?_) he hpl
  rintro us s1 ⟨vs, H1, I1, r, q⟩
  exact ⟨I1.kIn, run_G F hfr hr hb hd hx I1 r q⟩
end
end Tk

set_option Elab.async false
set_option linter.all false
set_option maxRecDepth 100000
set_option maxHeartbeats 4000000
namespace Tk
open PySem PySem.Spec PyProof.Rows L2

section
variable {P : Program} {w : World} {K : PySem.W.Frag} {mg mb : Str → Option Value} {CX : CXT} {k : Nat} {fa a : Addr} {fd : FuncData} {x : Str} {sp : Sp} {s₁ : Shared} {vs : List Value} {ns : List Int}
/-- what a law's call must come to -/
abbrev LawEnd (s₁ : Shared) : Result → Shared → Prop := fun r s' => r = .ok (.ret (.bool true)) ∧ OldK s₁.heap s'.heap ∧ s'.os = s₁.os ∧ AllBare s'.gens

theorem lawG_at (H : Hp) (KX : K.In s₁.heap) (hns : s₁.heap.Ns mainGlobals mg) (hb : s₁.heap.Ns builtinsNs mb) (hbb : ∀ x : Str, x ≠ "__name__" → mb x = bootBuiltins x) (hlim : s₁.heap.NoLimit) (hg : s₁.gens = #[])
    (hobj : s₁.heap.get? a = some { cls := .type "list", data := .seq vs.toArray }) (hr : Room k callerA)
    (F : ∀ base : Heap, K.In base → base.Ns mainGlobals mg → FnG P w K mg base CX k fa fd [x] sp) (hbind : ∀ (s : Shared) (u : Value), BindsTo s fd ⟨[u], []⟩ [(x, u)])
    (hO : Only H) (hok : HOk P w H s₁.heap) (hA : ∀ b, H b ≠ none → b = a ∧ K.lookup a = none)
    (hsp : sp [.ref a] H (fun v _ => v = .bl true) fun _ _ _ => False) (hCX : ∀ e s', CX [] H s₁ (fun _ _ _ => False) e s' → False) :
    codeAny (model P w) callerA (.call (.ref fa) ⟨[.ref a], []⟩) (LawEnd s₁) s₁ := by
  have free : ∀ b, b ≠ a → H b = none := fun b hb => Classical.byContradiction fun z => hb (hA b z).1
  have dictFree : ∀ {b : Addr} {o : Obj} {es : Array DictEntry} {ep : Nat}, s₁.heap.get? b = some o → o.data = .dict es ep → H b = none := by
    intro b o es ep e d
    refine free b fun z => ?_
    subst z
    cases hobj.symm.trans e
    cases d
  have toBase : ∀ {b : Addr} {m : Str → Option Value}, s₁.heap.Ns b m → (hidT s₁.heap H).Ns b m := by
    rintro b m ⟨o, es, ep, e, d, r⟩
    exact ⟨o, es, ep, hidT_get e (dictFree e d), d, r⟩
  have kin : K.In (hidT s₁.heap H) := by
    intro b o e
    refine hidT_get (KX b o e) (Classical.byContradiction fun z => ?_)
    obtain ⟨rfl, n⟩ := hA b z
    exact nomatch n.symm.trans e
  have nolim : (hidT s₁.heap H).NoLimit := by
    obtain ⟨mc, h1, h2⟩ := hlim
    exact ⟨mc, toBase h1, h2⟩
  have env : Env0 P w K mg (hidT s₁.heap H) callerA [] s₁ H := {
    frames := rfl
    mod := ⟨kin, toBase hns, ⟨mb, toBase hb, hbb⟩, nolim⟩
    bs := fun b o e => of_hidT e
    bsz := Nat.le_of_eq (hidT_size _ _)
    funs := trivial
    frf := fun b hb => nomatch hb
    hok := hok
    bare := .of_eq hg }
  refine codeAny_mono ((F _ kin (toBase hns)).run callerA [] s₁ H _ [.ref a] [.ref a] _ _ rfl hr env (hbind s₁ (.ref a)) (.cons rfl .nil) hsp) ?_
  intro r s' h
  match r, h with
  | .error e, h => exact (hCX e s' h).elim
  | .ok (.ret u), ⟨v, H', os, bare, un, hok', rv, hv⟩ =>
    have hv' : v = .bl true := hv
    subst hv'
    have hu : u = Value.bool true := rv
    subst hu
    refine ⟨rfl, .of_keep fun b o e => ?_, os, bare⟩
    rcases hO b with n | ⟨ob, xs, z⟩
    · exact un.keep b o e n (fun q => nomatch q) (fun q => nomatch q)
    · have p1 := (hok b _ z).1
      have p2 := (hok' b _ (un.frzs b ob _ z)).1
      cases e.symm.trans p1
      exact p2

theorem lawG_call (KX : K.In s₁.heap) (hns : s₁.heap.Ns mainGlobals mg) (hb : s₁.heap.Ns builtinsNs mb) (hbb : ∀ x : Str, x ≠ "__name__" → mb x = bootBuiltins x) (hlim : s₁.heap.NoLimit) (hg : s₁.gens = #[])
    (hobj : s₁.heap.get? a = some { cls := .type "list", data := .seq vs.toArray }) (hi : IntsAre vs ns) (hl : ns.length ≤ sizeLine) (hr : Room k callerA)
    (F : ∀ base : Heap, K.In base → base.Ns mainGlobals mg → FnG P w K mg base CX k fa fd [x] sp) (hbind : ∀ (s : Shared) (u : Value), BindsTo s fd ⟨[u], []⟩ [(x, u)])
    (hsp : ∀ H : Hp, Only H → SqL K H a (ns.map V.int) → sp [.ref a] H (fun v _ => v = .bl true) fun _ _ _ => False)
    (hCX : ∀ H e s', CX [] H s₁ (fun _ _ _ => False) e s' → False) :
    codeAny (model P w) callerA (.call (.ref fa) ⟨[.ref a], []⟩) (LawEnd s₁) s₁ := by
  have rv := vals_ints hi
  have lenV := hi.length
  cases hk : K.lookup a with
  | some o =>
    cases hobj.symm.trans (KX a o hk)
    have hO : Only fun _ => none := fun _ => .inl rfl
    refine lawG_at (fun _ => none) KX hns hb hbb hlim hg hobj hr F hbind hO (fun b u z => nomatch z) (fun b z => absurd rfl z) (hsp _ hO ?_) (hCX _)
    exact .inr ⟨_, vs.toArray, _, hk, rfl, rfl, rfl, by rw [List.size_toArray, lenV]; exact hl, by simpa using rv⟩
  | none =>
    let ob : Obj := { cls := .type "list", data := .seq vs.toArray }
    let H : Hp := fun b => if b = a then some (.frz ob (.lst (ns.map V.int))) else none
    have at_ : H a = some (.frz ob (.lst (ns.map V.int))) := if_pos rfl
    have off : ∀ b, b ≠ a → H b = none := fun b h => if_neg h
    have hO : Only H := fun b => by
      by_cases h : b = a
      · subst h; exact .inr ⟨_, _, at_⟩
      · exact .inl (off b h)
    refine lawG_at H KX hns hb hbb hlim hg hobj hr F hbind hO ?_ ?_ (hsp H hO (.inl (.inr ⟨ob, at_⟩))) (hCX H)
    · intro b u z
      by_cases h : b = a
      · subst h
        cases at_.symm.trans z
        exact ⟨hobj, by rw [List.length_map]; exact hl, vs, _, rv, hobj⟩
      · exact nomatch (off b h).symm.trans z
    · intro b z
      exact ⟨Classical.byContradiction fun h => z (off b h), hk⟩
end

/-- the end of a law's row, with the script's bits, where the law's promise knows that no repr is around -/
theorem walk_G {l : PySem.W.OpenLaw} {k : Nat} {q : Program} {loose : List Str} {XP : (Str → Option Value) → Heap → Prop} {YP : World → Heap → Prop} {d : DefRec} {K : Params → PySem.W.Frag} {CX : World → CXT} {sp : World → Sp}
    (hn : l.most = some 63) (hdf : d.params.defaults = []) (hr : Room k callerA) (hY : ∀ (w : World) (h : Heap), YP w h → (K w.params).In h)
    (F : ∀ (w : World) (mg : Str → Option Value) (fa : Addr) (h : Heap), (K w.params).In h → h.Ns mainGlobals mg → mg d.name = some (.ref fa) →
      ∃ fd : FuncData, (∀ (s : Shared) (u : Value), BindsTo s fd ⟨[u], []⟩ [("script", u)]) ∧
        ∀ base : Heap, (K w.params).In base → base.Ns mainGlobals mg → FnG l.prog w (K w.params) mg base (CX w) k fa fd ["script"] (sp w))
    (hsp : ∀ (w : World) (H : Hp) (a : Addr) (ns : List Int), ns.length ≤ 63 → (∀ z ∈ ns, Builtin.Int.intBits z ≤ 1048576) → Only H → SqL (K w.params) H a (ns.map V.int) →
      sp w [.ref a] H (fun v _ => v = .bl true) fun _ _ _ => False)
    (hCX : ∀ (w : World) (H : Hp) (s : Shared) (e : Value) (s' : Shared), CX w [] H s (fun _ _ _ => False) e s' → False) :
    PySem.W.WalkO q loose XP YP l.row.toRowW d [] (fun f vs => PySem.call f vs) := by
  refine Att.attach_callB hn hdf ?_
  intro w s₀ s₁ mg mb fa o pm cd doc a vs ns G Y ho hd hcd hmg hobj hints hlen hbits hg
  obtain ⟨fd, hb, hF⟩ := F w mg fa _ (hY w _ Y) G.T.g hmg
  exact lawG_call (hY w _ Y) G.T.g G.T.b G.T.builtins G.T.nolimit hg hobj hints (Nat.le_trans hlen (by decide)) hr hF hb (fun H hO hS => hsp w H a ns hlen hbits hO hS) fun H e s' => hCX w H s₁ e s'
end Tk

set_option Elab.async false
set_option linter.all false
set_option maxRecDepth 100000
set_option maxHeartbeats 4000000
namespace Tk
open PySem PySem.Spec PyProof.Rows L2

/-! ### data -/
section
variable {K : PySem.W.Frag} {H H' : Hp}
mutual
theorem Dp.noDict : ∀ {v : V} {d : PyData}, Dp K H v d → d.hasDict = false
  | _, _, .non => by simp only [PyData.hasDict]
  | _, _, .bl b => by simp only [PyData.hasDict]
  | _, _, .int i => by simp only [PyData.hasDict]
  | _, _, .str x => by simp only [PyData.hasDict]
  | _, _, .lst _ h => by simp only [PyData.hasDict]; exact DpAll.noDict h
  | _, _, .tup _ h => by simp only [PyData.hasDict]; exact DpAll.noDict h
theorem DpAll.noDict : ∀ {vs : List V} {ds : List PyData}, DpAll K H vs ds → PyData.hasDictAll ds = false
  | _, _, .nil => by simp only [PyData.hasDictAll]
  | _, _, .cons a b => by simp only [PyData.hasDictAll, Dp.noDict a, DpAll.noDict b, Bool.or_self]
end
theorem Same.sq {a : Addr} {xs : List V} (e : Same H H') (h : SqT K H a xs) : SqT K H' a xs := by
  rcases h with (h | ⟨o, h⟩) | h
  · exact .inl (.inl (e _ _ h))
  · exact .inl (.inr ⟨o, e _ _ h⟩)
  · exact .inr h
mutual
theorem Dp.same (e : Same H H') : ∀ {v : V} {d : PyData}, Dp K H v d → Dp K H' v d
  | _, _, .non => .non
  | _, _, .bl b => .bl b
  | _, _, .int i => .int i
  | _, _, .str x => .str x
  | _, _, .lst s h => .lst (e.seq s) (DpAll.same e h)
  | _, _, .tup s h => .tup (Same.sq e s) (DpAll.same e h)
theorem DpAll.same (e : Same H H') : ∀ {vs : List V} {ds : List PyData}, DpAll K H vs ds → DpAll K H' vs ds
  | _, _, .nil => .nil
  | _, _, .cons a b => .cons (Dp.same e a) (DpAll.same e b)
end
end

/-! ### repr -/
def rRepr (K : PySem.W.Frag) : List V → Hp → VK → Prop := fun xs H Q =>
  ∃ v d, xs = [v] ∧ Dp K H v d ∧ d.showable = true ∧ d.depth ≤ 60 ∧ d.shown.length ≤ sizeLine ∧ Q (.str d.shown) H
section
variable {X : Cx}
theorem call_repr (hf : Free X.A) (hu : X.A.units + 64 < cLine) : CallR X (.builtin "repr") (rRepr X.K) := by
  rintro pins s σ H xs us Q I r ⟨v, d, rfl, hd, hs, hdp, hz, q⟩
  obtain ⟨u, rfl, rv⟩ := Vals.one r
  obtain ⟨as, rd⟩ := Dp.reads I d v u hd rv
  cases rd with
  | none => exact P.repr_of_none ⟨.str _, H, I.tok _, ⟨_, rfl⟩, q⟩
  | bool b => exact P.repr_of_bool ⟨.str _, H, I.tok _, ⟨_, rfl⟩, q⟩
  | int i t => exact P.repr_of_int (by simpa [PyData.showable] using hs) ⟨.str _, H, I.tok _, ⟨_, rfl⟩, q⟩
  | str x t => exact P.repr_of_str ⟨.str _, H, I.tok _, ⟨_, rfl⟩, q⟩ (by simpa only [PyData.shown] using hz)
  | list h1 h2 h3 h4 =>
    exact repr_of_reads' (h₀ := s.heap) (.list h1 h2 h3 h4) hs (PyData.noDict_hsm (Dp.noDict hd)) hf (by omega) (fun _ _ z => z) (fun h' u tk k => ⟨.str _, H, I.kept k, ⟨_, rfl⟩, q⟩) hz
  | tuple h1 h2 h3 h4 =>
    exact repr_of_reads' (h₀ := s.heap) (.tuple h1 h2 h3 h4) hs (PyData.noDict_hsm (Dp.noDict hd)) hf (by omega) (fun _ _ z => z) (fun h' u tk k => ⟨.str _, H, I.kept k, ⟨_, rfl⟩, q⟩) hz
  | dict => cases hd

/-! ### d.update(e), both dicts of int and text keys -/
def rUpdate : V → List V → Hp → VK → Prop := fun x vs H Q => ∃ (d o : Addr) (kvs more : List (Key × V)), x = .ref d ∧ vs = [.ref o] ∧ d ≠ o ∧ H d = some (.dK kvs) ∧ H o = some (.dK more) ∧
  kvs.length + more.length ≤ sizeLine ∧ Q .non (upd H d (.dK (mergeK kvs more)))
theorem mt_update : MtR X "dict.update" rUpdate := by
  rintro pins s σ H x xs v us Q I rx r ⟨d, o, kvs, more, rfl, rfl, ne, hd, ho, hz, q⟩
  obtain rfl : v = Value.ref d := rx
  obtain ⟨u, rfl, ru⟩ := Vals.one r
  obtain rfl : u = Value.ref o := ru
  obtain ⟨z1, l1, vs1, r1, d1⟩ := dk_of I.hok hd
  obtain ⟨z2, l2, vs2, r2, d2⟩ := dk_of I.hok ho
  have e1 : kvs.length = vs1.length := Paired.length r1
  have e2 : more.length = vs2.length := Paired.length r2
  refine call_meetsIn PySem.F.slot_dict_update d1.typeIs PySem.F.entry_dict_update (PySem.F.args_dict_update_2 _ _) (meets_dict_update (mixKind X.prog X.w) d o ne l2)
    ⟨vs1, vs2, d1, d2, by omega, fun h' m1 _ sb => ?_⟩
  have hlen := length_mergeK more kvs
  have he : ∃ q, h'.get? d = some q := let ⟨q, _, _, hq, _⟩ := m1; ⟨q, hq⟩
  exact ⟨.non, _, d_write I (by rw [hd]; exact True.intro) sb he (dk_new (by omega) l1 (r2.merge r1) m1), rfl, q⟩
end
end Tk

set_option Elab.async false
set_option linter.all false
set_option maxRecDepth 100000
set_option maxHeartbeats 4000000
namespace Tk
open PySem PySem.Spec PyProof.Rows L2

/-! ### frames: what may have changed, and what not -/
def Hd (M : List Addr) (H : Hp) : Hp := fun b => if b ∈ M then none else H b
theorem Hd_of {M : List Addr} {H : Hp} {b : Addr} (n : b ∉ M) : Hd M H b = H b := if_neg n
theorem of_Hd {M : List Addr} {H : Hp} {b : Addr} {o : HO} (h : Hd M H b = some o) : b ∉ M ∧ H b = some o := by
  unfold Hd at h
  split at h
  · cases h
  · rename_i n; exact ⟨n, h⟩
structure Fr (M : List Addr) (H H' : Hp) : Prop where
  keep : ∀ b o, b ∉ M → H b = some o → H' b = some o
  live : ∀ b, H' b = none → H b = none
section
variable {M N : List Addr} {H H1 H2 : Hp} {a p : Addr} {o : HO} {K : PySem.W.Frag}
theorem Fr.refl (M : List Addr) (H : Hp) : Fr M H H := ⟨fun _ _ _ h => h, fun _ h => h⟩
theorem Fr.trans (x : Fr M H H1) (y : Fr M H1 H2) : Fr M H H2 := ⟨fun b o n h => y.keep b o n (x.keep b o n h), fun b h => x.live b (y.live b h)⟩
theorem Fr.mono (x : Fr M H H1) (s : ∀ b, b ∈ M → b ∈ N) : Fr N H H1 := ⟨fun b o n h => x.keep b o (fun z => n (s b z)) h, x.live⟩
theorem Fr.new (n : H p = none) : Fr M H (upd H p o) := by
  refine ⟨fun b u _ h => ?_, fun b h => ?_⟩
  · rw [upd_ne (ne_of_none h n)]; exact h
  · by_cases e : b = p
    · subst e; exact n
    · rw [upd_ne e] at h; exact h
theorem Fr.set (m : a ∈ M) : Fr M H (upd H a o) := by
  refine ⟨fun b u n h => ?_, fun b h => ?_⟩
  · have ne : b ≠ a := fun z => n (by rw [z]; exact m)
    rw [upd_ne ne]; exact h
  · by_cases e : b = a
    · subst e; rw [upd_same] at h; cases h
    · rw [upd_ne e] at h; exact h
/-- what was not there before need not be named -/
theorem Fr.drop (x : Fr (p :: M) H H1) (n : H p = none) : Fr M H H1 := by
  refine ⟨fun b u m h => x.keep b u ?_ h, x.live⟩
  intro z
  rcases List.mem_cons.mp z with e | e
  · exact ne_of_none h n e
  · exact m e
theorem Fr.weak (x : Fr M H H1) : Fr (p :: M) H H1 := x.mono fun _ h => List.mem_cons_of_mem _ h
theorem Fr.same (x : Fr [] H H1) : Same H H1 := fun b o h => x.keep b o List.not_mem_nil h
theorem Fr.of (x : Same H H1) (l : ∀ b, H1 b = none → H b = none) : Fr M H H1 := ⟨fun b o _ h => x b o h, l⟩
theorem Fr.hd (x : Fr M H H1) : Same (Hd M H) (Hd M H1) := fun b o h => by
  obtain ⟨n, h⟩ := of_Hd h
  rw [Hd_of n]; exact x.keep b o n h
theorem Fr.hdIn (x : Fr M H H1) (s : ∀ b, b ∈ M → b ∈ N) : Same (Hd N H) (Hd N H1) := (x.mono s).hd
theorem Hd_same : Same (Hd M H) H := fun _ _ h => (of_Hd h).2
theorem Hd_mono (s : ∀ b, b ∈ M → b ∈ N) : Same (Hd N H) (Hd M H) := fun b o h => by
  obtain ⟨n, h⟩ := of_Hd h
  rw [Hd_of fun z => n (s b z)]; exact h
theorem Fr.none (x : Fr M H H1) (n : H1 p = none) : H p = none := x.live p n
theorem Fr.at (x : Fr M H H1) (h : H p = some o) (n : p ∉ M) : H1 p = some o := x.keep p o n h
end

theorem negT {A B : Prop} (b : B) : if (!true) = true then A else B := by rw [if_neg (show ¬ ((!true) = true) by decide)]; exact b
theorem negF {A B : Prop} (a : A) : if (!false) = true then A else B := by rw [if_pos (show (!false) = true by decide)]; exact a
theorem nxt {D : Ends} {σ : L2.St} {H : Hp} (h : D.nx σ H) : tNext D σ H := h
theorem ifT {c : Bool} {A B : Prop} (h : c = true) (a : A) : if c = true then A else B := by rw [if_pos h]; exact a
theorem ifF {c : Bool} {A B : Prop} (h : c = false) (b : B) : if c = true then A else B := by rw [h, if_neg Bool.false_ne_true]; exact b
/-! ### defs of the text -/
structure FunAt (K : PySem.W.Frag) (mg : Str → Option Value) (x : Str) (st : Stmt) : Prop where
  ex : ∃ f fd, mg x = some (.ref f) ∧ Fun K x x st f fd
structure DefAt (K : PySem.W.Frag) (mg : Str → Option Value) (x : Str) (st : Stmt) (dvs : List V) : Prop where
  ex : ∃ f fd, mg x = some (.ref f) ∧ FunD K x x (defArgs st) (defBody st) (defScope st) dvs [] f fd
structure Cal (P : Program) (w : World) (K : PySem.W.Frag) (mg : Str → Option Value) (base : Heap) (CX : CXT) (k : Nat) (x : Str) (ps : List Str) (dvs : List V) (sp : Sp) : Prop where
  ex : ∃ f fd ds, mg x = some (.ref f) ∧ PySem.W.keepIn K (.ref f) = true ∧ FnOk P w K mg base CX k f fd ps sp ∧ Binds K fd ps ds ∧ Vals dvs ds
structure CalG (P : Program) (w : World) (K : PySem.W.Frag) (mg : Str → Option Value) (base : Heap) (CX : CXT) (k : Nat) (x : Str) (ps : List Str) (dvs : List V) (sp : Sp) : Prop where
  ex : ∃ f fd ds, mg x = some (.ref f) ∧ PySem.W.keepIn K (.ref f) = true ∧ FnG P w K mg base CX k f fd ps sp ∧ Binds K fd ps ds ∧ Vals dvs ds
section
variable {P : Program} {w : World} {K : PySem.W.Frag} {mg : Str → Option Value} {base : Heap} {CX : CXT} {k j : Nat} {x : Str} {ps N : List Str} {dvs : List V} {sp sp' : Sp} {st : Stmt}
theorem Cal.mono (c : Cal P w K mg base CX j x ps dvs sp) (h : j ≤ k) : Cal P w K mg base CX k x ps dvs sp := by
  obtain ⟨f, fd, ds, a, b, F, d, e⟩ := c.ex
  exact ⟨f, fd, ds, a, b, F.mono h, d, e⟩
theorem Cal.imp (c : Cal P w K mg base CX k x ps dvs sp) (h : ∀ vs H Q E, sp' vs H Q E → sp vs H Q E) : Cal P w K mg base CX k x ps dvs sp' := by
  obtain ⟨f, fd, ds, a, b, F, d, e⟩ := c.ex
  exact ⟨f, fd, ds, a, b, F.imp h, d, e⟩
theorem Cal.mk' (F : FunAt K mg x st)
    (hb : ∀ (kV doc pm : Value) (an : Option Addr) (cdv ct : Value) (us : List Value), us.length = ps.length → bindArgs (PySem.W.fnOf x x (defArgs st) (defBody st) (defScope st) .none kV doc pm an cdv ct) ⟨us, []⟩ = pure (ps.zip us))
    (ok : ∀ f fd, mg x = some (.ref f) → Fun K x x st f fd → FnOk P w K mg base CX k f fd ps sp) : Cal P w K mg base CX k x ps [] sp := by
  obtain ⟨f, fd, hm, F⟩ := F.ex
  exact ⟨f, fd, [], hm, F.kp, ok f fd hm F, F.binds hb, .nil⟩
/-- a def that lets nothing out -/
theorem Cal.mk0 (F : FunAt K mg x st) (S : FnScope N ps (defScope st)) (len : ∀ vs H Q E, sp vs H Q E → vs.length = ps.length)
    (hb : ∀ (kV doc pm : Value) (an : Option Addr) (cdv ct : Value) (us : List Value), us.length = ps.length → bindArgs (PySem.W.fnOf x x (defArgs st) (defBody st) (defScope st) .none kV doc pm an cdv ct) ⟨us, []⟩ = pure (ps.zip us))
    (body : ∀ (f : Addr) (cdv : Value) (A : Around) (outer : List Env) (s : Shared) (H : Hp) (vs : List V) (Q : VK) (E : XK), Room k (A.deeper (envOfC x (defScope st) s.heap.objs.size f cdv)) → sp vs H Q E →
      ∃ t, PSs (cxOf CX0 P w K mg base N x (defScope st) f cdv A outer s H E).nox (defBody st) t ∧ t { nx := fun _ H' => Q .non H', rt := Q } (start N vs) H) : Cal P w K mg base CX0 (k + 1) x ps [] sp :=
  Cal.mk' F hb fun f fd _ F => F.ok S len (body f)
/-- one that may raise -/
theorem Cal.mkX (F : FunAt K mg x st) (S : FnScope N ps (defScope st)) (len : ∀ vs H Q E, sp vs H Q E → vs.length = ps.length)
    (hb : ∀ (kV doc pm : Value) (an : Option Addr) (cdv ct : Value) (us : List Value), us.length = ps.length → bindArgs (PySem.W.fnOf x x (defArgs st) (defBody st) (defScope st) .none kV doc pm an cdv ct) ⟨us, []⟩ = pure (ps.zip us))
    (body : ∀ (f : Addr) (cdv : Value) (A : Around) (outer : List Env) (s : Shared) (H : Hp) (vs : List V) (Q : VK) (E : XK), Room k (A.deeper (envOfC x (defScope st) s.heap.objs.size f cdv)) → sp vs H Q E →
      ∃ t, PSs (cxOf (L2.CX P w) P w K mg base N x (defScope st) f cdv A outer s H E) (defBody st) t ∧ t { nx := fun _ H' => Q .non H', rt := Q } (start N vs) H) : Cal P w K mg base (L2.CX P w) (k + 1) x ps [] sp :=
  Cal.mk' F hb fun f fd _ F => F.okX S len (body f)
/-- one that lets nothing out, where no repr is around -/
theorem CalG.mk0 (F : FunAt K mg x st) (S : FnScope N ps (defScope st)) (len : ∀ vs H Q E, sp vs H Q E → vs.length = ps.length)
    (hb : ∀ (kV doc pm : Value) (an : Option Addr) (cdv ct : Value) (us : List Value), us.length = ps.length → bindArgs (PySem.W.fnOf x x (defArgs st) (defBody st) (defScope st) .none kV doc pm an cdv ct) ⟨us, []⟩ = pure (ps.zip us))
    (body : ∀ (f : Addr) (cdv : Value) (A : Around) (outer : List Env) (s : Shared) (H : Hp) (vs : List V) (Q : VK) (E : XK), Free (A.deeper (envOfC x (defScope st) s.heap.objs.size f cdv)) → Room k (A.deeper (envOfC x (defScope st) s.heap.objs.size f cdv)) → sp vs H Q E →
      ∃ t, PSs (cxOf CX0 P w K mg base N x (defScope st) f cdv A outer s H E).nox (defBody st) t ∧ t { nx := fun _ H' => Q .non H', rt := Q } (start N vs) H) : CalG P w K mg base CX0 (k + 1) x ps [] sp := by
  obtain ⟨f, fd, hm, F⟩ := F.ex
  refine ⟨f, fd, [], hm, F.kp, funG F S len fun cdv A outer s H vs Q E hg hr h => ?_, F.binds hb, .nil⟩
  obtain ⟨t, ht, q⟩ := body f cdv A outer s H vs Q E hg hr h
  exact ⟨t, ht.nox, q⟩
end
section
variable {X : Cx} {CX : CXT} {k : Nat} {ps : List Str} {sp : Sp} {dvs : List V} {E : XK} {x : Str} {p pos : Pos} {e : Expr} {es : List Expr} {t : TA}
/-- f(e, ..), f a def of the text -/
theorem pe_c (C : Cal X.prog X.w X.K X.mg X.base CX k x ps dvs sp) (hr : Room k X.A) (hg : Gl X x) (hx : Passes CX X E) (ha : PA X (e :: es) t) (hdb : (x == ("__debug__" : Str)) = false := by decide)
    (he : starEach (e :: es) X.env = (false, eval e X.env) :: starEach es X.env := by rfl) (hpl : (backTo pos (starEach es X.env)).any (·.1) = false := by rfl) :
    PE X (.Call (.Name x p) (e :: es) [] pos) (tCall sp dvs E t) := by
  obtain ⟨f, fd, ds, hm, hk, F, hb, hd⟩ := C.ex
  exact pe_call F hr hg hm hk hb hd hx ha hdb he hpl
theorem pe_c0 (C : Cal X.prog X.w X.K X.mg X.base CX k x ps dvs sp) (hr : Room k X.A) (hg : Gl X x) (hx : Passes CX X E) (hdb : (x == ("__debug__" : Str)) = false := by decide) :
    PE X (.Call (.Name x p) [] [] pos) (tCall sp dvs E tNil) := by
  obtain ⟨f, fd, ds, hm, hk, F, hb, hd⟩ := C.ex
  exact pe_call0 F hr hg hm hk hb hd hx hdb
theorem pe_cG (C : CalG X.prog X.w X.K X.mg X.base CX k x ps dvs sp) (hf : Free X.A) (hr : Room k X.A) (hg : Gl X x) (hx : Passes CX X E) (ha : PA X (e :: es) t) (hdb : (x == ("__debug__" : Str)) = false := by decide)
    (he : starEach (e :: es) X.env = (false, eval e X.env) :: starEach es X.env := by rfl) (hpl : (backTo pos (starEach es X.env)).any (·.1) = false := by rfl) :
    PE X (.Call (.Name x p) (e :: es) [] pos) (tCall sp dvs E t) := by
  obtain ⟨f, fd, ds, hm, hk, F, hb, hd⟩ := C.ex
  exact pe_callG F hf hr hg hm hk hb hd hx ha hdb he hpl
end
/-- the built-in names are not taken by the module -/
structure NoGl (mg : Str → Option Value) : Prop where
  len : mg "len" = none
  int : mg "int" = none
  range : mg "range" = none
  isinstance : mg "isinstance" = none
  bool : mg "bool" = none
  list : mg "list" = none
  tuple : mg "tuple" = none
  str : mg "str" = none
  all : mg "all" = none
  zip : mg "zip" = none
  sorted : mg "sorted" = none
  max : mg "max" = none
  min : mg "min" = none
  repr : mg "repr" = none
end Tk

set_option Elab.async false
set_option linter.all false
set_option maxRecDepth 100000
namespace Tk
open PySem L2
def topS (i : Nat) : Stmt := PySem.Challenge.pw_timekernel_k83_looks_put_into_logs.main.body.getD i (.Pass ⟨0, 0, 0, 0⟩)
abbrev s_is_whole : Stmt := topS 5
abbrev s_is_cycles : Stmt := topS 6
abbrev s_size_of : Stmt := topS 11
abbrev s_is_row : Stmt := topS 12
abbrev s_check_log : Stmt := topS 13
abbrev s_check_cycles : Stmt := topS 14
abbrev s_with_looks : Stmt := topS 15
abbrev s_copied : Stmt := topS 16
abbrev s__law_cell_at : Stmt := topS 18
abbrev s__law_mixed : Stmt := topS 19
abbrev s__law_source : Stmt := topS 20
abbrev s__law_next : Stmt := topS 21
abbrev s__law_sizes : Stmt := topS 22
abbrev s__law_rows : Stmt := topS 23
abbrev s__law_looks : Stmt := topS 24
abbrev s__law_due : Stmt := topS 25
abbrev s__law_own_right : Stmt := topS 26
abbrev s_law : Stmt := topS 27
end Tk

set_option Elab.async false
set_option linter.all false
set_option maxRecDepth 100000
set_option maxHeartbeats 4000000
namespace Tk
open PySem PySem.Spec PyProof.Rows L2

/-! ### the draws -/
def mixA (cell k : Int) : Int := cell % 2147483629 + cell / 2147483629 * 30011
def mixB (cell k : Int) : Int := ((mixA cell k + 69621 * k + 1) * 48271) % 2147483629
def mixC (cell k : Int) : Int := (mixB cell k * (mixB cell k / 907 + 16831 + k)) % 2147483587
def mixed (cell k : Int) : Int := (mixC cell k * (mixC cell k / 1201 + 30011)) % 2147483563
theorem mixed_nn (c k : Int) : 0 ≤ mixed c k := Int.emod_nonneg _ (by decide)
def cellAt (ns : List Int) (k : Nat) : Int := ns.getD k 0

section
variable {P : Program} {w : World} {K : PySem.W.Frag} {mg : Str → Option Value} {base : Heap}
def spCellAt (K : PySem.W.Frag) : Sp := fun vs H Q _ => ∃ (a : Addr) (k : Nat) (ns : List Int), vs = [.ref a, .int k] ∧ SqL K H a (ns.map V.int) ∧ Q (.int (cellAt ns k)) H
theorem sc_cellAt : FnScope ["script", "k"] ["script", "k"] (defScope s__law_cell_at) := ⟨rfl, rfl, rfl, by decide +kernel, rfl, by decide +kernel, by decide +kernel⟩
theorem ok_cellAt (F : FunAt K mg "_law_cell_at" s__law_cell_at) (G : NoGl mg) : Cal P w K mg base CX0 1 "_law_cell_at" ["script", "k"] [] (spCellAt K) := by
  refine Cal.mk0 F sc_cellAt (by rintro _ _ _ _ ⟨_, _, _, rfl, _⟩; rfl) (fun _ _ _ _ _ _ us hl => match us, hl with | [_, _], _ => rfl) ?_
  rintro f cdv A outer s H vs Q E hr ⟨a, k, ns, rfl, hs, q⟩
  refine ⟨_, pss_cons (ps_if (pt_cmpR op_lt (pv 1) (pe_callB call_len_seq (by rfl) G.len PySem.boot_len (pa_cons (pv 0) pa_nil)) (nomark _)) (pss_one (ps_ret (pe_ix ix_list (pv 0) (pv 1) (fun _ _ => rfl)))) pss_nil)
    (pss_one (ps_ret pe_int)), ?_⟩
  refine ⟨_, rfl, _, rfl, a, _, rfl, .inl hs, _, _, rfl, rfl, _, rfl, ?_⟩
  refine ite2 (fun h => ?_) (fun h => ?_)
  · have h := of_decide_eq_true h
    have hk : k < ns.length := by simpa using h
    refine ⟨_, rfl, _, rfl, a, _, _, _, rfl, rfl, hs, atI_nat (j := k) (v := V.int ns[k]) (by simp [hk]), ?_⟩
    have e : cellAt ns k = ns[k] := by simp [cellAt, List.getD, hk]
    rw [e] at q; exact q
  · have hk : ns.length ≤ k := by
      have h := mt decide_eq_true h
      simpa using h
    have e : cellAt ns k = 0 := by simp [cellAt, List.getD, hk]
    rw [e] at q; exact q

def spMixed : Sp := fun vs H Q _ => ∃ (c k : Int), vs = [.int c, .int k] ∧ Q (.int (mixed c k)) H
theorem sc_mixed : FnScope ["cell", "k", "low"] ["cell", "k"] (defScope s__law_mixed) := ⟨rfl, rfl, rfl, by decide +kernel, rfl, by decide +kernel, by decide +kernel⟩
theorem small_l {i : Int} (j : Int) (h0 : 0 ≤ i) (h1 : i < 2147483648) : CMul i j := .inl ⟨by omega, by omega⟩
theorem ok_mixed (F : FunAt K mg "_law_mixed" s__law_mixed) (G : NoGl mg) : Cal P w K mg base CX0 1 "_law_mixed" ["cell", "k"] [] spMixed := by
  refine Cal.mk0 F sc_mixed (by rintro _ _ _ _ ⟨_, _, rfl, _⟩; rfl) (fun _ _ _ _ _ _ us hl => match us, hl with | [_, _], _ => rfl) ?_
  rintro f cdv A outer s H vs Q E hr ⟨c, k, rfl, q⟩
  have nd := sc_mixed.nd
  refine ⟨_, pss_cons (ps_set (i := 2) nd rfl (.inl rfl) (pe_op op_add (pe_op op_mod (pe_callTy call_int1 (by rfl) G.int (by decide +kernel) (pa_cons (pv 0) pa_nil)) pe_int) (pe_op op_mul (pe_op op_fdivW (pv 0) pe_int) pe_int)))
    (pss_cons (ps_set (i := 2) nd rfl (.inl rfl) (pe_op op_mod (pe_callTy call_int1 (by rfl) G.int (by decide +kernel) (pa_cons (pe_op op_mul (pe_op op_add (pe_op op_add (pv 2) (pe_op op_mul pe_int (pv 1))) pe_int) pe_int) pa_nil)) pe_int))
    (pss_cons (ps_set (i := 2) nd rfl (.inl rfl) (pe_op op_mod (pe_callTy call_int1 (by rfl) G.int (by decide +kernel) (pa_cons (pe_op op_mul (pv 2) (pe_op op_add (pe_op op_add (pe_op op_fdivW (pv 2) pe_int) pe_int) (pv 1))) pa_nil)) pe_int))
    (pss_one (ps_ret (pe_op op_mod (pe_callTy call_int1 (by rfl) G.int (by decide +kernel) (pa_cons (pe_op op_mul (pv 2) (pe_op op_add (pe_op op_fdivW (pv 2) pe_int) pe_int)) pa_nil)) pe_int))))), ?_⟩
  have w1 : CDivW c 2147483629 := ⟨by decide, by decide⟩
  refine ⟨_, rfl, .inl ⟨_, rfl, _, _, rfl, rfl, (by show (0 : Int) < 2147483629; decide), _, rfl, _, _, rfl, rfl, w1, _, _, rfl, rfl, .inr ⟨by decide, by decide⟩, _, _, rfl, rfl, ?_⟩⟩
  refine ⟨_, rfl, _, rfl, _, _, rfl, rfl, .inl ⟨by decide, by decide⟩, _, _, rfl, rfl, _, _, rfl, rfl, _, _, rfl, rfl, .inr ⟨by decide, by decide⟩, .inl ⟨_, rfl, _, _, rfl, rfl, (by show (0 : Int) < 2147483629; decide), ?_⟩⟩
  have b0 : 0 ≤ mixB c k := Int.emod_nonneg _ (by decide)
  have b1 : mixB c k < 2147483629 := Int.emod_lt_of_pos _ (by decide)
  refine ⟨_, rfl, _, rfl, _, _, rfl, rfl, ⟨by decide, by decide⟩, _, _, rfl, rfl, _, rfl, _, _, rfl, rfl, _, _, rfl, rfl, small_l _ b0 (by exact Int.lt_trans b1 (by decide)), .inl ⟨_, rfl, _, _, rfl, rfl, (by show (0 : Int) < 2147483587; decide), ?_⟩⟩
  have c0 : 0 ≤ mixC c k := Int.emod_nonneg _ (by decide)
  have c1 : mixC c k < 2147483587 := Int.emod_lt_of_pos _ (by decide)
  refine ⟨_, rfl, _, rfl, _, _, rfl, rfl, ⟨by decide, by decide⟩, _, _, rfl, rfl, _, _, rfl, rfl, small_l _ c0 (by exact Int.lt_trans c1 (by decide)), .inl ⟨_, rfl, _, _, rfl, rfl, (by show (0 : Int) < 2147483563; decide), ?_⟩⟩
  exact q

/-- the draws of the k-th thing -/
def srcOf (ns : List Int) (k : Nat) : Int := if k < ns.length then cellAt ns k else mixed (cellAt ns 0) (1000 + k)
def spSource (K : PySem.W.Frag) : Sp := fun vs H Q _ => ∃ (a : Addr) (k : Nat) (ns : List Int), vs = [.ref a, .int k] ∧ SqL K H a (ns.map V.int) ∧
  ∀ p H', H p = none → H' p = some (.lst [.int (srcOf ns k), .int (srcOf ns k), .int 0]) → Fr [] H H' → Q (.ref p) H'
theorem sc_source : FnScope ["script", "k", "cell"] ["script", "k"] (defScope s__law_source) := ⟨rfl, rfl, rfl, by decide +kernel, rfl, by decide +kernel, by decide +kernel⟩
theorem ok_source (F : FunAt K mg "_law_source" s__law_source) (G : NoGl mg) (C1 : Cal P w K mg base CX0 1 "_law_cell_at" ["script", "k"] [] (spCellAt K)) (C2 : Cal P w K mg base CX0 1 "_law_mixed" ["cell", "k"] [] spMixed) :
    Cal P w K mg base CX0 2 "_law_source" ["script", "k"] [] (spSource K) := by
  refine Cal.mk0 F sc_source (by rintro _ _ _ _ ⟨_, _, _, rfl, _⟩; rfl) (fun _ _ _ _ _ _ us hl => match us, hl with | [_, _], _ => rfl) ?_
  rintro f cdv A outer s H vs Q E hr ⟨a, k, ns, rfl, hs, q⟩
  have nd := sc_source.nd
  refine ⟨_, pss_cons (ps_if (pt_cmpR op_lt (pv 1) (pe_callB call_len_seq (by rfl) G.len PySem.boot_len (pa_cons (pv 0) pa_nil)) (nomark _))
      (pss_one (ps_ret (pe_lst (pa_cons (pe_ix ix_list (pv 0) (pv 1) (fun _ _ => rfl)) (pa_cons (pe_ix ix_list (pv 0) (pv 1) (fun _ _ => rfl)) (pa_cons pe_int pa_nil)))))) pss_nil)
    (pss_cons (ps_set (i := 2) nd rfl (.inl rfl) (pe_c C2 hr (by rfl) pass0 (pa_cons (pe_c C1 hr (by rfl) pass0 (pa_cons (pv 0) (pa_cons pe_int pa_nil))) (pa_cons (pe_op op_add pe_int (pv 1)) pa_nil))))
    (pss_one (ps_ret (pe_lst (pa_cons (pv 2) (pa_cons (pv 2) (pa_cons pe_int pa_nil))))))), ?_⟩
  refine ⟨_, rfl, _, rfl, a, _, rfl, .inl hs, _, _, rfl, rfl, _, rfl, ?_⟩
  refine ite2 (fun h => ?_) (fun h => ?_)
  · have h := of_decide_eq_true h
    have hk : k < ns.length := by simpa using h
    have at_ := atI_nat (xs := ns.map V.int) (j := k) (v := V.int (cellAt ns k)) (by simp [cellAt, List.getD, hk])
    refine ⟨_, rfl, _, rfl, a, _, _, _, rfl, rfl, hs, at_, _, rfl, _, rfl, a, _, _, _, rfl, rfl, hs, at_, (by show 3 ≤ sizeLine; decide), fun p hp => ?_⟩
    have e : srcOf ns k = cellAt ns k := if_pos hk
    rw [e] at q
    exact q p _ hp upd_same (Fr.new hp)
  · have hk : ¬ k < ns.length := by
      have h := mt decide_eq_true h
      simpa using h
    refine ⟨_, rfl, a, 0, ns, rfl, hs, _, rfl, _, _, rfl, rfl, _, _, rfl, _, rfl, _, rfl, (by show 3 ≤ sizeLine; decide), fun p hp => ?_⟩
    have e : srcOf ns k = mixed (cellAt ns 0) (1000 + k) := if_neg hk
    rw [e] at q
    exact q p _ hp upd_same (Fr.new hp)

/-- a source: what is left of the number, the number, how many were mixed -/
abbrev srcO (x y z : Int) : HO := .lst [.int x, .int y, .int z]
def nextV (x y z m : Int) : Int := if 10 ^ 18 ≤ x then x % m else mixed y (z + 1) % m
def nextX (x m : Int) : Int := if 10 ^ 18 ≤ x then x / m else x
def nextZ (x z : Int) : Int := if 10 ^ 18 ≤ x then z else z + 1
def spNext : Sp := fun vs H Q _ => ∃ (a : Addr) (x y z m : Int), vs = [.ref a, .int m] ∧ H a = some (srcO x y z) ∧ 0 < m ∧ m < 2 ^ 64 ∧
  ∀ H', H' a = some (srcO (nextX x m) y (nextZ x z)) → Fr [a] H H' → Q (.int (nextV x y z m)) H'
theorem nextV_nn {x y z m : Int} (h : 0 < m) : 0 ≤ nextV x y z m := by unfold nextV; split <;> exact Int.emod_nonneg _ (by omega)
theorem nextV_lt {x y z m : Int} (h : 0 < m) : nextV x y z m < m := by unfold nextV; split <;> exact Int.emod_lt_of_pos _ h
theorem sc_next : FnScope ["source", "many", "found"] ["source", "many"] (defScope s__law_next) := ⟨rfl, rfl, rfl, by decide +kernel, rfl, by decide +kernel, by decide +kernel⟩
theorem ok_next (F : FunAt K mg "_law_next" s__law_next) (G : NoGl mg) (C2 : Cal P w K mg base CX0 1 "_law_mixed" ["cell", "k"] [] spMixed) :
    Cal P w K mg base CX0 2 "_law_next" ["source", "many"] [] spNext := by
  refine Cal.mk0 F sc_next (by rintro _ _ _ _ ⟨_, _, _, _, _, rfl, _⟩; rfl) (fun _ _ _ _ _ _ us hl => match us, hl with | [_, _], _ => rfl) ?_
  rintro f cdv A outer s H vs Q E hr ⟨a, x, y, z, m, rfl, hs, hm, hm2, q⟩
  have nd := sc_next.nd
  refine ⟨_, pss_cons (ps_if (pt_cmpR op_ge (pe_ix ix_list (pv 0) pe_int (fun _ _ => rfl)) (pe_op op_pow pe_int pe_int) (nomark _))
      (pss_cons (ps_set (i := 2) nd rfl (.inl rfl) (pe_op op_mod (pe_callTy call_int1 (by rfl) G.int (by decide +kernel) (pa_cons (pe_ix ix_list (pv 0) pe_int (fun _ _ => rfl)) pa_nil)) (pv 1)))
      (pss_cons (ps_asg (pe_op op_fdivW (pe_ix ix_list (pv 0) pe_int (fun _ _ => rfl)) (pv 1)) (pg_sub (pv 0) pe_int set_list))
      (pss_one (ps_ret (pv 2))))) pss_nil)
    (pss_cons (ps_asg (pe_op op_add (pe_ix ix_list (pv 0) pe_int (fun _ _ => rfl)) pe_int) (pg_sub (pv 0) pe_int set_list))
    (pss_one (ps_ret (pe_op op_mod (pe_callTy call_int1 (by rfl) G.int (by decide +kernel) (pa_cons (pe_c C2 hr (by rfl) pass0 (pa_cons (pe_ix ix_list (pv 0) pe_int (fun _ _ => rfl)) (pa_cons (pe_ix ix_list (pv 0) pe_int (fun _ _ => rfl)) pa_nil))) pa_nil)) (pv 1))))), ?_⟩
  refine ⟨_, rfl, a, _, _, _, rfl, rfl, SqL.of hs, rfl, _, _, rfl, rfl, ⟨by decide, by decide, by decide⟩, _, _, rfl, rfl, _, rfl, ?_⟩
  refine ite2 (fun h => ?_) (fun h => ?_)
  · have h : (10 : Int) ^ 18 ≤ x := of_decide_eq_true h
    refine ⟨_, rfl, a, _, _, _, rfl, rfl, SqL.of hs, rfl, .inl ⟨_, rfl, _, rfl, _, _, rfl, rfl, hm, ?_⟩⟩
    have w1 : CDivW x m := wide_div (b := 64) hm (by omega) (by decide) (by decide)
    refine ⟨_, rfl, a, _, _, _, rfl, rfl, SqL.of hs, rfl, _, rfl, _, _, rfl, rfl, w1, _, rfl, a, _, _, 0, rfl, rfl, hs, rfl, ?_⟩
    refine ⟨_, rfl, ?_⟩
    have e1 : nextV x y z m = x % m := if_pos h
    have e2 : nextX x m = x / m := if_pos h
    have e3 : nextZ x z = z := if_pos h
    rw [e1, e2, e3] at q
    exact q _ upd_same (Fr.set (List.mem_singleton.mpr rfl))
  · have h : ¬ (10 : Int) ^ 18 ≤ x := fun t => h (decide_eq_true t)
    refine ⟨_, rfl, a, _, _, _, rfl, rfl, SqL.of hs, rfl, _, _, rfl, rfl, _, rfl, a, _, _, 2, rfl, rfl, hs, rfl, ?_⟩
    have hs2 : (upd H a (.lst ([V.int x, V.int y, V.int z].set 2 (V.int (z + 1))))) a = some (srcO x y (z + 1)) := upd_same
    refine ⟨_, rfl, a, _, _, _, rfl, rfl, SqL.of hs2, rfl, _, rfl, a, _, _, _, rfl, rfl, SqL.of hs2, rfl, _, _, rfl, .inl ⟨_, rfl, _, rfl, _, _, rfl, rfl, hm, ?_⟩⟩
    have e1 : nextV x y z m = mixed y (z + 1) % m := if_neg h
    have e2 : nextX x m = x := if_neg h
    have e3 : nextZ x z = z + 1 := if_neg h
    rw [e1, e2, e3] at q
    exact q _ hs2 (Fr.set (List.mem_singleton.mpr rfl))
/-- a draw, of which only the bounds are told -/
def spDraw : Sp := fun vs H Q _ => ∃ (a : Addr) (x y z m : Int), vs = [.ref a, .int m] ∧ H a = some (srcO x y z) ∧ 0 < m ∧ m < 2 ^ 64 ∧
  ∀ (d x' z' : Int) (H' : Hp), 0 ≤ d → d < m → H' a = some (srcO x' y z') → Fr [a] H H' → Q (.int d) H'
theorem draw_of {CX : CXT} {k : Nat} (C : Cal P w K mg base CX k "_law_next" ["source", "many"] [] spNext) : Cal P w K mg base CX k "_law_next" ["source", "many"] [] spDraw :=
  C.imp fun vs H Q E ⟨a, x, y, z, m, e, h, m0, m1, q⟩ => ⟨a, x, y, z, m, e, h, m0, m1, fun H' h' fr => q _ _ _ H' (nextV_nn m0) (nextV_lt m0) h' fr⟩
end
end Tk

set_option Elab.async false
set_option linter.all false
set_option maxRecDepth 100000
set_option maxHeartbeats 4000000
namespace Tk
open PySem PySem.Spec PyProof.Rows L2

/-! ### comprehensions whose parts only make new objects -/
/-- ys are made of the xs that are taken -/
inductive Made (p : V → Bool) (R : V → V → Hp → Prop) (H : Hp) : List V → List V → Prop where
  | nil : Made p R H [] []
  | take {x y : V} {xs ys : List V} : p x = true → R x y H → Made p R H xs ys → Made p R H (x :: xs) (y :: ys)
  | skip {x : V} {xs ys : List V} : p x = false → Made p R H xs ys → Made p R H (x :: xs) ys
section
variable {p : V → Bool} {R : V → V → Hp → Prop} {H H' : Hp}
theorem Made.same (mono : ∀ x y H H', Same H H' → R x y H → R x y H') (e : Same H H') : ∀ {xs ys : List V}, Made p R H xs ys → Made p R H' xs ys
  | _, _, .nil => .nil
  | _, _, .take a b c => .take a (mono _ _ _ _ e b) (Made.same mono e c)
  | _, _, .skip a c => .skip a (Made.same mono e c)
theorem Made.snoc {x y : V} (hp : p x = true) (r : R x y H) : ∀ {xs ys : List V}, Made p R H xs ys → Made p R H (xs ++ [x]) (ys ++ [y])
  | _, _, .nil => .take hp r .nil
  | _, _, .take a b c => .take a b (Made.snoc hp r c)
  | _, _, .skip a c => .skip a (Made.snoc hp r c)
theorem Made.out {x : V} (hp : p x = false) : ∀ {xs ys : List V}, Made p R H xs ys → Made p R H (xs ++ [x]) ys
  | _, _, .nil => .skip hp .nil
  | _, _, .take a b c => .take a b (Made.out hp c)
  | _, _, .skip a c => .skip a (Made.out hp c)
theorem Made.len : ∀ {xs ys : List V}, Made p R H xs ys → ys.length ≤ xs.length
  | _, _, .nil => Nat.le_refl _
  | _, _, .take a b c => Nat.succ_le_succ (Made.len c)
  | _, _, .skip a c => Nat.le_succ_of_le (Made.len c)
/-- R tells the value: the list is a filter and a map -/
theorem Made.pure {f : V → V} (h : ∀ x y H, R x y H → y = f x) : ∀ {xs ys : List V}, Made p R H xs ys → ys = (xs.filter p).map f
  | _, _, .nil => rfl
  | _, _, .take a b c => by rw [List.filter_cons_of_pos a, List.map_cons, ← Made.pure h c, ← h _ _ _ b]
  | _, _, .skip a c => by rw [List.filter_cons_of_neg (by rw [a]; exact Bool.false_ne_true), ← Made.pure h c]
end
theorem take_snoc {xs : List V} {i : Nat} {x : V} (h : xs[i]? = some x) : xs.take (i + 1) = xs.take i ++ [x] := by
  rw [List.take_add_one, h]; rfl

/-- one turn of a comprehension -/
abbrev LcTurn (g : TG) (tt : TT) (te : TE) (vs : List Nat) (σ : L2.St) (D : Addr) (H : Hp) (x : V) (Nx : Hp → Prop) : Prop :=
  g x (wipe σ vs) H fun σ2 H2 => wipe σ2 vs = wipe σ vs ∧ tt σ2 H2 fun b H3 =>
    if b = true then te σ2 H3 fun y H4 => ∃ acc, H4 D = some (.lst acc) ∧ acc.length < sizeLine ∧ Nx (upd H4 D (.lst (acc ++ [y]))) else Nx H3
section
variable {K : PySem.W.Frag} {a : Addr} {xs : List V} {tt : TT} {te : TE} {vs : List Nat} {σ : L2.St} {H1 : Hp} {D : Addr} {j : Nat} {Qd : Hp → Prop}
  (p : V → Bool) (R : V → V → Hp → Prop) (mono : ∀ x y H H', Same H H' → R x y H → R x y H')
  (nD : H1 D = none) (hl : xs.length < sizeLine) (hw : ∀ x, wipe ((wipe σ vs).set j (some x)) vs = wipe σ vs)
  (ht : ∀ x H Q', x ∈ xs → Fr [] H1 H → (∃ acc, H D = some (.lst acc)) → (∀ H', Fr [] H H' → Q' (p x) H') → tt ((wipe σ vs).set j (some x)) H Q')
  (he : ∀ x H Q', x ∈ xs → p x = true → Fr [] H1 H → (∃ acc, H D = some (.lst acc)) → (∀ y H', Fr [] H H' → R x y (Hd [D] H') → Q' y H') → te ((wipe σ vs).set j (some x)) H Q')
  (hd : ∀ H ys, H D = some (.lst ys) → Fr [] H1 H → Made p R (Hd [D] H) xs ys → Qd H)
def LcInv (p : V → Bool) (R : V → V → Hp → Prop) (xs : List V) (H1 : Hp) (D : Addr) (i : Nat) (H : Hp) : Prop := ∃ ys, H D = some (.lst ys) ∧ Fr [] H1 H ∧ Made p R (Hd [D] H) (xs.take i) ys
include nD in
theorem lcInv_0 : LcInv p R xs H1 D 0 (upd H1 D (.lst [])) := ⟨[], upd_same, Fr.new nD, by rw [List.take_zero]; exact .nil⟩
include mono nD hl hw ht he in
theorem lcInv_s {i : Nat} {x : V} {H : Hp} (hx : xs[i]? = some x) (I : LcInv p R xs H1 D i H) : LcTurn (gName j) tt te vs σ D H x (LcInv p R xs H1 D (i + 1)) := by
  obtain ⟨ys, hD, fr, md⟩ := I
  have hm : x ∈ xs := List.mem_of_getElem? hx
  refine ⟨hw x, ht x H _ hm fr ⟨_, hD⟩ fun H2 fr2 => ?_⟩
  have hD2 : H2 D = some (.lst ys) := fr2.same _ _ hD
  have md2 := Made.same mono (fr2.hdIn (N := [D]) (fun _ z => nomatch z)) md
  by_cases hp : p x = true
  · rw [if_pos hp]
    refine he x H2 _ hm hp (fr.trans fr2) ⟨_, hD2⟩ fun y H4 fr4 r => ?_
    have hD4 : H4 D = some (.lst ys) := fr4.same _ _ hD2
    have hz : ys.length < sizeLine := by
      have h1 := md.len
      have h2 : (xs.take i).length ≤ xs.length := by rw [List.length_take]; omega
      omega
    have fr5 : Fr [D] H4 (upd H4 D (.lst (ys ++ [y]))) := Fr.set (List.mem_singleton.mpr rfl)
    refine ⟨ys, hD4, hz, ys ++ [y], upd_same, Fr.drop (((fr.trans (fr2.trans fr4)).weak).trans fr5) nD, ?_⟩
    rw [take_snoc hx]
    exact Made.snoc hp (mono _ _ _ _ fr5.hd r) (Made.same mono (((fr4.hdIn (N := [D]) (fun _ z => nomatch z))).trans fr5.hd) md2)
  · have hp' : p x = false := by simpa using hp
    rw [if_neg hp]
    refine ⟨ys, hD2, fr.trans fr2, ?_⟩
    rw [take_snoc hx]
    exact Made.out hp' md2
include mono nD hl hw ht he hd in
theorem lc_listR (h1 : SqL K H1 a xs) : ∃ W : Nat → Nat → Hp → Prop, (∃ m, W 0 m (upd H1 D (.lst []))) ∧ ∀ i m H, W i m H →
      ((Itl K a).stop i H ∧ Qd H) ∨ ((Itl K a).go i H ∧ ∃ Nx : Hp → Prop, (∀ H', Nx H' → ∃ m', m' < m ∧ W (i + 1) m' H') ∧ ∀ x H', (Itl K a).yld i H x H' → LcTurn (gName j) tt te vs σ D H' x Nx) := by
  refine lc_list (K := K) (a := a) (xs := xs) (LcInv p R xs H1 D) (lcInv_0 p R nD) (fun i H hi I => ?_) (fun i x H hx I => lcInv_s p R mono nD hl hw ht he hx I) (fun H I => ?_)
  · obtain ⟨_, _, fr, _⟩ := I
    exact fr.same.seq h1
  · obtain ⟨ys, hD, fr, md⟩ := I
    rw [List.take_length] at md
    exact hd H ys hD fr md
include mono nD hl hw ht he hd in
theorem lc_tupR (h1 : SqT K H1 a xs) : ∃ W : Nat → Nat → Hp → Prop, (∃ m, W 0 m (upd H1 D (.lst []))) ∧ ∀ i m H, W i m H →
      ((Itt K a).stop i H ∧ Qd H) ∨ ((Itt K a).go i H ∧ ∃ Nx : Hp → Prop, (∀ H', Nx H' → ∃ m', m' < m ∧ W (i + 1) m' H') ∧ ∀ x H', (Itt K a).yld i H x H' → LcTurn (gName j) tt te vs σ D H' x Nx) := by
  refine lc_tup (K := K) (a := a) (xs := xs) (LcInv p R xs H1 D) (lcInv_0 p R nD) (fun i H hi I => ?_) (fun i x H hx I => lcInv_s p R mono nD hl hw ht he hx I) (fun H I => ?_)
  · obtain ⟨_, _, fr, _⟩ := I
    exact Same.sq fr.same h1
  · obtain ⟨ys, hD, fr, md⟩ := I
    rw [List.take_length] at md
    exact hd H ys hD fr md
end

/-! ### zip of two lists in a comprehension, a pure element -/
section
variable {K : PySem.W.Frag} {a b : Addr} {xs ys : List V} {te : TE} {vs : List Nat} {σ : L2.St} {H1 : Hp} {D : Addr} {i1 i2 : Nat} {Qd : Hp → Prop}
theorem zip_get {α β : Type} {xs : List α} {ys : List β} {i : Nat} {x : α} {y : β} (hx : xs[i]? = some x) (hy : ys[i]? = some y) : (xs.zip ys)[i]? = some (x, y) := by
  rw [List.getElem?_zip_eq_some]; exact ⟨hx, hy⟩
theorem zip_take_snoc {α β : Type} {xs : List α} {ys : List β} {i : Nat} {x : α} {y : β} (hx : xs[i]? = some x) (hy : ys[i]? = some y) : (xs.zip ys).take (i + 1) = (xs.zip ys).take i ++ [(x, y)] := by
  rw [List.take_add_one, zip_get hx hy]; rfl
theorem lc_zipP (f : V → V → V) (nD : H1 D = none) (hl : xs.length < sizeLine) (sx : SqL K H1 a xs) (sy : SqL K H1 b ys)
    (hw : ∀ x y, wipe (((wipe σ vs).set i1 (some x)).set i2 (some y)) vs = wipe σ vs)
    (he : ∀ x y H Q', (x, y) ∈ xs.zip ys → Fr [] H1 H → (∀ H', Fr [] H H' → Q' (f x y) H') → te (((wipe σ vs).set i1 (some x)).set i2 (some y)) H Q')
    (hd : ∀ H, H D = some (.lst ((xs.zip ys).map fun q => f q.1 q.2)) → Fr [] H1 H → Qd H) :
    ∃ W : Nat → Nat → Hp → Prop, (∃ m, W 0 m (upd H1 D (.lst []))) ∧ ∀ i m H, W i m H →
      ((Itz K a b).stop i H ∧ Qd H) ∨ ((Itz K a b).go i H ∧ ∃ Nx : Hp → Prop, (∀ H', Nx H' → ∃ m', m' < m ∧ W (i + 1) m' H') ∧ ∀ x H', (Itz K a b).yld i H x H' → LcTurn (gTup K 2 (gCons (gName i1) (gCons (gName i2) gNil))) tYes te vs σ D H' x Nx) := by
  let Pv : Nat → Hp → Prop := fun i H => H D = some (.lst (((xs.zip ys).take i).map fun q => f q.1 q.2)) ∧ Fr [] H1 H
  refine ⟨fun i m H => m = (xs.zip ys).length - i ∧ i ≤ (xs.zip ys).length ∧ Pv i H, ⟨_, rfl, Nat.zero_le _, upd_same, Fr.new nD⟩, ?_⟩
  rintro i m H ⟨rfl, hi, hD, fr⟩
  have qx := fr.same.seq sx
  have qy := fr.same.seq sy
  rw [List.length_zip] at hi ⊢
  by_cases hlt : i < xs.length ∧ i < ys.length
  · have hx : xs[i]? = some xs[i] := List.getElem?_eq_getElem hlt.1
    have hy : ys[i]? = some ys[i] := List.getElem?_eq_getElem hlt.2
    refine .inr ⟨⟨xs, ys, _, _, qx, qy, hx, hy⟩, Pv (i + 1), fun H' p' => ⟨min xs.length ys.length - (i + 1), by omega, rfl, by omega, p'⟩, fun v H' yl => ?_⟩
    obtain ⟨T, x', y', rfl, hT, rfl, f1, f2⟩ := yl
    have ex := f1 xs qx
    have ey := f2 ys qy
    refine ⟨T, [x', y'], rfl, SqT.of upd_same, rfl, x', [y'], rfl, y', [], rfl, rfl, hw x' y', ?_⟩
    dsimp only [tYes]
    rw [if_pos rfl]
    have fr1 : Fr [] H (upd H T (.tup [x', y'])) := Fr.new hT
    refine he x' y' _ _ (List.mem_of_getElem? (zip_get ex ey)) (fr.trans fr1) fun H4 fr4 => ?_
    have hD4 := fr4.same _ _ (fr1.same _ _ hD)
    refine ⟨_, hD4, ?_, ?_, Fr.drop ((fr.trans (fr1.trans fr4)).weak.trans (Fr.set (List.mem_singleton.mpr rfl))) nD⟩
    · rw [List.length_map, List.length_take, List.length_zip]; omega
    · rw [zip_take_snoc ex ey, List.map_append]; exact upd_same
  · refine .inl ⟨⟨xs, ys, qx, qy, by omega⟩, hd H ?_ fr⟩
    have e : i = (xs.zip ys).length := by rw [List.length_zip]; omega
    rw [e, List.take_length] at hD
    exact hD
end
end Tk

set_option Elab.async false
set_option linter.all false
set_option maxRecDepth 100000
set_option maxHeartbeats 4000000
namespace Tk
open PySem PySem.Spec PyProof.Rows L2

/-! ### kinds -/
/-- what kind of thing a value is -/
inductive Kd (H : Hp) : V → String → Prop where
  | non : Kd H .non "NoneType"
  | bl (b : Bool) : Kd H (.bl b) "bool"
  | int (i : Int) : Kd H (.int i) "int"
  | str (x : Str) : Kd H (.str x) "str"
  | lst {a : Addr} {xs : List V} (e : H a = some (.lst xs)) : Kd H (.ref a) "list"
  | tup {a : Addr} {xs : List V} (e : H a = some (.tup xs)) : Kd H (.ref a) "tuple"
  | dK {a : Addr} {kvs : List (Key × V)} (e : H a = some (.dK kvs)) : Kd H (.ref a) "dict"
section
variable {K : PySem.W.Frag} {H H' : Hp} {x : V} {t : String}
theorem Kd.same (e : Same H H') (k : Kd H x t) : Kd H' x t := by
  cases k with
  | non => exact .non
  | bl b => exact .bl b
  | int i => exact .int i
  | str y => exact .str y
  | lst h => exact .lst (e _ _ h)
  | tup h => exact .tup (e _ _ h)
  | dK h => exact .dK (e _ _ h)
theorem Kd.ty (k : Kd H x t) : TyX K H x (.type t) := by
  cases k with
  | non => exact .base .non
  | bl b => exact .base (.bl b)
  | int i => exact .base (.int i)
  | str y => exact .base (.str y)
  | lst h => exact .base (.lst h)
  | tup h => exact .base (.tup h)
  | dK h => exact .base (.dK h)
def isIntV : V → Bool | .int _ => true | .bl _ => true | _ => false
def isBlV : V → Bool | .bl _ => true | _ => false
def isStrV : V → Bool | .str _ => true | _ => false
theorem Kd.int' (k : Kd H x t) : PySem.W.kitOne K (.type t) (.type "int") = some (isIntV x) := by
  cases k <;> (refine kit_ty ?_; first | (show kitB _ _ = some true; decide +kernel) | (show kitB _ _ = some false; decide +kernel))
theorem Kd.bool' (k : Kd H x t) : PySem.W.kitOne K (.type t) (.type "bool") = some (isBlV x) := by
  cases k <;> (refine kit_ty ?_; first | (show kitB _ _ = some true; decide +kernel) | (show kitB _ _ = some false; decide +kernel))
theorem Kd.str' (k : Kd H x t) : PySem.W.kitOne K (.type t) (.type "str") = some (isStrV x) := by
  cases k <;> (refine kit_ty ?_; first | (show kitB _ _ = some true; decide +kernel) | (show kitB _ _ = some false; decide +kernel))
theorem Kd.list' (k : Kd H x t) : PySem.W.kitOne K (.type t) (.type "list") = some (decide (t = "list")) := by
  cases k <;> (refine kit_ty ?_; first | (show kitB _ _ = some true; decide +kernel) | (show kitB _ _ = some false; decide +kernel))
theorem Kd.tuple' (k : Kd H x t) : PySem.W.kitOne K (.type t) (.type "tuple") = some (decide (t = "tuple")) := by
  cases k <;> (refine kit_ty ?_; first | (show kitB _ _ = some true; decide +kernel) | (show kitB _ _ = some false; decide +kernel))
end
/-- isinstance(x, T), T one of the five -/
inductive IsA (H : Hp) (x : V) (t : String) : String → Bool → Prop where
  | int : IsA H x t "int" (isIntV x)
  | bool : IsA H x t "bool" (isBlV x)
  | str : IsA H x t "str" (isStrV x)
  | list : IsA H x t "list" (decide (t = "list"))
  | tuple : IsA H x t "tuple" (decide (t = "tuple"))
def rIs : List V → Hp → VK → Prop := fun vs H Q => ∃ x t T b, vs = [x, .ty T] ∧ Kd H x t ∧ IsA H x t T b ∧ Q (.bl b) H
theorem call_is {X : Cx} : CallR X (.builtin "isinstance") rIs := by
  rintro pins s σ H xs us Q I r ⟨x, t, T, b, rfl, k, i, q⟩
  refine call_isi pins s σ H [x, .ty T] us Q I r ⟨x, .ty T, .type t, .type T, b, rfl, .ty T, k.ty, ?_, q⟩
  cases i
  · exact k.int'
  · exact k.bool'
  · exact k.str'
  · exact k.list'
  · exact k.tuple'
/-- isinstance(e, T) -/
theorem pe_is {X : Cx} {e : Expr} {te : TE} {T : Str} {n : String} {p p2 pos : Pos} (G : NoGl X.mg) (hT : X.mg T = none) (he : PE X e te) (hg : Gl X "isinstance" := by rfl) (hg2 : Gl X T := by rfl)
    (hb : bootBuiltins T = some (.type n) := by decide +kernel) (hn : T ≠ "__name__" := by decide) (hd : (T == ("__debug__" : Str)) = false := by decide)
    (h1 : starEach [e, .Name T p2] X.env = (false, eval e X.env) :: starEach [.Name T p2] X.env := by rfl) (h2 : starEach [.Name T p2] X.env = (false, eval (.Name T p2) X.env) :: starEach [] X.env := by rfl)
    (h3 : (backTo pos (starEach [.Name T p2] X.env)).any (·.1) = false := by rfl) :
    PE X (.Call (.Name "isinstance" p) [e, .Name T p2] [] pos) (tCB rIs (tCons te (tCons (tC (.ty n)) tNil))) :=
  pe_callB call_is hg G.isinstance (by decide +kernel) (pa_cons he (pa_cons (pe_bltn hg2 hT hb rfl hn hd) pa_nil h2) h1) (by decide) (by decide) h1 h3

/-! ### is_whole, is_cycles -/
def wholeV : V → V → Bool
  | .int i, .int n => decide (n ≤ i)
  | .int _, .non => true
  | _, _ => false
section
variable {P : Program} {w : World} {K : PySem.W.Frag} {mg : Str → Option Value} {base : Heap}
def spWhole : Sp := fun vs H Q _ => ∃ (x l : V) (t : String), vs = [x, l] ∧ Kd H x t ∧ (l = .non ∨ ∃ n, l = .int n) ∧ Q (.bl (wholeV x l)) H
theorem sc_whole : FnScope ["thing", "least"] ["thing", "least"] (defScope s_is_whole) := ⟨rfl, rfl, rfl, by decide +kernel, rfl, by decide +kernel, by decide +kernel⟩
theorem fn_whole {f : Addr} {fd : FuncData} (F : FunD K "is_whole" "is_whole" (defArgs s_is_whole) (defBody s_is_whole) (defScope s_is_whole) [.non] [] f fd) (G : NoGl mg) : FnOk P w K mg base CX0 1 f fd ["thing", "least"] spWhole := by
  refine F.ok sc_whole (by rintro _ _ _ _ ⟨_, _, _, rfl, _⟩; rfl) ?_
  rintro cdv A outer s H vs Q E hr ⟨x, l, t, rfl, k, hl, q⟩
  refine ⟨_, PSs.nox (pss_one (ps_ret (pe_and (pe_is (n := "int") G G.int (pv 0)) (pe_and (pe_not (pe_is (n := "bool") G G.bool (pv 0))) (pe_one (pe_or (pe_cmp (pc_isN (pv 1)) rfl) (pe_one (pe_cmp (pc_ge (pv 0) (pv 1)) rfl)))))))), ?_⟩
  refine ⟨_, rfl, x, t, "int", _, rfl, k, .int, _, rfl, ?_⟩
  cases x with
  | int i =>
    refine ⟨_, rfl, _, t, "bool", _, rfl, k, .bool, _, rfl, _, rfl, _, rfl, ?_⟩
    rcases hl with rfl | ⟨n, rfl⟩
    · exact ⟨_, rfl, q⟩
    · exact ⟨_, rfl, _, rfl, _, rfl, _, _, rfl, rfl, q⟩
  | bl b => exact ⟨_, rfl, _, t, "bool", _, rfl, k, .bool, _, rfl, _, rfl, q⟩
  | _ => exact q
theorem ok_whole (F : DefAt K mg "is_whole" s_is_whole [.non]) (G : NoGl mg) : Cal P w K mg base CX0 1 "is_whole" ["thing", "least"] [] spWhole := by
  obtain ⟨f, fd, hm, F⟩ := F.ex
  obtain ⟨ds, hv, hb⟩ := F.binds1 (ps := ["thing", "least"]) 2 1 (by simp) rfl fun T kV doc pm an cdv ct us its h1 h2 => match us, its, h1, h2 with | [_, _], [_], _, _ => ⟨_, rfl, rfl⟩
  exact ⟨f, fd, ds, hm, F.kp, fn_whole F G, hb, hv⟩
theorem ok_whole1 (F : DefAt K mg "is_whole" s_is_whole [.non]) (G : NoGl mg) : Cal P w K mg base CX0 1 "is_whole" ["thing", "least"] [.non] spWhole := by
  obtain ⟨f, fd, hm, F⟩ := F.ex
  obtain ⟨ds, hv, hb⟩ := F.binds1 (ps := ["thing", "least"]) 1 0 (by simp) rfl fun T kV doc pm an cdv ct us its h1 h2 => match us, its, h1, h2 with | [_], [_], _, _ => ⟨_, rfl, rfl⟩
  exact ⟨f, fd, ds, hm, F.kp, fn_whole F G, hb, hv⟩
end
end Tk

set_option Elab.async false
set_option linter.all false
set_option maxRecDepth 100000
set_option maxHeartbeats 4000000
namespace Tk
open PySem PySem.Spec PyProof.Rows L2

theorem cut_from (xs : List V) (k : Nat) : cutV xs (some (k : Int)) none = xs.drop k := by
  unfold cutV
  rw [HT.sIx_nat, HT.sIx_none]
  by_cases h : k ≤ xs.length
  · rw [Nat.min_eq_left h]
    exact List.take_of_length_le (by rw [List.length_drop]; omega)
  · rw [Nat.min_eq_right (by omega), List.drop_eq_nil_of_le (Nat.le_refl _), List.drop_eq_nil_of_le (by omega), List.take_nil]

/-- x <= y of ints -/
def leV : V → V → Bool
  | .int i, .int j => decide (i ≤ j)
  | _, _ => false
def cyclesL (n : Int) (xs : List V) : Bool := xs.all (fun x => wholeV x (.int n)) && (xs.zip (xs.drop 1)).all (fun q => leV q.1 q.2)
theorem whole_int {x : V} {n : Int} (h : wholeV x (.int n) = true) : ∃ i, x = .int i := by
  cases x with
  | int i => exact ⟨i, rfl⟩
  | _ => cases h
theorem map_bl {α : Type} (xs : List α) (f : α → Bool) : (xs.map fun x => V.bl (f x)) = (xs.map f).map V.bl := by rw [List.map_map]; rfl
theorem all_map {α : Type} (xs : List α) (f : α → Bool) : (xs.map f).all id = xs.all f := by rw [List.all_map]; rfl
section
variable {P : Program} {w : World} {K : PySem.W.Frag} {mg : Str → Option Value} {base : Heap}
def spCycles : Sp := fun vs H Q _ => ∃ (x : V) (n : Int) (t : String), vs = [x, .int n] ∧ Kd H x t ∧
  ((t ≠ "list" ∧ ∀ H', Fr [] H H' → Q (.bl false) H') ∨
   ∃ a xs, x = .ref a ∧ H a = some (.lst xs) ∧ (∀ y, y ∈ xs → ∃ u, Kd H y u) ∧ xs.length < sizeLine ∧ ∀ H', Fr [] H H' → Q (.bl (cyclesL n xs)) H')
theorem sc_cycles : FnScope ["thing", "least", "one", "other"] ["thing", "least"] (defScope s_is_cycles) := ⟨rfl, rfl, rfl, by decide +kernel, rfl, by decide +kernel, by decide +kernel⟩
theorem fn_cycles {f : Addr} {fd : FuncData} (F : FunD K "is_cycles" "is_cycles" (defArgs s_is_cycles) (defBody s_is_cycles) (defScope s_is_cycles) [.int 0] [] f fd) (G : NoGl mg)
    (Cw : Cal P w K mg base CX0 1 "is_whole" ["thing", "least"] [] spWhole) : FnOk P w K mg base CX0 2 f fd ["thing", "least"] spCycles := by
  refine F.ok sc_cycles (by rintro _ _ _ _ ⟨_, _, _, rfl, _⟩; rfl) ?_
  rintro cdv A outer s H vs Q E hr ⟨x, n, t, rfl, k, h⟩
  have nd := sc_cycles.nd
  refine ⟨_, PSs.nox (pss_cons (ps_if (PW.pt (pw_or (pt_not (pt_val (pe_is (n := "list") G G.list (pv 0)))) (pw_or1 (pt_not (pt_val (pe_callB (cr_all rfl) (by rfl) G.all (by decide +kernel) (pa_cons
      (pe_lc (own := [("one", 2)]) (g := gName 2) (tt := tYes) rfl nd (pi_list (pv 0)) (blkOk_by (own := [("one", 2)]) (N := ["thing", "least", "one", "other"]) (sc := defScope s_is_cycles) (by decide +kernel))
        (fun _ _ _ _ _ => pg_name (i := 2) nd rfl (Or.inl rfl)) (fun _ _ _ _ _ => pts_nil) (fun _ _ _ _ _ => pe_c Cw hr (by rfl) pass0 (pa_cons (pv 2) (pa_cons (pv 1) pa_nil)))) pa_nil)))))))
      (pss_one (ps_ret pe_bl)) pss_nil)
    (pss_one (ps_ret (pe_callB (cr_all rfl) (by rfl) G.all (by decide +kernel) (pa_cons
      (pe_lc (own := [("one", 2), ("other", 3)]) (g := gTup K 2 (gCons (gName 2) (gCons (gName 3) gNil))) (tt := tYes) rfl nd (pi_zip (by rfl) G.zip (pa_cons (pv 0) (pa_cons (pe_slice sl_list (pv 0) (po_some pe_int) po_none) pa_nil)))
        (blkOk_by (own := [("one", 2), ("other", 3)]) (N := ["thing", "least", "one", "other"]) (sc := defScope s_is_cycles) (by decide +kernel))
        (fun _ _ _ _ _ => pg_tup rfl (pgs_cons (pg_name (i := 2) nd rfl (Or.inl rfl) (Or.inr rfl)) (pgs_cons (pg_name (i := 3) nd rfl (Or.inl rfl) (Or.inr rfl)) pgs_nil))) (fun _ _ _ _ _ => pts_nil)
        (fun _ _ _ _ _ => pe_cmp (pc_le (pv 2) (pv 3)) rfl)) pa_nil))))), ?_⟩
  refine ⟨_, rfl, x, t, "list", _, rfl, k, .list, _, rfl, ?_⟩
  rcases h with ⟨ht, q⟩ | ⟨a, xs, rfl, ha, hk, hl, q⟩
  · rw [decide_eq_false ht]
    exact q H (Fr.refl _ _)
  · have ht : t = "list" := by
      cases k with
      | lst e => rfl
      | tup e => cases ha.symm.trans e
      | dK e => cases ha.symm.trans e
    subst ht
    refine ⟨_, rfl, a, rfl, ⟨xs, SqL.of ha⟩, fun D hD => ?_⟩
    refine lc_listR (K := K) (fun _ => true) (fun x y _ => y = .bl (wholeV x (.int n))) (fun _ _ _ _ _ h => h) hD hl (fun _ => rfl) (fun x H' Q' _ _ _ h => h H' (Fr.refl _ _)) ?_ ?_ (SqL.of ha)
    · intro x H' Q' hx _ fr _ hq
      obtain ⟨u, ku⟩ := hk x hx
      exact ⟨_, rfl, _, rfl, x, .int n, u, rfl, ku.same fr.same, .inr ⟨n, rfl⟩, hq _ _ (Fr.refl _ _) rfl⟩
    · intro H2 ys hD2 fr2 md
      have e : ys = (xs.map fun x => wholeV x (.int n)).map V.bl := by
        have e := md.pure (f := fun x => V.bl (wholeV x (.int n))) (fun _ _ _ h => h)
        rw [List.filter_eq_self.mpr (fun _ _ => rfl), map_bl] at e
        exact e
      subst e
      refine ⟨D, _, rfl, SqL.of hD2, _, rfl, ?_⟩
      rw [all_map]
      have ha2 := fr2.same _ _ ha
      refine ite2 (fun c => ?_) (fun c => ?_)
      · have c : xs.all (fun x => wholeV x (.int n)) = false := by simpa using c
        have z : cyclesL n xs = false := by unfold cyclesL; rw [c]; rfl
        have q := q H2 fr2
        rw [z] at q; exact q
      · have c : xs.all (fun x => wholeV x (.int n)) = true := by simpa using c
        refine ⟨_, rfl, _, rfl, _, rfl, a, xs, rfl, SqL.of ha2, fun p hp => ?_⟩
        have ep : cutV xs (some 1) none = xs.drop 1 := cut_from xs 1
        rw [ep]
        have fr3 : Fr [] H2 (upd H2 p (.lst (xs.drop 1))) := Fr.new hp
        refine ⟨a, p, xs, xs.drop 1, rfl, SqL.of (fr3.same _ _ ha2), SqL.of upd_same, fun D2 hD2 => ?_⟩
        refine lc_zipP (K := K) (fun x y => .bl (leV x y)) hD2 hl (SqL.of (fr3.same _ _ ha2)) (SqL.of upd_same) (fun _ _ => rfl) ?_ ?_
        · intro x y H' Q' hm fr hq
          have hx : x ∈ xs := (List.of_mem_zip hm).1
          have hy : y ∈ xs := List.mem_of_mem_drop (List.of_mem_zip hm).2
          obtain ⟨i, rfl⟩ := whole_int (List.all_eq_true.mp c x hx)
          obtain ⟨j, rfl⟩ := whole_int (List.all_eq_true.mp c y hy)
          exact ⟨_, rfl, _, rfl, i, j, rfl, rfl, hq _ (Fr.refl _ _)⟩
        · intro H4 hD4 fr4
          rw [map_bl (xs.zip (xs.drop 1)) (fun q => leV q.1 q.2)] at hD4
          refine ⟨D2, _, rfl, SqL.of hD4, ?_⟩
          rw [all_map]
          have z : cyclesL n xs = (xs.zip (xs.drop 1)).all (fun q => leV q.1 q.2) := by unfold cyclesL; rw [c]; rfl
          have q := q H4 (fr2.trans (fr3.trans fr4))
          rw [z] at q; exact q
theorem ok_cycles (F : DefAt K mg "is_cycles" s_is_cycles [.int 0]) (G : NoGl mg) (Cw : Cal P w K mg base CX0 1 "is_whole" ["thing", "least"] [] spWhole) : Cal P w K mg base CX0 2 "is_cycles" ["thing", "least"] [.int 0] spCycles := by
  obtain ⟨f, fd, hm, F⟩ := F.ex
  obtain ⟨ds, hv, hb⟩ := F.binds1 (ps := ["thing", "least"]) 1 0 (by simp) rfl fun T kV doc pm an cdv ct us its h1 h2 => match us, its, h1, h2 with | [_], [_], _, _ => ⟨_, rfl, rfl⟩
  exact ⟨f, fd, ds, hm, F.kp, fn_cycles F G Cw, hb, hv⟩
end
end Tk

set_option Elab.async false
set_option linter.all false
set_option maxRecDepth 100000
set_option maxHeartbeats 4000000
namespace Tk
open PySem PySem.Spec PyProof.Rows L2

/-! ### a table of the module: texts to ints, asked by .get -/
def EntsAre (P : Params) : List DictEntry → List (Str × Int) → Prop
  | [], [] => True
  | e :: es, q :: qs => ((∃ t, e.key = .str q.1 t) ∧ e.hash = PyData.keyHash P q.1 ∧ ∃ t, e.val = .int q.2 t) ∧ EntsAre P es qs
  | _, _ => False
structure KTab (K : PySem.W.Frag) (w : World) (d : Addr) (tab : List (Str × Int)) : Prop where
  at_ : ∃ es n, K.lookup d = some ⟨.type "dict", none, .dict es n, #[]⟩ ∧ EntsAre w.params es.toList tab
  low : (d == sysModules) = false
theorem EntsAre.lit {P : Params} : ∀ {es : List DictEntry} {tab : List (Str × Int)}, EntsAre P es tab → PySem.W.KeysLit P es
  | [], [], _ => trivial
  | e :: es, q :: qs, ⟨⟨⟨t, h1⟩, h2, _⟩, r⟩ => ⟨⟨q.1, t, h1, h2⟩, EntsAre.lit r⟩
  | [], _ :: _, h => h.elim
  | _ :: _, [], h => h.elim
theorem EntsAre.find {P : Params} (z : Str) : ∀ {es : List DictEntry} {tab : List (Str × Int)}, EntsAre P es tab →
    (match tab.lookup z with
    | some i => ∃ t, (es.find? fun e => Value.isStrOf z e.key).map (·.val) = some (Value.int i t)
    | none => (es.find? fun e => Value.isStrOf z e.key).map (·.val) = none)
  | [], [], _ => rfl
  | e :: es, q :: qs, ⟨⟨⟨t, h1⟩, h2, t', h3⟩, r⟩ => by
    have ih := EntsAre.find z r
    rw [List.find?_cons, List.lookup_cons]
    by_cases h : z = q.1
    · have e1 : (z == q.1) = true := beq_iff_eq.mpr h
      have e2 : Value.isStrOf z e.key = true := by rw [h1, h]; simp [Value.isStrOf]
      rw [e1, e2]
      exact ⟨t', by rw [Option.map_some, h3]⟩
    · have e1 : (z == q.1) = false := beq_eq_false_iff_ne.mpr h
      have e2 : Value.isStrOf z e.key = false := by
        rw [h1]
        cases hb : Value.isStrOf z (.str q.1 t) with
        | false => rfl
        | true =>
          obtain ⟨t2, e3⟩ := Value.isStrOf_shape (x := z) (v := .str q.1 t) hb
          injection e3 with e4 _
          exact absurd e4.symm h
      rw [e1, e2]
      exact ih
  | [], _ :: _, h => h.elim
  | _ :: _, [], h => h.elim
def ofOpt (y : V) : Option Int → V
  | some i => .int i
  | none => y
section
variable {X : Cx} {d : Addr} {tab : List (Str × Int)}
theorem ktab_map {pins : List (Addr × Obj)} {σ : L2.St} {H : Hp} {s : Shared} (D : KTab X.K X.w d tab) (I : Inv X pins σ H s) :
    ∃ f, s.heap.MapOf (strKind X.prog X.w) d f ∧ (∀ z, match tab.lookup z with | some i => ∃ t, f z = some (Value.int i t) | none => f z = none) ∧ s.TypeIs (.ref d) "dict" ∧
      (∀ a, Value.ref d = .ref a → ∃ ob, s.heap.get? a = some ob ∧ ob.dict = none) := by
  obtain ⟨es, n, hl, he⟩ := D.at_
  have m := PySem.W.mapOf_K (prog := X.prog) (w := X.w) I.kIn hl he.lit
  refine ⟨_, m, fun z => ?_, m.typeIs, fun a e => ?_⟩
  · have q := he.find z
    obtain ⟨l⟩ := es
    simp only [findBy, List.find?_toArray]
    exact q
  · cases e
    exact ⟨_, I.kIn _ _ hl, rfl⟩
def rKGet (d : Addr) (tab : List (Str × Int)) : List V → Hp → VK → Prop := fun vs H Q => ∃ z, (vs = [.str z] ∧ Q (ofOpt .non (tab.lookup z)) H) ∨ ∃ y, vs = [.str z, y] ∧ Q (ofOpt y (tab.lookup z)) H
def tKGet (d : Addr) (tab : List (Str × Int)) (t : TA) : TE := fun σ H Q => t σ H fun vs H1 => rKGet d tab vs H1 Q
theorem pe_kget {x : Str} {u : Value} {e : Expr} {es : List Expr} {t : TA} {p apos cpos : Pos} (D : KTab X.K X.w d tab) (hm : X.mg x = some (.ref d)) (ha : PA X (e :: es) t) (hg : Gl X x := by rfl)
    (hd : (x == ("__debug__" : Str)) = false := by decide)
    (hbase : attributeBase (.Name x p) "get" X.env (eval (.Name x p) X.env) = eval (.Name x p) X.env := by rfl)
    (hfew : ((backTo cpos (starEach (e :: es) X.env)).all (fun x => !x.1) && (backToKw cpos (keywordEach [] X.env)).all (fun x => x.1.isSome)
      && decide ((e :: es).length + ([] : List Keyword).length + (if ([] : List Keyword).isEmpty then 0 else 1) < 30)) = true := by rfl)
    (hline : (apos.endLine == cpos.line) = true := by rfl) (hs : starEach (e :: es) X.env = (false, eval e X.env) :: starEach es X.env := by rfl) (hplain : (backTo cpos (starEach es X.env)).any (·.1) = false := by rfl) :
    PE X (.Call (.Attribute (.Name x p) "get" apos) (e :: es) [] cpos) (tKGet d tab t) := by
  constructor
  intro pins s σ H Q I h
  refine wpAny_Call_method_late hbase hfew hline rfl (thn ((pe_glob (v := .ref d) hg hm rfl hd).run pins s σ H (fun v H1 => v = .ref d ∧ H1 = H) I ⟨rfl, rfl⟩) ?_)
  rintro v s1 ⟨y, H1, I1, r1, rfl, rfl⟩
  obtain rfl : v = Value.ref d := r1
  obtain ⟨f, m, hf, h1, h2⟩ := ktab_map D I1
  refine ⟨"dict", "dict.get", PySem.F.plainAttrs_dict, PySem.F.slot_dict_get, PySem.F.type_dict_get, h1, h2, ?_⟩
  have hA := ha.run cpos pins s1 σ H1 _ I1 h
  rw [hs] at hA ⊢
  refine Calls.callWith_builtin (by show (false || (backTo cpos (starEach es X.env)).any (·.1)) = false; rw [hplain]; rfl) (Calls.evalArgs_plain ?_)
  refine thn hA ?_
  rintro us s2 ⟨vs, H2, I2, r2, z, q⟩
  obtain ⟨f, m, hf, h1, h2⟩ := ktab_map D I2
  have hz := hf z
  rcases q with ⟨rfl, q⟩ | ⟨y, rfl, q⟩
  · obtain ⟨u1, rfl, t1, rfl⟩ := Vals.one r2
    refine call_meetsIn PySem.F.slot_dict_get h1 PySem.F.entry_dict_get (PySem.F.args_dict_get_2 _ _) (meets_dict_get (strKind X.prog X.w) d (strKind_is X.prog X.w z t1) D.low) ⟨f, m, _, _, I2.tok _, ?_, q⟩
    cases e : tab.lookup z with
    | none => rw [e] at hz; rw [hz]; rfl
    | some i => rw [e] at hz; obtain ⟨t, hz⟩ := hz; rw [hz]; exact ⟨t, rfl⟩
  · obtain ⟨u1, u2, rfl, ⟨t1, rfl⟩, ry⟩ := Vals.two r2
    refine call_meetsIn PySem.F.slot_dict_get h1 PySem.F.entry_dict_get (PySem.F.args_dict_get_3 _ _ _) (meets_dict_get_default (strKind X.prog X.w) d (strKind_is X.prog X.w z t1) D.low u2) ⟨f, m, _, _, I2.tok _, ?_, q⟩
    cases e : tab.lookup z with
    | none => rw [e] at hz; rw [hz]; exact ry
    | some i => rw [e] at hz; obtain ⟨t, hz⟩ := hz; rw [hz]; exact ⟨t, rfl⟩
end
end Tk

set_option Elab.async false
set_option linter.all false
set_option maxRecDepth 100000
set_option maxHeartbeats 4000000
namespace Tk
open PySem PySem.Spec PyProof.Rows L2

/-! ### compared with the empty list, the empty tuple: whatever the items are -/
theorem vals_size {xs : List V} {its : List Value} (r : Vals xs its) : its.toArray.size = xs.length := by rw [List.size_toArray, r.length]
section
variable {X : Cx}
def rNil (sq : PySem.W.Frag → Hp → Addr → List V → Prop) (K : PySem.W.Frag) (neg : Bool) : R2 := fun x y H Q =>
  ∃ a b xs, x = .ref a ∧ y = .ref b ∧ sq K H a xs ∧ sq K H b [] ∧ Q (.bl (if neg then !xs.isEmpty else xs.isEmpty)) H
theorem op_eqNilL (hu : X.A.units < cLine) : OpR X (compareOp .Eq) (rNil SqL X.K false) := by
  rintro pins s σ H x y v u Q I rx ry ⟨a, b, xs, rfl, rfl, ha, hb, q⟩
  obtain rfl : v = Value.ref a := rx
  obtain rfl : u = Value.ref b := ry
  obtain ⟨its, r1, p1, _⟩ := I.list ha
  obtain ⟨its2, r2, p2, _⟩ := I.list hb
  cases r2
  have z1 := vals_size r1
  cases xs with
  | nil =>
    refine SeqAt.eq_listAt (e := fun _ => true) p1.isList p2.isList z1 hu (fun j h1 h2 => absurd h2 (by simp)) ?_
    exact ⟨.bl true, H, I, by simp [z1, L2.RelV], q⟩
  | cons x xs =>
    exact SeqAt.eq_list_lengthsAt p1.isList p2.isList (by rw [z1]; rfl) hu ⟨.bl false, H, I, rfl, q⟩
theorem op_neNilL (hu : X.A.units < cLine) : OpR X (compareOp .NotEq) (rNil SqL X.K true) := by
  rintro pins s σ H x y v u Q I rx ry ⟨a, b, xs, rfl, rfl, ha, hb, q⟩
  obtain rfl : v = Value.ref a := rx
  obtain rfl : u = Value.ref b := ry
  obtain ⟨its, r1, p1, _⟩ := I.list ha
  obtain ⟨its2, r2, p2, _⟩ := I.list hb
  cases r2
  have z1 := vals_size r1
  cases xs with
  | nil =>
    refine SeqAt.RcNeAt.lists (e := fun _ => true) p1.isList p2.isList z1 hu (fun j h1 h2 => absurd h2 (by simp)) _ _ _ _ ?_
    exact ⟨.bl false, H, I, by simp [z1, L2.RelV], q⟩
  | cons x xs =>
    exact SeqAt.RcNeAt.lists_lengths p1.isList p2.isList (by rw [z1]; rfl) hu _ _ _ _ ⟨.bl true, H, I, rfl, q⟩
theorem op_eqNilT (hu : X.A.units < cLine) : OpR X (compareOp .Eq) (rNil SqT X.K false) := by
  rintro pins s σ H x y v u Q I rx ry ⟨a, b, xs, rfl, rfl, ha, hb, q⟩
  obtain rfl : v = Value.ref a := rx
  obtain rfl : u = Value.ref b := ry
  obtain ⟨its, r1, p1, _⟩ := I.tuple ha
  obtain ⟨its2, r2, p2, _⟩ := I.tuple hb
  cases r2
  have z1 := vals_size r1
  refine SeqAt.eq_tupleAt (e := fun _ => true) p1 p2 hu (fun j h1 h2 => absurd h2 (by simp)) ?_
  refine ⟨.bl xs.isEmpty, H, I, ?_, q⟩
  have e : ((List.range (min its.toArray.size (#[] : Array Value).size)).all (fun _ => true) && its.toArray.size == (#[] : Array Value).size) = xs.isEmpty := by
    rw [z1]
    cases xs <;> simp
  exact congrArg Value.bool e
end
end Tk

set_option Elab.async false
set_option linter.all false
set_option maxRecDepth 100000
set_option maxHeartbeats 4000000
namespace Tk
open PySem PySem.Spec PyProof.Rows L2

/-! ### rows -/
def tabA : List (Str × Int) := [("look", 2), ("read", 3), ("set_rate", 3), ("set_real", 3), ("slew", 4), ("stop", 3), ("go", 2), ("put", 7),
  ("drop", 3)]
def tabB : List (Str × Int) := [("expired", 3), ("take", 2), ("put_tick", 4), ("hand_over", 4), ("process", 2), ("thread", 3), ("run", 5),
  ("join", 4)]
def tabC : List (Str × Int) := [("leave", 3), ("sleep", 4), ("limit", 4), ("waiting", 3), ("running", 3), ("sampled", 3)]
def sizeV (z : Str) : V := ofOpt (ofOpt (ofOpt .non (tabC.lookup z)) (tabB.lookup z)) (tabA.lookup z)
structure Tabs (K : PySem.W.Frag) (w : World) (mg : Str → Option Value) : Prop where
  ex : ∃ a b c, mg "SIZES" = some (.ref a) ∧ mg "MORE_SIZES" = some (.ref b) ∧ mg "LAST_SIZES" = some (.ref c) ∧ KTab K w a tabA ∧ KTab K w b tabB ∧ KTab K w c tabC
section
variable {P : Program} {w : World} {K : PySem.W.Frag} {mg : Str → Option Value} {base : Heap}
def spSizeOf : Sp := fun vs H Q _ => ∃ z, vs = [.str z] ∧ Q (sizeV z) H
theorem sc_sizeOf : FnScope ["name"] ["name"] (defScope s_size_of) := ⟨rfl, rfl, rfl, by decide +kernel, rfl, by decide +kernel, by decide +kernel⟩
theorem ok_sizeOf (F : FunAt K mg "size_of" s_size_of) (T : Tabs K w mg) : Cal P w K mg base CX0 1 "size_of" ["name"] [] spSizeOf := by
  refine Cal.mk0 F sc_sizeOf (by rintro _ _ _ _ ⟨_, rfl, _⟩; rfl) (fun _ _ _ _ _ _ us hl => match us, hl with | [_], _ => rfl) ?_
  rintro f cdv A outer s H vs Q E hr ⟨z, rfl, q⟩
  obtain ⟨a, b, c, ma, mb, mc, Ta, Tb, Tc⟩ := T.ex
  refine ⟨_, pss_one (ps_ret (pe_kget (u := .none) Ta ma (pa_cons (pv 0) (pa_cons (pe_kget (u := .none) Tb mb (pa_cons (pv 0) (pa_cons (pe_kget (u := .none) Tc mc (pa_cons (pv 0) pa_nil)) pa_nil))) pa_nil)))), ?_⟩
  exact ⟨_, rfl, _, rfl, _, rfl, z, .inl ⟨rfl, z, .inr ⟨_, rfl, z, .inr ⟨_, rfl, q⟩⟩⟩⟩

/-- is what stands in a tuple a row -/
def isRowL : List V → Bool
  | .str z :: r => decide (V.int ((r.length + 1 : Nat) : Int) = sizeV z)
  | _ => false
theorem size_scal (n : Int) (z : Str) : scal (.int n) (sizeV z) = true := by
  unfold sizeV
  cases tabA.lookup z with
  | some i => rfl
  | none =>
    cases tabB.lookup z with
    | some i => rfl
    | none =>
      cases tabC.lookup z with
      | some i => rfl
      | none => rfl
/-- is x a row: what is_row tells of it -/
inductive RowIs (H : Hp) (x : V) : Bool → Prop where
  | no {t : String} (k : Kd H x t) (h : t ≠ "tuple") : RowIs H x false
  | tup {a : Addr} {xs : List V} (e : x = .ref a) (h : H a = some (.tup xs)) (k : ∀ y, xs[0]? = some y → ∃ t, Kd H y t) (z : xs.length < 2 ^ 62) : RowIs H x (isRowL xs)
theorem RowIs.same {H H' : Hp} {x : V} {b : Bool} (e : Same H H') (r : RowIs H x b) : RowIs H' x b := by
  cases r with
  | no k h => exact .no (k.same e) h
  | tup e1 h k z => exact .tup e1 (e _ _ h) (fun y hy => let ⟨t, kt⟩ := k y hy; ⟨t, kt.same e⟩) z
def spIsRow : Sp := fun vs H Q _ => ∃ x b, vs = [x] ∧ RowIs H x b ∧ ∀ H', Fr [] H H' → Q (.bl b) H'
theorem sc_isRow : FnScope ["thing"] ["thing"] (defScope s_is_row) := ⟨rfl, rfl, rfl, by decide +kernel, rfl, by decide +kernel, by decide +kernel⟩
theorem ok_isRow (F : FunAt K mg "is_row" s_is_row) (G : NoGl mg) (Cs : Cal P w K mg base CX0 1 "size_of" ["name"] [] spSizeOf) : Cal P w K mg base CX0 2 "is_row" ["thing"] [] spIsRow := by
  refine Cal.mk0 F sc_isRow (by rintro _ _ _ _ ⟨_, _, rfl, _⟩; rfl) (fun _ _ _ _ _ _ us hl => match us, hl with | [_], _ => rfl) ?_
  rintro f cdv A outer s H vs Q E hr ⟨x, b, rfl, r, q⟩
  refine ⟨_, pss_cons (ps_if (PW.pt (pw_or (pt_not (pt_val (pe_is (n := "tuple") G G.tuple (pv 0)))) (pw_or (pt_cmpR (op_eqNilT hr.units0) (pv 0) (pe_tup pa_nil) (nomark _))
      (pw_or1 (pt_not (pt_val (pe_is (n := "str") G G.str (pe_ix ix_tup (pv 0) pe_int (fun _ _ => rfl))))))))) (pss_one (ps_ret pe_bl)) pss_nil)
    (pss_one (ps_ret (pe_cmpR op_eq (pe_callB call_len_seq (by rfl) G.len PySem.boot_len (pa_cons (pv 0) pa_nil)) (pe_c Cs hr (by rfl) pass0 (pa_cons (pe_ix ix_tup (pv 0) pe_int (fun _ _ => rfl)) pa_nil)) (nomark _)))), ?_⟩
  cases r with
  | @no t k h =>
    refine ⟨_, rfl, x, t, "tuple", _, rfl, k, .tuple, _, rfl, ?_⟩
    rw [decide_eq_false h]
    exact q H (Fr.refl _ _)
  | @tup a xs e h k z =>
    subst e
    refine ⟨_, rfl, _, _, "tuple", _, rfl, .tup h, .tuple, _, rfl, ?_⟩
    refine ⟨_, rfl, (by show 0 ≤ sizeLine; decide), fun p hp => ?_⟩
    have fr : Fr [] H (upd H p (.tup [])) := Fr.new hp
    have h1 := fr.same _ _ h
    refine ⟨a, p, xs, rfl, rfl, SqT.of h1, SqT.of upd_same, _, rfl, ?_⟩
    cases xs with
    | nil => exact q _ fr
    | cons y r =>
      obtain ⟨t, ky⟩ := k y rfl
      refine ⟨_, rfl, a, _, _, y, rfl, rfl, SqT.of h1, atI_nat (j := 0) rfl, y, t, "str", _, rfl, ky.same fr.same, .str, _, rfl, ?_⟩
      cases y with
      | str n =>
        refine ⟨_, rfl, a, _, rfl, .inr (SqT.of h1), _, rfl, a, _, _, _, rfl, rfl, SqT.of h1, atI_nat (j := 0) rfl, n, rfl, size_scal _ n, ?_⟩
        exact q _ fr
      | _ => exact q _ fr
end
end Tk

set_option Elab.async false
set_option linter.all false
set_option maxRecDepth 100000
set_option maxHeartbeats 4000000
namespace Tk
open PySem PySem.Spec PyProof.Rows L2

/-! ### errors -/
/-- an own error class over ValueError (directly or not), without an __init__ of its own -/
structure ExcC (K : PySem.W.Frag) (mg : Str → Option Value) (x : Str) (C : Addr) : Prop where
  g : mg x = some (.ref C)
  ex : PySem.W.excIn K C [.type "ValueError", .type "Exception", .type "BaseException", .type "object"] "ValueError.__new__" = true
  kp : PySem.W.keepIn K (.ref C) = true
  sub : PySem.W.subIn K (.ref C) (.type "BaseException") = some true
  ty : PySem.W.typeIn K (.ref C) = some (.type "type")
section
variable {X : Cx} {x m : Str} {C : Addr} {W : WX} {j : Nat} {p p2 pos pos2 : Pos}
theorem ps_rs (T : ExcC X.K X.mg x C) (hc : X.calm = true) (tk : Takes X W) (hg : Gl X x := by rfl) (hdb : (x == ("__debug__" : Str)) = false := by decide) :
    PS X (.Raise (some (.Call (.Name x p) [.Constant (.str m) j p2] [] pos)) none pos2) (fun _ σ H => W (.ref C) none σ H) :=
  ps_raise hc tk (pmk_own PySem.F.excBase_ValueError T.ex T.g T.kp (raises_own T.sub T.ty) hg hdb)
end

/-! ### check_log -/
/-- what check_log finds -/
inductive LogIs (H : Hp) (x : V) : Bool → Prop where
  | no {t : String} (k : Kd H x t) (h : t ≠ "list") : LogIs H x false
  | lst {a : Addr} {xs : List V} (f : V → Bool) (e : x = .ref a) (h : H a = some (.lst xs)) (r : ∀ y, y ∈ xs → RowIs H y (f y)) (z : xs.length < sizeLine) : LogIs H x (xs.all f)
section
variable {P : Program} {w : World} {K : PySem.W.Frag} {mg : Str → Option Value} {base : Heap} {C : Addr}
def spCheckLog (C : Addr) : Sp := fun vs H Q E => ∃ x b, vs = [x] ∧ LogIs H x b ∧ ∀ H', Fr [] H H' → if b = true then Q .non H' else E (.ref C) none H'
theorem sc_checkLog : FnScope ["log", "row"] ["log"] (defScope s_check_log) := ⟨rfl, rfl, rfl, by decide +kernel, rfl, by decide +kernel, by decide +kernel⟩
theorem ok_checkLog (F : FunAt K mg "check_log" s_check_log) (G : NoGl mg) (T : ExcC K mg "NoCall" C) (Cr : Cal P w K mg base CX0 2 "is_row" ["thing"] [] spIsRow) :
    Cal P w K mg base (L2.CX P w) 3 "check_log" ["log"] [] (spCheckLog C) := by
  refine Cal.mkX F sc_checkLog (by rintro _ _ _ _ ⟨_, _, rfl, _⟩; rfl) (fun _ _ _ _ _ _ us hl => match us, hl with | [_], _ => rfl) ?_
  rintro f cdv A outer s H vs Q E hr ⟨x, b, rfl, r, q⟩
  have nd := sc_checkLog.nd
  refine ⟨_, pss_one (ps_if (PW.pt (pw_or (pt_not (pt_val (pe_is (n := "list") G G.list (pv 0)))) (pw_or1 (pt_not (pt_val (pe_callB (cr_all rfl) (by rfl) G.all (by decide +kernel) (pa_cons
      (pe_lc (own := [("row", 1)]) (g := gName 1) (tt := tYes) rfl nd (pi_list (pv 0)) (blkOk_by (own := [("row", 1)]) (N := ["log", "row"]) (sc := defScope s_check_log) (by decide +kernel))
        (fun _ _ _ _ _ => pg_name (i := 1) nd rfl (Or.inl rfl)) (fun _ _ _ _ _ => pts_nil) (fun _ _ _ _ _ => pe_c Cr hr (by rfl) pass0 (pa_cons (pv 1) pa_nil))) pa_nil)))))))
      (pss_one (ps_rs T rfl (takes_of rfl rfl rfl rfl))) pss_nil), ?_⟩
  cases r with
  | @no t k h =>
    refine ⟨_, rfl, x, t, "list", _, rfl, k, .list, _, rfl, ?_⟩
    rw [decide_eq_false h]
    exact q H (Fr.refl _ _)
  | @lst a xs g e h r z =>
    subst e
    refine ⟨_, rfl, _, _, "list", _, rfl, .lst h, .list, _, rfl, ?_⟩
    refine ⟨_, rfl, a, rfl, ⟨xs, SqL.of h⟩, fun D hD => ?_⟩
    refine lc_listR (K := K) (fun _ => true) (fun x y _ => y = .bl (g x)) (fun _ _ _ _ _ h => h) hD z (fun _ => rfl) (fun x H' Q' _ _ _ h => h H' (Fr.refl _ _)) ?_ ?_ (SqL.of h)
    · intro x H' Q' hx _ fr _ hq
      exact ⟨_, rfl, x, g x, rfl, (r x hx).same fr.same, fun H2 fr2 => hq _ _ fr2 rfl⟩
    · intro H2 ys hD2 fr2 md
      have e : ys = (xs.map g).map V.bl := by
        have e := md.pure (f := fun x => V.bl (g x)) (fun _ _ _ h => h)
        rw [List.filter_eq_self.mpr (fun _ _ => rfl), map_bl] at e
        exact e
      subst e
      refine ⟨D, _, rfl, SqL.of hD2, _, rfl, ?_⟩
      rw [all_map]
      have q := q H2 fr2
      cases c : xs.all g with
      | true => rw [c] at q; exact q
      | false => rw [c] at q; exact q
end

/-! ### copied -/
def rListOf (K : PySem.W.Frag) : List V → Hp → VK → Prop := fun xs H Q => ∃ p ys, xs = [.ref p] ∧ (SqL K H p ys ∨ SqT K H p ys) ∧ ∀ l, H l = none → Q (.ref l) (upd H l (.lst ys))
theorem call_listOf {X : Cx} : CallR X (.type "list") (rListOf X.K) := call_list_of
/-- y is x, or a new list like x -/
def Cpy (H0 H : Hp) (x y : V) : Prop := ((∃ t, Kd H0 x t ∧ t ≠ "list") ∧ y = x) ∨ ∃ a xs p, x = .ref a ∧ H0 a = some (.lst xs) ∧ y = .ref p ∧ H0 p = none ∧ H p = some (.lst xs)
theorem Cpy.same {H0 H H' : Hp} {x y : V} (e : Same H H') (c : Cpy H0 H x y) : Cpy H0 H' x y := by
  rcases c with c | ⟨a, xs, p, h1, h2, h3, h4, h5⟩
  · exact .inl c
  · exact .inr ⟨a, xs, p, h1, h2, h3, h4, e _ _ h5⟩
section
variable {P : Program} {w : World} {K : PySem.W.Frag} {mg : Str → Option Value} {base : Heap}
theorem Made.paired {R : V → V → Hp → Prop} {H : Hp} : ∀ {xs ys : List V}, Made (fun _ => true) R H xs ys → Paired (fun x y => R x y H) xs ys
  | _, _, .nil => .nil
  | _, _, .take _ b c => .cons b (Made.paired c)
  | _, _, .skip a _ => nomatch a
def spCopied : Sp := fun vs H Q _ => ∃ a xs, vs = [.ref a] ∧ H a = some (.tup xs) ∧ xs.length < sizeLine ∧ (∀ y, y ∈ xs → ∃ t, Kd H y t) ∧
  ∀ p ys H', H p = none → H' p = some (.tup ys) → Fr [] H H' → Paired (Cpy H H') xs ys → Q (.ref p) H'
theorem sc_copied : FnScope ["row", "one"] ["row"] (defScope s_copied) := ⟨rfl, rfl, rfl, by decide +kernel, rfl, by decide +kernel, by decide +kernel⟩
theorem ok_copied (F : FunAt K mg "copied" s_copied) (G : NoGl mg) : Cal P w K mg base CX0 1 "copied" ["row"] [] spCopied := by
  refine Cal.mk0 F sc_copied (by rintro _ _ _ _ ⟨_, _, rfl, _⟩; rfl) (fun _ _ _ _ _ _ us hl => match us, hl with | [_], _ => rfl) ?_
  rintro f cdv A outer s H vs Q E hr ⟨a, xs, rfl, h, hz, ks, q⟩
  have nd := sc_copied.nd
  refine ⟨_, pss_one (ps_ret (pe_callTy call_tuple_of (by rfl) G.tuple (by decide +kernel) (pa_cons
      (pe_lc (own := [("one", 1)]) (g := gName 1) (tt := tYes) (te := tIf (tB (tCB rIs (tCons (tVar 1) (tCons (tC (.ty "list")) tNil)))) (tCB (rListOf K) (tCons (tVar 1) tNil)) (tVar 1))
        rfl nd (pi_tup (pv 0)) (blkOk_by (own := [("one", 1)]) (N := ["row", "one"]) (sc := defScope s_copied) (by decide +kernel))
        (fun _ _ _ _ _ => pg_name (i := 1) nd rfl (Or.inl rfl)) (fun _ _ _ _ _ => pts_nil)
        (fun _ _ _ _ _ => pe_ifExp (pt_val (pe_is (n := "list") G G.list (pv 1))) (pe_callTy (T := "list") call_listOf (by rfl) G.list (by decide +kernel) (pa_cons (pv 1) pa_nil)) (pv 1))) pa_nil))), ?_⟩
  refine ⟨_, rfl, a, rfl, ⟨xs, SqT.of h⟩, fun D hD => ?_⟩
  refine lc_tupR (K := K) (fun _ => true) (fun x y H' => Cpy H H' x y) (fun _ _ _ _ e c => c.same e) hD hz (fun _ => rfl) (fun x H' Q' _ _ _ h => h H' (Fr.refl _ _)) ?_ ?_ (SqT.of h)
  · intro x H' Q' hx _ fr ⟨acc, hDa⟩ hq
    obtain ⟨t, k⟩ := ks x hx
    refine ⟨_, rfl, x, t, "list", _, rfl, k.same fr.same, .list, _, rfl, ite2 (fun c => ?_) (fun c => ?_)⟩
    · have c : t = "list" := of_decide_eq_true c
      cases k with
      | @lst b ys e =>
        refine ⟨_, rfl, b, ys, rfl, .inl (SqL.of (fr.same _ _ e)), fun l hl => ?_⟩
        have ne : l ∉ [D] := fun z => ne_of_none hDa hl (List.mem_singleton.mp z).symm
        exact hq _ _ (Fr.new hl) (.inr ⟨b, ys, l, rfl, e, rfl, fr.none hl, by rw [Hd_of ne]; exact upd_same⟩)
      | _ => exact absurd c (by decide)
    · exact ⟨_, rfl, hq _ _ (Fr.refl _ _) (.inl ⟨⟨t, k, fun z => c (decide_eq_true z)⟩, rfl⟩)⟩
  · intro H2 ys hD2 fr2 md
    refine ⟨D, ys, rfl, .inl ⟨SqL.of hD2, fun l hl => ?_⟩⟩
    have fr3 : Fr [] H2 (upd H2 l (.tup ys)) := Fr.new hl
    exact q l ys _ (fr2.none hl) upd_same (fr2.trans fr3) (L2.Paired.mapP md.paired fun x y c => (c.same Hd_same).same fr3.same)
end
end Tk

set_option Elab.async false
set_option linter.all false
set_option maxRecDepth 100000
set_option maxHeartbeats 4000000
namespace Tk
open PySem PySem.Spec PyProof.Rows L2

/-! ### rows of a log, as data -/
structure Rw where
  name : Str
  args : List V
def Rw.vs (r : Rw) : List V := .str r.name :: r.args
def Rw.at (r : Rw) : V := r.args.headD .non
def Rw.is (n : Str) (r : Rw) : Bool := decide (r.name = n)
structure RwAt (H : Hp) (x : V) (r : Rw) : Prop where
  tup : ∃ p, x = .ref p ∧ H p = some (.tup r.vs)
  kd : ∀ y, y ∈ r.args → ∃ t, Kd H y t
  size : sizeV r.name = .int ((r.args.length + 1 : Nat) : Int)
theorem RwAt.same {H H' : Hp} {x : V} {r : Rw} (e : Same H H') (a : RwAt H x r) : RwAt H' x r := by
  obtain ⟨⟨p, h1, h2⟩, h3, h4⟩ := a
  exact ⟨⟨p, h1, e _ _ h2⟩, fun y hy => let ⟨t, k⟩ := h3 y hy; ⟨t, k.same e⟩, h4⟩
theorem lookup_mem {tab : List (Str × Int)} {z : Str} {i : Int} (h : tab.lookup z = some i) : ∃ k, (k, i) ∈ tab := by
  induction tab with
  | nil => cases h
  | cons q r ih =>
    rw [List.lookup_cons] at h
    split at h
    · cases h; exact ⟨q.1, List.mem_cons_self⟩
    · obtain ⟨k, m⟩ := ih h; exact ⟨k, List.mem_cons_of_mem _ m⟩
theorem tab_rng {tab : List (Str × Int)} (ok : tab.all (fun q => decide (2 ≤ q.2 ∧ q.2 ≤ 7)) = true) {z : Str} {i : Int} (h : tab.lookup z = some i) : 2 ≤ i ∧ i ≤ 7 := by
  obtain ⟨k, m⟩ := lookup_mem h
  exact of_decide_eq_true (List.all_eq_true.mp ok _ m)
theorem size_rng {z : Str} {n : Int} (h : sizeV z = .int n) : 2 ≤ n ∧ n ≤ 7 := by
  unfold sizeV at h
  cases e1 : tabA.lookup z with
  | some i =>
    rw [e1] at h
    cases h
    exact tab_rng (by decide) e1
  | none =>
    rw [e1] at h
    cases e2 : tabB.lookup z with
    | some i =>
      rw [e2] at h
      cases h
      exact tab_rng (by decide) e2
    | none =>
      rw [e2] at h
      cases e3 : tabC.lookup z with
      | some i =>
        rw [e3] at h
        cases h
        exact tab_rng (by decide) e3
      | none => rw [e3] at h; cases h
theorem RwAt.args {H : Hp} {x : V} {r : Rw} (a : RwAt H x r) : ∃ y l, r.args = y :: l ∧ r.at = y ∧ l.length ≤ 5 := by
  have z := size_rng a.size
  cases e : r.args with
  | nil => rw [e] at z; simp at z
  | cons y l =>
    rw [e] at z
    refine ⟨y, l, rfl, by unfold Rw.at; rw [e]; rfl, ?_⟩
    simp at z; omega
theorem RwAt.row {H : Hp} {x : V} {r : Rw} (a : RwAt H x r) : RowIs H x true := by
  obtain ⟨⟨p, h1, h2⟩, h3, h4⟩ := a
  have z := size_rng h4
  have e : isRowL r.vs = true := by
    show decide _ = true
    rw [h4]; exact decide_eq_true rfl
  have q := RowIs.tup (x := x) h1 h2 (fun y hy => by cases hy; exact ⟨_, .str _⟩) (by show r.args.length + 1 < 2 ^ 62; omega)
  rw [e] at q; exact q
/-- a log as it comes in -/
inductive LogRs (H : Hp) (x : V) : Option (List Rw) → Prop where
  | bad (h : LogIs H x false) : LogRs H x none
  | ok {a : Addr} {xs : List V} {rs : List Rw} (e : x = .ref a) (h : H a = some (.lst xs)) (z : xs.length < 1000000) (r : Paired (RwAt H) xs rs) : LogRs H x (some rs)
theorem LogRs.log {H : Hp} {x : V} {o : Option (List Rw)} (l : LogRs H x o) : LogIs H x o.isSome := by
  cases l with
  | bad h => exact h
  | @ok a xs rs e h z r =>
    have q := LogIs.lst (x := x) (fun _ => true) e h (fun y hy => by
      clear z h
      induction r with
      | nil => cases hy
      | cons p _ ih =>
        rcases List.mem_cons.mp hy with e | m
        · rw [e]; exact p.row
        · exact ih m) (by rw [sizeLine_eq]; omega)
    rw [show xs.all (fun _ => true) = true by simp] at q
    exact q

theorem RwAt.one {H : Hp} {x : V} {r r' : Rw} (a : RwAt H x r) (b : RwAt H x r') : r = r' := by
  obtain ⟨p, rfl, h⟩ := a.tup
  obtain ⟨p', e, h'⟩ := b.tup
  cases e
  have z := h.symm.trans h'
  cases r
  cases r'
  injection z with z
  injection z with z
  injection z with z1 z2
  injection z1 with z1
  simp only at z1 z2
  rw [z1, z2]
noncomputable def rowOf (H : Hp) (x : V) : Rw := open Classical in if h : ∃ r, RwAt H x r then Classical.choose h else ⟨"", []⟩
theorem rowOf_eq {H : Hp} {x : V} {r : Rw} (a : RwAt H x r) : rowOf H x = r := by
  have h : ∃ r, RwAt H x r := ⟨r, a⟩
  unfold rowOf
  rw [dif_pos h]
  exact (Classical.choose_spec h).one a
theorem Paired.mem {α β : Type} {F : α → β → Prop} : ∀ {xs : List α} {ys : List β}, Paired F xs ys → ∀ {x : α}, x ∈ xs → ∃ y, y ∈ ys ∧ F x y
  | _, _, .cons a b, x, h => by
    rcases List.mem_cons.mp h with e | m
    · exact ⟨_, List.mem_cons_self, e ▸ a⟩
    · obtain ⟨y, h1, h2⟩ := Paired.mem b m
      exact ⟨y, List.mem_cons_of_mem _ h1, h2⟩

theorem Paired.mem' {α β : Type} {F : α → β → Prop} : ∀ {xs : List α} {ys : List β}, Paired F xs ys → ∀ {y : β}, y ∈ ys → ∃ x, F x y
  | _, _, .cons a b, y, h => by
    rcases List.mem_cons.mp h with e | m
    · exact ⟨_, e ▸ a⟩
    · exact Paired.mem' b m

/-! ### what check_cycles asks -/
def isNm (n : Str) : Option Rw → Bool
  | some r => r.is n
  | none => false
def stopPair (p q : Option Rw) : Bool := !(decide (isNm "go" q ≠ isNm "stop" p) && !(isNm "stop" p && q.isNone))
def stopsOk (rs : List Rw) : Bool := ((none :: rs.map some).zip (rs.map some ++ [none])).all fun q => stopPair q.1 q.2
def cycV (rs : List Rw) : List V := (rs.filter fun r => !r.is "go").map Rw.at
def logOk (rs : List Rw) : Bool := cyclesL 0 (cycV rs) && stopsOk rs

def OptAt (H : Hp) (x : V) : Option Rw → Prop
  | none => x = .non
  | some r => RwAt H x r
theorem OptAt.same {H H' : Hp} {x : V} {o : Option Rw} (e : Same H H') (a : OptAt H x o) : OptAt H' x o := by
  cases o with
  | none => exact a
  | some r => exact RwAt.same e a
theorem Paired.get {α β : Type} {F : α → β → Prop} : ∀ {xs : List α} {ys : List β}, Paired F xs ys → ∀ {i : Nat} {x : α}, xs[i]? = some x → ∃ y, ys[i]? = some y ∧ F x y
  | _, _, .nil, i, x, h => by simp at h
  | _, _, .cons a b, 0, x, h => by cases h; exact ⟨_, rfl, a⟩
  | _, _, .cons a b, i + 1, x, h => Paired.get b (i := i) h
theorem Paired.app {α β : Type} {F : α → β → Prop} : ∀ {xs xs' : List α} {ys ys' : List β}, Paired F xs ys → Paired F xs' ys' → Paired F (xs ++ xs') (ys ++ ys')
  | _, _, _, _, .nil, b => b
  | _, _, _, _, .cons a c, b => .cons a (Paired.app c b)
theorem opt_map {H : Hp} : ∀ {xs : List V} {rs : List Rw}, Paired (RwAt H) xs rs → Paired (OptAt H) xs (rs.map some)
  | _, _, .nil => .nil
  | _, _, .cons a b => .cons a (opt_map b)
/-- the rows' filter and map over the references -/
theorem Made.rows {H : Hp} {p : V → Bool} {f : V → V} {pr : Rw → Bool} {fr : Rw → V} (hp : ∀ x r, RwAt H x r → p x = pr r) (hf : ∀ x r, RwAt H x r → f x = fr r) :
    ∀ {xs : List V} {rs : List Rw}, Paired (RwAt H) xs rs → (xs.filter p).map f = (rs.filter pr).map fr
  | _, _, .nil => rfl
  | _, _, .cons (a := x) (b := r) a b => by
    have ih := Made.rows hp hf b
    have e := hp _ _ a
    cases c : pr r with
    | true => rw [List.filter_cons_of_pos (e.trans c), List.filter_cons_of_pos c, List.map_cons, List.map_cons, ih, hf _ _ a]
    | false => rw [List.filter_cons_of_neg (by rw [e, c]; exact Bool.false_ne_true), List.filter_cons_of_neg (by rw [c]; exact Bool.false_ne_true), ih]
end Tk

set_option Elab.async false
set_option linter.all false
set_option maxRecDepth 100000
set_option maxHeartbeats 4000000
namespace Tk
open PySem PySem.Spec PyProof.Rows L2
section
variable {P : Program} {w : World} {K : PySem.W.Frag} {mg : Str → Option Value} {base : Heap} {C : Addr}
def spCheckCycles (C : Addr) : Sp := fun vs H Q E => ∃ x o, vs = [x] ∧ LogRs H x o ∧ ∀ H', Fr [] H H' → if (match o with | none => false | some rs => logOk rs) = true then Q .non H' else E (.ref C) none H'
theorem sc_checkCycles : FnScope ["log", "row", "later", "is_stop", "is_go"] ["log"] (defScope s_check_cycles) := ⟨rfl, rfl, rfl, by decide +kernel, rfl, by decide +kernel, by decide +kernel⟩
theorem row_ix {H : Hp} {x : V} {r : Rw} (a : RwAt H x r) : ∃ p, x = .ref p ∧ SqT K H p r.vs ∧ atI r.vs 0 = some (.str r.name) ∧ atI r.vs 1 = some r.at := by
  obtain ⟨p, e, h⟩ := a.tup
  obtain ⟨y, l, e1, e2, _⟩ := a.args
  refine ⟨p, e, SqT.of h, atI_nat (j := 0) rfl, atI_nat (j := 1) ?_⟩
  unfold Rw.vs
  rw [e1, e2]
  rfl
theorem dec_str {a b : Str} : decide (V.str a = V.str b) = decide (a = b) := by
  by_cases h : a = b
  · subst h; simp
  · rw [decide_eq_false h, decide_eq_false fun z => h (V.str.inj z)]
theorem ev_nm {σ : L2.St} {H : Hp} {x : V} {o : Option Rw} {i : Nat} {n : Str} {Q : VK} (hσ : σ[i]? = some (some x)) (a : OptAt H x o) (q : Q (.bl (isNm n o)) H) :
    tAndV (tNotN (tVar i)) (tOp rEq (tOp (rIxT K) (tVar i) (tC (.int 0))) (tC (.str n))) σ H Q := by
  refine ⟨x, hσ, _, rfl, ?_⟩
  cases o with
  | none =>
    obtain rfl : x = .non := a
    exact q
  | some r =>
    obtain ⟨p, e, st, i0, i1⟩ := row_ix (K := K) (show RwAt H x r from a)
    subst e
    refine ⟨_, hσ, p, _, _, _, rfl, rfl, st, i0, rfl, ?_⟩
    rw [dec_str]
    exact q
theorem stops_at {rs : List Rw} {i : Nat} {o1 o2 : Option Rw} (h1 : (none :: rs.map some)[i]? = some o1) (h2 : (rs.map some ++ [none])[i]? = some o2) (h : stopPair o1 o2 = false) : stopsOk rs = false := by
  have m := List.mem_of_getElem? (zip_get h1 h2)
  cases c : stopsOk rs with
  | false => rfl
  | true =>
    have z := List.all_eq_true.mp c _ m
    rw [h] at z
    cases z
theorem stops_all {rs : List Rw} (h : ∀ (i : Nat) (o1 o2 : Option Rw), (none :: rs.map some)[i]? = some o1 → (rs.map some ++ [none])[i]? = some o2 → stopPair o1 o2 = true) : stopsOk rs = true := by
  refine List.all_eq_true.mpr fun q hq => ?_
  obtain ⟨i, hi⟩ := List.getElem?_of_mem hq
  rw [List.getElem?_zip_eq_some] at hi
  exact h i q.1 q.2 hi.1 hi.2
theorem ok_checkCycles (F : FunAt K mg "check_cycles" s_check_cycles) (G : NoGl mg) (T_NoCall : ExcC K mg "NoCall" C) (C_check_log : Cal P w K mg base (L2.CX P w) 3 "check_log" ["log"] [] (spCheckLog C))
    (C_is_cycles : Cal P w K mg base CX0 2 "is_cycles" ["thing", "least"] [.int 0] spCycles) :
    Cal P w K mg base (L2.CX P w) 4 "check_cycles" ["log"] [] (spCheckCycles C) := by
  refine Cal.mkX F sc_checkCycles (by rintro _ _ _ _ ⟨_, _, rfl, _⟩; rfl) (fun _ _ _ _ _ _ us hl => match us, hl with | [_], _ => rfl) ?_
  rintro f cdv A outer s H vs Q E hr ⟨x, o, rfl, lr, q⟩
  have nd := sc_checkCycles.nd
  refine ⟨_, (pss_cons (ps_expr (pe_c C_check_log (hr.mono (by decide)) (by rfl) (passes_call (takes_of rfl rfl rfl rfl) (fun _ _ _ _ h => h)) (pa_cons (pv 0) pa_nil)))
    (pss_cons (ps_if (pt_not (pt_val (pe_c C_is_cycles (hr.mono (by decide)) (by rfl) pass0 (pa_cons (pe_lc (own := [("row", 1)]) (g := gName 1) (tt := tTest (tOp rNe (tOp (rIxT K) (tVar 1) (tC (.int 0))) (tC (.str "go")))) (te := tOp (rIxT K) (tVar 1) (tC (.int 1))) rfl nd (pi_list (pv 0))
        (blkOk_by (own := [("row", 1)]) (N := ["log", "row", "later", "is_stop", "is_go"]) (sc := defScope s_check_cycles) (by decide +kernel))
        (fun _ _ _ _ _ => (pg_name (i := 1) nd rfl (.inl rfl) (Or.inr rfl))) (fun _ _ _ _ _ => (pts_one (pt_cmpR op_ne (pe_ix ix_tup (pv 1) pe_int (fun _ _ => rfl)) pe_str (nomark _))))
        (fun _ _ _ _ _ => (pe_ix ix_tup (pv 1) pe_int (fun _ _ => rfl)))) pa_nil))))
      (pss_one (ps_rs T_NoCall rfl (takes_of rfl rfl rfl rfl)))
      pss_nil)
    (pss_one (ps_for (passes_of rfl) rfl (pi_zip (by rfl) G.zip (pa_cons (pe_op op_cat (pe_lst (pa_cons pe_non pa_nil)) (pv 0)) (pa_cons (pe_op op_cat (pv 0) (pe_lst (pa_cons pe_non pa_nil))) pa_nil))) (pg_tup rfl (pgs_cons (pg_name (i := 1) nd rfl (.inl rfl)) (pgs_cons (pg_name (i := 2) nd rfl (.inl rfl)) pgs_nil)))
      (pss_cons (ps_set (i := 3) nd rfl (.inl rfl) (pe_and (pe_cmp (pc_notN (pv 1)) rfl) (pe_one (pe_cmpR op_eq (pe_ix ix_tup (pv 1) pe_int (fun _ _ => rfl)) pe_str (nomark _)))))
      (pss_cons (ps_set (i := 4) nd rfl (.inl rfl) (pe_and (pe_cmp (pc_notN (pv 2)) rfl) (pe_one (pe_cmpR op_eq (pe_ix ix_tup (pv 2) pe_int (fun _ _ => rfl)) pe_str (nomark _)))))
      (pss_one (ps_if (PW.pt (pw_and (pt_cmpR op_ne (pv 4) (pv 3) (nomark _)) (pw_and1 (pt_not (PW.pt (pw_and (pt_val (pv 3)) (pw_and1 (pt_cmp (pc_isN (pv 2)) rfl))))))))
        (pss_one (ps_rs T_NoCall rfl (takes_of rfl rfl rfl rfl)))
        pss_nil)))))))), ?_⟩
  refine ⟨_, rfl, _, _, rfl, lr.log, fun H1 fr1 => ?_⟩
  cases lr with
  | bad h => exact q H1 fr1
  | @ok a xs rs e h z r =>
    subst e
    have hz : xs.length < sizeLine := by rw [sizeLine_eq]; omega
    have h1 := fr1.same _ _ h
    have r1 : ∀ {H'}, Fr [] H H' → Paired (RwAt H') xs rs := fun fr => L2.Paired.mapP r fun x y c => c.same fr.same
    refine ⟨_, rfl, a, rfl, ⟨xs, SqL.of h1⟩, fun D hD => ?_⟩
    refine lc_listR (K := K) (fun x => !(rowOf H x).is "go") (fun x y _ => y = (rowOf H x).at) (fun _ _ _ _ _ h => h) hD hz (fun _ => rfl) ?_ ?_ ?_ (SqL.of h1)
    · intro x H' Q' hx fr _ hq
      obtain ⟨y, _, ry⟩ := Paired.mem (r1 (fr1.trans fr)) hx
      obtain ⟨y0, _, ry0⟩ := Paired.mem r hx
      obtain ⟨p, e, st, i0, i1⟩ := row_ix (K := K) ry
      obtain rfl := (ry0.same (fr1.trans fr).same).one ry
      subst e
      refine ⟨_, rfl, p, _, _, _, rfl, rfl, st, i0, rfl, _, rfl, ?_⟩
      rw [dec_str]
      have q2 := hq _ (Fr.refl _ _)
      rw [rowOf_eq ry0] at q2
      exact q2
    · intro x H' Q' hx _ fr _ hq
      obtain ⟨y, _, ry⟩ := Paired.mem (r1 (fr1.trans fr)) hx
      obtain ⟨y0, _, ry0⟩ := Paired.mem r hx
      obtain ⟨p, e, st, i0, i1⟩ := row_ix (K := K) ry
      obtain rfl := (ry0.same (fr1.trans fr).same).one ry
      subst e
      exact ⟨_, rfl, p, _, _, _, rfl, rfl, st, i1, hq _ _ (Fr.refl _ _) (by rw [rowOf_eq ry0])⟩
    · intro H2 ys hD2 fr2 md
      have e := (md.pure (f := fun x => (rowOf H x).at) (fun _ _ _ h => h)).trans (Made.rows (pr := fun r => !r.is "go") (fr := Rw.at) (fun x r a => by rw [rowOf_eq a]) (fun x r a => by rw [rowOf_eq a]) r)
      have fr02 := fr1.trans fr2
      have hk : ∀ y, y ∈ ys → ∃ u, Kd H2 y u := by
        intro y hy
        rw [e] at hy
        obtain ⟨w0, hw, rfl⟩ := List.mem_map.mp hy
        have hw : w0 ∈ rs := (List.mem_filter.mp hw).1
        obtain ⟨x0, rx⟩ := Paired.mem' r hw
        obtain ⟨y, l, e1, e2, _⟩ := rx.args
        obtain ⟨t, k⟩ := rx.kd y (by rw [e1]; exact List.mem_cons_self)
        rw [e2]
        exact ⟨t, k.same fr02.same⟩
      have hzy : ys.length < sizeLine := by
        have := md.len
        omega
      refine ⟨.ref D, 0, "list", rfl, .lst hD2, .inr ⟨D, ys, rfl, hD2, hk, hzy, fun H3 fr3 => ?_⟩⟩
      have fr03 := fr02.trans fr3
      refine ⟨_, rfl, ?_⟩
      rw [e]
      cases c1 : cyclesL 0 ((rs.filter fun r => !r.is "go").map Rw.at) with
      | false =>
        have z : logOk rs = false := by unfold logOk cycV; rw [c1]; rfl
        have q := q H3 fr03
        simp only [z] at q
        exact q
      | true =>
        have zq : logOk rs = stopsOk rs := by unfold logOk cycV; rw [c1]; rfl
        have h3 := fr03.same _ _ h
        have hz2 : xs.length + 1 ≤ sizeLine := by rw [sizeLine_eq]; omega
        refine ⟨(by show 1 ≤ sizeLine; decide), fun p hp => ?_⟩
        have frA : Fr [] H3 (upd H3 p (.lst [V.non])) := Fr.new hp
        refine ⟨_, rfl, p, a, [V.non], xs, rfl, rfl, upd_same, frA.same _ _ h3, (by show 1 + xs.length ≤ sizeLine; omega), fun p2 hp2 => ?_⟩
        have frB : Fr [] (upd H3 p (.lst [V.non])) (upd (upd H3 p (.lst [V.non])) p2 (.lst ([V.non] ++ xs))) := Fr.new hp2
        refine ⟨_, rfl, (by show 1 ≤ sizeLine; decide), fun p3 hp3 => ?_⟩
        have frC := Fr.new (M := []) (o := .lst [V.non]) hp3
        have fr3C := frA.trans (frB.trans frC)
        refine ⟨a, p3, xs, [V.non], rfl, rfl, fr3C.same _ _ h3, upd_same, (by show xs.length + 1 ≤ sizeLine; omega), fun p4 hp4 => ?_⟩
        have frD := Fr.new (M := []) (o := .lst (xs ++ [V.non])) hp4
        have frN := fr3C.trans frD
        have c2 := (frC.trans frD).same p2 _ upd_same
        refine ⟨p2, p4, [V.non] ++ xs, xs ++ [V.non], rfl, SqL.of c2, SqL.of upd_same, ?_⟩
        have all1 : ∀ {H'}, Fr [] H3 H' → Paired (OptAt H') ([V.non] ++ xs) (none :: rs.map some) := fun fr => .cons rfl (opt_map (L2.Paired.mapP r fun x y c => c.same (fr03.trans fr).same))
        have all2 : ∀ {H'}, Fr [] H3 H' → Paired (OptAt H') (xs ++ [V.non]) (rs.map some ++ [none]) := fun fr => Paired.app (opt_map (L2.Paired.mapP r fun x y c => c.same (fr03.trans fr).same)) (.cons rfl .nil)
        refine RZ.for_zipL (K := K) (xs := [V.non] ++ xs) (ys := xs ++ [V.non]) (by simp [Nat.add_comm]) (fun i σ H' => (∃ s1 s2 s3 s4, σ = [some (V.ref a), s1, s2, s3, s4]) ∧ Fr [] _ H' ∧
          ∀ (j : Nat) (o1 o2 : Option Rw), j < i → (none :: rs.map some)[j]? = some o1 → (rs.map some ++ [none])[j]? = some o2 → stopPair o1 o2 = true)
          ⟨⟨_, _, _, _, rfl⟩, Fr.refl _ _, fun _ _ _ z => absurd z (Nat.not_lt_zero _)⟩ ?_ ?_ ?_
        · rintro i σ H' ⟨_, fr, _⟩
          exact ⟨fr.same.seq (SqL.of c2), fr.same.seq (SqL.of upd_same)⟩
        · rintro i x y T2 σ H' hx hy ⟨⟨s1, s2, s3, s4, rfl⟩, fr, old⟩ new
          have frT := Fr.new (M := []) (o := .tup [x, y]) new
          have frE := frN.trans (fr.trans frT)
          obtain ⟨o1, g1, a1⟩ := Paired.get (all1 frE) hx
          obtain ⟨o2, g2, a2⟩ := Paired.get (all2 frE) hy
          refine ⟨T2, [x, y], rfl, SqT.of upd_same, rfl, x, [y], rfl, y, [], rfl, rfl, ?_⟩
          refine ev_nm (K := K) (n := "stop") rfl a1 ?_
          refine ev_nm (K := K) (n := "go") rfl a2 ?_
          refine ⟨_, rfl, _, rfl, by cases isNm "go" o2 <;> cases isNm "stop" o1 <;> rfl, _, rfl, ?_⟩
          have done : stopPair o1 o2 = true → (∃ s1 s2 s3 s4, ([some (V.ref a), some x, some y, some (V.bl (isNm "stop" o1)), some (V.bl (isNm "go" o2))] : L2.St) = [some (V.ref a), s1, s2, s3, s4]) ∧ Fr [] _ (upd H' T2 (.tup [x, y])) ∧
              ∀ (j : Nat) (o1 o2 : Option Rw), j < i + 1 → (none :: rs.map some)[j]? = some o1 → (rs.map some ++ [none])[j]? = some o2 → stopPair o1 o2 = true := fun ok =>
            ⟨⟨_, _, _, _, rfl⟩, fr.trans frT, fun j u1 u2 hj e1 e2 => by
              rcases Nat.lt_succ_iff_lt_or_eq.mp hj with h | rfl
              · exact old j u1 u2 h e1 e2
              · cases g1.symm.trans e1
                cases g2.symm.trans e2
                exact ok⟩
          have bad : stopPair o1 o2 = false → E (.ref C) none (upd H' T2 (.tup [x, y])) := fun z => by
            have zz : logOk rs = false := by rw [zq]; exact stops_at g1 g2 z
            have q := q _ (fr03.trans frE)
            simp only [zz] at q
            exact q
          have n2 : (y = V.non) ↔ o2.isNone = true := by
            cases o2 with
            | none => exact ⟨fun _ => rfl, fun _ => a2⟩
            | some r2 =>
              obtain ⟨p, e, _⟩ := (show RwAt _ y r2 from a2).tup
              subst e
              exact ⟨fun z => (nomatch z), fun z => (nomatch z)⟩
          cases d1 : isNm "stop" o1 <;> cases d2 : isNm "go" o2 <;> rw [d1, d2] at done
          · exact done (by unfold stopPair; rw [d1, d2]; rfl)
          · refine ⟨_, rfl, _, rfl, ?_⟩
            exact bad (by unfold stopPair; rw [d1, d2]; rfl)
          · refine ⟨_, rfl, _, rfl, _, rfl, _, rfl, ?_⟩
            by_cases yn : y = V.non
            · rw [decide_eq_true yn]
              exact done (by unfold stopPair; rw [d1, d2, n2.mp yn]; rfl)
            · rw [decide_eq_false yn]
              have : o2.isNone = false := by
                cases z : o2.isNone with
                | false => rfl
                | true => exact absurd (n2.mpr z) yn
              exact bad (by unfold stopPair; rw [d1, d2, this]; rfl)
          · exact done (by unfold stopPair; rw [d1, d2]; rfl)
        · rintro σ H' ⟨_, fr, old⟩
          have zz : logOk rs = true := by
            rw [zq]
            refine stops_all fun i o1 o2 e1 e2 => old i o1 o2 ?_ e1 e2
            have := (List.getElem?_eq_some_iff.mp e1).1
            have l := PySem.Paired.length r
            simp at this ⊢
            omega
          have q := q _ (fr03.trans (frN.trans fr))
          simp only [zz] at q
          exact q
end
end Tk

set_option Elab.async false
set_option linter.all false
set_option maxRecDepth 100000
set_option maxHeartbeats 4000000
namespace Tk
open PySem PySem.Spec PyProof.Rows L2

/-! ### what with_looks makes -/
def Rw.c (r : Rw) : Int := match r.at with | .int i => i | _ => 0
inductive Out where
  | look (c : Int)
  | row (r : Rw)
def merge : List Rw → List Int → List Out
  | [], ls => ls.map .look
  | r :: rs, ls => if r.is "go" = true then .row r :: merge rs ls else (ls.takeWhile fun c => decide (c ≤ r.c)).map .look ++ .row r :: merge rs (ls.dropWhile fun c => decide (c ≤ r.c))
theorem merge_cons (r : Rw) (rs : List Rw) (ls : List Int) : merge (r :: rs) ls =
    if r.is "go" = true then .row r :: merge rs ls else (ls.takeWhile fun c => decide (c ≤ r.c)).map .look ++ .row r :: merge rs (ls.dropWhile fun c => decide (c ≤ r.c)) := rfl
theorem merge_look {r : Rw} {rs : List Rw} {c : Int} {ls : List Int} (h : r.is "go" = false) (hc : c ≤ r.c) : merge (r :: rs) (c :: ls) = .look c :: merge (r :: rs) ls := by
  rw [merge_cons, merge_cons, h, if_neg Bool.false_ne_true, if_neg Bool.false_ne_true, List.takeWhile_cons_of_pos (by simpa using hc), List.dropWhile_cons_of_pos (by simpa using hc)]
  rfl
theorem merge_row {r : Rw} {rs : List Rw} {ls : List Int} (h : r.is "go" = true ∨ ls = [] ∨ ∃ c l, ls = c :: l ∧ ¬ c ≤ r.c) : merge (r :: rs) ls = .row r :: merge rs ls := by
  rw [merge_cons]
  cases e : r.is "go" with
  | true => rw [if_pos rfl]
  | false =>
    rw [if_neg Bool.false_ne_true]
    rcases h with h | rfl | ⟨c, l, rfl, hc⟩
    · rw [e] at h; cases h
    · simp
    · rw [List.takeWhile_cons_of_neg (by simpa using hc), List.dropWhile_cons_of_neg (by simpa using hc)]
      rfl
def late (rs : List Rw) (ls : List Int) : Bool := match rs.getLast?, ls.getLast? with
  | some r, some c => r.is "stop" && decide (r.c < c)
  | _, _ => false
/-- what stands in the returned list -/
def OutAt (H0 H : Hp) (y : V) : Out → Prop
  | .look c => ∃ q, y = .ref q ∧ H0 q = none ∧ H q = some (.tup [.str "look", .int c])
  | .row r => ∃ q vs, y = .ref q ∧ H0 q = none ∧ H q = some (.tup vs) ∧ Paired (Cpy H0 H) r.vs vs
theorem OutAt.same {H0 H H' : Hp} {y : V} {o : Out} (e : Same H H') (a : OutAt H0 H y o) : OutAt H0 H' y o := by
  cases o with
  | look c => obtain ⟨q, h1, h2, h3⟩ := a; exact ⟨q, h1, h2, e _ _ h3⟩
  | row r => obtain ⟨q, vs, h1, h2, h3, h4⟩ := a; exact ⟨q, vs, h1, h2, e _ _ h3, L2.Paired.mapP h4 fun x y c => c.same e⟩
/-- looks as they come in -/
inductive LooksRs (H : Hp) (y : V) : Option (List Int) → Prop where
  | no {t : String} (k : Kd H y t) (h : t ≠ "list") : LooksRs H y none
  | bad {b : Addr} {xs : List V} (e : y = .ref b) (h : H b = some (.lst xs)) (k : ∀ z, z ∈ xs → ∃ u, Kd H z u) (z : xs.length < sizeLine) (c : cyclesL 0 xs = false) : LooksRs H y none
  | ok {b : Addr} {ls : List Int} (e : y = .ref b) (h : H b = some (.lst (ls.map V.int))) (z : ls.length < 1000000) (c : cyclesL 0 (ls.map V.int) = true) : LooksRs H y (some ls)

theorem Kd.one {H : Hp} {x : V} {t t' : String} (a : Kd H x t) (b : Kd H x t') : t = t' := by
  cases a <;> cases b <;> first | rfl | (rename_i h1 _ h2; cases h1.symm.trans h2)
theorem Cpy.back {H0 H H' : Hp} {x y : V} (fr : Fr [] H0 H) (k : ∃ t, Kd H0 x t) (c : Cpy H H' x y) : Cpy H0 H' x y := by
  obtain ⟨t, k⟩ := k
  rcases c with ⟨⟨t', k', ne⟩, e⟩ | ⟨a, xs, p, rfl, h, e2, hp, h'⟩
  · obtain rfl := (k.same fr.same).one k'
    exact .inl ⟨⟨t, k, ne⟩, e⟩
  · refine .inr ⟨a, xs, p, rfl, ?_, e2, fr.none hp, h'⟩
    cases k with
    | lst e => cases (fr.same _ _ e).symm.trans h; exact e
    | tup e => cases (fr.same _ _ e).symm.trans h
    | dK e => cases (fr.same _ _ e).symm.trans h
theorem if_reading {c : TT} {t u : TS} {D : Ends} {σ : L2.St} {H : Hp} (b : Bool) (hc : ∀ Q : Bool → Hp → Prop, (∀ H', Fr [] H H' → Q b H') → c σ H Q) (h : ∀ H', Fr [] H H' → if b = true then t D σ H' else u D σ H') :
    tIfS c t u D σ H := hc _ h
theorem if_reading2 {c : TT} {t u rest : TS} {D : Ends} {σ : L2.St} {H : Hp} (b : Bool) (hc : ∀ Q : Bool → Hp → Prop, (∀ H', Fr [] H H' → Q b H') → c σ H Q)
    (h : ∀ H', Fr [] H H' → if b = true then t { D with nx := rest D } σ H' else u { D with nx := rest D } σ H') : tSeq (tIfS c t u) rest D σ H := hc _ h
theorem row_int {rs : List Rw} (h : logOk rs = true) {r : Rw} (m : r ∈ rs) (g : r.is "go" = false) : r.at = .int r.c := by
  have c : cyclesL 0 (cycV rs) = true := by
    unfold logOk at h
    exact (Bool.and_eq_true_iff.mp h).1
  have c1 : (cycV rs).all (fun x => wholeV x (.int 0)) = true := (Bool.and_eq_true_iff.mp c).1
  have m2 : r.at ∈ cycV rs := List.mem_map.mpr ⟨r, List.mem_filter.mpr ⟨m, by rw [g]; rfl⟩, rfl⟩
  obtain ⟨i, e⟩ := whole_int (List.all_eq_true.mp c1 _ m2)
  unfold Rw.c
  rw [e]
theorem last_map {α β : Type} (f : α → β) : ∀ (l : List α), (l.map f).getLast? = l.getLast?.map f := fun l => by simp [List.getLast?_map]
theorem paired_last {α β : Type} {F : α → β → Prop} {xs : List α} {ys : List β} (p : Paired F xs ys) {x : α} (h : xs.getLast? = some x) : ∃ y, ys.getLast? = some y ∧ F x y := by
  have l := PySem.Paired.length p
  rw [List.getLast?_eq_getElem?] at h
  obtain ⟨y, e, q⟩ := Paired.get p h
  refine ⟨y, ?_, q⟩
  rw [List.getLast?_eq_getElem?, ← l]
  exact e
end Tk

set_option Elab.async false
set_option linter.all false
set_option maxRecDepth 100000
set_option maxHeartbeats 4000000
namespace Tk
open PySem PySem.Spec PyProof.Rows L2
section
variable {P : Program} {w : World} {K : PySem.W.Frag} {mg : Str → Option Value} {base : Heap} {CC CL : Addr}
/-- is the last row a stop, and a look behind it: the third test of with_looks -/
theorem ev_late {X : Cx} {H : Hp} {a b : Addr} {xs : List V} {rs : List Rw} {ls : List Int} {s2 s3 s4 s5 : Option V} {Q : Bool → Hp → Prop} (ha : H a = some (.lst xs)) (r : Paired (RwAt H) xs rs) (hb : H b = some (.lst (ls.map V.int)))
    (ok : logOk rs = true) (q : ∀ H', Fr [] H H' → Q (late rs ls) H') :
    tAnd (tTest (tOp (rNil SqL K true) (tVar 0) (tLst tNil))) (tAnd (tTest (tOp rEq (tOp (rIxT K) (tOp (rIxL K) (tVar 0) (tUn (rU fun i => .int (-i)) (tC (.int 1)))) (tC (.int 0))) (tC (.str "stop"))))
      (tAnd (tTest (tOp (rNil SqL K true) (tVar 1) (tLst tNil))) (tTest (tOp (rI0 fun i j => .bl (decide (j < i))) (tOp (rIxL K) (tVar 1) (tUn (rU fun i => .int (-i)) (tC (.int 1))))
        (tOp (rIxT K) (tOp (rIxL K) (tVar 0) (tUn (rU fun i => .int (-i)) (tC (.int 1)))) (tC (.int 1))))))) [some (V.ref a), some (V.ref b), s2, s3, s4, s5] H Q := by
  refine ⟨_, rfl, (by show 0 ≤ sizeLine; decide), fun p hp => ?_⟩
  have fr1 := Fr.new (M := []) (o := .lst []) hp
  refine ⟨a, p, xs, rfl, rfl, SqL.of (fr1.same _ _ ha), SqL.of upd_same, _, rfl, ?_⟩
  rcases List.eq_nil_or_concat xs with rfl | ⟨ys, x, rfl⟩
  · cases r
    exact q _ fr1
  · rw [List.concat_eq_append] at *
    obtain ⟨rl, el, al⟩ := paired_last r (x := x) (by simp)
    have e0 : (!(ys ++ [x]).isEmpty) = true := by cases ys <;> rfl
    rw [if_pos rfl, e0, if_pos rfl]
    have al1 := al.same fr1.same
    obtain ⟨pr, e, st, i0, i1⟩ := row_ix (K := K) al1
    subst e
    refine ⟨_, rfl, _, rfl, a, _, _, _, rfl, rfl, SqL.of (fr1.same _ _ ha), atI_last _ _, pr, _, _, _, rfl, rfl, st, i0, rfl, _, rfl, ?_⟩
    rw [dec_str]
    have hl : late rs ls = match ls.getLast? with | some c => rl.is "stop" && decide (rl.c < c) | none => false := by
      unfold late
      rw [el]
      cases ls.getLast? <;> rfl
    refine ite2 (fun s => ?_) (fun s => ?_)
    · have isS : rl.is "stop" = true := s
      have nG : rl.is "go" = false := by
        have z : rl.name = "stop" := of_decide_eq_true isS
        unfold Rw.is
        rw [z]; decide
      have mrl : rl ∈ rs := List.mem_of_getLast? el
      have eat := row_int ok mrl nG
      rw [eat] at i1
      refine ⟨_, rfl, (by show 0 ≤ sizeLine; decide), fun p2 hp2 => ?_⟩
      have fr2 := Fr.new (M := []) (o := .lst []) hp2
      have fr12 := fr1.trans fr2
      refine ⟨b, p2, _, rfl, rfl, SqL.of (fr12.same _ _ hb), SqL.of upd_same, _, rfl, ?_⟩
      rcases List.eq_nil_or_concat ls with rfl | ⟨l, c, rfl⟩
      · have q := q _ fr12
        rw [hl] at q
        exact q
      · rw [List.concat_eq_append] at *
        have e0 : (!((l ++ [c]).map V.int).isEmpty) = true := by cases l <;> rfl
        rw [if_pos rfl, e0, if_pos rfl]
        have eb : (l ++ [c]).map V.int = l.map V.int ++ [V.int c] := by simp
        rw [eb] at hb
        have st2 : SqT K _ pr rl.vs := Same.sq fr2.same st
        refine ⟨_, rfl, _, rfl, b, _, _, _, rfl, rfl, SqL.of (fr12.same _ _ hb), atI_last _ _, _, rfl, _, rfl, a, _, _, _, rfl, rfl, SqL.of (fr12.same _ _ ha), atI_last _ _, pr, _, _, _, rfl, rfl, st2, i1, _, _, rfl, rfl, _, rfl, ?_⟩
        have q := q _ fr12
        rw [hl] at q
        simp only [List.getLast?_append, List.getLast?_singleton, Option.some_or, isS, Bool.true_and] at q
        exact q
    · have isS : rl.is "stop" = false := by
        cases z : rl.is "stop" with
        | false => rfl
        | true => exact absurd z s
      have q := q _ fr1
      have hl0 : late rs ls = false := by
        rw [hl, isS]
        cases ls.getLast? <;> rfl
      rw [hl0] at q
      exact q

def okO : Option (List Rw) → Bool
  | some rs => logOk rs
  | none => false
def spWithLooks (CC CL : Addr) : Sp := fun vs H Q E => ∃ x y o l, vs = [x, y] ∧ LogRs H x o ∧ LooksRs H y l ∧
  (okO o = false → ∀ H', Fr [] H H' → E (.ref CC) none H') ∧
  ∀ rs, o = some rs → logOk rs = true → (l = none → ∀ H', Fr [] H H' → E (.ref CL) none H') ∧
    ∀ ls, l = some ls → (late rs ls = true → ∀ H', Fr [] H H' → E (.ref CL) none H') ∧
      (late rs ls = false → ∀ p ys H', H p = none → H' p = some (.lst ys) → Fr [] H H' → Paired (OutAt H H') ys (merge rs ls) → Q (.ref p) H')
theorem sc_withLooks : FnScope ["log", "looks", "left", "found", "row", "look"] ["log", "looks"] (defScope s_with_looks) := ⟨rfl, rfl, rfl, by decide +kernel, rfl, by decide +kernel, by decide +kernel⟩
/-- what holds between two rows -/
def Lp (H : Hp) (l fo : Addr) (rs : List Rw) (ls : List Int) (i : Nat) (H' : Hp) : Prop := ∃ left ys outs, H' l = some (.lst (left.map V.int)) ∧ H' fo = some (.lst ys) ∧ Fr [] H H' ∧
  Paired (OutAt H (Hd [l, fo] H')) ys outs ∧ outs ++ merge (rs.drop i) left = merge rs ls ∧ ys.length + left.length ≤ i + ls.length
/-- what holds within a row, ahead of each look -/
def Lw (H : Hp) (l fo : Addr) (rs : List Rw) (ls : List Int) (i : Nat) (rr : Rw) (σ0 : L2.St) (m : Nat) (σ : L2.St) (H2 : Hp) : Prop := σ = σ0 ∧ ∃ left ys outs, m = left.length ∧ H2 l = some (.lst (left.map V.int)) ∧ H2 fo = some (.lst ys) ∧ Fr [] H H2 ∧
  Paired (OutAt H (Hd [l, fo] H2)) ys outs ∧ outs ++ merge (rr :: rs.drop (i + 1)) left = merge rs ls ∧ ys.length + left.length ≤ i + ls.length
theorem paired_mem {α β : Type} {F G : α → β → Prop} : ∀ {xs : List α} {ys : List β}, Paired F xs ys → (∀ x y, x ∈ xs → F x y → G x y) → Paired G xs ys
  | _, _, .nil, _ => .nil
  | _, _, .cons a b, h => .cons (h _ _ List.mem_cons_self a) (paired_mem b fun x y m => h x y (List.mem_cons_of_mem _ m))
theorem seq0 {α : Type} (x : α) (l : List α) : seqIndex? 0 (x :: l).length = some 0 := by
  unfold seqIndex?
  simp
  try omega
theorem looks_out {H H5 H6 : Hp} (fr : Fr [] H5 H6) : ∀ {left : List Int} {zs : List V}, Paired (fun x y => ∃ c q, x = V.int c ∧ y = V.ref q ∧ H q = none ∧ H5 q = some (.tup [V.str "look", V.int c])) (left.map V.int) zs →
    Paired (OutAt H H6) zs (merge [] left)
  | [], _, .nil => .nil
  | c :: left, _, .cons ⟨c', q, e, e2, n, h⟩ b => by
    cases e
    exact .cons ⟨q, e2, n, fr.same _ _ h⟩ (looks_out fr b)
theorem ok_withLooks (F : FunAt K mg "with_looks" s_with_looks) (G : NoGl mg) (T_NoLooks : ExcC K mg "NoLooks" CL) (C_check_cycles : Cal P w K mg base (L2.CX P w) 4 "check_cycles" ["log"] [] (spCheckCycles CC))
    (C_is_cycles : Cal P w K mg base CX0 2 "is_cycles" ["thing", "least"] [.int 0] spCycles) (C_copied : Cal P w K mg base CX0 1 "copied" ["row"] [] spCopied) :
    Cal P w K mg base (L2.CX P w) 5 "with_looks" ["log", "looks"] [] (spWithLooks CC CL) := by
  refine Cal.mkX F sc_withLooks (by rintro _ _ _ _ ⟨_, _, _, _, rfl, _⟩; rfl) (fun _ _ _ _ _ _ us hl => match us, hl with | [_, _], _ => rfl) ?_
  rintro f cdv A outer s H vs Q E hr ⟨x, y, o, lo, rfl, lr, kr, qbad, q⟩
  have nd := sc_withLooks.nd
  refine ⟨_, (pss_cons (ps_expr (pe_c C_check_cycles (hr.mono (by decide)) (by rfl) (passes_call (takes_of rfl rfl rfl rfl) (fun _ _ _ _ h => h)) (pa_cons (pv 0) pa_nil)))
    (pss_cons (ps_if (pt_not (pt_val (pe_c C_is_cycles (hr.mono (by decide)) (by rfl) pass0 (pa_cons (pv 1) pa_nil))))
      (pss_one (ps_rs T_NoLooks rfl (takes_of rfl rfl rfl rfl)))
      pss_nil)
    (pss_cons (ps_if (PW.pt (pw_and (pt_cmpR (op_neNilL hr.units0) (pv 0) (pe_lst pa_nil) (nomark _)) (pw_and (pt_cmpR op_eq (pe_ix ix_tup (pe_ix ix_list (pv 0) (pe_un un_neg pe_int) (fun _ _ => rfl)) pe_int (fun _ _ => rfl)) pe_str (nomark _)) (pw_and (pt_cmpR (op_neNilL hr.units0) (pv 1) (pe_lst pa_nil) (nomark _)) (pw_and1 (pt_cmpR op_gt (pe_ix ix_list (pv 1) (pe_un un_neg pe_int) (fun _ _ => rfl)) (pe_ix ix_tup (pe_ix ix_list (pv 0) (pe_un un_neg pe_int) (fun _ _ => rfl)) pe_int (fun _ _ => rfl)) (nomark _)))))))
      (pss_one (ps_rs T_NoLooks rfl (takes_of rfl rfl rfl rfl)))
      pss_nil)
    (pss_cons (ps_set (i := 2) nd rfl (.inl rfl) (pe_callTy (T := "list") call_listOf (by rfl) G.list (by decide +kernel) (pa_cons (pv 1) pa_nil)))
    (pss_cons (ps_set (i := 3) nd rfl (.inl rfl) (pe_lst pa_nil))
    (pss_cons (ps_for (passes_of rfl) rfl (pi_list (pv 0)) (pg_name (i := 4) nd rfl (.inl rfl))
      (pss_cons (ps_while (passes_of rfl) (PW.pt (pw_and (pt_cmpR op_ne (pe_ix ix_tup (pv 4) pe_int (fun _ _ => rfl)) pe_str (nomark _)) (pw_and (pt_cmpR (op_neNilL hr.units0) (pv 2) (pe_lst pa_nil) (nomark _)) (pw_and1 (pt_cmpR op_le (pe_ix ix_list (pv 2) pe_int (fun _ _ => rfl)) (pe_ix ix_tup (pv 4) pe_int (fun _ _ => rfl)) (nomark _))))))
        (pss_one (ps_expr (pe_bm PySem.F.plainAttrs_list PySem.F.slot_list_append PySem.F.type_list_append mt_append (pv 3) (pa_cons (pe_tup (pa_cons pe_str (pa_cons (pe_bm PySem.F.plainAttrs_list PySem.F.slot_list_pop PySem.F.type_list_pop mt_popAt (pv 2) (pa_cons pe_int pa_nil)) pa_nil))) pa_nil)))))
      (pss_one (ps_expr (pe_bm PySem.F.plainAttrs_list PySem.F.slot_list_append PySem.F.type_list_append mt_append (pv 3) (pa_cons (pe_c C_copied (hr.mono (by decide)) (by rfl) pass0 (pa_cons (pv 4) pa_nil)) pa_nil))))))
    (pss_one (ps_ret (pe_op op_cat (pv 3) (pe_lc (own := [("look", 5)]) (g := gName 5) (tt := tYes) rfl nd (pi_list (pv 2))
        (blkOk_by (own := [("look", 5)]) (N := ["log", "looks", "left", "found", "row", "look"]) (sc := defScope s_with_looks) (by decide +kernel))
        (fun _ _ _ _ _ => (pg_name (i := 5) nd rfl (.inl rfl) (Or.inr rfl))) (fun _ _ _ _ _ => pts_nil)
        (fun _ _ _ _ _ => (pe_tup (pa_cons pe_str (pa_cons (pv 5) pa_nil)))))))))))))), ?_⟩
  refine ⟨_, rfl, _, _, rfl, lr, fun H1 fr1 => ?_⟩
  cases lr with
  | bad h => exact qbad rfl H1 fr1
  | @ok a xs rs e h z r =>
    subst e
    show if logOk rs = true then _ else _
    cases okl : logOk rs with
    | false => exact qbad okl H1 fr1
    | true =>
      rw [if_pos rfl]
      have q := q rs rfl okl
      have hz : xs.length < sizeLine := by rw [sizeLine_eq]; omega
      have lenx := PySem.Paired.length r
      have h1 := fr1.same _ _ h
      -- is_cycles(looks)
      cases kr with
      | @no t k ne =>
        refine ⟨_, rfl, y, 0, t, rfl, k.same fr1.same, .inl ⟨ne, fun H2 fr2 => ?_⟩⟩
        exact ⟨_, rfl, q.1 rfl H2 (fr1.trans fr2)⟩
      | @bad b zs e hb kz zz c =>
        subst e
        refine ⟨_, rfl, _, 0, "list", rfl, .lst (fr1.same _ _ hb), .inr ⟨b, zs, rfl, fr1.same _ _ hb, fun y hy => let ⟨u, k⟩ := kz y hy; ⟨u, k.same fr1.same⟩, zz, fun H2 fr2 => ?_⟩⟩
        rw [c]
        exact ⟨_, rfl, q.1 rfl H2 (fr1.trans fr2)⟩
      | @ok b ls e hb zb c =>
        subst e
        obtain ⟨qlate, q⟩ := q.2 ls rfl
        have hzb : (ls.map V.int).length < sizeLine := by rw [List.length_map, sizeLine_eq]; omega
        refine ⟨_, rfl, _, 0, "list", rfl, .lst (fr1.same _ _ hb), .inr ⟨b, _, rfl, fr1.same _ _ hb, fun y hy => by
          obtain ⟨i, _, rfl⟩ := List.mem_map.mp hy
          exact ⟨_, .int i⟩, hzb, fun H2 fr2 => ?_⟩⟩
        rw [c]
        refine ⟨_, rfl, ?_⟩
        have fr12 := fr1.trans fr2
        have r2 : Paired (RwAt H2) xs rs := L2.Paired.mapP r fun x y c => c.same fr12.same
        refine negT (nxt ?_)
        dsimp only
        refine if_reading2 (late rs ls) (fun Qt hq => ev_late (X := cxOf (L2.CX P w) P w K mg base ["log", "looks", "left", "found", "row", "look"] "with_looks" (defScope s_with_looks) f cdv A outer s H E)
          (fr12.same _ _ h) r2 (fr12.same _ _ hb) okl hq) fun H3 fr3 => ?_
        have fr13 := fr12.trans fr3
        cases lt : late rs ls with
        | true => exact qlate lt H3 fr13
        | false =>
          have q := q lt
          have hb3 := fr13.same _ _ hb
          have ha3 := fr13.same _ _ h
          -- left = list(looks); found = []
          refine ⟨_, rfl, b, _, rfl, .inl (SqL.of hb3), fun l hl => ?_⟩
          have frl := Fr.new (M := []) (o := .lst (ls.map V.int)) hl
          refine ⟨(by show 0 ≤ sizeLine; decide), fun fo hf => ?_⟩
          have frf := Fr.new (M := []) (o := .lst []) hf
          have nlf : l ≠ fo := ne_of_none upd_same hf
          have frA := fr13.trans (frl.trans frf)
          have nl : H l = none := fr13.none hl
          have nf : H fo = none := (fr13.trans frl).none hf
          have hl4 := frf.same l _ upd_same
          -- for row in log
          refine ⟨_, rfl, a, rfl, ⟨xs, SqL.of (frA.same _ _ h)⟩, ?_⟩
          refine for_list (K := K) (a := a) (xs := xs) (fun i σ H' => (∃ s4 s5, σ = [some (V.ref a), some (V.ref b), some (V.ref l), some (V.ref fo), s4, s5]) ∧ Lp H l fo rs ls i H')
            ⟨⟨_, _, rfl⟩, ls, [], [], hl4, upd_same, frA, .nil, rfl, Nat.le_refl _⟩ ?_ ?_ ?_
          · rintro i σ H' _ ⟨_, _, _, _, _, _, fr, _⟩
            exact fr.same.seq (SqL.of h)
          · rintro i x σ H' hx ⟨⟨s4, s5, rfl⟩, left, ys, outs, hL, hF, fr, po, eq, hn⟩
            obtain ⟨rr, hrr, ax⟩ := Paired.get r hx
            have ax' := ax.same fr.same
            have hi : i < rs.length := (List.getElem?_eq_some_iff.mp hrr).1
            have ed : rs.drop i = rr :: rs.drop (i + 1) := by
              rw [List.drop_eq_getElem_cons hi, (List.getElem?_eq_some_iff.mp hrr).2]
            rw [ed] at eq
            -- while
            refine ⟨Lw H l fo rs ls i rr [some (V.ref a), some (V.ref b), some (V.ref l), some (V.ref fo), some x, s5], ⟨_, rfl, left, ys, outs, rfl, hL, hF, fr, po, eq, hn⟩, ?_⟩
            clear hL hF fr po eq hn
            rintro m σ H2 ⟨rfl, left, ys, outs, rfl, hL, hF, fr, po, eq, hn⟩
            have ax2 := ax.same fr.same
            obtain ⟨pr, e, st, i0, i1⟩ := row_ix (K := K) ax2
            obtain ⟨pr', e', tr⟩ := ax2.tup
            subst e
            cases e'
            -- what follows when no look goes ahead
            have go_on : ∀ H3, Fr [] H2 H3 → (rr.is "go" = true ∨ left = [] ∨ ∃ c l, left = c :: l ∧ ¬ c ≤ rr.c) →
                tDrop (tBM K "list" rAppend (tVar 3) (tCons (tCall spCopied [] E0 (tCons (tVar 4) tNil)) tNil))
                  { nx := fun σ H' => (∃ s4 s5, σ = [some (V.ref a), some (V.ref b), some (V.ref l), some (V.ref fo), s4, s5]) ∧ Lp H l fo rs ls (i + 1) H', rt := Q }
                  [some (V.ref a), some (V.ref b), some (V.ref l), some (V.ref fo), some (V.ref pr), s5] H3 := by
              intro H3 fr3 hm
              have fr23 := fr.trans fr3
              have ax3 := ax.same fr23.same
              obtain ⟨p3, e3, t3⟩ := ax3.tup
              cases e3
              have hF3 := fr3.same _ _ hF
              have hL3 := fr3.same _ _ hL
              obtain ⟨_, _, _, _, hl5⟩ := ax.args
              have zr : rr.vs.length < sizeLine := by
                obtain ⟨y0, l0, e0, _, h5⟩ := ax.args
                show rr.args.length + 1 < sizeLine
                rw [e0, sizeLine_eq, List.length_cons]; omega
              have kds : ∀ y, y ∈ rr.vs → ∃ t, Kd H y t := fun y hy => by
                rcases List.mem_cons.mp hy with rfl | hm
                · exact ⟨_, .str _⟩
                · exact ax.kd y hm
              refine ⟨_, rfl, .inl ⟨rfl, _, SqL.of hF3⟩, _, rfl, pr, rr.vs, rfl, t3, zr, fun y hy => let ⟨t, k⟩ := kds y hy; ⟨t, k.same fr23.same⟩, fun q0 vs0 H4 nq hq4 fr4 cp => ?_⟩
              have hF4 := fr4.same _ _ hF3
              have hL4 := fr4.same _ _ hL3
              have zy : ys.length < sizeLine := by rw [sizeLine_eq]; omega
              refine ⟨fo, ys, _, rfl, rfl, hF4, zy, ⟨_, _, rfl⟩, left, ys ++ [.ref q0], outs ++ [.row rr], ?_, upd_same, ?_, ?_, ?_, ?_⟩
              · rw [upd_ne nlf]; exact hL4
              · exact Fr.drop ((fr23.trans fr4).weak.trans (Fr.set (List.mem_singleton.mpr rfl))) nf
              · have frX : Fr [l, fo] H2 (upd H4 fo (.lst (ys ++ [.ref q0]))) := ((fr3.trans fr4).mono (fun _ z => nomatch z)).trans (Fr.set (by simp))
                refine Paired.app (L2.Paired.mapP po fun x y c => c.same frX.hd) (.cons ⟨q0, vs0, rfl, fr23.none nq, ?_, ?_⟩ .nil)
                · have n1 : q0 ≠ l := fun z => ne_of_none hL3 nq z.symm
                  have n2 : q0 ≠ fo := fun z => ne_of_none hF3 nq z.symm
                  rw [Hd_of (by simp [n1, n2]), upd_ne n2]
                  exact hq4
                · refine paired_mem cp fun x y hx c => ?_
                  have c' := c.back fr23 (kds x hx)
                  rcases c' with c' | ⟨b1, b2, b3, b4, b5, b6, b7, b8⟩
                  · exact .inl c'
                  · refine .inr ⟨b1, b2, b3, b4, b5, b6, b7, ?_⟩
                    have n1 : b3 ≠ l := fun z => by rw [z, hL4] at b8; cases c with | inl u => (obtain ⟨_, u⟩ := u; rw [u, b4] at b6; cases b6; rw [z, nl] at b5; cases b5) | inr u => (obtain ⟨_, _, p9, _, _, e9, n9, _⟩ := u; rw [e9] at b6; cases b6; rw [z, hL3] at n9; cases n9)
                    have n2 : b3 ≠ fo := fun z => by cases c with | inl u => (obtain ⟨_, u⟩ := u; rw [u, b4] at b6; cases b6; rw [z, nf] at b5; cases b5) | inr u => (obtain ⟨_, _, p9, _, _, e9, n9, _⟩ := u; rw [e9] at b6; cases b6; rw [z, hF3] at n9; cases n9)
                    rw [Hd_of (by simp [n1, n2]), upd_ne n2]
                    exact b8
              · rw [merge_row hm] at eq
                rw [← eq, List.append_assoc]; rfl
              · rw [List.length_append, List.length_singleton]; omega
            -- the test
            refine ⟨_, rfl, pr, _, _, _, rfl, rfl, st, i0, rfl, _, rfl, ?_⟩
            rw [dec_str]
            cases hg : rr.is "go" with
            | true =>
              have : decide (rr.name = "go") = true := hg
              rw [this]
              exact go_on H2 (Fr.refl _ _) (.inl hg)
            | false =>
              have : decide (rr.name = "go") = false := hg
              rw [this]
              refine ⟨_, rfl, (by show 0 ≤ sizeLine; decide), fun pn hpn => ?_⟩
              have frn := Fr.new (M := []) (o := .lst []) hpn
              have hLn := frn.same _ _ hL
              refine ⟨l, pn, _, rfl, rfl, SqL.of hLn, SqL.of upd_same, _, rfl, ?_⟩
              cases left with
              | nil => exact go_on _ frn (.inr (.inl rfl))
              | cons c left =>
                have mrr : rr ∈ rs := List.mem_of_getElem? hrr
                have eat := row_int okl mrr hg
                rw [eat] at i1
                have stn : SqT K _ pr rr.vs := Same.sq frn.same st
                refine ⟨_, rfl, l, _, _, _, rfl, rfl, SqL.of hLn, atI_nat (j := 0) rfl, _, rfl, pr, _, _, _, rfl, rfl, stn, i1, _, _, rfl, rfl, _, rfl, ?_⟩
                refine ite2 (fun hc => ?_) (fun hc => ?_)
                · have hc : c ≤ rr.c := of_decide_eq_true hc
                  refine ⟨Lw H l fo rs ls i rr [some (V.ref a), some (V.ref b), some (V.ref l), some (V.ref fo), some (V.ref pr), s5] left.length, fun σ' H' p => ⟨left.length, Nat.lt_succ_self _, p⟩, ?_⟩
                  have hFn := frn.same _ _ hF
                  refine ⟨_, rfl, .inl ⟨rfl, _, SqL.of hFn⟩, _, rfl, .inl ⟨rfl, _, SqL.of hLn⟩, l, _, 0, 0, V.int c, rfl, rfl, hLn, (by decide), (by decide), seq0 _ _, rfl, (by show 2 ≤ sizeLine; decide), fun pt hpt => ?_⟩
                  have ntl : pt ≠ l := fun z => by rw [z, upd_same] at hpt; cases hpt
                  have hpt2 : (upd H2 pn (.lst [])) pt = none := by rw [upd_ne ntl] at hpt; exact hpt
                  have ntf : pt ≠ fo := (ne_of_none hFn hpt2).symm
                  have nfl : fo ≠ l := nlf.symm
                  have zy : ys.length < sizeLine := by rw [sizeLine_eq]; simp at hn; omega
                  have frS : Fr [l, fo] H2 (upd (upd (upd H2 pn (.lst [])) l (.lst (((c :: left).map V.int).eraseIdx 0))) pt (.tup [V.str "look", V.int c])) :=
                    (frn.mono (fun _ z => nomatch z)).trans ((Fr.set (by simp)).trans (Fr.new hpt))
                  refine ⟨fo, ys, _, rfl, rfl, ?_, zy, rfl, left, ys ++ [.ref pt], outs ++ [.look c], rfl, ?_, upd_same, ?_, ?_, ?_, ?_⟩
                  · rw [upd_ne ntf.symm, upd_ne nfl]; exact hFn
                  · rw [upd_ne nlf, upd_ne ntl.symm, upd_same]; rfl
                  · exact Fr.drop (Fr.drop ((fr.mono (fun _ z => nomatch z)).trans (frS.trans (Fr.set (by simp)))) nl) nf
                  · have frX := frS.trans (Fr.set (a := fo) (o := .lst (ys ++ [.ref pt])) (by simp))
                    refine Paired.app (L2.Paired.mapP po fun x y c => c.same frX.hd) (.cons ⟨pt, rfl, (fr.trans frn).none hpt2, ?_⟩ .nil)
                    rw [Hd_of (by simp [ntl, ntf]), upd_ne ntf, upd_same]
                  · rw [merge_look hg hc] at eq
                    rw [← eq, List.append_assoc]; rfl
                  · rw [List.length_append, List.length_singleton]; simp at hn; omega
                · exact go_on _ frn (.inr (.inr ⟨c, left, rfl, fun z => hc (decide_eq_true z)⟩))
          · rintro σ H' ⟨⟨s4, s5, rfl⟩, left, ys, outs, hL, hF, fr, po, eq, hn⟩
            rw [lenx, List.drop_length] at eq
            refine ⟨_, rfl, _, rfl, l, rfl, ⟨_, SqL.of hL⟩, fun D hD => ?_⟩
            have zl : (left.map V.int).length < sizeLine := by rw [List.length_map, sizeLine_eq]; omega
            refine lc_listR (K := K) (fun _ => true) (fun x y H5 => ∃ c q, x = V.int c ∧ y = V.ref q ∧ H q = none ∧ H5 q = some (.tup [V.str "look", V.int c])) (fun x y H5 H6 e ⟨c, q, a1, a2, a3, a4⟩ => ⟨c, q, a1, a2, a3, e _ _ a4⟩) hD zl (fun _ => rfl)
              (fun x H' Q' _ _ _ h => h H' (Fr.refl _ _)) ?_ ?_ (SqL.of hL)
            · intro x H5 Q' hx _ fr5 ⟨acc, hacc⟩ hq
              obtain ⟨c, _, rfl⟩ := List.mem_map.mp hx
              refine ⟨_, rfl, (by show 2 ≤ sizeLine; decide), fun q0 hq0 => ?_⟩
              have ne : q0 ∉ [D] := fun z => ne_of_none hacc hq0 (List.mem_singleton.mp z).symm
              exact hq _ _ (Fr.new hq0) ⟨c, q0, rfl, rfl, (fr.trans fr5).none hq0, by rw [Hd_of ne]; exact upd_same⟩
            · intro H5 zs hD5 fr5 md
              have zz : zs.length ≤ left.length := by have := md.len; rw [List.length_map] at this; exact this
              refine ⟨fo, D, ys, zs, rfl, rfl, fr5.same _ _ hF, hD5, (by rw [sizeLine_eq]; omega), fun p hp => ?_⟩
              have frp := Fr.new (M := []) (o := .lst (ys ++ zs)) hp
              have frZ := fr.trans (fr5.trans frp)
              refine q p (ys ++ zs) _ ((fr.trans fr5).none hp) upd_same frZ ?_
              rw [← eq]
              refine Paired.app (L2.Paired.mapP po fun x y c => (c.same Hd_same).same (fr5.trans frp).same) ?_
              have md2 : Paired (fun x y => ∃ c q, x = V.int c ∧ y = V.ref q ∧ H q = none ∧ H5 q = some (.tup [V.str "look", V.int c])) (left.map V.int) zs :=
                L2.Paired.mapP md.paired fun x y ⟨c, q, a1, a2, a3, a4⟩ => ⟨c, q, a1, a2, a3, (of_Hd a4).2⟩
              exact looks_out frp md2
end
end Tk

set_option Elab.async false
set_option linter.all false
set_option maxRecDepth 100000
set_option maxHeartbeats 4000000
namespace Tk
open PySem PySem.Spec PyProof.Rows L2

/-! ### data that stands in the tracked heap -/
mutual
inductive Dd (H : Hp) : V → PyData → Prop
  | non : Dd H .non .none
  | bl (b : Bool) : Dd H (.bl b) (.bool b)
  | int (i : Int) : Dd H (.int i) (.int i)
  | str (x : Str) : Dd H (.str x) (.str x)
  | lst {a : Addr} {xs : List V} {ds : List PyData} : H a = some (.lst xs) → DdAll H xs ds → Dd H (.ref a) (.list ds)
  | tup {a : Addr} {xs : List V} {ds : List PyData} : H a = some (.tup xs) → DdAll H xs ds → Dd H (.ref a) (.tuple ds)
inductive DdAll (H : Hp) : List V → List PyData → Prop
  | nil : DdAll H [] []
  | cons {v : V} {vs : List V} {d : PyData} {ds : List PyData} : Dd H v d → DdAll H vs ds → DdAll H (v :: vs) (d :: ds)
end
section
variable {K : PySem.W.Frag} {H H' : Hp}
mutual
theorem Dd.dp : ∀ {v : V} {d : PyData}, Dd H v d → Dp K H v d
  | _, _, .non => .non
  | _, _, .bl b => .bl b
  | _, _, .int i => .int i
  | _, _, .str x => .str x
  | _, _, .lst s h => .lst (SqL.of s) (DdAll.dp h)
  | _, _, .tup s h => .tup (SqT.of s) (DdAll.dp h)
theorem DdAll.dp : ∀ {vs : List V} {ds : List PyData}, DdAll H vs ds → DpAll K H vs ds
  | _, _, .nil => .nil
  | _, _, .cons a b => .cons (Dd.dp a) (DdAll.dp b)
end
mutual
theorem Dd.same (e : Same H H') : ∀ {v : V} {d : PyData}, Dd H v d → Dd H' v d
  | _, _, .non => .non
  | _, _, .bl b => .bl b
  | _, _, .int i => .int i
  | _, _, .str x => .str x
  | _, _, .lst s h => .lst (e _ _ s) (DdAll.same e h)
  | _, _, .tup s h => .tup (e _ _ s) (DdAll.same e h)
theorem DdAll.same (e : Same H H') : ∀ {vs : List V} {ds : List PyData}, DdAll H vs ds → DdAll H' vs ds
  | _, _, .nil => .nil
  | _, _, .cons a b => .cons (Dd.same e a) (DdAll.same e b)
end
mutual
theorem Dd.one : ∀ {v : V} {d d' : PyData}, Dd H v d → Dd H v d' → d = d'
  | _, _, _, .non, h => by cases h; rfl
  | _, _, _, .bl b, h => by cases h; rfl
  | _, _, _, .int i, h => by cases h; rfl
  | _, _, _, .str x, h => by cases h; rfl
  | _, _, _, .lst s a, h => by
    cases h with
    | lst s' a' => cases s.symm.trans s'; rw [DdAll.one a a']
    | tup s' a' => cases s.symm.trans s'
  | _, _, _, .tup s a, h => by
    cases h with
    | lst s' a' => cases s.symm.trans s'
    | tup s' a' => cases s.symm.trans s'; rw [DdAll.one a a']
theorem DdAll.one : ∀ {vs : List V} {ds ds' : List PyData}, DdAll H vs ds → DdAll H vs ds' → ds = ds'
  | _, _, _, .nil, h => by cases h; rfl
  | _, _, _, .cons a b, h => by
    cases h with
    | cons a' b' => rw [Dd.one a a', DdAll.one b b']
end
theorem DdAll.app : ∀ {xs ys : List V} {ds es : List PyData}, DdAll H xs ds → DdAll H ys es → DdAll H (xs ++ ys) (ds ++ es)
  | _, _, _, _, .nil, b => b
  | _, _, _, _, .cons a c, b => .cons a (DdAll.app c b)
theorem DdAll.ints : ∀ ns : List Int, DdAll H (ns.map V.int) (ns.map PyData.int)
  | [] => .nil
  | n :: ns => .cons (.int n) (DdAll.ints ns)
theorem DdAll.strs : ∀ ns : List Str, DdAll H (ns.map V.str) (ns.map PyData.str)
  | [] => .nil
  | n :: ns => .cons (.str n) (DdAll.strs ns)
end
/-- the data of a value -/
noncomputable def dOf (H : Hp) (v : V) : PyData := open Classical in if h : ∃ d, Dd H v d then Classical.choose h else .none
theorem dOf_eq {H : Hp} {v : V} {d : PyData} (h : Dd H v d) : dOf H v = d := by
  have e : ∃ d, Dd H v d := ⟨d, h⟩
  unfold dOf
  rw [dif_pos e]
  exact (Classical.choose_spec e).one h
theorem dOf_at {H : Hp} {v : V} (h : ∃ d, Dd H v d) : Dd H v (dOf H v) := by
  obtain ⟨d, h⟩ := h
  rw [dOf_eq h]; exact h

/-! ### small data: its text fits -/
mutual
def okD : PyData → Bool
  | .none | .bool _ => true
  | .int i => decide (i.natAbs < 10 ^ 40)
  | .str x => decide (x.length ≤ 64) && x.cps.toList.all fun c => decide (c < 128)
  | .list xs | .tuple xs => okDs xs
  | .dict _ => false
def okDs : List PyData → Bool
  | [] => true
  | x :: xs => okD x && okDs xs
end
mutual
def nodes : PyData → Nat
  | .none | .bool _ | .int _ | .str _ | .dict _ => 1
  | .list xs | .tuple xs => 1 + nodesAll xs
def nodesAll : List PyData → Nat
  | [] => 0
  | x :: xs => nodes x + nodesAll xs
end
theorem nodes_pos : ∀ d : PyData, 1 ≤ nodes d
  | .none | .bool _ | .int _ | .str _ | .dict _ => by simp only [nodes]; omega
  | .list xs | .tuple xs => by simp only [nodes]; omega
theorem nodesAll_len : ∀ ds : List PyData, ds.length ≤ nodesAll ds
  | [] => Nat.zero_le _
  | d :: ds => by
    have h1 := nodes_pos d
    have h2 := nodesAll_len ds
    simp only [nodesAll, List.length_cons]; omega
theorem shownAll_len : ∀ ds : List PyData, (PyData.shownAll ds).length = ds.length
  | [] => by simp only [PyData.shownAll, List.length_nil]
  | d :: ds => by simp only [PyData.shownAll, List.length_cons, shownAll_len ds]
mutual
theorem shown_okD : ∀ d : PyData, okD d = true → d.shown.length + 5 ≤ 1000 * nodes d
  | .none, _ => by
    have e : (PyData.shown .none).length = 4 := rfl
    simp only [nodes]; omega
  | .bool b, _ => by
    have e : (PyData.shown (.bool b)).length ≤ 5 := by cases b <;> decide
    simp only [nodes]; omega
  | .int i, h => by
    have h : i.natAbs < 10 ^ 40 := by simpa only [okD, decide_eq_true_eq] using h
    have e := int_text_length_le10 (k := 40) (by decide) h
    have e2 : (PyData.shown (.int i)).length ≤ 41 := by
      show (Str.ofString (toString i)).length ≤ 41
      rw [PySem.ofString_length]; exact e
    simp only [nodes]; omega
  | .str x, h => by
    simp only [okD, Bool.and_eq_true, decide_eq_true_eq, List.all_eq_true] at h
    have e := StrLaws.reprText_len x fun c hc => Nat.lt_trans (h.2 c hc) (by decide)
    have e2 : (PyData.shown (.str x)).length ≤ 10 * x.length + 2 := by rw [PyData.shown]; exact e
    simp only [nodes]; omega
  | .list xs, h => by
    have h : okDs xs = true := by simpa only [okD] using h
    have e := shownAll_okD xs h
    have l := listText_len_le (PyData.shownAll xs)
    rw [shownAll_len] at l
    simp only [PyData.shown, nodes]; omega
  | .tuple xs, h => by
    have h : okDs xs = true := by simpa only [okD] using h
    have e := shownAll_okD xs h
    have l := tupleText_len_le (PyData.shownAll xs)
    rw [shownAll_len] at l
    simp only [PyData.shown, nodes]; omega
  | .dict _, h => by simp [okD] at h
theorem shownAll_okD : ∀ ds : List PyData, okDs ds = true → ((PyData.shownAll ds).map (·.length)).sum + 5 * ds.length ≤ 1000 * nodesAll ds
  | [], _ => by simp [PyData.shownAll]
  | d :: ds, h => by
    simp only [okDs, Bool.and_eq_true] at h
    have e1 := shown_okD d h.1
    have e2 := shownAll_okD ds h.2
    simp only [PyData.shownAll, List.map_cons, List.sum_cons, List.length_cons, nodesAll]; omega
end
mutual
theorem okD_showable : ∀ d : PyData, okD d = true → d.showable = true
  | .none, _ => by simp only [PyData.showable]
  | .bool b, _ => by simp only [PyData.showable]
  | .int i, h => by
    have h : i.natAbs < 10 ^ 40 := by simpa only [okD, decide_eq_true_eq] using h
    simp only [PyData.showable, decide_eq_true_eq]
    by_cases z : i.natAbs = 0
    · rw [z]; decide
    · exact (Nat.log2_lt z).mpr (Nat.lt_of_lt_of_le h (Nat.le_trans (by decide : 10 ^ 40 ≤ 2 ^ 140) (Nat.pow_le_pow_right (by decide) (by decide))))
  | .str x, _ => by simp only [PyData.showable]
  | .list xs, h => by simp only [PyData.showable]; exact okDs_showable xs (by simpa only [okD] using h)
  | .tuple xs, h => by simp only [PyData.showable]; exact okDs_showable xs (by simpa only [okD] using h)
  | .dict _, h => by simp [okD] at h
theorem okDs_showable : ∀ ds : List PyData, okDs ds = true → PyData.showableAll ds = true
  | [], _ => by simp only [PyData.showableAll]
  | d :: ds, h => by
    simp only [okDs, Bool.and_eq_true] at h
    simp only [PyData.showableAll, okD_showable d h.1, okDs_showable ds h.2, Bool.and_self]
end
theorem shown_fits {d : PyData} (h : okD d = true) (n : nodes d ≤ 16000) : d.shown.length ≤ sizeLine := by
  have e := shown_okD d h
  rw [sizeLine_eq]; omega
/-- repr of small data -/
theorem repr_at {K : PySem.W.Frag} {H : Hp} {v : V} {d : PyData} {Q : VK} (h : Dd H v d) (ok : okD d = true) (n : nodes d ≤ 16000) (dp : d.depth ≤ 60) (q : Q (.str d.shown) H) : rRepr K [v] H Q :=
  ⟨v, d, rfl, h.dp, okD_showable d ok, dp, shown_fits ok n, q⟩
end Tk

set_option Elab.async false
set_option linter.all false
set_option maxRecDepth 100000
set_option maxHeartbeats 4000000
namespace Tk
open PySem PySem.Spec PyProof.Rows L2

/-! ### cycles in order -/
theorem zip_le : ∀ {cs : List Int}, cs.Pairwise (· ≤ ·) → (((cs.map V.int).zip ((cs.map V.int).drop 1)).all fun q => leV q.1 q.2) = true
  | [], _ => rfl
  | [c], _ => rfl
  | c :: d :: r, h => by
    have ih := zip_le (cs := d :: r) h.tail
    have h1 : c ≤ d := (List.pairwise_cons.mp h).1 d List.mem_cons_self
    show ((V.int c, V.int d) :: ((d :: r).map V.int).zip (((d :: r).map V.int).drop 1)).all _ = true
    rw [List.all_cons, ih]
    show (decide (c ≤ d) && true) = true
    rw [decide_eq_true h1]
    rfl
theorem cycles_of {cs : List Int} (h0 : ∀ c, c ∈ cs → 0 ≤ c) (h : cs.Pairwise (· ≤ ·)) : cyclesL 0 (cs.map V.int) = true := by
  unfold cyclesL
  rw [zip_le h, Bool.and_true, List.all_eq_true]
  intro x hx
  obtain ⟨c, hc, rfl⟩ := List.mem_map.mp hx
  exact decide_eq_true (h0 c hc)

/-! ### stops and goes -/
def stopsR : Bool → List Rw → Bool
  | _, [] => true
  | p, r :: rs => (r.is "go" == p) && stopsR (r.is "stop") rs
def endStop : Bool → List Rw → Bool
  | p, [] => p
  | _, r :: rs => endStop (r.is "stop") rs
theorem stops_go : ∀ (o : Option Rw) (rs : List Rw), (((o :: rs.map some).zip (rs.map some ++ [none])).all fun q => stopPair q.1 q.2) = stopsR (isNm "stop" o) rs
  | o, [] => by
    show (stopPair o none && true) = true
    unfold stopPair
    cases isNm "stop" o <;> rfl
  | o, r :: rs => by
    have ih := stops_go (some r) rs
    show (stopPair o (some r) && ((some r :: rs.map some).zip (rs.map some ++ [none])).all fun q => stopPair q.1 q.2) = ((r.is "go" == isNm "stop" o) && stopsR (r.is "stop") rs)
    rw [ih]
    have e : stopPair o (some r) = (r.is "go" == isNm "stop" o) := by
      unfold stopPair
      show (!(decide (r.is "go" ≠ isNm "stop" o) && !(isNm "stop" o && false))) = _
      cases r.is "go" <;> cases isNm "stop" o <;> rfl
    rw [e]
    rfl
theorem stopsOk_eq (rs : List Rw) : stopsOk rs = stopsR false rs := stops_go none rs
theorem stopsR_app : ∀ (p : Bool) (xs ys : List Rw), stopsR p (xs ++ ys) = (stopsR p xs && stopsR (endStop p xs) ys)
  | p, [], ys => by simp [stopsR, endStop]
  | p, x :: xs, ys => by
    have ih := stopsR_app (x.is "stop") xs ys
    show ((x.is "go" == p) && stopsR (x.is "stop") (xs ++ ys)) = (((x.is "go" == p) && stopsR (x.is "stop") xs) && stopsR (endStop (x.is "stop") xs) ys)
    rw [ih, Bool.and_assoc]
theorem endStop_app : ∀ (p : Bool) (xs ys : List Rw), endStop p (xs ++ ys) = endStop (endStop p xs) ys
  | _, [], _ => rfl
  | _, x :: xs, ys => endStop_app (x.is "stop") xs ys

/-! ### rows in the making -/
structure Mk0 (rs : List Rw) (at_ : Int) : Prop where
  cyc : ∃ cs : List Int, cycV rs = cs.map V.int ∧ cs.Pairwise (· ≤ ·) ∧ ∀ c, c ∈ cs → 0 ≤ c ∧ c ≤ at_
  st : stopsR false rs = true
  en : endStop false rs = false
theorem Mk0.nil : Mk0 [] 0 := ⟨⟨[], rfl, .nil, fun _ h => nomatch h⟩, rfl, rfl⟩
theorem cyc_app (xs ys : List Rw) : cycV (xs ++ ys) = cycV xs ++ cycV ys := by simp [cycV, List.filter_append, List.map_append]
theorem cyc_snoc {cs : List Int} {a b : Int} (h : cs.Pairwise (· ≤ ·)) (k : ∀ c, c ∈ cs → 0 ≤ c ∧ c ≤ a) (ab : a ≤ b) (h0 : 0 ≤ b) : (cs ++ [b]).Pairwise (· ≤ ·) ∧ ∀ c, c ∈ cs ++ [b] → 0 ≤ c ∧ c ≤ b := by
  refine ⟨List.pairwise_append.mpr ⟨h, List.pairwise_singleton _ _, fun x hx y hy => ?_⟩, fun c hc => ?_⟩
  · obtain rfl := List.mem_singleton.mp hy
    exact Int.le_trans (k x hx).2 ab
  · rcases List.mem_append.mp hc with h | h
    · exact ⟨(k c h).1, Int.le_trans (k c h).2 ab⟩
    · obtain rfl := List.mem_singleton.mp h
      exact ⟨h0, Int.le_refl _⟩
section
variable {rs : List Rw} {a b : Int} {r : Rw}
theorem Mk0.plain (m : Mk0 rs a) (h0 : 0 ≤ a) (ab : a ≤ b) (g : r.is "go" = false) (s : r.is "stop" = false) (e : r.at = .int b) : Mk0 (rs ++ [r]) b := by
  obtain ⟨cs, c1, c2, c3⟩ := m.cyc
  obtain ⟨p1, p2⟩ := cyc_snoc c2 c3 ab (Int.le_trans h0 ab)
  refine ⟨⟨cs ++ [b], ?_, p1, p2⟩, ?_, ?_⟩
  · rw [cyc_app, c1, List.map_append]
    congr 1
    simp [cycV, g, e]
  · rw [stopsR_app, m.st, m.en]
    simp [stopsR, g]
  · rw [endStop_app]; exact s
theorem Mk0.pair {r' : Rw} (m : Mk0 rs a) (h0 : 0 ≤ a) (ab : a ≤ b) (s : r.is "stop" = true) (g : r.is "go" = false) (e : r.at = .int b) (g' : r'.is "go" = true) (s' : r'.is "stop" = false) : Mk0 (rs ++ [r, r']) b := by
  obtain ⟨cs, c1, c2, c3⟩ := m.cyc
  obtain ⟨p1, p2⟩ := cyc_snoc c2 c3 ab (Int.le_trans h0 ab)
  refine ⟨⟨cs ++ [b], ?_, p1, p2⟩, ?_, ?_⟩
  · rw [cyc_app, c1, List.map_append]
    congr 1
    simp [cycV, g, g', e]
  · rw [stopsR_app, m.st, m.en]
    simp [stopsR, g, s, g']
  · rw [endStop_app]; exact s'
/-- what a finished list of rows is -/
structure Mk1 (rs : List Rw) : Prop where
  ok : logOk rs = true
  sorted : ∃ cs : List Int, cycV rs = cs.map V.int ∧ cs.Pairwise (· ≤ ·) ∧ ∀ c, c ∈ cs → 0 ≤ c
theorem Mk0.done (m : Mk0 rs a) : Mk1 rs := by
  obtain ⟨cs, c1, c2, c3⟩ := m.cyc
  refine ⟨?_, cs, c1, c2, fun c h => (c3 c h).1⟩
  unfold logOk
  rw [c1, cycles_of (fun c h => (c3 c h).1) c2, stopsOk_eq, m.st]
  rfl
theorem Mk0.stop (m : Mk0 rs a) (h0 : 0 ≤ a) (ab : a ≤ b) (s : r.is "stop" = true) (g : r.is "go" = false) (e : r.at = .int b) : Mk1 (rs ++ [r]) := by
  obtain ⟨cs, c1, c2, c3⟩ := m.cyc
  obtain ⟨p1, p2⟩ := cyc_snoc c2 c3 ab (Int.le_trans h0 ab)
  have c : cycV (rs ++ [r]) = (cs ++ [b]).map V.int := by
    rw [cyc_app, c1, List.map_append]
    congr 1
    simp [cycV, g, e]
  refine ⟨?_, cs ++ [b], c, p1, fun c h => (p2 c h).1⟩
  unfold logOk
  rw [c, cycles_of (fun c h => (p2 c h).1) p1, stopsOk_eq, stopsR_app, m.st, m.en]
  simp [stopsR, g]
end

/-! ### the law's own way to put looks in -/
def dueGo : List Rw → List Int → List Out × List Int
  | [], left => ([], left)
  | r :: rs, left =>
    let here := left.filter fun c => !r.is "go" && decide (c ≤ r.c)
    let q := dueGo rs (left.drop here.length)
    (here.map .look ++ .row r :: q.1, q.2)
def dueO (rs : List Rw) (ls : List Int) : Option (List Out) :=
  let q := dueGo rs ls
  if (decide (q.2 ≠ []) && (decide (rs ≠ []) && endStop false rs)) = true then none else some (q.1 ++ q.2.map .look)
theorem filter_take : ∀ {ls : List Int} (k : Int), ls.Pairwise (· ≤ ·) → (ls.filter fun c => decide (c ≤ k)) = ls.takeWhile fun c => decide (c ≤ k)
  | [], _, _ => rfl
  | c :: ls, k, h => by
    by_cases hc : c ≤ k
    · rw [List.filter_cons_of_pos (by simpa using hc), List.takeWhile_cons_of_pos (by simpa using hc), filter_take (ls := ls) k h.tail]
    · rw [List.filter_cons_of_neg (by simpa using hc), List.takeWhile_cons_of_neg (by simpa using hc), List.filter_eq_nil_iff.mpr]
      intro d hd
      have := (List.pairwise_cons.mp h).1 d hd
      simp; omega
theorem drop_take {α : Type} (p : α → Bool) : ∀ ls : List α, ls.drop (ls.takeWhile p).length = ls.dropWhile p
  | [] => rfl
  | c :: ls => by
    cases h : p c with
    | true => rw [List.takeWhile_cons_of_pos h, List.dropWhile_cons_of_pos h]; exact drop_take p ls
    | false =>
      have h' : ¬ p c = true := by rw [h]; exact Bool.false_ne_true
      rw [List.takeWhile_cons_of_neg h', List.dropWhile_cons_of_neg h']
      rfl
theorem here_nongo {r : Rw} {ls : List Int} (g : r.is "go" = false) (h : ls.Pairwise (· ≤ ·)) : (ls.filter fun c => !r.is "go" && decide (c ≤ r.c)) = ls.takeWhile fun c => decide (c ≤ r.c) := by
  rw [← filter_take r.c h]
  congr 1
  funext c
  rw [g]; rfl
theorem here_go {r : Rw} {ls : List Int} (g : r.is "go" = true) : (ls.filter fun c => !r.is "go" && decide (c ≤ r.c)) = [] := by
  rw [g]; simp
theorem dropWhile_sorted {ls : List Int} (p : Int → Bool) (h : ls.Pairwise (· ≤ ·)) : (ls.dropWhile p).Pairwise (· ≤ ·) := h.sublist (List.dropWhile_sublist p)
theorem dueGo_go {r : Rw} {rs : List Rw} {ls : List Int} (g : r.is "go" = true) : dueGo (r :: rs) ls = (.row r :: (dueGo rs ls).1, (dueGo rs ls).2) := by
  show ((ls.filter _).map Out.look ++ .row r :: (dueGo rs (ls.drop (ls.filter _).length)).1, (dueGo rs (ls.drop (ls.filter _).length)).2) = _
  rw [here_go g]
  rfl
theorem dueGo_non {r : Rw} {rs : List Rw} {ls : List Int} (g : r.is "go" = false) (h : ls.Pairwise (· ≤ ·)) :
    dueGo (r :: rs) ls = ((ls.takeWhile fun c => decide (c ≤ r.c)).map .look ++ .row r :: (dueGo rs (ls.dropWhile fun c => decide (c ≤ r.c))).1, (dueGo rs (ls.dropWhile fun c => decide (c ≤ r.c))).2) := by
  show ((ls.filter _).map Out.look ++ .row r :: (dueGo rs (ls.drop (ls.filter _).length)).1, (dueGo rs (ls.drop (ls.filter _).length)).2) = _
  rw [here_nongo g h, drop_take]
theorem dueGo_merge : ∀ {rs : List Rw} {ls : List Int}, ls.Pairwise (· ≤ ·) → (dueGo rs ls).1 ++ (dueGo rs ls).2.map .look = merge rs ls
  | [], ls, _ => rfl
  | r :: rs, ls, h => by
    cases g : r.is "go" with
    | true =>
      rw [dueGo_go g, merge_cons, if_pos g]
      show Out.row r :: ((dueGo rs ls).1 ++ _) = _
      rw [dueGo_merge h]
    | false =>
      rw [dueGo_non g h, merge_cons, if_neg (by rw [g]; exact Bool.false_ne_true)]
      show (_ ++ Out.row r :: _) ++ _ = _
      rw [List.append_assoc, List.cons_append, dueGo_merge (dropWhile_sorted _ h)]
theorem dropWhile_dropWhile {c d : Int} (h : c ≤ d) : ∀ ls : List Int, (ls.dropWhile fun x => decide (x ≤ c)).dropWhile (fun x => decide (x ≤ d)) = ls.dropWhile fun x => decide (x ≤ d)
  | [] => rfl
  | x :: ls => by
    by_cases hx : x ≤ c
    · rw [List.dropWhile_cons_of_pos (by simpa using hx), List.dropWhile_cons_of_pos (by simp; omega)]
      exact dropWhile_dropWhile h ls
    · rw [List.dropWhile_cons_of_neg (by simpa using hx)]
theorem left_drop {d : Int} : ∀ {rs : List Rw} {ls : List Int}, ls.Pairwise (· ≤ ·) → (∀ r, r ∈ rs → r.is "go" = false → r.c ≤ d) → ((dueGo rs ls).2.dropWhile fun x => decide (x ≤ d)) = ls.dropWhile fun x => decide (x ≤ d)
  | [], _, _, _ => rfl
  | r :: rs, ls, h, k => by
    cases g : r.is "go" with
    | true =>
      rw [dueGo_go g]
      exact left_drop h fun r' m => k r' (List.mem_cons_of_mem _ m)
    | false =>
      rw [dueGo_non g h]
      show ((dueGo rs _).2.dropWhile _) = _
      rw [left_drop (dropWhile_sorted _ h) fun r' m => k r' (List.mem_cons_of_mem _ m), dropWhile_dropWhile (k r List.mem_cons_self g)]
theorem dueGo_app : ∀ {rs : List Rw} {r : Rw} {ls : List Int}, ls.Pairwise (· ≤ ·) → r.is "go" = false → (dueGo (rs ++ [r]) ls).2 = (dueGo rs ls).2.dropWhile fun x => decide (x ≤ r.c)
  | [], r, ls, h, g => by
    show (dueGo [r] ls).2 = ls.dropWhile _
    rw [dueGo_non g h]
    rfl
  | q :: rs, r, ls, h, g => by
    cases gq : q.is "go" with
    | true =>
      rw [List.cons_append, dueGo_go gq, dueGo_go gq]
      exact dueGo_app h g
    | false =>
      rw [List.cons_append, dueGo_non gq h, dueGo_non gq h]
      exact dueGo_app (dropWhile_sorted _ h) g
theorem dropWhile_last {d : Int} : ∀ {ls : List Int} {c : Int}, ls.Pairwise (· ≤ ·) → ls.getLast? = some c → (decide ((ls.dropWhile fun x => decide (x ≤ d)) ≠ []) = decide (d < c))
  | [], _, _, h => by simp at h
  | [x], c, _, h => by
    have e : x = c := by simpa using h
    subst e
    by_cases hx : x ≤ d
    · rw [List.dropWhile_cons_of_pos (by simpa using hx)]
      simp; omega
    · rw [List.dropWhile_cons_of_neg (by simpa using hx)]
      simp; omega
  | x :: y :: r, c, p, h => by
    have h' : (y :: r).getLast? = some c := by rw [← h]; simp [List.getLast?_cons_cons]
    by_cases hx : x ≤ d
    · rw [List.dropWhile_cons_of_pos (by simpa using hx)]
      exact dropWhile_last p.tail h'
    · rw [List.dropWhile_cons_of_neg (by simpa using hx)]
      have m : c ∈ y :: r := List.mem_of_getLast? h'
      have := (List.pairwise_cons.mp p).1 c m
      simp; omega
theorem endStop_last {rs : List Rw} {r : Rw} : endStop false (rs ++ [r]) = r.is "stop" := by rw [endStop_app]; rfl
theorem due_eq {rs : List Rw} {ls : List Int} (m : Mk1 rs) (h : ls.Pairwise (· ≤ ·)) : dueO rs ls = if late rs ls = true then none else some (merge rs ls) := by
  have e : (decide ((dueGo rs ls).2 ≠ []) && (decide (rs ≠ []) && endStop false rs)) = late rs ls := by
    rcases List.eq_nil_or_concat rs with rfl | ⟨qs, r, rfl⟩
    · simp [late]
    · rw [List.concat_eq_append] at *
      rw [endStop_last]
      unfold late
      rw [List.getLast?_append, List.getLast?_singleton, Option.some_or]
      cases s : r.is "stop" with
      | false => cases ls.getLast? <;> simp [s]
      | true =>
        have g : r.is "go" = false := by
          have z : r.name = "stop" := of_decide_eq_true s
          unfold Rw.is; rw [z]; decide
        rw [dueGo_app h g]
        obtain ⟨cs, c1, c2, _⟩ := m.sorted
        have er : r.at = .int r.c := row_int m.ok (by simp) g
        have k : ∀ r', r' ∈ qs → r'.is "go" = false → r'.c ≤ r.c := by
          intro r' hm g'
          have er' : r'.at = .int r'.c := row_int m.ok (by simp [hm]) g'
          rw [cyc_app] at c1
          have e2 : cycV [r] = [V.int r.c] := by simp [cycV, g, er]
          rw [e2] at c1
          obtain ⟨l1, l2, rfl, e3, e4⟩ := List.map_eq_append_iff.mp c1.symm
          obtain ⟨d, rfl, e5⟩ : ∃ d, l2 = [d] ∧ V.int d = V.int r.c := by
            cases l2 with
            | nil => cases e4
            | cons d t => cases t with
              | nil => exact ⟨d, rfl, by simpa using e4⟩
              | cons _ _ => simp at e4
          cases e5
          have m2 : V.int r'.c ∈ cycV qs := by rw [← er']; exact List.mem_map.mpr ⟨r', List.mem_filter.mpr ⟨hm, by rw [g']; rfl⟩, rfl⟩
          rw [← e3] at m2
          obtain ⟨c0, hc0, e6⟩ := List.mem_map.mp m2
          cases e6
          exact (List.pairwise_append.mp c2).2.2 _ hc0 _ (by simp)
        rw [left_drop h k]
        cases hl : ls.getLast? with
        | none =>
          rw [List.getLast?_eq_none_iff] at hl
          subst hl
          simp
        | some c =>
          rw [dropWhile_last h hl]
          simp [s]
  show (if (decide ((dueGo rs ls).2 ≠ []) && (decide (rs ≠ []) && endStop false rs)) = true then none else some _) = _
  rw [e, dueGo_merge h]
end Tk

set_option Elab.async false
set_option linter.all false
set_option maxRecDepth 100000
set_option maxHeartbeats 4000000
namespace Tk
open PySem PySem.Spec PyProof.Rows L2

/-! ### the law's table of sizes -/
def szA : List (Str × Int) := [("look", 1), ("read", 2), ("set_rate", 2), ("set_real", 2), ("slew", 3), ("stop", 2), ("go", 1), ("put", 6),
  ("drop", 2)]
def szB : List (Str × Int) := [("expired", 2), ("take", 1), ("put_tick", 3), ("hand_over", 3), ("process", 1), ("thread", 2),
  ("run", 4)]
def szC : List (Str × Int) := [("join", 3), ("leave", 2), ("sleep", 3), ("limit", 3), ("waiting", 2), ("running", 2),
  ("sampled", 2)]
def lawSizes : List (Str × Int) := szA ++ szB ++ szC
def toKV (l : List (Str × Int)) : List (Key × V) := l.map fun q => ((Sum.inr q.1 : Key), V.int q.2)
theorem valV_none {kvs : List (Key × V)} {k : Key} (h : k ∉ kvs.map (·.1)) : valV kvs k = none := by
  induction kvs with
  | nil => rfl
  | cons p r ih =>
    rw [List.map_cons, List.mem_cons, not_or] at h
    rw [valV_neg fun z => h.1 z.symm]
    exact ih h.2
theorem merge_new : ∀ {more kvs : List (Key × V)}, ((kvs ++ more).map (·.1)).Nodup → mergeK kvs more = kvs ++ more
  | [], kvs, _ => by rw [List.append_nil]; rfl
  | p :: r, kvs, h => by
    have e : putK kvs p.1 p.2 = kvs ++ [p] := by
      refine putK_new _ (valV_none fun m => ?_)
      rw [List.map_append, List.nodup_append] at h
      exact h.2.2 _ m p.1 (by simp) rfl
    show mergeK (putK kvs p.1 p.2) r = _
    rw [e, merge_new (by rw [List.append_assoc]; exact h), List.append_assoc]
    rfl
theorem keys_kv (l : List (Str × Int)) : (toKV l).map (·.1) = (l.map (·.1)).map Sum.inr := by simp [toKV, List.map_map]
theorem nodup_kv {l : List (Str × Int)} (h : (l.map (·.1)).Nodup) : ((toKV l).map (·.1)).Nodup := by
  rw [keys_kv]
  exact List.Pairwise.map _ (fun _ _ n z => n (Sum.inr.inj z)) h
theorem kv_app (a b : List (Str × Int)) : toKV (a ++ b) = toKV a ++ toKV b := by simp [toKV]
theorem sz_nodup : (lawSizes.map (·.1)).Nodup := by decide +kernel
theorem szAB_nodup : ((szA ++ szB).map (·.1)).Nodup := by decide +kernel
theorem szA_nodup : (szA.map (·.1)).Nodup := by decide +kernel
theorem szB_nodup : (szB.map (·.1)).Nodup := by decide +kernel
theorem szC_nodup : (szC.map (·.1)).Nodup := by decide +kernel
theorem mrg0 {l : List (Str × Int)} (h : (l.map (·.1)).Nodup) : mergeK [] (toKV l) = toKV l := merge_new (kvs := []) (nodup_kv h)
theorem mrg1 : mergeK (toKV szA) (toKV szB) = toKV (szA ++ szB) := by rw [kv_app]; exact merge_new (by rw [← kv_app]; exact nodup_kv szAB_nodup)
theorem mrg2 : mergeK (toKV (szA ++ szB)) (toKV szC) = toKV lawSizes := by
  show _ = toKV (szA ++ szB ++ szC)
  rw [kv_app (szA ++ szB) szC]
  exact merge_new (by rw [← kv_app]; exact nodup_kv sz_nodup)
theorem sz_val {q : Str × Int} (h : q ∈ lawSizes) : valV (toKV lawSizes) (Sum.inr q.1) = some (.int q.2) := by
  have ok : (lawSizes.all fun q => decide (valV (toKV lawSizes) (Sum.inr q.1) = some (.int q.2))) = true := by decide +kernel
  exact of_decide_eq_true (List.all_eq_true.mp ok _ h)
theorem sz_size {q : Str × Int} (h : q ∈ lawSizes) : sizeV q.1 = .int (q.2 + 1) ∧ 1 ≤ q.2 ∧ q.2 ≤ 6 := by
  have ok : (lawSizes.all fun q => decide (sizeV q.1 = .int (q.2 + 1) ∧ 1 ≤ q.2 ∧ q.2 ≤ 6)) = true := by decide +kernel
  exact of_decide_eq_true (List.all_eq_true.mp ok _ h)
section
variable {P : Program} {w : World} {K : PySem.W.Frag} {mg : Str → Option Value} {base : Heap}
def spSizes : Sp := fun vs H Q _ => vs = [] ∧ ∀ d H', H d = none → H' d = some (.dK (toKV lawSizes)) → Fr [] H H' → Q (.ref d) H'
theorem sc_sizes : FnScope ["found"] [] (defScope s__law_sizes) := ⟨rfl, rfl, rfl, by decide +kernel, rfl, by decide +kernel, by decide +kernel⟩
theorem ok_sizes (F : FunAt K mg "_law_sizes" s__law_sizes) : Cal P w K mg base CX0 1 "_law_sizes" [] [] spSizes := by
  refine Cal.mk0 F sc_sizes (by rintro _ _ _ _ ⟨rfl, _⟩; rfl) (fun _ _ _ _ _ _ us hl => match us, hl with | [], _ => rfl) ?_
  rintro f cdv A outer s H vs Q E hr ⟨rfl, q⟩
  have nd := sc_sizes.nd
  refine ⟨_, (pss_cons (ps_set (i := 0) nd rfl (.inl rfl) (pe_disp (pps_cons pe_str pe_int (pps_cons pe_str pe_int (pps_cons pe_str pe_int (pps_cons pe_str pe_int (pps_cons pe_str pe_int (pps_cons pe_str pe_int (pps_cons pe_str pe_int (pps_cons pe_str pe_int (pps_cons pe_str pe_int pps_nil))))))))) (by rfl) (by rfl) (fun z => by cases z) (by decide)))
    (pss_cons (ps_expr (pe_bm PySem.F.plainAttrs_dict PySem.F.slot_dict_update PySem.F.type_dict_update mt_update (pv 0) (pa_cons (pe_disp (pps_cons pe_str pe_int (pps_cons pe_str pe_int (pps_cons pe_str pe_int (pps_cons pe_str pe_int (pps_cons pe_str pe_int (pps_cons pe_str pe_int (pps_cons pe_str pe_int pps_nil))))))) (by rfl) (by rfl) (fun z => by cases z) (by decide)) pa_nil)))
    (pss_cons (ps_expr (pe_bm PySem.F.plainAttrs_dict PySem.F.slot_dict_update PySem.F.type_dict_update mt_update (pv 0) (pa_cons (pe_disp (pps_cons pe_str pe_int (pps_cons pe_str pe_int (pps_cons pe_str pe_int (pps_cons pe_str pe_int (pps_cons pe_str pe_int (pps_cons pe_str pe_int (pps_cons pe_str pe_int pps_nil))))))) (by rfl) (by rfl) (fun z => by cases z) (by decide)) pa_nil)))
    (pss_one (ps_ret (pv 0)))))), ?_⟩
  intro d hd
  have f1 : Fr [] H (upd H d (.dK [])) := Fr.new hd
  have f2 : Fr [d] (upd H d (.dK [])) (upd (upd H d (.dK [])) d (.dK (mergeK [] (toKV szA)))) := Fr.set (List.mem_singleton.mpr rfl)
  have n1 := Fr.drop (f1.weak.trans f2) hd
  refine ⟨upd_same, toKV szA, rfl, (by decide), ?_⟩
  rw [mrg0 szA_nodup] at n1 ⊢
  refine ⟨_, rfl, .inr (.inr (.inl ⟨rfl, .inl ⟨_, upd_same⟩⟩)), fun p hp => ?_⟩
  have np : d ≠ p := ne_of_none upd_same hp
  have f3 := Fr.new (M := [d]) (o := .dK []) hp
  refine ⟨upd_same, toKV szB, rfl, (by decide), ?_⟩
  rw [mrg0 szB_nodup]
  refine ⟨d, p, _, _, rfl, rfl, np, by rw [upd_ne np, upd_ne np]; exact upd_same, upd_same, (by decide), ?_⟩
  rw [mrg1]
  refine ⟨_, rfl, .inr (.inr (.inl ⟨rfl, .inl ⟨_, upd_same⟩⟩)), fun p2 hp2 => ?_⟩
  have np2 : d ≠ p2 := ne_of_none upd_same hp2
  refine ⟨upd_same, toKV szC, rfl, (by decide), ?_⟩
  rw [mrg0 szC_nodup]
  refine ⟨d, p2, _, _, rfl, rfl, np2, by rw [upd_ne np2, upd_ne np2]; exact upd_same, upd_same, (by decide), ?_⟩
  rw [mrg2]
  refine ⟨_, rfl, q d _ hd upd_same ?_⟩
  refine Fr.drop (n1.weak.trans ?_) hd
  have g1 : ∀ {H : Hp} {o : HO}, Fr [d] H (upd H d o) := Fr.set (List.mem_singleton.mpr rfl)
  exact (Fr.drop ((Fr.new hp).weak.trans (Fr.set (List.mem_cons_self))) hp).trans (g1.trans ((Fr.drop ((Fr.new hp2).weak.trans (Fr.set (List.mem_cons_self))) hp2).trans g1))
end
end Tk

set_option Elab.async false
set_option linter.all false
set_option maxRecDepth 100000
set_option maxHeartbeats 4000000
namespace Tk
open PySem PySem.Spec PyProof.Rows L2

/-! ### the law's rows -/
/-- a row of ints -/
def GoodRw (r : Rw) : Prop := ∃ (q : Str × Int) (ns : List Int), q ∈ lawSizes ∧ r = ⟨q.1, ns.map V.int⟩ ∧ (ns.length : Int) = q.2 ∧ ∀ i, i ∈ ns → 0 ≤ i ∧ i < 10 ^ 13
theorem rwAt_of {H : Hp} {p : Addr} {q : Str × Int} {ns : List Int} (m : q ∈ lawSizes) (l : (ns.length : Int) = q.2) (h : H p = some (.tup (.str q.1 :: ns.map V.int))) : RwAt H (.ref p) ⟨q.1, ns.map V.int⟩ := by
  refine ⟨⟨p, rfl, h⟩, fun y hy => ?_, ?_⟩
  · obtain ⟨i, _, rfl⟩ := List.mem_map.mp hy
    exact ⟨_, .int i⟩
  · rw [(sz_size m).1]
    simp only [List.length_map]
    congr 1
    omega
theorem eqv_str (a b : Str) : eqV (.str a) (.str b) = decide (a = b) := by
  show (a == b) = _
  by_cases h : a = b
  · subst h; simp
  · rw [decide_eq_false h]; exact beq_eq_false_iff_ne.mpr h
theorem in_goStop (n : Str) : inV (.str n) [.str "go", .str "stop"] = (decide (n = "go") || decide (n = "stop")) := by
  show (eqV (.str "go") (.str n) || (eqV (.str "stop") (.str n) || false)) = _
  rw [eqv_str, eqv_str, Bool.or_false]
  congr 1 <;> (congr 1; exact propext ⟨Eq.symm, Eq.symm⟩)
theorem go_mem : (("go", 1) : Str × Int) ∈ lawSizes := by decide +kernel
theorem stop_mem : (("stop", 2) : Str × Int) ∈ lawSizes := by decide +kernel
/-- what the loop over the turns keeps -/
structure RowsI (H : Hp) (a pn : Addr) (y span : Int) (names : List Str) (i : Nat) (fo : Addr) (at_ : Int) (H' : Hp) : Prop where
  src : ∃ x z, H' a = some (srcO x y z)
  nm : H' pn = some (.lst (names.map V.str))
  ls : ∃ xs rs, H' fo = some (.lst xs) ∧ Paired (RwAt (Hd [a, fo] H')) xs rs ∧ (∀ r, r ∈ rs → GoodRw r) ∧ Mk0 rs at_ ∧ rs.length ≤ 2 * i
  new : H fo = none
  nfa : fo ≠ a
  npf : pn ≠ fo
  fr : Fr [a] H H'
  rng : 0 ≤ at_ ∧ at_ ≤ i * span
theorem hd_move {H' H2 : Hp} {a fo p : Addr} (fr : Fr [a] H' H2) (n : H' p = none) : Same (Hd [a, fo] H') (Hd [a, p] H2) := by
  intro b o h
  obtain ⟨m, h⟩ := of_Hd h
  have na : b ≠ a := fun z => m (by simp [z])
  have np : b ≠ p := ne_of_none h n
  rw [Hd_of (by simp [na, np])]
  exact fr.at h (by simpa using na)
section
variable {P : Program} {w : World} {K : PySem.W.Frag} {mg : Str → Option Value} {base : Heap}
def spRows : Sp := fun vs H Q _ => ∃ (a : Addr) (x y z span : Int) (many : Nat), vs = [.ref a, .int span, .int many] ∧ H a = some (srcO x y z) ∧ 0 < span ∧ span ≤ 10 ^ 10 ∧ many ≤ 16 ∧
  ∀ p xs rs H', H p = none → p ≠ a → H' p = some (.lst xs) → (∃ x z, H' a = some (srcO x y z)) → Fr [a] H H' → Paired (RwAt (Hd [a] H')) xs rs → (∀ r, r ∈ rs → GoodRw r) → Mk1 rs → rs.length ≤ 40 → Q (.ref p) H'
theorem sc_rows : FnScope ["source", "span", "many", "names", "turn", "found", "at", "name", "place"] ["source", "span", "many"] (defScope s__law_rows) := ⟨rfl, rfl, rfl, by decide +kernel, rfl, by decide +kernel, by decide +kernel⟩
theorem ok_rows (F : FunAt K mg "_law_rows" s__law_rows) (G : NoGl mg) (C__law_sizes : Cal P w K mg base CX0 1 "_law_sizes" [] [] spSizes) (C__law_next : Cal P w K mg base CX0 2 "_law_next" ["source", "many"] [] spDraw) :
    Cal P w K mg base CX0 3 "_law_rows" ["source", "span", "many"] [] spRows := by
  refine Cal.mk0 F sc_rows (by rintro _ _ _ _ ⟨_, _, _, _, _, _, rfl, _⟩; rfl) (fun _ _ _ _ _ _ us hl => match us, hl with | [_, _, _], _ => rfl) ?_
  rintro f cdv A outer s H vs Q E hr ⟨a, x, y, z, span, many, rfl, hs, sp0, sp1, hm, q⟩
  have nd := sc_rows.nd
  have hu1 := hu_of hr
  refine ⟨_, (pss_cons (ps_set (i := 3) nd rfl (.inl rfl) (pe_callB (call_sortedD rfl) (by rfl) G.sorted (by decide +kernel) (pa_cons (pe_c0 C__law_sizes (hr.mono (by decide)) (by rfl) pass0) pa_nil)))
    (pss_cons (ps_par (i := 5) (j := 6) (by rfl) nd rfl rfl (by decide) rfl rfl (pa_cons (pe_lst pa_nil) (pa_cons pe_int pa_nil)) (by rfl))
    (pss_cons (ps_for PassesOwn.never rfl (pi_range1 (by rfl) G.range (pa_cons (pv 2) pa_nil)) (pg_name (i := 4) nd rfl (.inl rfl))
      (pss_cons (ps_set (i := 6) nd rfl (.inl rfl) (pe_op op_add (pv 6) (pe_c C__law_next (hr.mono (by decide)) (by rfl) pass0 (pa_cons (pv 0) (pa_cons (pv 1) pa_nil)))))
      (pss_cons (ps_set (i := 7) nd rfl (.inl rfl) (pe_ix ix_list (pv 3) (pe_c C__law_next (hr.mono (by decide)) (by rfl) pass0 (pa_cons (pv 0) (pa_cons (pe_callB call_len_seq (by rfl) G.len (by decide +kernel) (pa_cons (pv 3) pa_nil)) pa_nil))) (fun _ _ => rfl)))
      (pss_one (ps_if (pt_cmpR op_in_seq (pv 7) (pe_tup (pa_cons pe_str (pa_cons pe_str pa_nil))) rfl)
        (pss_one (ps_set (i := 5) nd rfl (.inl rfl) (pe_op op_cat (pv 5) (pe_lst (pa_cons (pe_tup (pa_cons pe_str (pa_cons (pv 6) (pa_cons pe_int pa_nil)))) (pa_cons (pe_tup (pa_cons pe_str (pa_cons (pe_op op_add pe_int (pe_c C__law_next (hr.mono (by decide)) (by rfl) pass0 (pa_cons (pv 0) (pa_cons pe_int pa_nil)))) pa_nil))) pa_nil))))))
        (pss_one (ps_expr (pe_bm PySem.F.plainAttrs_list PySem.F.slot_list_append PySem.F.type_list_append mt_append (pv 5) (pa_cons (pe_op op_catT (pe_tup (pa_cons (pv 7) (pa_cons (pv 6) pa_nil))) (pe_callTy (T := "tuple") call_tuple_of (by rfl) G.tuple (by decide +kernel) (pa_cons (pe_lc (own := [("place", 8)]) (g := gName 8) (tt := tYes) rfl nd (pi_range1 (by rfl) G.range (pa_cons (pe_op op_sub (pe_dget hu1 (pe_c0 C__law_sizes (hr.mono (by decide)) (by rfl) pass0) (pv 7) (fun _ _ => rfl)) pe_int) pa_nil))
        (blkOk_by (own := [("place", 8)]) (N := ["source", "span", "many", "names", "turn", "found", "at", "name", "place"]) (sc := defScope s__law_rows) (by decide +kernel))
        (fun _ _ _ _ _ => (pg_name (i := 8) nd rfl (.inl rfl) (Or.inr rfl))) (fun _ _ _ _ _ => pts_nil)
        (fun _ _ _ _ _ => (pe_c C__law_next (hr.mono (by decide)) (by rfl) pass0 (pa_cons (pv 0) (pa_cons pe_int pa_nil))))) pa_nil))) pa_nil)))))))))
    (pss_one (ps_ret (pe_op op_cat (pv 5) (pe_op op_rep (pe_lst (pa_cons (pe_tup (pa_cons pe_str (pa_cons (pe_op op_add (pv 6) (pe_c C__law_next (hr.mono (by decide)) (by rfl) pass0 (pa_cons (pv 0) (pa_cons (pv 1) pa_nil)))) (pa_cons pe_int pa_nil)))) pa_nil)) (pe_callTy (T := "int") call_int1 (by rfl) G.int (by decide +kernel) (pa_cons (pe_cmpR op_eq (pe_c C__law_next (hr.mono (by decide)) (by rfl) pass0 (pa_cons (pv 0) (pa_cons pe_int pa_nil))) pe_int (nomark _)) pa_nil))))))))), ?_⟩
  -- names = sorted(_law_sizes())
  refine ⟨rfl, fun d H1 hd hd1 fr1 => ?_⟩
  refine ⟨d, _, lawSizes.map (·.1), rfl, .inl hd1, keys_kv _, (by decide), fun names pn hperm _ hpn => ?_⟩
  have frn := Fr.new (M := []) (o := .lst (names.map V.str)) hpn
  have ln : names.length = 23 := hperm.length_eq
  have s1 := (fr1.trans frn).same _ _ hs
  -- found, at = [], 0
  refine ⟨(by show 0 ≤ sizeLine; decide), fun f0 hf0 => ⟨_, _, rfl, ?_⟩⟩
  have frf := Fr.new (M := []) (o := .lst []) hf0
  have fr0 := fr1.trans (frn.trans frf)
  refine ⟨_, rfl, many, rfl, (by omega), (by omega), ?_⟩
  have npn : pn ≠ a := (ne_of_none (fr1.same _ _ hs) hpn).symm
  have nf0 : f0 ≠ a := (ne_of_none s1 hf0).symm
  have npf : pn ≠ f0 := ne_of_none upd_same hf0
  refine for_range (lo := 0) (n := many) (fun i σ H' => ∃ fo at_ s4 s7 s8, σ = [some (V.ref a), some (V.int span), some (V.int many), some (V.ref pn), s4, some (V.ref fo), some (V.int at_), s7, s8] ∧ RowsI H a pn y span names i fo at_ H')
    ⟨f0, 0, _, _, _, rfl, ⟨x, z, frf.same _ _ s1⟩, frf.same _ _ upd_same, ⟨[], [], upd_same, .nil, (fun _ h => nomatch h), .nil, Nat.le_refl _⟩, (fr1.trans frn).none hf0, nf0, npf, fr0.mono (fun _ h => nomatch h), by omega, by omega⟩ ?_ ?_
  · rintro i σ H' hi ⟨fo, at_, s4, s7, s8, rfl, I⟩
    obtain ⟨⟨x1, z1, src1⟩, nm1, ⟨xs, rs, hfo, pr, good, mk, len⟩, new, nfa, npfo, fr, at0, at1⟩ := I
    have K1 : ∀ {H1 H2 : Hp}, Fr [a] H1 H2 → ∀ {b o}, H1 b = some o → b ≠ a → H2 b = some o := fun fr b o h ne => fr.at h (by simpa using ne)
    -- at
    refine ⟨_, rfl, _, rfl, _, rfl, a, x1, y, z1, span, rfl, src1, sp0, (by omega), fun d1 x2 z2 H2 d10 d11 src2 fr2 => ⟨_, _, rfl, rfl, ?_⟩⟩
    have nm2 := K1 fr2 nm1 npn
    have hfo2 := K1 fr2 hfo nfa
    -- name
    refine ⟨_, rfl, _, rfl, _, rfl, pn, _, rfl, .inl (SqL.of nm2), a, x2, y, z2, _, rfl, src2, (by rw [List.length_map, ln]; decide), (by rw [List.length_map, ln]; decide), fun d2 x3 z3 H3 d20 d21 src3 fr3 => ?_⟩
    have nm3 := K1 fr3 nm2 npn
    have hfo3 := K1 fr3 hfo2 nfa
    rw [List.length_map, ln] at d21
    obtain ⟨j, rfl⟩ : ∃ j : Nat, d2 = j := ⟨d2.toNat, by omega⟩
    have hj : j < names.length := by omega
    have mem : names[j] ∈ lawSizes.map (·.1) := hperm.mem_iff.mp (List.getElem_mem hj)
    generalize hn : names[j] = n at mem
    refine ⟨pn, _, _, V.str n, rfl, rfl, SqL.of nm3, atI_nat (j := j) (by rw [List.getElem?_map, List.getElem?_eq_getElem hj, hn]; rfl), ?_⟩
    -- name in ('go', 'stop')
    refine ⟨_, rfl, (by show 2 ≤ sizeLine; decide), fun pt hpt => ⟨pt, _, rfl, .inr (SqT.of upd_same), rfl, rfl, _, rfl, ?_⟩⟩
    have frt := Fr.new (M := []) (o := .tup [V.str "go", V.str "stop"]) hpt
    have src4 := frt.same _ _ src3
    have nm4 := frt.same _ _ nm3
    have hfo4 := frt.same _ _ hfo3
    have fr14 : Fr [a] H' (upd H3 pt (.tup [V.str "go", V.str "stop"])) := fr2.trans (fr3.trans (frt.mono fun _ h => nomatch h))
    have fo3 : Hd [a, fo] H' = Hd [a, fo] H' := rfl
    show if inV (V.str n) [V.str "go", V.str "stop"] = true then _ else _
    rw [in_goStop]
    have lx := PySem.Paired.length pr
    have atn : at_ ≤ at_ + d1 := by omega
    have at0' : 0 ≤ at_ + d1 := by omega
    have at1' : at_ + d1 ≤ (i + 1 : Nat) * span := by
      have : ((i + 1 : Nat) : Int) * span = i * span + span := by rw [Int.natCast_add, Int.add_mul]; simp
      omega
    have at2 : at_ + d1 < 10 ^ 13 := by
      have h1 : ((i + 1 : Nat) : Int) ≤ 16 := by omega
      have h2 : ((i + 1 : Nat) : Int) * span ≤ 16 * span := Int.mul_le_mul_of_nonneg_right h1 (by omega)
      omega
    refine ite2 (fun c => ?_) (fun c => ?_)
    · -- found = found + [('stop', at, 3), ('go', 3 + draw)]
      refine ⟨_, rfl, _, rfl, (by show 3 ≤ sizeLine; decide), fun p1 hp1 => ⟨_, rfl, a, x3, y, z3, 5, rfl, ?_⟩⟩
      have frp1 := Fr.new (M := []) (o := .tup [V.str "stop", V.int (at_ + d1), V.int 3]) hp1
      refine ⟨frp1.same _ _ src4, by decide, by decide, fun d5 x5 z5 H5 d50 d51 src5 fr5 => ⟨_, _, rfl, rfl, (by show 2 ≤ sizeLine; decide), fun p2 hp2 => ⟨(by show 2 ≤ sizeLine; decide), fun p3 hp3 => ?_⟩⟩⟩
      have np1a : p1 ≠ a := (ne_of_none src4 hp1).symm
      have h15 := K1 fr5 upd_same np1a
      have frp2 := Fr.new (M := []) (o := .tup [V.str "go", V.int (3 + d5)]) hp2
      have frp3 := Fr.new (M := []) (o := .lst [V.ref p1, V.ref p2]) hp3
      have fr13 : ∀ {M}, Fr M _ _ := fun {M} => (frp2.trans frp3).mono (N := M) fun _ h => nomatch h
      have hfo5 := fr13.at (M := []) (K1 fr5 (frp1.same _ _ hfo4) nfa) List.not_mem_nil
      refine ⟨fo, p3, xs, _, rfl, rfl, hfo5, upd_same, (by rw [sizeLine_eq]; show xs.length + 2 ≤ _; omega), fun p4 hp4 => ?_⟩
      have frp4 := Fr.new (M := []) (o := .lst (xs ++ [V.ref p1, V.ref p2])) hp4
      have frA : Fr [a] H' _ := fr14.trans ((frp1.mono (fun _ h => nomatch h)).trans (fr5.trans (fr13.trans (frp4.mono (fun _ h => nomatch h)))))
      have fr1B := fr14.trans ((frp1.mono (fun _ h => nomatch h)).trans (fr5.trans (fr13 (M := [a]))))
      have np4 : p4 ≠ a := (ne_of_none (fr13.at (M := []) src5 List.not_mem_nil) hp4).symm
      have np4n : pn ≠ p4 := ne_of_none (fr13.at (M := []) (K1 fr5 (frp1.same _ _ nm4) npn) List.not_mem_nil) hp4
      have e1 : (upd (upd (upd H5 p2 (.tup [V.str "go", V.int (3 + d5)])) p3 (.lst [V.ref p1, V.ref p2])) p4 (.lst (xs ++ [V.ref p1, V.ref p2]))) p1 = some (.tup [V.str "stop", V.int (at_ + d1), V.int 3]) := frp4.same _ _ (fr13.at (M := []) h15 List.not_mem_nil)
      have e2 := frp4.same p2 _ (frp3.same p2 _ upd_same)
      have nn1 : p1 ≠ p4 := ne_of_none (fr13.at (M := []) h15 List.not_mem_nil) hp4
      have nn2 : p2 ≠ p4 := ne_of_none (frp3.same p2 _ upd_same) hp4
      have np2a : p2 ≠ a := (ne_of_none src5 hp2).symm
      refine ⟨p4, at_ + d1, _, _, _, rfl, ⟨x5, z5, frp4.same _ _ (fr13.at (M := []) src5 List.not_mem_nil)⟩, frA.at nm1 (by simpa using npn),
        ⟨xs ++ [V.ref p1, V.ref p2], rs ++ [⟨"stop", [V.int (at_ + d1), V.int 3]⟩, ⟨"go", [V.int (3 + d5)]⟩], upd_same, ?_, ?_, ?_, ?_⟩, (fr.trans fr1B).none hp4, np4, np4n, fr.trans frA, at0', at1'⟩
      · refine Paired.app (L2.Paired.mapP pr fun x y c => c.same (hd_move frA (fr1B.none hp4))) (.cons (rwAt_of (ns := [at_ + d1, 3]) stop_mem rfl ?_) (.cons (rwAt_of (ns := [3 + d5]) go_mem rfl ?_) .nil))
        · rw [Hd_of (by simp [np1a, nn1])]; exact e1
        · rw [Hd_of (by simp [np2a, nn2])]; exact e2
      · intro r hr
        rcases List.mem_append.mp hr with h | h
        · exact good r h
        · rcases List.mem_cons.mp h with rfl | h
          · exact ⟨_, [at_ + d1, 3], stop_mem, rfl, rfl, fun k hk => by simp at hk; omega⟩
          · obtain rfl := List.mem_singleton.mp h
            exact ⟨_, [3 + d5], go_mem, rfl, rfl, fun k hk => by simp at hk; omega⟩
      · exact mk.pair at0 atn rfl rfl rfl rfl rfl
      · rw [List.length_append]; show rs.length + 2 ≤ _; omega
    · -- found.append((name, at) + tuple([draws]))
      have ng : n ≠ "go" ∧ n ≠ "stop" := by
        rw [Bool.or_eq_true, decide_eq_true_eq, decide_eq_true_eq, not_or] at c
        exact c
      obtain ⟨⟨n', k⟩, mk', rfl⟩ := List.mem_map.mp mem
      obtain ⟨_, k1, k6⟩ := sz_size mk'
      have k1 : 1 ≤ k := k1
      have k6 : k ≤ 6 := k6
      refine ⟨_, rfl, .inl ⟨rfl, _, SqL.of hfo4⟩, _, rfl, _, rfl, (by show 2 ≤ sizeLine; decide), fun p1 hp1 => ?_⟩
      have frp1 := Fr.new (M := []) (o := .tup [V.str n', V.int (at_ + d1)]) hp1
      refine ⟨rfl, fun d H5 hd hd5 fr5 => ?_⟩
      have dg : DGet H5 d (V.str n') (some (V.int k)) := by
        have t := DGet.k (k := (Sum.inr n' : Key)) hd5
        rw [sz_val mk'] at t
        exact t
      refine ⟨_, rfl, d, _, rfl, dg, _, _, rfl, rfl, k - 1, rfl, (by omega), (by omega), fun D hD => ?_⟩
      have src5 := fr5.same _ _ (frp1.same _ _ src4)
      have fr15 : Fr [a] H' H5 := fr14.trans ((frp1.trans fr5).mono fun _ h => nomatch h)
      have nDa : D ≠ a := (ne_of_none src5 hD).symm
      have nDf : D ≠ fo := (ne_of_none (K1 fr15 hfo nfa) hD).symm
      have hp15 := fr5.same p1 _ upd_same
      have np1a : p1 ≠ a := (ne_of_none src4 hp1).symm
      have np1f : p1 ≠ fo := (ne_of_none hfo4 hp1).symm
      refine lc_range (lo := 0) (n := (k - 1).toNat) (fun j H6 => ∃ ns : List Int, ns.length = j ∧ (∀ x, x ∈ ns → 0 ≤ x ∧ x < 5) ∧ H6 D = some (.lst (ns.map V.int)) ∧ (∃ x z, H6 a = some (srcO x y z)) ∧ Fr [a] H5 H6)
        ⟨[], rfl, (fun _ h => nomatch h), upd_same, ⟨x3, z3, by rw [upd_ne nDa.symm]; exact src5⟩, Fr.new hD⟩ ?_ ?_
      · rintro j H6 hj6 ⟨ns, l6, b6, hD6, ⟨x6, z6, src6⟩, fr6⟩
        refine ⟨rfl, _, rfl, a, x6, y, z6, 5, rfl, src6, by decide, by decide, fun d7 x7 z7 H7 d70 d71 src7 fr7 => ?_⟩
        have hD7 := K1 fr7 hD6 nDa
        refine ⟨_, hD7, (by rw [List.length_map, sizeLine_eq]; omega), ns ++ [d7], (by rw [List.length_append]; show ns.length + 1 = _; omega), ?_, ?_, ⟨x7, z7, by rw [upd_ne nDa.symm]; exact src7⟩, ?_⟩
        · intro x hx
          rcases List.mem_append.mp hx with h | h
          · exact b6 x h
          · obtain rfl := List.mem_singleton.mp h
            exact ⟨d70, d71⟩
        · rw [upd_same, List.map_append]; rfl
        · exact Fr.drop ((fr6.trans fr7).weak.trans (Fr.set List.mem_cons_self)) hD
      · rintro H6 ⟨ns, l6, b6, hD6, ⟨x6, z6, src6⟩, fr6⟩
        refine ⟨D, _, rfl, .inl ⟨SqL.of hD6, fun l hl => ?_⟩⟩
        have frl := Fr.new (M := []) (o := .tup (ns.map V.int)) hl
        have frA : Fr [a] H' (upd H6 l (.tup (ns.map V.int))) := fr15.trans (fr6.trans (frl.mono fun _ h => nomatch h))
        have hp16 := frl.same _ _ (K1 fr6 hp15 np1a)
        have lk : (ns.length : Int) = k - 1 := by omega
        have fin : ∀ (Hx : Hp) (pt : Addr), Fr [a] H' Hx → Hx pt = some (.tup (V.str n' :: V.int (at_ + d1) :: ns.map V.int)) → pt ≠ a → pt ≠ fo → (∃ x z, Hx a = some (srcO x y z)) →
            RowsI H a pn y span names (i + 1) fo (at_ + d1) (upd Hx fo (.lst (xs ++ [V.ref pt]))) := by
          intro Hx pt frx hx nxa nxf ⟨x9, z9, src9⟩
          have frX : Fr [a, fo] H' (upd Hx fo (.lst (xs ++ [V.ref pt]))) := (frx.mono (by simp)).trans (Fr.set (by simp))
          refine ⟨⟨x9, z9, by rw [upd_ne nfa.symm]; exact src9⟩, by rw [upd_ne npfo]; exact K1 frx nm1 npn, ⟨xs ++ [V.ref pt], rs ++ [⟨n', ((at_ + d1) :: ns).map V.int⟩], upd_same, ?_, ?_, ?_, ?_⟩, new, nfa, npfo, ?_, at0', at1'⟩
          · refine Paired.app (L2.Paired.mapP pr fun x y c => c.same frX.hd) (.cons (rwAt_of (q := (n', k)) mk' (by rw [List.length_cons]; omega) ?_) .nil)
            rw [Hd_of (by simp [nxa, nxf]), upd_ne nxf]; exact hx
          · intro r hr
            rcases List.mem_append.mp hr with h | h
            · exact good r h
            · obtain rfl := List.mem_singleton.mp h
              refine ⟨(n', k), (at_ + d1) :: ns, mk', rfl, by rw [List.length_cons]; show ((ns.length + 1 : Nat) : Int) = k; omega, fun x hx => ?_⟩
              rcases List.mem_cons.mp hx with rfl | h
              · exact ⟨at0', at2⟩
              · have := b6 x h; omega
          · exact mk.plain at0 atn (decide_eq_false ng.1) (decide_eq_false ng.2) rfl
          · rw [List.length_append]; show rs.length + 1 ≤ _; omega
          · exact Fr.drop ((fr.trans frx).weak.trans (Fr.set List.mem_cons_self)) new
        have hfoA := frA.at hfo (by simpa using nfa)
        have hsrcA : (upd H6 l (.tup (ns.map V.int))) a = some (srcO x6 y z6) := frl.same _ _ src6
        refine ⟨p1, l, _, _, rfl, rfl, SqT.of hp16, SqT.of upd_same, (fun z => nomatch z), (by rw [List.length_map, sizeLine_eq]; show 2 + ns.length ≤ _; omega), fun e => ?_, fun _ p5 hp5 => ?_⟩
        · have en : ns = [] := List.map_eq_nil_iff.mp e
          refine ⟨fo, xs, _, rfl, rfl, hfoA, (by rw [sizeLine_eq]; omega), fo, at_ + d1, _, _, _, rfl, fin _ p1 frA ?_ np1a np1f ⟨x6, z6, hsrcA⟩⟩
          rw [hp16, en]
          rfl
        · have frp5 := Fr.new (M := []) (o := .tup ([V.str n', V.int (at_ + d1)] ++ ns.map V.int)) hp5
          refine ⟨fo, xs, _, rfl, rfl, frp5.same _ _ hfoA, (by rw [sizeLine_eq]; omega), fo, at_ + d1, _, _, _, rfl, fin _ p5 (frA.trans (frp5.mono fun _ h => nomatch h)) upd_same (ne_of_none hsrcA hp5).symm (ne_of_none hfoA hp5).symm ⟨x6, z6, frp5.same _ _ hsrcA⟩⟩
  · rintro σ H' ⟨fo, at_, s4, s7, s8, rfl, I⟩
    obtain ⟨⟨x1, z1, src1⟩, nm1, ⟨xs, rs, hfo, pr, good, mk, len⟩, new, nfa, npfo, fr, at0, at1⟩ := I
    have K1 : ∀ {H1 H2 : Hp}, Fr [a] H1 H2 → ∀ {b o}, H1 b = some o → b ≠ a → H2 b = some o := fun fr b o h ne => fr.at h (by simpa using ne)
    have lx := PySem.Paired.length pr
    refine ⟨_, rfl, _, rfl, _, rfl, _, rfl, a, x1, y, z1, span, rfl, src1, sp0, (by omega), fun d1 x2 z2 H2 d10 d11 src2 fr2 => ⟨_, _, rfl, rfl, (by show 3 ≤ sizeLine; decide), fun p1 hp1 => ⟨(by show 1 ≤ sizeLine; decide), fun p2 hp2 => ?_⟩⟩⟩
    have frp1 := Fr.new (M := []) (o := .tup [V.str "stop", V.int (at_ + d1), V.int 1]) hp1
    have frp2 := Fr.new (M := []) (o := .lst [V.ref p1]) hp2
    have src3 := frp2.same _ _ (frp1.same _ _ src2)
    refine ⟨_, rfl, a, x2, y, z2, 6, rfl, src3, by decide, by decide, fun d2 x3 z3 H3 d20 d21 src4 fr3 => ⟨rfl, .inr ⟨_, rfl, ?_⟩⟩⟩
    have fr13 : Fr [a] H' H3 := fr2.trans (((frp1.trans frp2).mono (fun _ h => nomatch h)).trans fr3)
    have hfo3 := K1 fr13 hfo nfa
    have np1a : p1 ≠ a := (ne_of_none src2 hp1).symm
    have np2a : p2 ≠ a := (ne_of_none (frp1.same _ _ src2) hp2).symm
    have hp13 := K1 fr3 (frp2.same p1 _ upd_same) np1a
    have hp23 := K1 fr3 (b := p2) upd_same np2a
    have at2 : at_ + d1 < 10 ^ 13 := by
      have h2 : (many : Int) * span ≤ 16 * span := Int.mul_le_mul_of_nonneg_right (by omega) (by omega)
      omega
    generalize decide (V.int d2 = V.int 0) = b
    refine ⟨p2, _, [V.ref p1], rfl, rfl, hp23, (by cases b <;> decide), (by cases b <;> decide), (by cases b <;> (rw [sizeLine_eq]; simp)), fun p3 hp3 => ?_⟩
    have frp3 : ∀ o, Fr [] H3 (upd H3 p3 o) := fun o => Fr.new hp3
    refine ⟨fo, p3, xs, _, rfl, rfl, (frp3 _).same _ _ hfo3, upd_same, (by cases b <;> (rw [sizeLine_eq]; simp; omega)), fun p4 hp4 => ?_⟩
    have frp4 : ∀ o, Fr [] _ (upd _ p4 o) := fun o => Fr.new hp4
    have frA : ∀ o, Fr [a] H' (upd _ p4 o) := fun o => fr13.trans (((frp3 _).trans (frp4 o)).mono (fun _ h => nomatch h))
    have nfr : H' p4 = none := (fr13.trans ((frp3 _).mono (fun _ h => nomatch h))).none hp4
    have np4a : p4 ≠ a := (ne_of_none ((frp3 _).same _ _ src4) hp4).symm
    have move : ∀ o, Same (Hd [a, fo] H') (Hd [a] (upd _ p4 o)) := fun o => Same.trans (frA o |>.mono (by simp)).hd (Hd_mono (by simp))
    have rows : ∀ o, Paired (RwAt (Hd [a] (upd _ p4 o))) xs rs := fun o => L2.Paired.mapP pr fun x y c => c.same (move o)
    cases b with
    | false =>
      exact q p4 _ rs _ (fr.none nfr) np4a upd_same ⟨x3, z3, (frp4 _).same _ _ ((frp3 _).same _ _ src4)⟩ (fr.trans (frA _)) (by
        have e : xs ++ (List.replicate (Int.toNat (if false = true then 1 else 0)) [V.ref p1]).flatten = xs := by simp
        rw [e]
        exact rows _) good mk.done (by omega)
    | true =>
      refine q p4 _ (rs ++ [⟨"stop", [V.int (at_ + d1), V.int 1]⟩]) _ (fr.none nfr) np4a upd_same ⟨x3, z3, (frp4 _).same _ _ ((frp3 _).same _ _ src4)⟩ (fr.trans (frA _)) ?_ ?_ (mk.stop at0 (by omega : at_ ≤ at_ + d1) rfl rfl rfl) (by rw [List.length_append]; show rs.length + 1 ≤ _; omega)
      · refine Paired.app (rows _) (.cons (rwAt_of (ns := [at_ + d1, 1]) stop_mem rfl ?_) .nil)
        rw [Hd_of (by simp [np1a])]
        exact (frp4 _).same _ _ ((frp3 _).same _ _ hp13)
      · intro r hr
        rcases List.mem_append.mp hr with h | h
        · exact good r h
        · obtain rfl := List.mem_singleton.mp h
          exact ⟨_, [at_ + d1, 1], stop_mem, rfl, rfl, fun k hk => by simp at hk; omega⟩
end
end Tk

set_option Elab.async false
set_option linter.all false
set_option maxRecDepth 100000
set_option maxHeartbeats 4000000
namespace Tk
open PySem PySem.Spec PyProof.Rows L2

section
variable {P : Program} {w : World} {K : PySem.W.Frag} {mg : Str → Option Value} {base : Heap}
theorem wipe1 {σ : L2.St} {i : Nat} {x : V} : wipe ((wipe σ [i]).set i (some x)) [i] = wipe σ [i] := by simp [wipe, List.set_set]
theorem slot1 {σ : L2.St} {i : Nat} {x : V} (hi : i < σ.length) : ((wipe σ [i]).set i (some x))[i]? = some (some x) := by simp [wipe, hi]
/-- [row[1] for row in rows if row[0] != 'go'] -/
theorem ev_cyc {σ : L2.St} {i j : Nat} {a : Addr} {xs : List V} {rs : List Rw} {H : Hp} {Q : VK} (hj : σ[j]? = some (some (V.ref a))) (hi : i < σ.length) (h : H a = some (.lst xs)) (r : Paired (RwAt H) xs rs) (hz : xs.length < sizeLine)
    (q : ∀ D H', H D = none → H' D = some (.lst (cycV rs)) → Fr [] H H' → Q (.ref D) H') :
    tLc (iList K (tVar j)) (gName i) (tTest (tOp rNe (tOp (rIxT K) (tVar i) (tC (.int 0))) (tC (.str "go")))) (tOp (rIxT K) (tVar i) (tC (.int 1))) [i] σ H Q := by
  refine ⟨_, hj, a, rfl, ⟨xs, SqL.of h⟩, fun D hD => ?_⟩
  refine lc_listR (K := K) (fun x => !(rowOf H x).is "go") (fun x y _ => y = (rowOf H x).at) (fun _ _ _ _ _ h => h) hD hz (fun _ => wipe1) ?_ ?_ ?_ (SqL.of h)
  · intro x H' Q' hx fr _ hq
    obtain ⟨y, _, ry⟩ := Paired.mem r hx
    obtain ⟨p, e, st, i0, i1⟩ := row_ix (K := K) (ry.same fr.same)
    subst e
    refine ⟨_, slot1 hi, p, _, _, _, rfl, rfl, st, i0, rfl, _, rfl, ?_⟩
    rw [dec_str]
    have q2 := hq _ (Fr.refl _ _)
    rw [rowOf_eq ry] at q2
    exact q2
  · intro x H' Q' hx _ fr _ hq
    obtain ⟨y, _, ry⟩ := Paired.mem r hx
    obtain ⟨p, e, st, i0, i1⟩ := row_ix (K := K) (ry.same fr.same)
    subst e
    exact ⟨_, slot1 hi, p, _, _, _, rfl, rfl, st, i1, hq _ _ (Fr.refl _ _) (by rw [rowOf_eq ry])⟩
  · intro H2 ys hD2 fr2 md
    have e := (md.pure (f := fun x => (rowOf H x).at) (fun _ _ _ h => h)).trans (Made.rows (pr := fun r => !r.is "go") (fr := Rw.at) (fun x r a => by rw [rowOf_eq a]) (fun x r a => by rw [rowOf_eq a]) r)
    exact q D H2 hD (by rw [hD2, e]; rfl) fr2

/-! ### the law's looks -/
theorem good_at {r : Rw} (g : GoodRw r) : ∃ i, r.at = .int i ∧ 0 ≤ i ∧ i < 10 ^ 13 := by
  obtain ⟨q, ns, m, rfl, l, b⟩ := g
  have := (sz_size m).2.1
  cases ns with
  | nil => simp at l; omega
  | cons n ns => exact ⟨n, rfl, b n List.mem_cons_self⟩
theorem good_cyc {rs : List Rw} (g : ∀ r, r ∈ rs → GoodRw r) : ∃ cs : List Int, cycV rs = cs.map V.int ∧ cs.length ≤ rs.length ∧ ∀ c, c ∈ cs → 0 ≤ c ∧ c < 10 ^ 13 := by
  induction rs with
  | nil => exact ⟨[], rfl, Nat.le_refl _, fun _ h => nomatch h⟩
  | cons r rs ih =>
    obtain ⟨cs, e, l, b⟩ := ih fun r h => g r (List.mem_cons_of_mem _ h)
    cases z : r.is "go" with
    | true => exact ⟨cs, by rw [← e]; simp [cycV, z], by rw [List.length_cons]; omega, b⟩
    | false =>
      obtain ⟨i, ei, b0, b1⟩ := good_at (g r List.mem_cons_self)
      refine ⟨i :: cs, by rw [List.map_cons, ← e]; simp [cycV, z, ei], by simp; omega, fun c hc => ?_⟩
      rcases List.mem_cons.mp hc with rfl | h
      · exact ⟨b0, b1⟩
      · exact b c h
def spLooks : Sp := fun vs H Q _ => ∃ (a p : Addr) (x y z span : Int) (xs : List V) (rs : List Rw), vs = [.ref a, .ref p, .int span] ∧ H a = some (srcO x y z) ∧ p ≠ a ∧ H p = some (.lst xs) ∧ Paired (RwAt (Hd [a] H)) xs rs ∧
  (∀ r, r ∈ rs → GoodRw r) ∧ rs.length ≤ 40 ∧ 0 < span ∧ span ≤ 10 ^ 10 ∧
  ∀ (l : Addr) (ls : List Int) (H' : Hp), H l = none → l ≠ a → H' l = some (.lst (ls.map V.int)) → (∃ x z, H' a = some (srcO x y z)) → Fr [a] H H' → ls.Pairwise (· ≤ ·) → ls.length ≤ 8 → (∀ c, c ∈ ls → 0 ≤ c ∧ c < 10 ^ 14) → Q (.ref l) H'
theorem sc_looks : FnScope ["source", "rows", "span", "cycles", "found", "turn", "far", "row"] ["source", "rows", "span"] (defScope s__law_looks) := ⟨rfl, rfl, rfl, by decide +kernel, rfl, by decide +kernel, by decide +kernel⟩
theorem ok_looks (F : FunAt K mg "_law_looks" s__law_looks) (G : NoGl mg) (C__law_next : Cal P w K mg base CX0 2 "_law_next" ["source", "many"] [] spDraw) :
    Cal P w K mg base CX0 3 "_law_looks" ["source", "rows", "span"] [] spLooks := by
  refine Cal.mk0 F sc_looks (by rintro _ _ _ _ ⟨_, _, _, _, _, _, _, _, rfl, _⟩; rfl) (fun _ _ _ _ _ _ us hl => match us, hl with | [_, _, _], _ => rfl) ?_
  rintro f cdv A outer s H vs Q E hr ⟨a, p, x, y, z, span, xs, rs, rfl, hs, npa, hp, pr, good, len, sp0, sp1, q⟩
  have nd := sc_looks.nd
  refine ⟨_, (pss_cons (ps_set (i := 3) nd rfl (.inl rfl) (pe_op op_cat (pe_lc (own := [("row", 7)]) (g := gName 7) (tt := tTest (tOp rNe (tOp (rIxT K) (tVar 7) (tC (.int 0))) (tC (.str "go")))) (te := tOp (rIxT K) (tVar 7) (tC (.int 1))) rfl nd (pi_list (pv 1))
        (blkOk_by (own := [("row", 7)]) (N := ["source", "rows", "span", "cycles", "found", "turn", "far", "row"]) (sc := defScope s__law_looks) (by decide +kernel))
        (fun _ _ _ _ _ => (pg_name (i := 7) nd rfl (.inl rfl) (Or.inr rfl))) (fun _ _ _ _ _ => (pts_one (pt_cmpR op_ne (pe_ix ix_tup (pv 7) pe_int (fun _ _ => rfl)) pe_str (nomark _))))
        (fun _ _ _ _ _ => (pe_ix ix_tup (pv 7) pe_int (fun _ _ => rfl)))) (pe_lst (pa_cons pe_int pa_nil))))
    (pss_cons (ps_set (i := 4) nd rfl (.inl rfl) (pe_lst pa_nil))
    (pss_cons (ps_for PassesOwn.never rfl (pi_range1 (by rfl) G.range (pa_cons (pe_c C__law_next (hr.mono (by decide)) (by rfl) pass0 (pa_cons (pv 0) (pa_cons pe_int pa_nil))) pa_nil)) (pg_name (i := 5) nd rfl (.inl rfl))
      (pss_cons (ps_set (i := 6) nd rfl (.inl rfl) (pe_c C__law_next (hr.mono (by decide)) (by rfl) pass0 (pa_cons (pv 0) (pa_cons (pe_op op_add (pe_callB (cr_max rfl) (by rfl) G.max (by decide +kernel) (pa_cons (pv 3) pa_nil)) (pv 2)) pa_nil))))
      (pss_one (ps_expr (pe_bm PySem.F.plainAttrs_list PySem.F.slot_list_append PySem.F.type_list_append mt_append (pv 4) (pa_cons (pe_ix ix_list (pe_lst (pa_cons (pv 6) (pa_cons (pe_ix ix_list (pv 3) (pe_c C__law_next (hr.mono (by decide)) (by rfl) pass0 (pa_cons (pv 0) (pa_cons (pe_callB call_len_seq (by rfl) G.len (by decide +kernel) (pa_cons (pv 3) pa_nil)) pa_nil))) (fun _ _ => rfl)) (pa_cons (pe_ix ix_list (pe_op op_cat (pv 4) (pe_lst (pa_cons pe_int pa_nil))) (pe_un un_neg pe_int) (fun _ _ => rfl)) pa_nil)))) (pe_c C__law_next (hr.mono (by decide)) (by rfl) pass0 (pa_cons (pv 0) (pa_cons pe_int pa_nil))) (fun _ _ => rfl)) pa_nil))))))
    (pss_one (ps_ret (pe_callB cr_sorted (by rfl) G.sorted (by decide +kernel) (pa_cons (pv 4) pa_nil))))))), ?_⟩
  have lx := PySem.Paired.length pr
  obtain ⟨cs, ecs, lcs, bcs⟩ := good_cyc good
  dsimp only [L2.tSeq, L2.tAsg]
  unfold L2.tOp
  refine ev_cyc (K := K) (j := 1) (i := 7) ?_ ?_ hp (L2.Paired.mapP pr fun x y c => c.same Hd_same) (by rw [sizeLine_eq]; omega) fun D H1 hD hD1 fr1 => ?_
  · rfl
  · show (7 : Nat) < 8; decide
  rw [ecs] at hD1
  refine ⟨(by show 1 ≤ sizeLine; decide), fun p1 hp1 => ?_⟩
  have frp1 := Fr.new (M := []) (o := .lst [V.int 0]) hp1
  refine ⟨D, p1, _, _, rfl, rfl, frp1.same _ _ hD1, upd_same, (by rw [List.length_map, sizeLine_eq]; show cs.length + 1 ≤ _; omega), fun pc hpc => ?_⟩
  have frpc := Fr.new (M := []) (o := .lst (cs.map V.int ++ [V.int 0])) hpc
  refine ⟨(by show 0 ≤ sizeLine; decide), fun fo hfo => ?_⟩
  have frf := Fr.new (M := []) (o := .lst []) hfo
  have frA := fr1.trans (frp1.trans (frpc.trans frf))
  have s1 := frA.same _ _ hs
  have ecy : cs.map V.int ++ [V.int 0] = (cs ++ [0]).map V.int := by simp
  have hc1 := (frf.same pc _ upd_same).trans (congrArg (fun l => some (HO.lst l)) ecy)
  have npc : pc ≠ a := (ne_of_none ((fr1.trans frp1).same _ _ hs) hpc).symm
  have nfo : fo ≠ a := (ne_of_none ((fr1.trans (frp1.trans frpc)).same _ _ hs) hfo).symm
  have npf : pc ≠ fo := ne_of_none upd_same hfo
  have nof : H fo = none := (fr1.trans (frp1.trans frpc)).none hfo
  have K1 : ∀ {H1 H2 : Hp}, Fr [a] H1 H2 → ∀ {b o}, H1 b = some o → b ≠ a → H2 b = some o := fun fr b o h ne => fr.at h (by simpa using ne)
  refine ⟨_, rfl, a, x, y, z, 9, rfl, s1, by decide, by decide, fun d0 x1 z1 H2 d00 d01 src2 fr2 => ⟨d0, rfl, by omega, by omega, ?_⟩⟩
  refine for_range (lo := 0) (n := d0.toNat) (fun i σ H' => ∃ (s5 s6 : Option V) (ns : List Int), σ = [some (V.ref a), some (V.ref p), some (V.int span), some (V.ref pc), some (V.ref fo), s5, s6, none] ∧ (∃ x z, H' a = some (srcO x y z)) ∧
      H' pc = some (.lst ((cs ++ [0]).map V.int)) ∧ H' fo = some (.lst (ns.map V.int)) ∧ ns.length = i ∧ (∀ c, c ∈ ns → 0 ≤ c ∧ c < 10 ^ 14) ∧ Fr [a] H H')
    ⟨_, _, [], rfl, ⟨x1, z1, src2⟩, K1 fr2 hc1 npc, K1 fr2 upd_same nfo, rfl, (fun _ h => nomatch h), (frA.mono (fun _ h => nomatch h)).trans fr2⟩ ?_ ?_
  · rintro i σ H' hi ⟨s5, s6, ns, rfl, ⟨x3, z3, src3⟩, hc3, hf3, ln, bn, fr3⟩
    refine ⟨_, rfl, _, rfl, pc, _, rfl, SqL.of hc3, (by rw [List.length_append]; show 0 < cs.length + 1; omega), fun m hm _ => ?_⟩
    have bm : 0 ≤ m ∧ m < 10 ^ 13 := by
      rcases List.mem_append.mp hm with h | h
      · exact bcs m h
      · obtain rfl := List.mem_singleton.mp h; decide
    refine ⟨_, rfl, _, _, rfl, rfl, a, x3, y, z3, m + span, rfl, src3, by omega, by omega, fun d1 x4 z4 H4 d10 d11 src4 fr4 => ?_⟩
    have hf4 := K1 fr4 hf3 nfo
    have hc4 := K1 fr4 hc3 npc
    refine ⟨_, rfl, .inl ⟨rfl, _, SqL.of hf4⟩, _, rfl, _, rfl, _, rfl, _, rfl, pc, _, rfl, .inl (SqL.of hc4), a, x4, y, z4, _, rfl, src4, ?_⟩
    have lcy : (((cs ++ [0]).map V.int).length : Int) = cs.length + 1 := by simp
    refine ⟨by rw [lcy]; omega, by rw [lcy]; omega, fun d2 x5 z5 H5 d20 d21 src5 fr5 => ?_⟩
    rw [lcy] at d21
    obtain ⟨j, rfl⟩ : ∃ j : Nat, d2 = j := ⟨d2.toNat, by omega⟩
    have hc5 := K1 fr5 hc4 npc
    have hf5 := K1 fr5 hf4 nfo
    have hj : j < (cs ++ [0]).length := by simp; omega
    have bj : 0 ≤ (cs ++ [0])[j] ∧ (cs ++ [0])[j] < 10 ^ 13 := by
      rcases List.mem_append.mp (List.getElem_mem hj) with h | h
      · exact bcs _ h
      · rw [List.mem_singleton.mp h]; decide
    refine ⟨pc, _, _, V.int (cs ++ [0])[j], rfl, rfl, SqL.of hc5, atI_nat (j := j) (by rw [List.getElem?_map, List.getElem?_eq_getElem hj]; rfl), ?_⟩
    -- (found + [0])[-1]
    refine ⟨_, rfl, (by show 1 ≤ sizeLine; decide), fun p6 hp6 => ?_⟩
    have frp6 := Fr.new (M := []) (o := .lst [V.int 0]) hp6
    refine ⟨fo, p6, _, _, rfl, rfl, frp6.same _ _ hf5, upd_same, (by rw [List.length_map, sizeLine_eq]; show ns.length + 1 ≤ _; omega), fun p7 hp7 => ?_⟩
    have frp7 := Fr.new (M := []) (o := .lst (ns.map V.int ++ [V.int 0])) hp7
    refine ⟨_, rfl, p7, _, _, _, rfl, rfl, SqL.of upd_same, atI_last _ _, (by show 3 ≤ sizeLine; decide), fun p8 hp8 => ?_⟩
    have frp8 := Fr.new (M := []) (o := .lst [V.int d1, V.int (cs ++ [0])[j], V.int 0]) hp8
    have frp68 := frp6.trans (frp7.trans frp8)
    refine ⟨_, rfl, a, x5, y, z5, 3, rfl, frp68.same _ _ src5, by decide, by decide, fun d3 x6 z6 H6 d30 d31 src6 fr6 => ?_⟩
    have np8a : p8 ≠ a := (ne_of_none ((frp6.trans frp7).same _ _ src5) hp8).symm
    have h8 := K1 fr6 (b := p8) upd_same np8a
    have hf6 := K1 fr6 (frp68.same _ _ hf5) nfo
    have hc6 := K1 fr6 (frp68.same _ _ hc5) npc
    have frB : Fr [a] H' H6 := fr4.trans (fr5.trans ((frp68.mono fun _ h => nomatch h).trans fr6))
    have fin : ∀ v : Int, 0 ≤ v → v < 10 ^ 14 → rAppend (V.ref fo) [V.int v] H6 (fun _ H7 => ∃ (s5 s6 : Option V) (ns : List Int), ([some (V.ref a), some (V.ref p), some (V.int span), some (V.ref pc), some (V.ref fo), some (V.int (0 + (i : Int))), some (V.int d1), none] : L2.St) =
        [some (V.ref a), some (V.ref p), some (V.int span), some (V.ref pc), some (V.ref fo), s5, s6, none] ∧ (∃ x z, H7 a = some (srcO x y z)) ∧ H7 pc = some (.lst ((cs ++ [0]).map V.int)) ∧ H7 fo = some (.lst (ns.map V.int)) ∧ ns.length = i + 1 ∧
        (∀ c, c ∈ ns → 0 ≤ c ∧ c < 10 ^ 14) ∧ Fr [a] H H7) := by
      intro v v0 v1
      refine ⟨fo, _, _, rfl, rfl, hf6, (by rw [List.length_map, sizeLine_eq]; omega), _, _, ns ++ [v], rfl, ⟨x6, z6, by rw [upd_ne nfo.symm]; exact src6⟩, by rw [upd_ne npf]; exact hc6, by rw [upd_same, List.map_append]; rfl, by simp [ln], ?_, Fr.drop ((fr3.trans frB).weak.trans (Fr.set List.mem_cons_self)) nof⟩
      intro c hc
      rcases List.mem_append.mp hc with h | h
      · exact bn c h
      · obtain rfl := List.mem_singleton.mp h; exact ⟨v0, v1⟩
    have h3 : d3 = 0 ∨ d3 = 1 ∨ d3 = 2 := by omega
    rcases h3 with rfl | rfl | rfl
    · exact ⟨p8, _, _, V.int d1, rfl, rfl, SqL.of h8, atI_nat (j := 0) rfl, fin _ d10 (by omega)⟩
    · exact ⟨p8, _, _, V.int (cs ++ [0])[j], rfl, rfl, SqL.of h8, atI_nat (j := 1) rfl, fin _ bj.1 (by omega)⟩
    · exact ⟨p8, _, _, V.int 0, rfl, rfl, SqL.of h8, atI_nat (j := 2) rfl, fin _ (by decide) (by decide)⟩
  · rintro σ H' ⟨s5, s6, ns, rfl, ⟨x3, z3, src3⟩, hc3, hf3, ln, bn, fr3⟩
    refine ⟨_, rfl, fo, ns, rfl, SqL.of hf3, by omega, fun ns' l perm srt hl => ?_⟩
    have frl := Fr.new (M := []) (o := .lst (ns'.map V.int)) hl
    exact q l ns' _ (fr3.none hl) (ne_of_none src3 hl).symm upd_same ⟨x3, z3, frl.same _ _ src3⟩ (fr3.trans (frl.mono fun _ h => nomatch h)) srt (by rw [perm.length_eq]; omega) fun c hc => bn c (perm.mem_iff.mp hc)
end
end Tk

set_option Elab.async false
set_option linter.all false
set_option maxRecDepth 100000
set_option maxHeartbeats 4000000
namespace Tk
open PySem PySem.Spec PyProof.Rows L2

/-! ### the looks that are due -/
def DueAt (H : Hp) (y : V) : Out → Prop
  | .look c => ∃ q, y = .ref q ∧ H q = some (.tup [.str "look", .int c])
  | .row r => RwAt H y r
theorem DueAt.same {H H' : Hp} {y : V} {o : Out} (e : Same H H') (a : DueAt H y o) : DueAt H' y o := by
  cases o with
  | look c => obtain ⟨q, h1, h2⟩ := a; exact ⟨q, h1, e _ _ h2⟩
  | row r => exact RwAt.same e a
section
variable {P : Program} {w : World} {K : PySem.W.Frag} {mg : Str → Option Value} {base : Heap}
/-- [('look', look) for look in l] -/
theorem ev_lks {σ : L2.St} {i j : Nat} {l : Addr} {left : List Int} {H : Hp} {Q : VK} (hj : σ[j]? = some (some (V.ref l))) (hi : i < σ.length) (h : H l = some (.lst (left.map V.int))) (hz : left.length < 1000)
    (q : ∀ D zs H', H D = none → H' D = some (.lst zs) → zs.length = left.length → Paired (DueAt H') zs (left.map Out.look) → Fr [] H H' → Q (.ref D) H') :
    tLc (iList K (tVar j)) (gName i) tYes (tTup (tCons (tC (.str "look")) (tCons (tVar i) tNil))) [i] σ H Q := by
  refine ⟨_, hj, l, rfl, ⟨_, SqL.of h⟩, fun D hD => ?_⟩
  have zl : (left.map V.int).length < sizeLine := by rw [List.length_map, sizeLine_eq]; omega
  refine lc_listR (K := K) (fun _ => true) (fun x y H5 => ∃ c q, x = V.int c ∧ y = V.ref q ∧ H5 q = some (.tup [V.str "look", V.int c])) (fun x y H5 H6 e ⟨c, q, a1, a2, a4⟩ => ⟨c, q, a1, a2, e _ _ a4⟩) hD zl (fun _ => wipe1)
    (fun x H' Q' _ _ _ h => h H' (Fr.refl _ _)) ?_ ?_ (SqL.of h)
  · intro x H5 Q' hx _ fr5 ⟨acc, hacc⟩ hq
    obtain ⟨c, _, rfl⟩ := List.mem_map.mp hx
    refine ⟨_, slot1 hi, (by show 2 ≤ sizeLine; decide), fun q0 hq0 => ?_⟩
    have ne : q0 ∉ [D] := fun z => ne_of_none hacc hq0 (List.mem_singleton.mp z).symm
    exact hq _ _ (Fr.new hq0) ⟨c, q0, rfl, rfl, by rw [Hd_of ne]; exact upd_same⟩
  · intro H5 zs hD5 fr5 md
    have pz := md.paired
    have lz := PySem.Paired.length pz
    rw [List.length_map] at lz
    refine q D zs H5 hD hD5 lz.symm ?_ fr5
    have go : ∀ {left : List Int} {zs : List V}, Paired (fun x y => ∃ c q, x = V.int c ∧ y = V.ref q ∧ Hd [D] H5 q = some (.tup [V.str "look", V.int c])) (left.map V.int) zs → Paired (DueAt H5) zs (left.map Out.look) := by
      intro left
      induction left with
      | nil => intro zs p; cases p; exact .nil
      | cons c left ih =>
        intro zs p
        cases p with
        | cons a b =>
          obtain ⟨c', q, e, e2, h⟩ := a
          cases e
          exact .cons ⟨q, e2, (of_Hd h).2⟩ (ih b)
    exact go pz
/-- [look for look in left if row[0] != 'go' and look <= row[1]] -/
theorem ev_here {σ : L2.St} {i j k : Nat} {l : Addr} {left : List Int} {x : V} {rr : Rw} {H : Hp} {Q : VK} (hj : σ[j]? = some (some (V.ref l))) (hi : i < σ.length) (hk : σ[k]? = some (some x)) (ki : k ≠ i) (h : H l = some (.lst (left.map V.int))) (hz : left.length < 1000)
    (ax : RwAt H x rr) (ci : rr.is "go" = false → rr.at = .int rr.c)
    (q : ∀ D H', H D = none → H' D = some (.lst ((left.filter fun c => !rr.is "go" && decide (c ≤ rr.c)).map V.int)) → Fr [] H H' → Q (.ref D) H') :
    tLc (iList K (tVar j)) (gName i) (tAnd (tTest (tOp rNe (tOp (rIxT K) (tVar k) (tC (.int 0))) (tC (.str "go")))) (tTest (tOp (rI0 fun i j => .bl (decide (i ≤ j))) (tVar i) (tOp (rIxT K) (tVar k) (tC (.int 1)))))) (tVar i) [i] σ H Q := by
  refine ⟨_, hj, l, rfl, ⟨_, SqL.of h⟩, fun D hD => ?_⟩
  have zl : (left.map V.int).length < sizeLine := by rw [List.length_map, sizeLine_eq]; omega
  have hks : ∀ y : V, ((wipe σ [i]).set i (some y))[k]? = some (some x) := fun y => by
    rw [List.getElem?_set_ne (Ne.symm ki)]
    show (σ.set i none)[k]? = _
    rw [List.getElem?_set_ne (Ne.symm ki)]; exact hk
  refine lc_listR (K := K) (fun y => match y with | .int c => !rr.is "go" && decide (c ≤ rr.c) | _ => false) (fun x y _ => y = x) (fun _ _ _ _ _ h => h) hD zl (fun _ => wipe1) ?_ ?_ ?_ (SqL.of h)
  · intro y H' Q' hy fr _ hq
    obtain ⟨c, _, rfl⟩ := List.mem_map.mp hy
    obtain ⟨p, e, st, i0, i1⟩ := row_ix (K := K) (ax.same fr.same)
    subst e
    refine ⟨_, hks _, p, _, _, _, rfl, rfl, st, i0, rfl, _, rfl, ?_⟩
    rw [dec_str]
    have q2 := hq _ (Fr.refl _ _)
    cases hg : rr.is "go" with
    | true =>
      have hg' : decide (rr.name = "go") = true := hg
      rw [hg']
      dsimp only at q2
      rw [hg] at q2
      exact q2
    | false =>
      have hg' : decide (rr.name = "go") = false := hg
      rw [hg']
      dsimp only at q2
      rw [hg] at q2
      rw [ci hg] at i1
      exact ⟨_, slot1 hi, _, hks _, p, _, _, _, rfl, rfl, st, i1, _, _, rfl, rfl, _, rfl, q2⟩
  · intro y H' Q' hy _ fr _ hq
    exact ⟨_, slot1 hi, hq _ _ (Fr.refl _ _) rfl⟩
  · intro H2 ys hD2 fr2 md
    have e := md.pure (f := fun x => x) (fun _ _ _ h => h)
    rw [List.map_id'] at e
    refine q D H2 hD ?_ fr2
    rw [hD2, e, List.filter_map]
    rfl
theorem ls_len : ∀ {rs : List Rw} {ls : List Int}, (dueGo rs ls).2.length ≤ ls.length
  | [], _ => Nat.le_refl _
  | r :: rs, ls => by
    show (dueGo rs (ls.drop (ls.filter _).length)).2.length ≤ _
    refine Nat.le_trans ls_len ?_
    rw [List.length_drop]; omega
def spDue : Sp := fun vs H Q _ => ∃ (p l : Addr) (xs : List V) (rs : List Rw) (ls : List Int), vs = [.ref p, .ref l] ∧ H p = some (.lst xs) ∧ Paired (RwAt H) xs rs ∧ (∀ r, r ∈ rs → r.is "go" = false → r.at = .int r.c) ∧ rs.length ≤ 40 ∧
  H l = some (.lst (ls.map V.int)) ∧ ls.length ≤ 8 ∧ (dueO rs ls = none → ∀ H', Fr [] H H' → Q .non H') ∧
  ∀ os, dueO rs ls = some os → ∀ p' ys H', H p' = none → H' p' = some (.lst ys) → Paired (DueAt H') ys os → Fr [] H H' → Q (.ref p') H'
theorem sc_due : FnScope ["rows", "looks", "row", "found", "left", "here", "look"] ["rows", "looks"] (defScope s__law_due) := ⟨rfl, rfl, rfl, by decide +kernel, rfl, by decide +kernel, by decide +kernel⟩
theorem ok_due (F : FunAt K mg "_law_due" s__law_due) (G : NoGl mg) : Cal P w K mg base CX0 1 "_law_due" ["rows", "looks"] [] spDue := by
  refine Cal.mk0 F sc_due (by rintro _ _ _ _ ⟨_, _, _, _, _, rfl, _⟩; rfl) (fun _ _ _ _ _ _ us hl => match us, hl with | [_, _], _ => rfl) ?_
  rintro f cdv A outer s H vs Q E hr ⟨p, l0, xs, rs, ls, rfl, hp, pr, ci, len, hl0, lsl, qn, qs⟩
  have nd := sc_due.nd
  refine ⟨_, (pss_cons (ps_par (i := 3) (j := 4) (by rfl) nd rfl rfl (by decide) rfl rfl (pa_cons (pe_lst pa_nil) (pa_cons (pe_callTy (T := "list") call_listOf (by rfl) G.list (by decide +kernel) (pa_cons (pv 1) pa_nil)) pa_nil)) (by rfl))
    (pss_cons (ps_for PassesOwn.never rfl (pi_list (pv 0)) (pg_name (i := 2) nd rfl (.inr rfl))
      (pss_cons (ps_setLc (i := 5) (own := [("look", 6)]) (g := gName 6) (tt := tAnd (tTest (tOp rNe (tOp (rIxT K) (tVar 2) (tC (.int 0))) (tC (.str "go")))) (tTest (tOp (rI0 fun i j => .bl (decide (i ≤ j))) (tVar 6) (tOp (rIxT K) (tVar 2) (tC (.int 1)))))) rfl nd rfl rfl (sw_true rfl rfl rfl (by decide +kernel)) (pi_list (pv 4))
        (blkOk_by (own := [("look", 6)]) (N := ["rows", "looks", "row", "found", "left", "here", "look"]) (sc := defScope s__law_due) (by decide +kernel))
        (fun _ _ _ _ _ => (pg_name (i := 6) nd rfl (.inl rfl) (Or.inr rfl))) (fun _ _ _ _ _ => (pts_one (PW.pt (pw_and (pt_cmpR op_ne (pe_ix ix_tup (pv 2) pe_int (fun _ _ => rfl)) pe_str (nomark _)) (pw_and1 (pt_cmpR op_le (pv 6) (pe_ix ix_tup (pv 2) pe_int (fun _ _ => rfl)) (nomark _)))))))
        (fun _ _ _ _ _ => (pv 6)))
      (pss_cons (ps_set (i := 4) nd rfl (.inl rfl) (pe_slice sl_list (pv 4) (po_some (pe_callB call_len_seq (by rfl) G.len (by decide +kernel) (pa_cons (pv 5) pa_nil))) po_none))
      (pss_one (ps_set (i := 3) nd rfl (.inl rfl) (pe_op op_cat (pe_op op_cat (pv 3) (pe_lc (own := [("look", 6)]) (g := gName 6) (tt := tYes) rfl nd (pi_list (pv 5))
        (blkOk_by (own := [("look", 6)]) (N := ["rows", "looks", "row", "found", "left", "here", "look"]) (sc := defScope s__law_due) (by decide +kernel))
        (fun _ _ _ _ _ => (pg_name (i := 6) nd rfl (.inl rfl) (Or.inr rfl))) (fun _ _ _ _ _ => pts_nil)
        (fun _ _ _ _ _ => (pe_tup (pa_cons pe_str (pa_cons (pv 6) pa_nil)))))) (pe_lst (pa_cons (pv 2) pa_nil))))))))
    (pss_cons (ps_if (PW.pt (pw_and (pt_cmpR (op_neNilL hr.units0) (pv 4) (pe_lst pa_nil) (nomark _)) (pw_and (pt_cmpR (op_neNilL hr.units0) (pv 0) (pe_lst pa_nil) (nomark _)) (pw_and1 (pt_cmpR op_eq (pe_ix ix_tup (pe_ix ix_list (pv 0) (pe_un un_neg pe_int) (fun _ _ => rfl)) pe_int (fun _ _ => rfl)) pe_str (nomark _))))))
      (pss_one (ps_ret pe_non))
      pss_nil)
    (pss_one (ps_ret (pe_op op_cat (pv 3) (pe_lc (own := [("look", 6)]) (g := gName 6) (tt := tYes) rfl nd (pi_list (pv 4))
        (blkOk_by (own := [("look", 6)]) (N := ["rows", "looks", "row", "found", "left", "here", "look"]) (sc := defScope s__law_due) (by decide +kernel))
        (fun _ _ _ _ _ => (pg_name (i := 6) nd rfl (.inl rfl) (Or.inr rfl))) (fun _ _ _ _ _ => pts_nil)
        (fun _ _ _ _ _ => (pe_tup (pa_cons pe_str (pa_cons (pv 6) pa_nil))))))))))), ?_⟩
  have lenx := PySem.Paired.length pr
  refine ⟨(by show 0 ≤ sizeLine; decide), fun f0 hf0 => ⟨_, rfl, l0, _, rfl, .inl (SqL.of ((Fr.new (M := []) hf0).same _ _ hl0)), fun lf0 hlf0 => ⟨_, _, rfl, ?_⟩⟩⟩
  have frf := Fr.new (M := []) (o := .lst []) hf0
  have frl := Fr.new (M := []) (o := .lst (ls.map V.int)) hlf0
  have fr0 := frf.trans frl
  refine ⟨_, rfl, p, rfl, ⟨xs, SqL.of (fr0.same _ _ hp)⟩, ?_⟩
  refine for_list (K := K) (a := p) (xs := xs) (fun i σ H' => ∃ (fo lf : Addr) (s2 s5 : Option V) (left : List Int) (ys : List V) (outs : List Out), σ = [some (V.ref p), some (V.ref l0), s2, some (V.ref fo), some (V.ref lf), s5, none] ∧
      H' fo = some (.lst ys) ∧ H' lf = some (.lst (left.map V.int)) ∧ Fr [] H H' ∧ H fo = none ∧ Paired (DueAt H') ys outs ∧ outs ++ (dueGo (rs.drop i) left).1 = (dueGo rs ls).1 ∧ (dueGo (rs.drop i) left).2 = (dueGo rs ls).2 ∧ ys.length + left.length ≤ i + ls.length)
    ⟨f0, lf0, _, _, ls, [], [], rfl, frl.same _ _ upd_same, upd_same, fr0, hf0, .nil, rfl, rfl, by simp⟩ ?_ ?_ ?_
  · rintro i σ H' _ ⟨_, _, _, _, _, _, _, _, _, _, fr, _⟩
    exact fr.same.seq (SqL.of hp)
  · rintro i x σ H' hx ⟨fo, lf, s2, s5, left, ys, outs, rfl, hF, hL, fr, nfo, po, e1, e2, hn⟩
    obtain ⟨rr, hrr, ax⟩ := Paired.get pr hx
    have hi : i < rs.length := (List.getElem?_eq_some_iff.mp hrr).1
    have ed : rs.drop i = rr :: rs.drop (i + 1) := by
      rw [List.drop_eq_getElem_cons hi, (List.getElem?_eq_some_iff.mp hrr).2]
    rw [ed] at e1 e2
    have mrr : rr ∈ rs := List.mem_of_getElem? hrr
    dsimp only [L2.gName, L2.tSeq, L2.tAsg]
    refine ev_here (K := K) (i := 6) (j := 4) (k := 2) (x := x) (rr := rr) ?_ ?_ ?_ ?_ hL ?_ ?_ (ci rr mrr) fun D H2 hD hD2 fr2 => ?_
    · rfl
    · show (6 : Nat) < 7; decide
    · rfl
    · decide
    · omega
    · exact ax.same fr.same
    have hL2 := fr2.same _ _ hL
    have eh : ((left.filter fun c => !rr.is "go" && decide (c ≤ rr.c)).map V.int).length = (left.filter fun c => !rr.is "go" && decide (c ≤ rr.c)).length := List.length_map _
    have hle : (left.filter fun c => !rr.is "go" && decide (c ≤ rr.c)).length ≤ left.length := List.length_filter_le _ _
    generalize hh : (left.filter fun c => !rr.is "go" && decide (c ≤ rr.c)) = here at hD2 eh hle
    have e1 : outs ++ (here.map Out.look ++ Out.row rr :: (dueGo (rs.drop (i + 1)) (left.drop here.length)).1) = (dueGo rs ls).1 := by rw [← hh]; exact e1
    have e2 : (dueGo (rs.drop (i + 1)) (left.drop here.length)).2 = (dueGo rs ls).2 := by rw [← hh]; exact e2
    -- left = left[len(here):]
    refine ⟨_, rfl, _, rfl, D, _, rfl, .inl (SqL.of hD2), _, rfl, lf, _, rfl, SqL.of hL2, fun l2 hl2 => ?_⟩
    rw [cut_from, eh, ← List.map_drop]
    have fr3 := Fr.new (M := []) (o := .lst ((left.drop here.length).map V.int)) hl2
    have fr23 := fr2.trans fr3
    -- found = found + [('look', look) for look in here] + [row]
    dsimp only [L2.gName]
    refine ⟨_, rfl, ?_⟩
    refine ev_lks (K := K) (i := 6) (j := 5) (l := D) ?_ ?_ (fr3.same _ _ hD2) ?_ fun D3 zs H4 hD3 hz3 lz pz fr4 => ?_
    · rfl
    · show (6 : Nat) < 7; decide
    · omega
    have fr24 := fr23.trans fr4
    refine ⟨fo, D3, ys, zs, rfl, rfl, fr24.same _ _ hF, hz3, (by rw [sizeLine_eq]; omega), fun p5 hp5 => ?_⟩
    have fr5 := Fr.new (M := []) (o := .lst (ys ++ zs)) hp5
    refine ⟨_, rfl, (by show 1 ≤ sizeLine; decide), fun p6 hp6 => ?_⟩
    have fr6 := Fr.new (M := []) (o := .lst [x]) hp6
    refine ⟨p5, p6, _, _, rfl, rfl, fr6.same _ _ upd_same, upd_same, (by rw [List.length_append, sizeLine_eq]; show _ + 1 ≤ _; omega), fun p7 hp7 => ?_⟩
    have fr7 := Fr.new (M := []) (o := .lst (ys ++ zs ++ [x])) hp7
    have fr57 := fr5.trans (fr6.trans fr7)
    have frA := fr24.trans fr57
    have frH := fr.trans frA
    refine ⟨p7, l2, _, _, left.drop here.length, ys ++ zs ++ [x], outs ++ here.map Out.look ++ [Out.row rr], rfl, upd_same, (fr4.trans fr57).same _ _ upd_same, frH, (fr.trans (fr24.trans (fr5.trans fr6))).none hp7, ?_, ?_, e2, ?_⟩
    · refine Paired.app (Paired.app (L2.Paired.mapP po fun x y c => c.same frA.same) (L2.Paired.mapP pz fun x y c => c.same fr57.same)) (.cons (ax.same frH.same) .nil)
    · rw [← e1]; simp
    · rw [List.length_append, List.length_append, List.length_singleton, List.length_drop]; omega
  · rintro σ H' ⟨fo, lf, s2, s5, left, ys, outs, rfl, hF, hL, fr, nfo, po, e1, e2, hn⟩
    rw [lenx, List.drop_length] at e1 e2
    have e1 : outs = (dueGo rs ls).1 := by rw [← e1]; exact (List.append_nil _).symm
    have e2 : left = (dueGo rs ls).2 := e2
    have prL := L2.Paired.mapP pr fun x y c => c.same fr.same
    dsimp only [L2.tSeq]
    refine if_reading (decide ((dueGo rs ls).2 ≠ []) && (decide (rs ≠ []) && endStop false rs)) (fun Qt hq => ?_) fun H2 fr2 => ?_
    · rw [← e2] at hq
      refine ⟨_, rfl, (by show 0 ≤ sizeLine; decide), fun p1 hp1 => ?_⟩
      have f1 := Fr.new (M := []) (o := .lst []) hp1
      refine ⟨lf, p1, _, rfl, rfl, SqL.of (f1.same _ _ hL), SqL.of upd_same, _, rfl, ?_⟩
      cases left with
      | nil => exact hq _ f1
      | cons c left =>
        refine ⟨_, rfl, (by show 0 ≤ sizeLine; decide), fun p2 hp2 => ?_⟩
        have f2 := Fr.new (M := []) (o := .lst []) hp2
        have f12 := f1.trans f2
        have hp' := (fr.trans f12).same _ _ hp
        refine ⟨p, p2, _, rfl, rfl, SqL.of hp', SqL.of upd_same, _, rfl, ?_⟩
        have d1 : decide (c :: left ≠ []) = true := by simp
        rw [d1, Bool.true_and] at hq
        clear hn e1 lenx hp
        rcases List.eq_nil_or_concat xs with rfl | ⟨zs, x, rfl⟩
        · cases pr
          exact hq _ f12
        · rw [List.concat_eq_append] at *
          obtain ⟨rl, el, al⟩ := paired_last pr (x := x) (by simp)
          have e0 : (!(zs ++ [x]).isEmpty) = true := by cases zs <;> rfl
          rw [if_pos rfl, e0]
          refine ifT rfl ?_
          obtain ⟨pp, e, st, i0, i1⟩ := row_ix (K := K) (al.same (fr.trans f12).same)
          subst e
          refine ⟨_, rfl, _, rfl, p, _, _, _, rfl, rfl, SqL.of hp', atI_last _ _, pp, _, _, _, rfl, rfl, st, i0, rfl, _, rfl, ?_⟩
          rw [dec_str]
          have es : (decide (rs ≠ []) && endStop false rs) = decide (rl.name = "stop") := by
            rcases List.eq_nil_or_concat rs with rfl | ⟨qs, r, rfl⟩
            · simp at el
            · rw [List.concat_eq_append] at *
              rw [endStop_last]
              have : r = rl := by simpa using el
              subst this
              simp [Rw.is]
          rw [es] at hq
          exact hq _ f12
    have frH := fr.trans fr2
    cases ht : (decide ((dueGo rs ls).2 ≠ []) && (decide (rs ≠ []) && endStop false rs)) with
    | true =>
      rw [if_pos rfl]
      refine qn ?_ H2 frH
      show (if _ then _ else _) = none
      rw [if_pos ht]
    | false =>
      rw [if_neg Bool.false_ne_true]
      have lft : left.length ≤ ls.length := by rw [e2]; exact ls_len
      refine ⟨_, rfl, ?_⟩
      refine ev_lks (K := K) (i := 6) (j := 4) (l := lf) ?_ ?_ (fr2.same _ _ hL) ?_ fun D3 zs H4 hD3 hz3 lz pz fr4 => ?_
      · rfl
      · show (6 : Nat) < 7; decide
      · omega
      have fr24 := fr2.trans fr4
      refine ⟨fo, D3, ys, zs, rfl, rfl, fr24.same _ _ hF, hz3, (by rw [sizeLine_eq]; omega), fun p5 hp5 => ?_⟩
      have fr5 := Fr.new (M := []) (o := .lst (ys ++ zs)) hp5
      refine qs (outs ++ left.map Out.look) ?_ p5 _ _ ((fr.trans fr24).none hp5) upd_same (Paired.app (L2.Paired.mapP po fun x y c => c.same (fr24.trans fr5).same) (L2.Paired.mapP pz fun x y c => c.same fr5.same)) ((fr.trans fr24).trans fr5)
      show (if _ then _ else _) = _
      rw [if_neg (by rw [ht]; exact Bool.false_ne_true), e1, e2]
end
end Tk

set_option Elab.async false
set_option linter.all false
set_option maxRecDepth 100000
set_option maxHeartbeats 4000000
namespace Tk
open PySem PySem.Spec PyProof.Rows L2

/-! ### rows and looks as data -/
def SmA (H : Hp) (a : V) : Prop := ∃ d, Dd H a d ∧ okD d = true ∧ nodes d ≤ 8 ∧ d.depth ≤ 3
theorem SmA.same {H H' : Hp} {a : V} (e : Same H H') (s : SmA H a) : SmA H' a := by
  obtain ⟨d, h, r⟩ := s
  exact ⟨d, h.same e, r⟩
structure RwD (H : Hp) (r : Rw) : Prop where
  nm : okD (.str r.name) = true
  len : r.args.length ≤ 6
  sm : ∀ a, a ∈ r.args → SmA H a
noncomputable def rowD (H : Hp) (r : Rw) : PyData := .tuple (.str r.name :: r.args.map (dOf H))
noncomputable def outD (H : Hp) : Out → PyData
  | .look c => .tuple [.str "look", .int c]
  | .row r => rowD H r
theorem args_dd {H : Hp} : ∀ {l : List V}, (∀ a, a ∈ l → SmA H a) → DdAll H l (l.map (dOf H))
  | [], _ => .nil
  | a :: l, h => .cons (dOf_at (let ⟨d, q, _⟩ := h a List.mem_cons_self; ⟨d, q⟩)) (args_dd fun b m => h b (List.mem_cons_of_mem _ m))
theorem row_dd {H H' : Hp} {y : V} {r : Rw} (a : RwAt H' y r) (e : Same H H') (g : RwD H r) : Dd H' y (rowD H r) := by
  obtain ⟨p, rfl, h⟩ := a.tup
  exact .tup h (.cons (.str _) (DdAll.same e (args_dd g.sm)))
theorem rows_dd {H H' : Hp} (e : Same H H') : ∀ {xs : List V} {rs : List Rw}, Paired (RwAt H') xs rs → (∀ r, r ∈ rs → RwD H r) → DdAll H' xs (rs.map (rowD H))
  | _, _, .nil, _ => .nil
  | _, _, .cons a b, g => .cons (row_dd a e (g _ List.mem_cons_self)) (rows_dd e b fun r m => g r (List.mem_cons_of_mem _ m))
theorem cpy_dd {H H' : Hp} {x y : V} {d : PyData} (e : Same H H') (c : Cpy H H' x y) (h : Dd H x d) : Dd H' y d := by
  rcases c with ⟨_, rfl⟩ | ⟨a, xs, p, rfl, h1, rfl, _, h2⟩
  · exact h.same e
  · cases h with
    | lst s k => cases s.symm.trans h1; exact .lst h2 (DdAll.same e k)
    | tup s k => cases s.symm.trans h1
theorem cpys_dd {H H' : Hp} (e : Same H H') : ∀ {l ys : List V}, Paired (Cpy H H') l ys → (∀ a, a ∈ l → SmA H a) → DdAll H' ys (l.map (dOf H))
  | _, _, .nil, _ => .nil
  | _, _, .cons a b, g => .cons (cpy_dd e a (dOf_at (let ⟨d, q, _⟩ := g _ List.mem_cons_self; ⟨d, q⟩))) (cpys_dd e b fun r m => g r (List.mem_cons_of_mem _ m))
def GoodO (H : Hp) : Out → Prop
  | .look c => c.natAbs < 10 ^ 40
  | .row r => RwD H r
theorem out_dd {H H' : Hp} {y : V} {o : Out} (e : Same H H') (a : OutAt H H' y o) (g : GoodO H o) : Dd H' y (outD H o) := by
  cases o with
  | look c => obtain ⟨q, rfl, _, h⟩ := a; exact .tup h (.cons (.str _) (.cons (.int _) .nil))
  | row r =>
    obtain ⟨q, vs, rfl, _, h, p⟩ := a
    cases p with
    | cons c cs => exact .tup h (.cons (cpy_dd e c (.str _)) (cpys_dd e cs (g : RwD H r).sm))
theorem outs_dd {H H' : Hp} (e : Same H H') : ∀ {ys : List V} {os : List Out}, Paired (OutAt H H') ys os → (∀ o, o ∈ os → GoodO H o) → DdAll H' ys (os.map (outD H))
  | _, _, .nil, _ => .nil
  | _, _, .cons a b, g => .cons (out_dd e a (g _ List.mem_cons_self)) (outs_dd e b fun r m => g r (List.mem_cons_of_mem _ m))
theorem due_dd {H H' : Hp} {y : V} {o : Out} (e : Same H H') (a : DueAt H' y o) (g : GoodO H o) : Dd H' y (outD H o) := by
  cases o with
  | look c => obtain ⟨q, rfl, h⟩ := a; exact .tup h (.cons (.str _) (.cons (.int _) .nil))
  | row r => exact row_dd a e g
theorem dues_dd {H H' : Hp} (e : Same H H') : ∀ {ys : List V} {os : List Out}, Paired (DueAt H') ys os → (∀ o, o ∈ os → GoodO H o) → DdAll H' ys (os.map (outD H))
  | _, _, .nil, _ => .nil
  | _, _, .cons a b, g => .cons (due_dd e a (g _ List.mem_cons_self)) (dues_dd e b fun r m => g r (List.mem_cons_of_mem _ m))

/-! ### and how large they are -/
theorem all_small {n k : Nat} : ∀ {ds : List PyData}, (∀ d, d ∈ ds → okD d = true ∧ nodes d ≤ n ∧ d.depth ≤ k) → okDs ds = true ∧ nodesAll ds ≤ n * ds.length ∧ PyData.depthAll ds ≤ k
  | [], _ => ⟨by simp only [okDs], by simp [nodesAll], by simp [PyData.depthAll]⟩
  | d :: ds, h => by
    obtain ⟨a, b, c⟩ := h d List.mem_cons_self
    obtain ⟨a2, b2, c2⟩ := all_small (ds := ds) fun e m => h e (List.mem_cons_of_mem _ m)
    refine ⟨by simp only [okDs, a, a2, Bool.and_self], ?_, ?_⟩
    · simp only [nodesAll, List.length_cons, Nat.mul_add, Nat.mul_one]; omega
    · simp only [PyData.depthAll]; omega
theorem small_list {n k m : Nat} {ds : List PyData} (h : ∀ d, d ∈ ds → okD d = true ∧ nodes d ≤ n ∧ d.depth ≤ k) (l : n * ds.length ≤ m) : okD (.list ds) = true ∧ nodes (.list ds) ≤ m + 1 ∧ (PyData.list ds).depth ≤ k + 1 := by
  obtain ⟨a, b, c⟩ := all_small h
  refine ⟨by simp only [okD, a], ?_, ?_⟩
  · simp only [nodes]; omega
  · simp only [PyData.depth]; omega
theorem row_small {H : Hp} {r : Rw} (g : RwD H r) : okD (rowD H r) = true ∧ nodes (rowD H r) ≤ 57 ∧ (rowD H r).depth ≤ 4 := by
  obtain ⟨a, b, c⟩ := all_small (n := 8) (k := 3) (ds := .str r.name :: r.args.map (dOf H)) (by
    intro d hd
    rcases List.mem_cons.mp hd with rfl | hd
    · exact ⟨g.nm, by simp [nodes], by simp [PyData.depth]⟩
    · obtain ⟨v, hv, rfl⟩ := List.mem_map.mp hd
      obtain ⟨d, q, r1⟩ := g.sm v hv
      rw [dOf_eq q]; exact r1)
  have l := g.len
  rw [List.length_cons, List.length_map] at b
  unfold rowD
  refine ⟨by simp only [okD, a], ?_, ?_⟩
  · simp only [nodes]; omega
  · simp only [PyData.depth]; omega
theorem out_small {H : Hp} {o : Out} (g : GoodO H o) : okD (outD H o) = true ∧ nodes (outD H o) ≤ 57 ∧ (outD H o).depth ≤ 4 := by
  cases o with
  | look c =>
    have g : c.natAbs < 10 ^ 40 := g
    have s : okD (.str "look") = true := by decide
    refine ⟨?_, ?_, ?_⟩
    · simp only [outD, okD, okDs, decide_eq_true g, Bool.and_true]; exact s
    · simp [outD, nodes, nodesAll]
    · simp [outD, PyData.depth, PyData.depthAll]
  | row r => exact row_small g
theorem outs_small {H : Hp} {os : List Out} (g : ∀ o, o ∈ os → GoodO H o) (l : os.length ≤ 60) : okD (.list (os.map (outD H))) = true ∧ nodes (.list (os.map (outD H))) ≤ 16000 ∧ (PyData.list (os.map (outD H))).depth ≤ 60 := by
  obtain ⟨a, b, c⟩ := small_list (n := 57) (k := 4) (m := 57 * 60) (ds := os.map (outD H)) (by
    intro d hd
    obtain ⟨o, ho, rfl⟩ := List.mem_map.mp hd
    exact out_small (g o ho)) (by rw [List.length_map]; omega)
  exact ⟨a, by omega, by omega⟩
theorem rows_small {H : Hp} {rs : List Rw} (g : ∀ r, r ∈ rs → RwD H r) (l : rs.length ≤ 60) : okD (.list (rs.map (rowD H))) = true ∧ nodes (.list (rs.map (rowD H))) ≤ 16000 ∧ (PyData.list (rs.map (rowD H))).depth ≤ 60 := by
  obtain ⟨a, b, c⟩ := small_list (n := 57) (k := 4) (m := 57 * 60) (ds := rs.map (rowD H)) (by
    intro d hd
    obtain ⟨o, ho, rfl⟩ := List.mem_map.mp hd
    exact row_small (g o ho)) (by rw [List.length_map]; omega)
  exact ⟨a, by omega, by omega⟩
theorem ints_small {ls : List Int} (g : ∀ c, c ∈ ls → c.natAbs < 10 ^ 40) (l : ls.length ≤ 60) : okD (.list (ls.map .int)) = true ∧ nodes (.list (ls.map .int)) ≤ 16000 ∧ (PyData.list (ls.map .int)).depth ≤ 60 := by
  obtain ⟨a, b, c⟩ := small_list (n := 1) (k := 0) (m := 60) (ds := ls.map PyData.int) (by
    intro d hd
    obtain ⟨o, ho, rfl⟩ := List.mem_map.mp hd
    exact ⟨by simp only [okD, decide_eq_true (g o ho)], by simp [nodes], by simp [PyData.depth]⟩) (by rw [List.length_map]; omega)
  exact ⟨a, by omega, by omega⟩
theorem merge_all {p : Out → Prop} : ∀ {rs : List Rw} {ls : List Int}, (∀ r, r ∈ rs → p (.row r)) → (∀ c, c ∈ ls → p (.look c)) → ∀ o, o ∈ merge rs ls → p o
  | [], ls, _, h, o, m => by
    obtain ⟨c, hc, rfl⟩ := List.mem_map.mp m
    exact h c hc
  | r :: rs, ls, g, h, o, m => by
    rw [merge_cons] at m
    split at m
    · rcases List.mem_cons.mp m with rfl | m
      · exact g r List.mem_cons_self
      · exact merge_all (fun q k => g q (List.mem_cons_of_mem _ k)) h o m
    · rcases List.mem_append.mp m with m | m
      · obtain ⟨c, hc, rfl⟩ := List.mem_map.mp m
        exact h c ((List.takeWhile_sublist _).subset hc)
      · rcases List.mem_cons.mp m with rfl | m
        · exact g r List.mem_cons_self
        · exact merge_all (fun q k => g q (List.mem_cons_of_mem _ k)) (fun c k => h c ((List.dropWhile_sublist _).subset k)) o m
theorem merge_len : ∀ {rs : List Rw} {ls : List Int}, (merge rs ls).length = rs.length + ls.length
  | [], ls => by simp [merge]
  | r :: rs, ls => by
    rw [merge_cons]
    split
    · rw [List.length_cons, merge_len, List.length_cons]; omega
    · have e : (ls.takeWhile fun c => decide (c ≤ r.c)).length + (ls.dropWhile fun c => decide (c ≤ r.c)).length = ls.length := by
        rw [← List.length_append, List.takeWhile_append_dropWhile]
      rw [List.length_append, List.length_map, List.length_cons, merge_len, List.length_cons]; omega
theorem merge_nil : ∀ {rs : List Rw}, merge rs [] = rs.map Out.row
  | [] => rfl
  | r :: rs => by
    rw [merge_row (.inr (.inl rfl)), merge_nil]; rfl
theorem late_nil {rs : List Rw} : late rs [] = false := by
  unfold late
  cases rs.getLast? <;> rfl
theorem rows_out {H : Hp} {rs : List Rw} : (rs.map Out.row).map (outD H) = rs.map (rowD H) := by rw [List.map_map]; rfl
theorem good_rwd {H : Hp} {r : Rw} (g : GoodRw r) : RwD H r := by
  obtain ⟨q, ns, m, rfl, l, b⟩ := g
  refine ⟨?_, ?_, fun a ha => ?_⟩
  · have ok : (lawSizes.all fun q => okD (.str q.1)) = true := by decide +kernel
    exact List.all_eq_true.mp ok _ m
  · have := (sz_size m).2.2
    rw [List.length_map]; omega
  · obtain ⟨i, hi, rfl⟩ := List.mem_map.mp ha
    obtain ⟨b0, b1⟩ := b i hi
    refine ⟨.int i, .int i, ?_, by simp [nodes], by simp [PyData.depth]⟩
    simp only [okD, decide_eq_true_eq]
    omega
end Tk

set_option Elab.async false
set_option linter.all false
set_option maxRecDepth 100000
set_option maxHeartbeats 4000000
namespace Tk
open PySem PySem.Spec PyProof.Rows L2

/-! ### the returned log has its own lists -/
def ownRs (d : Int) (L : Addr) : List Rw := [⟨"process", [.int 0]⟩, ⟨"run", [.int d, .int 0, .ref L, .non]⟩, ⟨"look", [.int (d + 5)]⟩]
structure OwnAt (H : Hp) (R t1 t2 t3 L : Addr) (d : Int) : Prop where
  r : H R = some (.lst [.ref t1, .ref t2, .ref t3])
  h1 : H t1 = some (.tup [.str "process", .int 0])
  h2 : H t2 = some (.tup [.str "run", .int d, .int 0, .ref L, .non])
  h3 : H t3 = some (.tup [.str "look", .int (d + 5)])
  hL : H L = some (.lst [.int 0, .int 1, .int d])
section
variable {H H' : Hp} {R t1 t2 t3 L : Addr} {d : Int} {ls : List Int}
theorem OwnAt.same (e : Same H H') (o : OwnAt H R t1 t2 t3 L d) : OwnAt H' R t1 t2 t3 L d :=
  ⟨e _ _ o.r, e _ _ o.h1, e _ _ o.h2, e _ _ o.h3, e _ _ o.hL⟩
theorem OwnAt.rows (o : OwnAt H R t1 t2 t3 L d) : Paired (RwAt H) [.ref t1, .ref t2, .ref t3] (ownRs d L) := by
  refine .cons ⟨⟨t1, rfl, o.h1⟩, ?_, by decide +kernel⟩ (.cons ⟨⟨t2, rfl, o.h2⟩, ?_, by show sizeV "run" = .int 5; decide +kernel⟩ (.cons ⟨⟨t3, rfl, o.h3⟩, ?_, by show sizeV "look" = .int 2; decide +kernel⟩ .nil))
  · intro y hy; obtain rfl := List.mem_singleton.mp hy; exact ⟨_, .int _⟩
  · intro y hy
    rcases List.mem_cons.mp hy with rfl | hy
    · exact ⟨_, .int _⟩
    rcases List.mem_cons.mp hy with rfl | hy
    · exact ⟨_, .int _⟩
    rcases List.mem_cons.mp hy with rfl | hy
    · exact ⟨_, .lst o.hL⟩
    obtain rfl := List.mem_singleton.mp hy
    exact ⟨_, .non⟩
  · intro y hy; obtain rfl := List.mem_singleton.mp hy; exact ⟨_, .int _⟩
theorem sm_int {i : Int} (h : i.natAbs < 10 ^ 40) : SmA H (.int i) := ⟨.int i, .int i, by simp only [okD, decide_eq_true h], by simp [nodes], by simp [PyData.depth]⟩
theorem OwnAt.good (o : OwnAt H R t1 t2 t3 L d) (d0 : 0 ≤ d) (d1 : d < 9) : ∀ r, r ∈ ownRs d L → RwD H r := by
  intro r hr
  rcases List.mem_cons.mp hr with rfl | hr
  · refine ⟨by decide +kernel, by decide, fun a ha => ?_⟩
    obtain rfl := List.mem_singleton.mp ha; exact sm_int (by decide)
  rcases List.mem_cons.mp hr with rfl | hr
  · refine ⟨by show okD (.str "run") = true; decide +kernel, by show 4 ≤ 6; decide, fun a ha => ?_⟩
    rcases List.mem_cons.mp ha with rfl | ha
    · exact sm_int (by omega)
    rcases List.mem_cons.mp ha with rfl | ha
    · exact sm_int (by decide)
    rcases List.mem_cons.mp ha with rfl | ha
    · have e1 : d.natAbs < 10 ^ 40 := by omega
      refine ⟨.list [.int 0, .int 1, .int d], .lst o.hL (.cons (.int 0) (.cons (.int 1) (.cons (.int d) .nil))), ?_, by simp [nodes, nodesAll], by simp [PyData.depth, PyData.depthAll]⟩
      simp only [okD, okDs, decide_eq_true e1]; decide
    obtain rfl := List.mem_singleton.mp ha
    exact ⟨.none, .non, by simp only [okD], by simp [nodes], by simp [PyData.depth]⟩
  obtain rfl := List.mem_singleton.mp hr
  refine ⟨by show okD (.str "look") = true; decide +kernel, by show 1 ≤ 6; decide, fun a ha => ?_⟩
  obtain rfl := List.mem_singleton.mp ha
  exact sm_int (by omega)
theorem own_ok (d0 : 0 ≤ d) : logOk (ownRs d L) = true := by
  have e : cycV (ownRs d L) = [(0 : Int), d, d + 5].map V.int := rfl
  unfold logOk
  rw [e, stopsOk_eq, cycles_of, Bool.true_and]
  · rfl
  · intro c hc; simp at hc; omega
  · simp; omega
theorem own_late : late (ownRs d L) ls = false := by
  unfold late
  have e : (ownRs d L).getLast? = some ⟨"look", [.int (d + 5)]⟩ := rfl
  rw [e]
  cases ls.getLast? <;> rfl
end
theorem outD_same {H H' : Hp} (e : Same H H') {o : Out} (g : GoodO H o) : outD H' o = outD H o := by
  cases o with
  | look c => rfl
  | row r =>
    show PyData.tuple _ = PyData.tuple _
    congr 2
    refine List.map_congr_left fun a ha => ?_
    obtain ⟨d, h, _⟩ := (g : RwD H r).sm a ha
    rw [dOf_eq h, dOf_eq (h.same e)]
theorem outsD_same {H H' : Hp} (e : Same H H') {os : List Out} (g : ∀ o, o ∈ os → GoodO H o) : os.map (outD H') = os.map (outD H) := List.map_congr_left fun o m => outD_same e (g o m)
theorem goodO_same {H H' : Hp} (e : Same H H') {o : Out} (g : GoodO H o) : GoodO H' o := by
  cases o with
  | look c => exact g
  | row r => exact ⟨(g : RwD H r).nm, (g : RwD H r).len, fun a m => ((g : RwD H r).sm a m).same e⟩
theorem cpy_val {H H' : Hp} {x y : V} (c : Cpy H H' x y) (n : ∀ a, x ≠ .ref a) : y = x := by
  rcases c with ⟨_, e⟩ | ⟨a, _, _, e, _⟩
  · exact e
  · exact absurd e (n a)
theorem cpy_lst {H H' : Hp} {y : V} {L : Addr} {xs : List V} (c : Cpy H H' (.ref L) y) (h : H L = some (.lst xs)) : ∃ p, y = .ref p ∧ H p = none ∧ H' p = some (.lst xs) := by
  rcases c with ⟨⟨t, k, n⟩, e⟩ | ⟨a, zs, p, e, h1, h2, h3, h4⟩
  · exact absurd (k.one (.lst h)) n
  · cases e
    cases h.symm.trans h1
    exact ⟨p, h2, h3, h4⟩
/-- what the loop over the returned rows keeps -/
structure OwnI (H1 H2 : Hp) (p : Addr) (ys : List V) (i : Nat) (H' : Hp) : Prop where
  fr : Fr [] H1 H'
  tups : ∀ q vs, H2 q = some (.tup vs) → H' q = some (.tup vs)
  ls : ∀ q xs, q ≠ p → H2 q = some (.lst xs) → xs.length ≤ 3 → ∃ xs', H' q = some (.lst xs') ∧ xs'.length ≤ 3 + i
  hp : H' p = some (.lst ys)
section
variable {P : Program} {w : World} {K : PySem.W.Frag} {mg : Str → Option Value} {base : Heap} {CC CL : Addr}
theorem withLooks_ok {x y : V} {rs : List Rw} {ls : List Int} {H : Hp} {Q : VK} {E : XK} (lr : LogRs H x (some rs)) (kr : LooksRs H y (some ls)) (ok : logOk rs = true) (lt : late rs ls = false)
    (q : ∀ p ys H', H p = none → H' p = some (.lst ys) → Fr [] H H' → Paired (OutAt H H') ys (merge rs ls) → Q (.ref p) H') : spWithLooks CC CL [x, y] H Q E := by
  refine ⟨x, y, _, _, rfl, lr, kr, fun z => ?_, fun rs' e _ => ⟨(fun z => nomatch z), fun ls' e2 => ?_⟩⟩
  · rw [show okO (some rs) = logOk rs from rfl, ok] at z; cases z
  · cases e
    cases e2
    exact ⟨fun z => (by rw [lt] at z; cases z), fun _ => q⟩
def spOwn : Sp := fun vs H Q _ => ∃ (a : Addr) (x y z : Int), vs = [.ref a] ∧ H a = some (srcO x y z) ∧ ∀ H', (∃ x z, H' a = some (srcO x y z)) → Fr [a] H H' → Q (.bl true) H'
theorem sc_own : FnScope ["source", "begin", "rows", "found", "due", "row", "kept", "looks"] ["source"] (defScope s__law_own_right) := ⟨rfl, rfl, rfl, by decide +kernel, rfl, by decide +kernel, by decide +kernel⟩
theorem ok_own (F : FunAt K mg "_law_own_right" s__law_own_right) (G : NoGl mg) (C__law_next : Cal P w K mg base CX0 2 "_law_next" ["source", "many"] [] spDraw)
    (C_with_looks : Cal P w K mg base (L2.CX P w) 5 "with_looks" ["log", "looks"] [] (spWithLooks CC CL)) :
    CalG P w K mg base CX0 6 "_law_own_right" ["source"] [] spOwn := by
  refine CalG.mk0 F sc_own (by rintro _ _ _ _ ⟨_, _, _, _, rfl, _⟩; rfl) (fun _ _ _ _ _ _ us hl => match us, hl with | [_], _ => rfl) ?_
  rintro f cdv A outer s H vs Q E hf hr ⟨a, x, y, z, rfl, hs, q⟩
  have nd := sc_own.nd
  have hu := hr.units
  refine ⟨_, (pss_cons (ps_set (i := 1) nd rfl (.inl rfl) (pe_c C__law_next (hr.mono (by decide)) (by rfl) pass0 (pa_cons (pv 0) (pa_cons pe_int pa_nil))))
    (pss_cons (ps_set (i := 2) nd rfl (.inl rfl) (pe_lst (pa_cons (pe_tup (pa_cons pe_str (pa_cons pe_int pa_nil))) (pa_cons (pe_tup (pa_cons pe_str (pa_cons (pv 1) (pa_cons pe_int (pa_cons (pe_lst (pa_cons pe_int (pa_cons pe_int (pa_cons (pv 1) pa_nil)))) (pa_cons pe_non pa_nil)))))) (pa_cons (pe_tup (pa_cons pe_str (pa_cons (pe_op op_add (pv 1) pe_int) pa_nil))) pa_nil)))))
    (pss_cons (ps_par (i := 6) (j := 7) (by rfl) nd rfl rfl (by decide) rfl rfl (pa_cons (pe_callB (call_repr hf hu) (by rfl) G.repr (by decide +kernel) (pa_cons (pv 2) pa_nil)) (pa_cons (pe_lst (pa_cons pe_int (pa_cons (pv 1) (pa_cons (pe_op op_add (pv 1) pe_int) pa_nil)))) pa_nil)) (by rfl))
    (pss_cons (ps_set (i := 3) nd rfl (.inl rfl) (pe_c C_with_looks (hr.mono (by decide)) (by rfl) (passes_call (E := fun _ _ _ => False) (W := fun _ _ _ _ => False) takes0 (fun _ _ _ _ h => h)) (pa_cons (pv 2) (pa_cons (pv 7) pa_nil))))
    (pss_cons (ps_set (i := 4) nd rfl (.inl rfl) (pe_callB (call_repr hf hu) (by rfl) G.repr (by decide +kernel) (pa_cons (pv 3) pa_nil)))
    (pss_cons (ps_for PassesOwn.never rfl (pi_list (pv 3)) (pg_name (i := 5) nd rfl (.inl rfl))
      (pss_one (ps_if (pt_cmpR op_eq (pe_ix ix_tup (pv 5) pe_int (fun _ _ => rfl)) pe_str (nomark _))
        (pss_one (ps_expr (pe_bm PySem.F.plainAttrs_list PySem.F.slot_list_append PySem.F.type_list_append mt_append (pe_ix ix_tup (pv 5) pe_int (fun _ _ => rfl)) (pa_cons pe_int pa_nil))))
        pss_nil)))
    (pss_one (ps_ret (pe_and (pe_cmpR op_eq (pe_callB (call_repr hf hu) (by rfl) G.repr (by decide +kernel) (pa_cons (pv 2) pa_nil)) (pv 6) (nomark _)) (pe_one (pe_cmpR op_eq (pe_callB (call_repr hf hu) (by rfl) G.repr (by decide +kernel) (pa_cons (pe_c C_with_looks (hr.mono (by decide)) (by rfl) (passes_call (E := fun _ _ _ => False) (W := fun _ _ _ _ => False) takes0 (fun _ _ _ _ h => h)) (pa_cons (pv 2) (pa_cons (pv 7) pa_nil))) pa_nil)) (pv 4) (nomark _)))))))))))), ?_⟩
  refine ⟨_, rfl, a, x, y, z, 9, rfl, hs, by decide, by decide, fun d x1 z1 H1 d0 d1 src1 fr1 => ?_⟩
  refine ⟨by show 2 ≤ sizeLine; decide, fun t1 n1 => ⟨_, rfl, _, rfl, by show 3 ≤ sizeLine; decide, fun L nL => ⟨by show 5 ≤ sizeLine; decide, fun t2 n2 => ⟨_, rfl, _, _, rfl, rfl, by show 2 ≤ sizeLine; decide, fun t3 n3 => ⟨by show 3 ≤ sizeLine; decide, fun R nR => ?_⟩⟩⟩⟩⟩
  have f1 := Fr.new (M := []) (o := .tup [V.str "process", V.int 0]) n1
  have f2 := Fr.new (M := []) (o := .lst [V.int 0, V.int 1, V.int d]) nL
  have f3 := Fr.new (M := []) (o := .tup [V.str "run", V.int d, V.int 0, V.ref L, V.non]) n2
  have f4 := Fr.new (M := []) (o := .tup [V.str "look", V.int (d + 5)]) n3
  have f5 := Fr.new (M := []) (o := .lst [V.ref t1, V.ref t2, V.ref t3]) nR
  have eR1 := (f2.trans (f3.trans (f4.trans f5))).same t1 _ upd_same
  have eRL := (f3.trans (f4.trans f5)).same L _ upd_same
  have eR2 := (f4.trans f5).same t2 _ upd_same
  have eR3 := f5.same t3 _ upd_same
  have fR := f1.trans (f2.trans (f3.trans (f4.trans f5)))
  have O : OwnAt _ R t1 t2 t3 L d := ⟨upd_same, eR1, eR2, eR3, eRL⟩
  have srcR := fR.same _ _ src1
  have frR := fr1.trans (Fr.mono (N := [a]) fR fun _ h => nomatch h)
  dsimp only [L2.gName, L2.tSeq]
  dsimp only at O srcR frR
  clear eR1 eRL eR2 eR3 f1 f2 f3 f4 f5 fR n1 n2 n3 nL
  generalize hHR : upd (upd (upd (upd (upd H1 t1 (.tup [.str "process", .int 0])) L (.lst [.int 0, .int 1, .int d])) t2 (.tup [.str "run", .int d, .int 0, .ref L, .non])) t3 (.tup [.str "look", .int (d + 5)])) R (.lst [.ref t1, .ref t2, .ref t3]) = HR at O srcR frR ⊢
  clear hHR nR
  -- repr(rows)
  have g0 := O.good d0 d1
  have sm := rows_small g0 (by show 3 ≤ 60; decide)
  refine ⟨_, rfl, ?_⟩
  dsimp only [L2.tNil]
  refine repr_at (.lst O.r (rows_dd (fun _ _ h => h) O.rows g0)) sm.1 sm.2.1 sm.2.2 ?_
  refine ⟨_, rfl, _, rfl, _, _, rfl, rfl, (by show 3 ≤ sizeLine; decide), fun l nl => ⟨_, _, rfl, ?_⟩⟩
  have f6 := Fr.new (M := []) (o := .lst [V.int 0, V.int d, V.int (d + 9)]) nl
  have O5 := O.same f6.same
  have src5 := f6.same _ _ srcR
  have fr5 := frR.trans (Fr.mono (N := [a]) f6 fun _ h => nomatch h)
  have hl5 : upd HR l (.lst [V.int 0, V.int d, V.int (d + 9)]) l = some (.lst [V.int 0, V.int d, V.int (d + 9)]) := upd_same
  have fR5 := f6
  dsimp only
  generalize hH5 : upd HR l (.lst [.int 0, .int d, .int (d + 9)]) = H5 at f6 O5 src5 fr5 hl5 fR5 ⊢
  clear hH5 nl f6
  have g5 := O5.good d0 d1
  have cyc : cyclesL 0 ([0, d, d + 9].map V.int) = true := cycles_of (by intro c hc; simp at hc; omega) (by simp; omega)
  -- found = with_looks(rows, looks)
  refine ⟨_, rfl, _, rfl, ?_⟩
  dsimp only [L2.tNil]
  refine withLooks_ok (LogRs.ok rfl O5.r (by show 3 < 1000000; decide) O5.rows) (LooksRs.ok (ls := [0, d, d + 9]) rfl hl5 (by show 3 < 1000000; decide) cyc) (own_ok d0) own_late fun p ys H6 np hp fr6 po => ?_
  have lo : (merge (ownRs d L) [0, d, d + 9]).length ≤ 60 := by rw [merge_len]; show 3 + 3 ≤ 60; decide
  have ly := PySem.Paired.length po
  have mem : ∀ o, o ∈ merge (ownRs d L) [0, d, d + 9] → GoodO H5 o ∧ match o with | .row r => r ∈ ownRs d L | .look _ => True := merge_all (fun r m => ⟨g5 r m, m⟩) (fun c hc => ⟨by show c.natAbs < 10 ^ 40; simp at hc; omega, trivial⟩)
  have go := fun o m => (mem o m).1
  have so := outs_small go lo
  generalize hos : merge (ownRs d L) [0, d, d + 9] = os at *
  -- due = repr(found)
  refine ⟨_, rfl, ?_⟩
  dsimp only [L2.tNil]
  refine repr_at (.lst hp (outs_dd fr6.same po go)) so.1 so.2.1 so.2.2 ?_
  refine ⟨_, rfl, p, rfl, ⟨_, SqL.of hp⟩, ?_⟩
  refine for_list (K := K) (a := p) (xs := ys) (fun i σ H' => ∃ (s5 : Option V), σ = [some (V.ref a), some (V.int d), some (V.ref R), some (V.ref p), some (V.str (PyData.shown (.list (os.map (outD H5))))), s5, some (V.str (PyData.shown (.list ((ownRs d L).map (rowD HR))))), some (V.ref l)] ∧ OwnI H5 H6 p ys i H')
    ⟨_, rfl, fr6, (fun _ _ h => h), (fun q xs _ h l => ⟨xs, h, by omega⟩), hp⟩ ?_ ?_ ?_
  · rintro i σ H' _ ⟨_, _, I⟩
    exact SqL.of I.hp
  · rintro i x σ H' hx ⟨s5, rfl, I⟩
    obtain ⟨o, ho, ax⟩ := Paired.get po hx
    have hi : i < os.length := (List.getElem?_eq_some_iff.mp ho).1
    obtain ⟨_, mo⟩ := mem o (List.mem_of_getElem? ho)
    have stay : ∀ {s5' : Option V}, ∃ (s5 : Option V), [some (V.ref a), some (V.int d), some (V.ref R), some (V.ref p), some (V.str (PyData.shown (.list (os.map (outD H5))))), s5', some (V.str (PyData.shown (.list ((ownRs d L).map (rowD HR))))), some (V.ref l)] = 
      [some (V.ref a), some (V.int d), some (V.ref R), some (V.ref p), some (V.str (PyData.shown (.list (os.map (outD H5))))), s5, some (V.str (PyData.shown (.list ((ownRs d L).map (rowD HR))))), some (V.ref l)] ∧ OwnI H5 H6 p ys (i + 1) H' :=
      fun {s5'} => ⟨s5', rfl, I.fr, I.tups, (fun q xs n h l => let ⟨zs, h1, h2⟩ := I.ls q xs n h l; ⟨zs, h1, by omega⟩), I.hp⟩
    cases o with
    | look c =>
      obtain ⟨q0, rfl, _, hq⟩ := ax
      refine ⟨_, rfl, q0, _, _, _, rfl, rfl, SqT.of (I.tups _ _ hq), atI_nat (j := 0) rfl, rfl, _, rfl, ?_⟩
      rw [dec_str]
      exact ifF (by decide) stay
    | row r =>
      obtain ⟨q0, vs0, rfl, _, hq, cp⟩ := ax
      have hq' := I.tups _ _ hq
      rcases List.mem_cons.mp mo with rfl | mo
      · cases cp with
        | cons c cs =>
          obtain rfl := cpy_val c (fun _ e => nomatch e)
          refine ⟨_, rfl, q0, _, _, _, rfl, rfl, SqT.of hq', atI_nat (j := 0) rfl, rfl, _, rfl, ?_⟩
          rw [dec_str]
          exact ifF (by decide) stay
      rcases List.mem_cons.mp mo with rfl | mo
      · cases cp with
        | cons c cs =>
          obtain rfl := cpy_val c (fun _ e => nomatch e)
          cases cs with
          | cons c1 cs =>
            cases cs with
            | cons c2 cs =>
              cases cs with
              | cons c3 cs =>
                obtain ⟨p3, rfl, np3, hp3⟩ := cpy_lst c3 O5.hL
                have ne : p3 ≠ p := by
                  rintro rfl
                  cases hp.symm.trans hp3
                  cases po with
                  | cons u _ =>
                    cases ‹Out› with
                    | look c => obtain ⟨_, e, _⟩ := u; cases e
                    | row r => obtain ⟨_, _, e, _⟩ := u; cases e
                obtain ⟨zs, hz, lz⟩ := I.ls p3 _ ne hp3 (by show 3 ≤ 3; decide)
                refine ⟨_, rfl, q0, _, _, _, rfl, rfl, SqT.of hq', atI_nat (j := 0) rfl, rfl, _, rfl, ?_⟩
                rw [dec_str]
                refine ifT (by show decide (("run" : Str) = "run") = true; decide) ?_
                refine ⟨_, rfl, q0, _, _, _, rfl, rfl, SqT.of hq', atI_nat (j := 3) rfl, .inl ⟨rfl, _, SqL.of hz⟩, p3, zs, _, rfl, rfl, hz, (by rw [sizeLine_eq]; omega), _, rfl, ?_⟩
                refine ⟨Fr.drop (I.fr.weak.trans (Fr.set (List.mem_singleton.mpr rfl))) np3, fun q vs h => ?_, fun q xs n h l => ?_, ?_⟩
                · have := I.tups q vs h
                  rw [upd_ne fun z => by rw [z, hz] at this; cases this]; exact this
                · by_cases z : q = p3
                  · subst z
                    exact ⟨_, upd_same, by rw [List.length_append, List.length_singleton]; omega⟩
                  · obtain ⟨ws, h1, h2⟩ := I.ls q xs n h l
                    exact ⟨ws, by rw [upd_ne z]; exact h1, by omega⟩
                · rw [upd_ne ne.symm]; exact I.hp
      obtain rfl := List.mem_singleton.mp mo
      cases cp with
      | cons c cs =>
        obtain rfl := cpy_val c (fun _ e => nomatch e)
        refine ⟨_, rfl, q0, _, _, _, rfl, rfl, SqT.of hq', atI_nat (j := 0) rfl, rfl, _, rfl, ?_⟩
        rw [dec_str]
        exact ifF (by show decide (("look" : Str) = "run") = false; decide) stay
  · rintro σ H' ⟨s5, rfl, I⟩
    have O7 := O5.same I.fr.same
    refine ⟨_, rfl, ?_⟩
    dsimp only [L2.tNil]
    refine repr_at (.lst O7.r (rows_dd ((fR5.trans I.fr).same) O7.rows g0)) sm.1 sm.2.1 sm.2.2 ?_
    refine ⟨_, rfl, rfl, _, rfl, ?_⟩
    refine ifT (by simp) ?_
    refine ⟨_, rfl, _, rfl, ?_⟩
    dsimp only [L2.tNil]
    refine withLooks_ok (LogRs.ok rfl O7.r (by show 3 < 1000000; decide) O7.rows) (LooksRs.ok (ls := [0, d, d + 9]) rfl (I.fr.same _ _ hl5) (by show 3 < 1000000; decide) cyc) (own_ok d0) own_late fun p8 y8 H8 np8 hp8 fr8 po8 => ?_
    rw [hos] at po8
    have go8 := fun o m => goodO_same I.fr.same (go o m)
    have e8 := outsD_same (os := os) I.fr.same go
    refine repr_at (d := .list (os.map (outD H5))) (.lst hp8 (by rw [← e8]; exact outs_dd fr8.same po8 go8)) so.1 so.2.1 so.2.2 ?_
    refine ⟨_, rfl, rfl, ?_⟩
    rw [decide_eq_true rfl]
    exact q H8 ⟨x1, z1, (I.fr.trans fr8).same _ _ src5⟩ (fr5.trans (Fr.mono (N := [a]) (I.fr.trans fr8) fun _ h => nomatch h))
end
end Tk

set_option Elab.async false
set_option linter.all false
set_option maxRecDepth 100000
set_option maxHeartbeats 4000000
namespace Tk
open PySem PySem.Spec PyProof.Rows L2

/-! ### a call within try -/
section
variable {X : Cx} {CX : CXT} {k : Nat} {ps : List Str} {sp : Sp} {E : L2.St → XK} {x : Str} {p pos : Pos} {e : Expr} {es : List Expr} {t : TA}
theorem pe_cS (C : Cal X.prog X.w X.K X.mg X.base CX k x ps [] sp) (hr : Room k X.A) (hg : Gl X x) (hx : ∀ σ, PassesAt CX X σ (E σ)) (ha : PA X (e :: es) t) (hdb : (x == ("__debug__" : Str)) = false := by decide)
    (he : starEach (e :: es) X.env = (false, eval e X.env) :: starEach es X.env := by rfl) (hpl : (backTo pos (starEach es X.env)).any (·.1) = false := by rfl) :
    PE X (.Call (.Name x p) (e :: es) [] pos) (tCallS sp E t) := by
  obtain ⟨f, fd, ds, hm, hk, F, hb, hd⟩ := C.ex
  cases hd
  exact pe_callS F hr hg hm hk hb hx ha hdb he hpl
end
/-- two lists of the same two texts -/
def rNeTwo (K : PySem.W.Frag) : R2 := fun x y H Q => ∃ a b u v, x = .ref a ∧ y = .ref b ∧ SqL K H a [.str u, .str v] ∧ SqL K H b [.str u, .str v] ∧ Q (.bl false) H
theorem op_neTwo {X : Cx} (hu : X.A.units < cLine) : OpR X (compareOp .NotEq) (rNeTwo X.K) := by
  rintro pins s σ H x y v u Q I rx ry ⟨a, b, z1, z2, rfl, rfl, ha, hb, q⟩
  obtain rfl : v = Value.ref a := rx
  obtain rfl : u = Value.ref b := ry
  obtain ⟨its, r1, p1, _⟩ := I.list ha
  obtain ⟨its2, r2, p2, _⟩ := I.list hb
  obtain ⟨v1, v2, rfl, ⟨t1, rfl⟩, ⟨t2, rfl⟩⟩ : ∃ v1 v2, its = [v1, v2] ∧ (∃ t, v1 = Value.str z1 t) ∧ ∃ t, v2 = Value.str z2 t := by
    cases r1 with
    | cons c1 r1 => cases r1 with
      | cons c2 r1 => cases r1; exact ⟨_, _, rfl, c1, c2⟩
  obtain ⟨v1, v2, rfl, ⟨t3, rfl⟩, ⟨t4, rfl⟩⟩ : ∃ v1 v2, its2 = [v1, v2] ∧ (∃ t, v1 = Value.str z1 t) ∧ ∃ t, v2 = Value.str z2 t := by
    cases r2 with
    | cons c1 r1 => cases r1 with
      | cons c2 r1 => cases r1; exact ⟨_, _, rfl, c1, c2⟩
  refine SeqAt.RcNeAt.lists (e := fun _ => true) p1.isList p2.isList rfl hu (fun j h1 h2 => ?_) _ _ _ _ ⟨.bl false, H, I, rfl, q⟩
  match j, h1, h2 with
  | 0, _, _ => have e := SeqAt.EqAt.str_str (A := X.A.in1) (s := s) z1 t1 z1 t3; rw [show (z1 == z1) = true by simp] at e; exact e
  | 1, _, _ => have e := SeqAt.EqAt.str_str (A := X.A.in1) (s := s) z2 t2 z2 t4; rw [show (z2 == z2) = true by simp] at e; exact e
  | j + 2, h1, _ => exact absurd h1 (by show ¬ j + 2 < 2; omega)
/-! ### rows of ints: data that no heap tells -/
abbrev H0 : Hp := fun _ => none
theorem s0 {H : Hp} : Same H0 H := fun _ _ h => nomatch h
noncomputable def dR (rs : List Rw) : PyData := .list (rs.map (rowD H0))
noncomputable def dO (rs : List Rw) (ls : List Int) : PyData := .list ((merge rs ls).map (outD H0))
def dL (ls : List Int) : PyData := .list (ls.map .int)
def Sml (d : PyData) : Prop := okD d = true ∧ nodes d ≤ 16000 ∧ d.depth ≤ 60
theorem rep_at {K : PySem.W.Frag} {H : Hp} {v : V} {d : PyData} {Q : VK} (h : Dd H v d) (s : Sml d) (q : Q (.str d.shown) H) : rRepr K [v] H Q := repr_at h s.1 s.2.1 s.2.2 q
/-- rows and looks of the law -/
structure RL (rs : List Rw) (ls : List Int) : Prop where
  good : ∀ r, r ∈ rs → GoodRw r
  mk1 : Mk1 rs
  len : rs.length ≤ 40
  srt : ls.Pairwise (· ≤ ·)
  lls : ls.length ≤ 8
  rng : ∀ c, c ∈ ls → 0 ≤ c ∧ c < 10 ^ 14
section
variable {H H' : Hp} {rs : List Rw} {ls : List Int} {xs ys : List V} {R l p : Addr}
theorem RL.rwd (L : RL rs ls) : ∀ r, r ∈ rs → RwD H r := fun r m => good_rwd (L.good r m)
theorem RL.go (L : RL rs ls) : ∀ o, o ∈ merge rs ls → GoodO H o := merge_all (fun r m => L.rwd r m) fun c m => by
  have := L.rng c m
  show c.natAbs < 10 ^ 40
  omega
theorem RL.smR (L : RL rs ls) : Sml (dR rs) := rows_small L.rwd (Nat.le_trans L.len (by decide))
theorem RL.smL (L : RL rs ls) : Sml (dL ls) := ints_small (fun c m => by have := L.rng c m; omega) (Nat.le_trans L.lls (by decide))
theorem RL.smO (L : RL rs ls) : Sml (dO rs ls) := outs_small L.go (by have := L.len; have := L.lls; rw [merge_len]; omega)
theorem RL.ddR (L : RL rs ls) (h : H R = some (.lst xs)) (pr : Paired (RwAt H) xs rs) : Dd H (.ref R) (dR rs) := .lst h (rows_dd s0 pr L.rwd)
theorem RL.ddL (h : H l = some (.lst (ls.map V.int))) : Dd H (.ref l) (dL ls) := .lst h (DdAll.ints ls)
theorem RL.ddO (L : RL rs ls) (fr : Fr [] H H') (h : H' p = some (.lst ys)) (po : Paired (OutAt H H') ys (merge rs ls)) : Dd H' (.ref p) (dO rs ls) := by
  refine .lst h ?_
  rw [← outsD_same s0 L.go]
  exact outs_dd fr.same po L.go
theorem RL.ddD (L : RL rs ls) (h : H p = some (.lst ys)) (po : Paired (DueAt H) ys (merge rs ls)) : Dd H (.ref p) (dO rs ls) := .lst h (dues_dd s0 po L.go)
theorem RL.looks (L : RL rs ls) (h : H l = some (.lst (ls.map V.int))) : LooksRs H (.ref l) (some ls) :=
  .ok rfl h (Nat.lt_of_le_of_lt L.lls (by decide)) (cycles_of (fun c m => (L.rng c m).1) L.srt)
theorem RL.log (L : RL rs ls) (h : H R = some (.lst xs)) (pr : Paired (RwAt H) xs rs) : LogRs H (.ref R) (some rs) :=
  .ok rfl h (by have := PySem.Paired.length pr; have := L.len; omega) pr
theorem RL.nil (L : RL rs ls) : RL rs [] := ⟨L.good, L.mk1, L.len, .nil, by decide, fun _ h => nomatch h⟩
/-- _law_due -/
theorem RL.due (L : RL rs ls) {Q : VK} {E : XK} (h : H R = some (.lst xs)) (pr : Paired (RwAt H) xs rs) (hl : H l = some (.lst (ls.map V.int)))
    (q1 : late rs ls = true → ∀ H', Fr [] H H' → Q .non H') (q2 : late rs ls = false → ∀ p H', Fr [] H H' → Dd H' (.ref p) (dO rs ls) → Q (.ref p) H') : spDue [.ref R, .ref l] H Q E := by
  have e := due_eq L.mk1 L.srt
  refine ⟨R, l, xs, rs, ls, rfl, h, pr, fun r m g => row_int L.mk1.ok m g, L.len, hl, L.lls, fun z => ?_, fun os z p' ys H' _ hp po fr => ?_⟩
  · rw [e] at z
    cases lt : late rs ls with
    | true => exact q1 lt
    | false => rw [lt] at z; cases z
  · rw [e] at z
    cases lt : late rs ls with
    | true => rw [lt] at z; cases z
    | false =>
      rw [lt] at z
      cases z
      exact q2 lt p' H' fr (L.ddD hp po)
/-- with_looks -/
theorem RL.with_ (L : RL rs ls) {CC CL : Addr} {Q : VK} {E : XK} (h : H R = some (.lst xs)) (pr : Paired (RwAt H) xs rs) (hl : H l = some (.lst (ls.map V.int)))
    (q1 : late rs ls = true → ∀ H', Fr [] H H' → E (.ref CL) none H') (q2 : late rs ls = false → ∀ p ys H', H p = none → H' p = some (.lst ys) → ys.length ≤ 48 → Fr [] H H' → Dd H' (.ref p) (dO rs ls) → Q (.ref p) H') : spWithLooks CC CL [.ref R, .ref l] H Q E := by
  refine ⟨_, _, _, _, rfl, L.log h pr, L.looks hl, fun z => ?_, fun rs' e _ => ⟨(fun z => nomatch z), fun ls' e2 => ?_⟩⟩
  · rw [show okO (some rs) = logOk rs from rfl, L.mk1.ok] at z; cases z
  · cases e
    cases e2
    refine ⟨q1, fun lt p ys H' np hp fr po => q2 lt p ys H' np hp ?_ fr (L.ddO fr hp po)⟩
    rw [PySem.Paired.length po, merge_len]
    have := L.len
    have := L.lls
    omega
theorem sml_none : Sml .none := by refine ⟨by simp only [okD], by simp [nodes], by simp [PyData.depth]⟩
theorem dO_nil {rs : List Rw} : dO rs [] = dR rs := by unfold dO dR; rw [merge_nil, rows_out]
/-- repr(found) != repr(due) or [repr(rows), repr(looks)] != kept -/
theorem RL.ev_same (L : RL rs ls) {K : PySem.W.Frag} {σ : L2.St} {kp : Addr} {v7 v8 : V} {d : PyData} {Q : Bool → Hp → Prop} (h4 : σ[4]? = some (some (.ref R))) (h6 : σ[6]? = some (some (.ref l))) (h7 : σ[7]? = some (some v7)) (h8 : σ[8]? = some (some v8)) (h9 : σ[9]? = some (some (.ref kp)))
    (d4 : Dd H (.ref R) (dR rs)) (d6 : Dd H (.ref l) (dL ls)) (d7 : Dd H v7 d) (d8 : Dd H v8 d) (sd : Sml d) (hk : H kp = some (.lst [.str (dR rs).shown, .str (dL ls).shown])) (q : ∀ H', Fr [] H H' → Q false H') :
    tOr (tTest (tOp rNe (tCB (rRepr K) (tCons (tVar 7) tNil)) (tCB (rRepr K) (tCons (tVar 8) tNil)))) (tTest (tOp (rNeTwo K) (tLst (tCons (tCB (rRepr K) (tCons (tVar 4) tNil)) (tCons (tCB (rRepr K) (tCons (tVar 6) tNil)) tNil))) (tVar 9))) σ H Q := by
  refine ⟨_, h7, ?_⟩
  dsimp only [L2.tNil]
  refine rep_at d7 sd ⟨_, h8, ?_⟩
  dsimp only [L2.tNil]
  refine rep_at d8 sd ⟨rfl, _, rfl, ?_⟩
  refine ifF (by simp) ⟨_, h4, ?_⟩
  dsimp only [L2.tNil]
  refine rep_at d4 L.smR ⟨_, h6, ?_⟩
  dsimp only [L2.tNil]
  refine rep_at d6 L.smL ⟨(by show 2 ≤ sizeLine; decide), fun p hp => ?_⟩
  have fr := Fr.new (M := []) (o := .lst [.str (dR rs).shown, .str (dL ls).shown]) hp
  exact ⟨_, h9, _, _, _, _, rfl, rfl, SqL.of upd_same, SqL.of (fr.same _ _ hk), _, rfl, q _ fr⟩
end
end Tk

set_option Elab.async false
set_option linter.all false
set_option maxRecDepth 100000
set_option maxHeartbeats 4000000
namespace Tk
open PySem PySem.Spec PyProof.Rows L2

section
variable {P : Program} {w : World} {K : PySem.W.Frag} {mg : Str → Option Value} {base : Heap} {CC CL : Addr}
def spLaw (K : PySem.W.Frag) : Sp := fun vs H Q _ => ∃ (a : Addr) (ns : List Int), vs = [.ref a] ∧ SqL K H a (ns.map V.int) ∧ ns.length ≤ 63 ∧ ∀ H', Q (.bl true) H'
theorem sc_law : FnScope ["script", "index", "source", "span", "rows", "turn", "looks", "found", "due", "kept"] ["script"] (defScope s_law) := ⟨rfl, rfl, rfl, by decide +kernel, rfl, by decide +kernel, by decide +kernel⟩
theorem ok_law {f : Addr} {fd : FuncData} (F : Fun K "law" "law" s_law f fd) (G : NoGl mg) (gL : mg "NoLooks" = some (.ref CL)) (exm : PySem.W.exmOne K (.ref CL) (.ref CL) = some true)
    (C__law_source : Cal P w K mg base CX0 2 "_law_source" ["script", "k"] [] (spSource K)) (C__law_next : Cal P w K mg base CX0 2 "_law_next" ["source", "many"] [] spDraw)
    (C__law_rows : Cal P w K mg base CX0 3 "_law_rows" ["source", "span", "many"] [] spRows) (C__law_looks : Cal P w K mg base CX0 3 "_law_looks" ["source", "rows", "span"] [] spLooks)
    (C__law_due : Cal P w K mg base CX0 1 "_law_due" ["rows", "looks"] [] spDue) (C_with_looks : Cal P w K mg base (L2.CX P w) 5 "with_looks" ["log", "looks"] [] (spWithLooks CC CL))
    (C__law_own_right : CalG P w K mg base CX0 6 "_law_own_right" ["source"] [] spOwn) :
    FnG P w K mg base CX0 7 f fd ["script"] (spLaw K) := by
  refine funG F sc_law (by rintro _ _ _ _ ⟨_, _, rfl, _⟩; rfl) fun cdv A outer s H vs Q E hf hr h => ?_
  obtain ⟨a, ns, rfl, hs, ln, q⟩ := h
  have nd := sc_law.nd
  have hu := hr.units
  suffices hh : ∃ t, PSs (cxOf CX0 P w K mg base ["script", "index", "source", "span", "rows", "turn", "looks", "found", "due", "kept"] "law" (defScope s_law) f cdv A outer s H E).nox (defBody s_law) t ∧ t { nx := fun _ H' => Q .non H', rt := Q } (start ["script", "index", "source", "span", "rows", "turn", "looks", "found", "due", "kept"] [.ref a]) H by
    obtain ⟨t, ht, z⟩ := hh
    exact ⟨t, ht.nox, z⟩
  refine ⟨_, (pss_cons (ps_for PassesOwn.never rfl (pi_range1 (by rfl) G.range (pa_cons (pe_callB (call_max2 rfl) (by rfl) G.max (by decide +kernel) (pa_cons pe_int (pa_cons (pe_callB (call_min2 rfl) (by rfl) G.min (by decide +kernel) (pa_cons pe_int (pa_cons (pe_callB call_len_seq (by rfl) G.len (by decide +kernel) (pa_cons (pv 0) pa_nil)) pa_nil))) pa_nil))) pa_nil)) (pg_name (i := 1) nd rfl (.inl rfl))
      (pss_cons (ps_set (i := 2) nd rfl (.inl rfl) (pe_c C__law_source (hr.mono (by decide)) (by rfl) pass0 (pa_cons (pv 0) (pa_cons (pv 1) pa_nil))))
      (pss_cons (ps_set (i := 3) nd rfl (.inl rfl) (pe_ix ix_list (pe_lst (pa_cons pe_int (pa_cons pe_int (pa_cons (pe_op op_add (pe_op op_pow pe_int pe_int) pe_int) pa_nil)))) (pe_c C__law_next (hr.mono (by decide)) (by rfl) pass0 (pa_cons (pv 2) (pa_cons pe_int pa_nil))) (fun _ _ => rfl)))
      (pss_cons (ps_set (i := 4) nd rfl (.inl rfl) (pe_c C__law_rows (hr.mono (by decide)) (by rfl) pass0 (pa_cons (pv 2) (pa_cons (pv 3) (pa_cons (pe_c C__law_next (hr.mono (by decide)) (by rfl) pass0 (pa_cons (pv 2) (pa_cons pe_int pa_nil))) pa_nil)))))
      (pss_cons (ps_for PassesOwn.never rfl (pi_range1 (by rfl) G.range (pa_cons pe_int pa_nil)) (pg_name (i := 5) nd rfl (.inl rfl))
        (pss_cons (ps_set (i := 6) nd rfl (.inl rfl) (pe_c C__law_looks (hr.mono (by decide)) (by rfl) pass0 (pa_cons (pv 2) (pa_cons (pv 4) (pa_cons (pv 3) pa_nil)))))
        (pss_cons (ps_par (i := 8) (j := 9) (by rfl) nd rfl rfl (by decide) rfl rfl (pa_cons (pe_c C__law_due (hr.mono (by decide)) (by rfl) pass0 (pa_cons (pv 4) (pa_cons (pv 6) pa_nil))) (pa_cons (pe_lst (pa_cons (pe_callB (call_repr hf hu) (by rfl) G.repr (by decide +kernel) (pa_cons (pv 4) pa_nil)) (pa_cons (pe_callB (call_repr hf hu) (by rfl) G.repr (by decide +kernel) (pa_cons (pv 6) pa_nil)) pa_nil))) pa_nil)) (by rfl))
        (pss_cons (ps_set (i := 7) nd rfl (.inl rfl) pe_non)
        (pss_cons (ps_try_only (tb := fun W => tAsg (tCallS (spWithLooks CC CL) (WE W) (tCons (tVar 4) (tCons (tVar 6) tNil))) (gName 7)) (ts := fun _ _ _ => tAsg (tC .non) (gName 7)) (Wout := fun _ _ _ _ => False) rfl rfl ⟨rfl, by decide, Or.inl gL⟩ takes0
          (fun W pn xe tk _ => (pss_one (ps_set (i := 7) nd rfl (.inl rfl) (pe_cS C_with_looks (hr.mono (by decide)) (by rfl) (fun σ => passAt tk σ) (pa_cons (pv 4) (pa_cons (pv 6) pa_nil))))))
          (fun a oe cls d pn _ _ => (pss_one (ps_set (i := 7) nd rfl (.inl rfl) pe_non))))
        (pss_cons (ps_if (PW.pt (pw_or (pt_cmpR op_ne (pe_callB (call_repr hf hu) (by rfl) G.repr (by decide +kernel) (pa_cons (pv 7) pa_nil)) (pe_callB (call_repr hf hu) (by rfl) G.repr (by decide +kernel) (pa_cons (pv 8) pa_nil)) (nomark _)) (pw_or1 (pt_cmpR (op_neTwo hr.units0) (pe_lst (pa_cons (pe_callB (call_repr hf hu) (by rfl) G.repr (by decide +kernel) (pa_cons (pv 4) pa_nil)) (pa_cons (pe_callB (call_repr hf hu) (by rfl) G.repr (by decide +kernel) (pa_cons (pv 6) pa_nil)) pa_nil))) (pv 9) (nomark _)))))
          (pss_one (ps_ret pe_bl))
          pss_nil)
        (pss_one (ps_if (pt_cmp (pc_notN (pv 8)) rfl)
          (pss_cons (ps_expr (pe_bm PySem.F.plainAttrs_list PySem.F.slot_list_append PySem.F.type_list_append mt_append (pv 7) (pa_cons pe_non pa_nil)))
          (pss_one (ps_if (pt_cmpR op_ne (pe_callB (call_repr hf hu) (by rfl) G.repr (by decide +kernel) (pa_cons (pe_c C_with_looks (hr.mono (by decide)) (by rfl) (passes_call (E := fun _ _ _ => False) (W := fun _ _ _ _ => False) takes0 (fun _ _ _ _ h => h)) (pa_cons (pv 4) (pa_cons (pv 6) pa_nil))) pa_nil)) (pe_callB (call_repr hf hu) (by rfl) G.repr (by decide +kernel) (pa_cons (pv 8) pa_nil)) (nomark _))
            (pss_one (ps_ret pe_bl))
            pss_nil)))
          pss_nil))))))))
      (pss_one (ps_if (PW.pt (pw_or (pt_cmpR op_ne (pe_callB (call_repr hf hu) (by rfl) G.repr (by decide +kernel) (pa_cons (pe_c C_with_looks (hr.mono (by decide)) (by rfl) (passes_call (E := fun _ _ _ => False) (W := fun _ _ _ _ => False) takes0 (fun _ _ _ _ h => h)) (pa_cons (pv 4) (pa_cons (pe_lst pa_nil) pa_nil))) pa_nil)) (pe_callB (call_repr hf hu) (by rfl) G.repr (by decide +kernel) (pa_cons (pv 4) pa_nil)) (nomark _)) (pw_or1 (pt_not (pt_val (pe_cG C__law_own_right hf (hr.mono (by decide)) (by rfl) pass0 (pa_cons (pv 2) pa_nil)))))))
        (pss_one (ps_ret pe_bl))
        pss_nil)))))))
    (pss_one (ps_ret pe_bl))), ?_⟩
  obtain ⟨m, em, m0, m1⟩ : ∃ m : Nat, (if (if ((ns.map V.int).length : Int) < 4 then ((ns.map V.int).length : Int) else 4) > 1 then (if ((ns.map V.int).length : Int) < 4 then ((ns.map V.int).length : Int) else 4) else 1) = (m : Int) ∧ 1 ≤ m ∧ m ≤ 4 := by
    refine ⟨(if (if ((ns.map V.int).length : Int) < 4 then ((ns.map V.int).length : Int) else 4) > 1 then (if ((ns.map V.int).length : Int) < 4 then ((ns.map V.int).length : Int) else 4) else 1).toNat, ?_, ?_, ?_⟩ <;> (split <;> split <;> omega)
  refine ⟨_, rfl, a, _, rfl, .inl hs, _, _, rfl, _, _, rfl, _, rfl, ?_⟩
  rw [em]
  refine ⟨by omega, by omega, ?_⟩
  refine for_range (lo := 0) (n := m) (fun i σ H' => ∃ s1 s2 s3 s4 s5 s6 s7 s8 s9, σ = [some (V.ref a), s1, s2, s3, s4, s5, s6, s7, s8, s9] ∧ Fr [] H H') ⟨_, _, _, _, _, _, _, _, _, rfl, Fr.refl _ _⟩ ?_ ?_
  · rintro i σ Ha hi ⟨s1, s2, s3, s4, s5, s6, s7, s8, s9, rfl, fra⟩
    -- source
    refine ⟨_, rfl, _, rfl, a, i, ns, by simp, fra.same.seq hs, fun s Hb ns0 hsb frb => ?_⟩
    have frab := fra.trans frb
    -- span
    refine ⟨_, _, rfl, rfl, ⟨by decide, by decide, by decide⟩, _, _, rfl, rfl, (by show 3 ≤ sizeLine; decide), fun p8 np8 => ?_⟩
    have frc := Fr.new (M := []) (o := .lst [V.int 3, V.int 50, V.int (10 ^ 9 + 1)]) np8
    have nps : p8 ≠ s := (ne_of_none hsb np8).symm
    refine ⟨_, rfl, s, _, _, _, 3, rfl, frc.same _ _ hsb, by decide, by decide, fun d1 x1 z1 Hd1 d10 d11 src1 frd => ?_⟩
    have h8 := frd.at (p := p8) upd_same (by simpa using nps)
    obtain ⟨span, eat, sp0, sp1⟩ : ∃ span : Int, atI [V.int 3, V.int 50, V.int (10 ^ 9 + 1)] d1 = some (.int span) ∧ 0 < span ∧ span ≤ 10 ^ 10 := by
      have h3 : d1 = 0 ∨ d1 = 1 ∨ d1 = 2 := by omega
      rcases h3 with rfl | rfl | rfl
      · exact ⟨3, atI_nat (j := 0) rfl, by decide, by decide⟩
      · exact ⟨50, atI_nat (j := 1) rfl, by decide, by decide⟩
      · exact ⟨10 ^ 9 + 1, atI_nat (j := 2) rfl, by decide, by decide⟩
    refine ⟨p8, _, _, V.int span, rfl, rfl, SqL.of h8, eat, ?_⟩
    -- rows
    refine ⟨_, rfl, _, rfl, _, rfl, s, _, _, _, 16, rfl, src1, by decide, by decide, fun d2 x2 z2 He d20 d21 src2 fre => ?_⟩
    obtain ⟨j, rfl⟩ : ∃ j : Nat, d2 = j := ⟨d2.toNat, by omega⟩
    refine ⟨s, x2, _, z2, span, j, rfl, src2, sp0, sp1, by omega, fun R xs rs Hf nR neR hR srcR frf pr good mk len => ?_⟩
    have frF : Fr [] H Hf := Fr.drop (p := s) ((fra.weak).trans ((frb.weak).trans (((frc.weak).trans (frd.trans (fre.trans frf)))))) (fra.none ns0)
    -- for turn in range(4)
    refine ⟨4, rfl, by decide, by decide, ?_⟩
    refine for_range (lo := 0) (n := 4) (fun i5 σ H' => ∃ s5 s6 s7 s8 s9, σ = [some (V.ref a), some (V.int (0 + (i : Int))), some (V.ref s), some (V.int span), some (V.ref R), s5, s6, s7, s8, s9] ∧ (∃ x z, H' s = some (srcO x (srcOf ns i) z)) ∧ Fr [s] Hf H')
      ⟨_, _, _, _, _, rfl, srcR, Fr.refl _ _⟩ ?_ ?_
    · rintro i5 σ Hg hi5 ⟨s5, s6, s7, s8, s9, rfl, ⟨x4, z4, src4⟩, frg⟩
      have hRg := frg.at hR (by simpa using neR)
      have prg := L2.Paired.mapP pr fun x y c => c.same frg.hd
      refine ⟨_, rfl, _, rfl, _, rfl, s, R, x4, _, z4, span, xs, rs, rfl, src4, neR, hRg, prg, good, len, sp0, sp1, fun l ls H5 nl nls hl src5 fr5 srt lls bls => ?_⟩
      have L : RL rs ls := ⟨good, mk, len, srt, lls, bls⟩
      have hR5 := fr5.at hRg (by simpa using neR)
      have pr5 : Paired (RwAt H5) xs rs := L2.Paired.mapP prg fun x y c => (c.same fr5.hd).same Hd_same
      have frg5 := frg.trans fr5
      obtain ⟨x5, z5, src5⟩ := src5
      -- due, kept
      refine ⟨_, rfl, _, rfl, ?_⟩
      dsimp only [L2.tNil]
      refine L.due hR5 pr5 hl (fun lt H6 fr6 => ?_) (fun lt p6 H6 fr6 dd6 => ?_)
      · have pr6 := L2.Paired.mapP pr5 fun x y c => c.same fr6.same
        refine ⟨_, rfl, ?_⟩
        dsimp only [L2.tNil]
        refine rep_at (L.ddR (fr6.same _ _ hR5) pr6) L.smR ⟨_, rfl, ?_⟩
        dsimp only [L2.tNil]
        refine rep_at (RL.ddL (fr6.same _ _ hl)) L.smL ⟨(by show 2 ≤ sizeLine; decide), fun kp nkp => ⟨_, _, rfl, ?_⟩⟩
        have fr7 := Fr.new (M := []) (o := .lst [.str (dR rs).shown, .str (dL ls).shown]) nkp
        have fr57 := fr6.trans fr7
        have hkp : upd H6 kp (.lst [.str (dR rs).shown, .str (dL ls).shown]) kp = _ := upd_same
        -- try
        refine ⟨_, rfl, _, rfl, ?_⟩
        dsimp only [L2.tNil]
        refine L.with_ (fr57.same _ _ hR5) (L2.Paired.mapP pr5 fun x y c => c.same fr57.same) (fr57.same _ _ hl) (fun _ H8 fr8 => ⟨true, exm, fun _ a0 na0 => ?_, fun z => nomatch z⟩) (fun z => by rw [lt] at z; cases z)
        have fr58 := fr57.trans fr8
        dsimp only [L2.tAsg, L2.tC, L2.gName]
        refine if_reading2 false (fun Qt hq => by exact L.ev_same (R := R) (l := l) (kp := kp) (d := .none) rfl rfl rfl rfl rfl (L.ddR (fr58.same _ _ hR5) (L2.Paired.mapP pr5 fun x y c => c.same fr58.same)) (RL.ddL (fr58.same _ _ hl)) .non .non sml_none (fr8.same _ _ hkp) hq) fun H9 fr9 => ?_
        refine ifF rfl (nxt ?_)
        dsimp only
        have fr59 := fr58.trans fr9
        refine ⟨_, rfl, _, rfl, ?_⟩
        refine ifF rfl ?_
        exact ⟨_, _, _, _, _, rfl, ⟨x5, z5, fr59.same _ _ src5⟩, frg5.trans (Fr.mono (N := [s]) fr59 fun _ h => nomatch h)⟩
      · have pr6 := L2.Paired.mapP pr5 fun x y c => c.same fr6.same
        refine ⟨_, rfl, ?_⟩
        dsimp only [L2.tNil]
        refine rep_at (L.ddR (fr6.same _ _ hR5) pr6) L.smR ⟨_, rfl, ?_⟩
        dsimp only [L2.tNil]
        refine rep_at (RL.ddL (fr6.same _ _ hl)) L.smL ⟨(by show 2 ≤ sizeLine; decide), fun kp nkp => ⟨_, _, rfl, ?_⟩⟩
        have fr7 := Fr.new (M := []) (o := .lst [.str (dR rs).shown, .str (dL ls).shown]) nkp
        have fr57 := fr6.trans fr7
        have hkp : upd H6 kp (.lst [.str (dR rs).shown, .str (dL ls).shown]) kp = _ := upd_same
        -- try
        refine ⟨_, rfl, _, rfl, ?_⟩
        dsimp only [L2.tNil]
        refine L.with_ (fr57.same _ _ hR5) (L2.Paired.mapP pr5 fun x y c => c.same fr57.same) (fr57.same _ _ hl) (fun z => by rw [lt] at z; cases z) (fun _ p9 y9 H8 np9 hp9 ly9 fr8 dd9 => ?_)
        have fr58 := fr57.trans fr8
        dsimp only [L2.tAsg, L2.tC, L2.gName]
        refine if_reading2 false (fun Qt hq => by exact L.ev_same (R := R) (l := l) (kp := kp) (d := dO rs ls) rfl rfl rfl rfl rfl (L.ddR (fr58.same _ _ hR5) (L2.Paired.mapP pr5 fun x y c => c.same fr58.same)) (RL.ddL (fr58.same _ _ hl)) dd9 (dd6.same (fr7.trans fr8).same) L.smO (fr8.same _ _ hkp) hq) fun H9 fr9 => ?_
        refine ifF rfl (nxt ?_)
        dsimp only
        refine ⟨_, rfl, _, rfl, ?_⟩
        refine ifT rfl ?_
        -- found.append(None)
        have hp99 := fr9.same _ _ hp9
        refine ⟨_, rfl, .inl ⟨rfl, _, SqL.of hp99⟩, p9, y9, _, rfl, rfl, hp99, (by rw [sizeLine_eq]; omega), ?_⟩
        have fr10 := Fr.drop ((fr8.trans fr9).weak.trans (Fr.set (o := .lst (y9 ++ [V.non])) (List.mem_singleton.mpr rfl))) np9
        have frS := fr57.trans fr10
        refine ⟨_, rfl, _, rfl, ?_⟩
        dsimp only [L2.tNil]
        refine L.with_ (frS.same _ _ hR5) (L2.Paired.mapP pr5 fun x y c => c.same frS.same) (frS.same _ _ hl) (fun z => by rw [lt] at z; cases z) (fun _ p11 y11 H11 np11 hp11 ly11 fr11 dd11 => ?_)
        refine rep_at dd11 L.smO ⟨_, rfl, ?_⟩
        dsimp only [L2.tNil]
        refine rep_at (dd6.same (fr7.trans (fr10.trans fr11)).same) L.smO ⟨rfl, _, rfl, ?_⟩
        refine ifF (by simp) ?_
        have frZ := frS.trans fr11
        exact ⟨_, _, _, _, _, rfl, ⟨x5, z5, frZ.same _ _ src5⟩, frg5.trans (Fr.mono (N := [s]) frZ fun _ h => nomatch h)⟩
    · rintro σ Hg ⟨s5, s6, s7, s8, s9, rfl, ⟨x4, z4, src4⟩, frg⟩
      have hRg := frg.at hR (by simpa using neR)
      have prg : Paired (RwAt Hg) xs rs := L2.Paired.mapP pr fun x y c => (c.same frg.hd).same Hd_same
      have L : RL rs [] := ⟨good, mk, len, .nil, by decide, fun _ h => nomatch h⟩
      refine ⟨_, rfl, (by show 0 ≤ sizeLine; decide), fun e ne => ?_⟩
      have fre := Fr.new (M := []) (o := .lst []) ne
      dsimp only [L2.tNil]
      refine L.with_ (fre.same _ _ hRg) (L2.Paired.mapP prg fun x y c => c.same fre.same) (upd_same (o := .lst (([] : List Int).map V.int))) (fun z => by rw [late_nil] at z; cases z) (fun _ p11 y11 H11 np11 hp11 ly11 fr11 dd11 => ?_)
      have frX := fre.trans fr11
      refine rep_at dd11 L.smO ⟨_, rfl, ?_⟩
      dsimp only [L2.tNil]
      refine rep_at (L.ddR (frX.same _ _ hRg) (L2.Paired.mapP prg fun x y c => c.same frX.same)) L.smR ⟨rfl, _, rfl, ?_⟩
      refine ifF (by rw [dO_nil]; simp) ?_
      refine ⟨_, rfl, s, x4, _, z4, rfl, frX.same _ _ src4, fun H12 src12 fr12 => ?_⟩
      refine ⟨_, rfl, ?_⟩
      refine ifF rfl ?_
      exact ⟨_, _, _, _, _, _, _, _, _, rfl, Fr.drop (p := s) (frF.weak.trans ((frg.trans (Fr.mono (N := [s]) frX fun _ h => nomatch h)).trans fr12)) (fra.none ns0)⟩
  · rintro σ H' ⟨s1, s2, s3, s4, s5, s6, s7, s8, s9, rfl, fra⟩
    exact q _
end
end Tk

set_option Elab.async false
set_option linter.all false
set_option maxRecDepth 100000
set_option maxHeartbeats 4000000
namespace Tk
open PySem PySem.Spec PyProof.Rows L2

/-! ### what the top has written -/
section
variable {K : PySem.W.Frag} {h : Heap} {mg : Str → Option Value} {w : World}
theorem funAt_mk {x : Str} {st : Stmt} {f : Addr} {oc : Value} {od an : Option Addr} {osl : Array (Option Value)} {kV doc pm cdv ct : Value} (X : K.In h) (G : h.Ns mainGlobals mg)
    (a : PySem.W.nsIn K mainGlobals x = some (some (.ref f))) (l : K.lookup f = some ⟨oc, od, .func (PySem.W.fnOf x x (defArgs st) (defBody st) (defScope st) .none kV doc pm an cdv ct), osl⟩)
    (c : PySem.W.codeIn K cdv x = true) (k : PySem.W.keepIn K (.ref f) = true) : FunAt K mg x st := ⟨_, _, PySem.W.mg_of X G a, fun_mk l c k⟩
theorem defAt_mk {x : Str} {st : Stmt} {f T : Addr} {oc o1 : Value} {od an o2 : Option Addr} {osl o3 : Array (Option Value)} {kV doc pm cdv ct : Value} {its : Array Value} {n : Nat} {dvs : List V} (X : K.In h) (G : h.Ns mainGlobals mg)
    (a : PySem.W.nsIn K mainGlobals x = some (some (.ref f))) (l : K.lookup f = some ⟨oc, od, .func (PySem.W.fnOf x x (defArgs st) (defBody st) (defScope st) (.ref T) kV doc pm an cdv ct), osl⟩)
    (c : PySem.W.codeIn K cdv x = true) (k : PySem.W.keepIn K (.ref f) = true) (lT : K.lookup T = some ⟨o1, o2, .seq its n, o3⟩) (rv : Vals dvs its.toList) (ne : dvs ≠ []) : DefAt K mg x st dvs :=
  ⟨_, _, PySem.W.mg_of X G a, ⟨⟨oc, od, _, kV, doc, pm, an, cdv, ct, osl, rfl, l, c, .inr ⟨ne, T, _, its.toList, n, rfl, lT, by simp, rv⟩, .inl rfl⟩, k⟩⟩
theorem ktab_mk {d : Addr} {tab : List (Str × Int)} {es : Array DictEntry} {n : Nat} (l : K.lookup d = some ⟨.type "dict", none, .dict es n, #[]⟩) (e : EntsAre w.params es.toList tab) (z : (d == sysModules) = false) : KTab K w d tab := ⟨⟨es, n, l, e⟩, z⟩
theorem tabs_mk {a b c : Addr} (X : K.In h) (G : h.Ns mainGlobals mg) (ga : PySem.W.nsIn K mainGlobals "SIZES" = some (some (.ref a))) (gb : PySem.W.nsIn K mainGlobals "MORE_SIZES" = some (some (.ref b))) (gc : PySem.W.nsIn K mainGlobals "LAST_SIZES" = some (some (.ref c)))
    (ta : KTab K w a tabA) (tb : KTab K w b tabB) (tc : KTab K w c tabC) : Tabs K w mg := ⟨a, b, c, PySem.W.mg_of X G ga, PySem.W.mg_of X G gb, PySem.W.mg_of X G gc, ta, tb, tc⟩
theorem excC_mk {x : Str} {C : Addr} (X : K.In h) (G : h.Ns mainGlobals mg) (g : PySem.W.nsIn K mainGlobals x = some (some (.ref C))) (ex : PySem.W.excIn K C [.type "ValueError", .type "Exception", .type "BaseException", .type "object"] "ValueError.__new__" = true)
    (kp : PySem.W.keepIn K (.ref C) = true) (sub : PySem.W.subIn K (.ref C) (.type "BaseException") = some true) (ty : PySem.W.typeIn K (.ref C) = some (.type "type")) : ∃ C, ExcC K mg x C := ⟨C, PySem.W.mg_of X G g, ex, kp, sub, ty⟩
theorem exm_self {S : Addr} (h1 : PySem.W.subIn K (.ref S) (.type "BaseException") = some true) (h2 : PySem.W.isClsIn K S = true) (h3 : PySem.W.typeIn K (.ref S) = some (.type "type")) (h4 : PySem.W.subIn K (.ref S) (.ref S) = some true) :
    PySem.W.exmOne K (.ref S) (.ref S) = some true := by
  have e1 : (PySem.W.subIn K (.ref S) (.type "BaseException") == some true) = true := by rw [h1] <;> rfl
  have e2 : ((PySem.W.clsIn K S).isSome && PySem.W.typeIn K (.ref S) == some (.type "type")) = true := by
    have h2' : (PySem.W.clsIn K S).isSome = true := h2
    rw [h2', h3] <;> rfl
  show (if (PySem.W.subIn K (.ref S) (.type "BaseException") == some true) = true then (if ((PySem.W.clsIn K S).isSome && PySem.W.typeIn K (.ref S) == some (.type "type")) = true then PySem.W.subIn K (.ref S) (.ref S) else none) else none) = some true
  rw [if_pos e1, if_pos e2]
  exact h4
theorem excM_mk {x : Str} {C : Addr} (X : K.In h) (G : h.Ns mainGlobals mg) (g : PySem.W.nsIn K mainGlobals x = some (some (.ref C))) (ex : PySem.W.excIn K C [.type "ValueError", .type "Exception", .type "BaseException", .type "object"] "ValueError.__new__" = true)
    (kp : PySem.W.keepIn K (.ref C) = true) (sub : PySem.W.subIn K (.ref C) (.type "BaseException") = some true) (ty : PySem.W.typeIn K (.ref C) = some (.type "type")) (h2 : PySem.W.isClsIn K C = true) (h4 : PySem.W.subIn K (.ref C) (.ref C) = some true) :
    ∃ C, ExcC K mg x C ∧ PySem.W.exmOne K (.ref C) (.ref C) = some true := ⟨C, ⟨PySem.W.mg_of X G g, ex, kp, sub, ty⟩, exm_self sub h2 ty h4⟩
theorem noGl_mk (X : K.In h) (G : h.Ns mainGlobals mg) (a1 : PySem.W.nsIn K mainGlobals "len" = some none) (a2 : PySem.W.nsIn K mainGlobals "int" = some none) (a3 : PySem.W.nsIn K mainGlobals "range" = some none) (a4 : PySem.W.nsIn K mainGlobals "isinstance" = some none) (a5 : PySem.W.nsIn K mainGlobals "bool" = some none) (a6 : PySem.W.nsIn K mainGlobals "list" = some none) (a7 : PySem.W.nsIn K mainGlobals "tuple" = some none) (a8 : PySem.W.nsIn K mainGlobals "str" = some none) (a9 : PySem.W.nsIn K mainGlobals "all" = some none) (a10 : PySem.W.nsIn K mainGlobals "zip" = some none) (a11 : PySem.W.nsIn K mainGlobals "sorted" = some none)
    (a12 : PySem.W.nsIn K mainGlobals "max" = some none) (a13 : PySem.W.nsIn K mainGlobals "min" = some none) (a14 : PySem.W.nsIn K mainGlobals "repr" = some none) : NoGl mg :=
  ⟨PySem.W.mg_none_of X G a1, PySem.W.mg_none_of X G a2, PySem.W.mg_none_of X G a3, PySem.W.mg_none_of X G a4, PySem.W.mg_none_of X G a5, PySem.W.mg_none_of X G a6, PySem.W.mg_none_of X G a7, PySem.W.mg_none_of X G a8, PySem.W.mg_none_of X G a9,
    PySem.W.mg_none_of X G a10, PySem.W.mg_none_of X G a11, PySem.W.mg_none_of X G a12, PySem.W.mg_none_of X G a13, PySem.W.mg_none_of X G a14⟩
theorem law_fd {P : Program} {fa : Addr} (hfa : mg "law" = some (.ref fa)) (N : NoGl mg) (T : Tabs K w mg) (E1 : ∃ C, ExcC K mg "NoCall" C) (E2 : ∃ C, ExcC K mg "NoLooks" C ∧ PySem.W.exmOne K (.ref C) (.ref C) = some true)
    (D1 : DefAt K mg "is_whole" s_is_whole [.non]) (D2 : DefAt K mg "is_cycles" s_is_cycles [.int 0]) (F1 : FunAt K mg "size_of" s_size_of) (F2 : FunAt K mg "is_row" s_is_row) (F3 : FunAt K mg "check_log" s_check_log) (F4 : FunAt K mg "check_cycles" s_check_cycles)
    (F5 : FunAt K mg "with_looks" s_with_looks) (F6 : FunAt K mg "copied" s_copied) (F7 : FunAt K mg "_law_cell_at" s__law_cell_at) (F8 : FunAt K mg "_law_mixed" s__law_mixed) (F9 : FunAt K mg "_law_source" s__law_source) (F10 : FunAt K mg "_law_next" s__law_next)
    (F11 : FunAt K mg "_law_sizes" s__law_sizes) (F12 : FunAt K mg "_law_rows" s__law_rows) (F13 : FunAt K mg "_law_looks" s__law_looks) (F14 : FunAt K mg "_law_due" s__law_due) (F15 : FunAt K mg "_law_own_right" s__law_own_right) (F16 : FunAt K mg "law" s_law) :
    ∃ fd : FuncData, (∀ (s : Shared) (v : Value), BindsTo s fd ⟨[v], []⟩ [("script", v)]) ∧ ∀ base : Heap, K.In base → base.Ns mainGlobals mg → FnG P w K mg base CX0 7 fa fd ["script"] (spLaw K) := by
  obtain ⟨CC, E1⟩ := E1
  obtain ⟨CL, E2, exm⟩ := E2
  obtain ⟨f, fd, hm, F16⟩ := F16.ex
  cases hfa.symm.trans hm
  refine ⟨fd, fun s v => ?_, fun base _ _ => ?_⟩
  · obtain ⟨oc, od, kV, doc, pm, an, cdv, ct, osl, rfl, _, _⟩ := F16.ex
    exact .of_eq rfl
  · have c1 : Cal P w K mg base CX0 1 "is_whole" ["thing", "least"] [] spWhole := ok_whole D1 N
    have c2 := ok_cycles D2 N c1
    have c3 : Cal P w K mg base CX0 1 "size_of" ["name"] [] spSizeOf := ok_sizeOf F1 T
    have c4 := ok_isRow F2 N c3
    have c5 := ok_checkLog F3 N E1 c4
    have c6 := ok_checkCycles F4 N E1 c5 c2
    have c7 : Cal P w K mg base CX0 1 "copied" ["row"] [] spCopied := ok_copied F6 N
    have c8 := ok_withLooks F5 N E2 c6 c2 c7
    have c9 : Cal P w K mg base CX0 1 "_law_cell_at" ["script", "k"] [] (spCellAt K) := ok_cellAt F7 N
    have c10 : Cal P w K mg base CX0 1 "_law_mixed" ["cell", "k"] [] spMixed := ok_mixed F8 N
    have c11 := ok_source F9 N c9 c10
    have c12 := draw_of (ok_next F10 N c10)
    have c13 : Cal P w K mg base CX0 1 "_law_sizes" [] [] spSizes := ok_sizes F11
    have c14 := ok_rows F12 N c13 c12
    have c15 := ok_looks F13 N c12
    have c16 : Cal P w K mg base CX0 1 "_law_due" ["rows", "looks"] [] spDue := ok_due F14 N
    have c17 := ok_own F15 N c12 c8
    exact ok_law F16 N E2.g exm c11 c12 c14 c15 c16 c8 c17
end
end Tk

set_option Elab.async false
set_option maxRecDepth 100000
open PySem PySem.W PyProof.Rows
set_option maxRecDepth 100000 in
set_option maxHeartbeats 0 in
theorem PySem.Challenge.cw_timekernel_k83_looks_put_into_logs_holds : PySem.Challenge.rw_timekernel_k83_looks_put_into_logs.Holds := by
  w_on; o_law; k_head; (case hw => w_witness2)
  k_fill
  refine Tk.walk_G (l := PySem.Challenge.rw_timekernel_k83_looks_put_into_logs) (k := 7) (CX := fun _ => L2.CX0) (sp := fun w => Tk.spLaw _) rfl rfl ⟨rfl, by decide, by decide⟩ (fun w h Y => PySem.W.kIn_of Y) ?F (fun w H a ns hl _ _ hS => ⟨a, ns, rfl, hS, hl, fun _ => rfl⟩) fun _ _ _ _ _ z => z
  case F =>
    intro w mg fa h KX G hmg
    refine' Tk.law_fd hmg ?xN ?xT ?xE1 ?xE2 ?xD1 ?xD2 ?xF1 ?xF2 ?xF3 ?xF4 ?xF5 ?xF6 ?xF7 ?xF8 ?xF9 ?xF10 ?xF11 ?xF12 ?xF13 ?xF14 ?xF15 ?xF16
    case xN => refine' Tk.noGl_mk KX G ?ya1 ?ya2 ?ya3 ?ya4 ?ya5 ?ya6 ?ya7 ?ya8 ?ya9 ?ya10 ?ya11 ?ya12 ?ya13 ?ya14 <;> k_is
    case xE1 => refine' Tk.excC_mk KX G ?yg ?yex ?ykp ?ysub ?yty; (case yg => k_is); (case yex => k_exc); (case ykp => k_is); (case ysub => k_is); (case yty => k_is)
    case xE2 => refine' Tk.excM_mk KX G ?yg ?yex ?ykp ?ysub ?yty ?yh2 ?yh4; (case yg => k_is); (case yex => k_exc); (case ykp => k_is); (case ysub => k_is); (case yty => k_is); (case yh2 => k_is); (case yh4 => k_is)
    case xT => refine' Tk.tabs_mk KX G ?yga ?ygb ?ygc ?yta ?ytb ?ytc; (case yga => k_is); (case ygb => k_is); (case ygc => k_is); (case yta => (refine' Tk.ktab_mk ?yl ?ye ?yz; (case yl => k_is); (case ye => exact ⟨⟨⟨_, rfl⟩, rfl, _, rfl⟩, ⟨⟨_, rfl⟩, rfl, _, rfl⟩, ⟨⟨_, rfl⟩, rfl, _, rfl⟩, ⟨⟨_, rfl⟩, rfl, _, rfl⟩, ⟨⟨_, rfl⟩, rfl, _, rfl⟩, ⟨⟨_, rfl⟩, rfl, _, rfl⟩, ⟨⟨_, rfl⟩, rfl, _, rfl⟩, ⟨⟨_, rfl⟩, rfl, _, rfl⟩, ⟨⟨_, rfl⟩, rfl, _, rfl⟩, trivial⟩); (case yz => rfl))); (case ytb => (refine' Tk.ktab_mk ?yl ?ye ?yz; (case yl => k_is); (case ye => exact ⟨⟨⟨_, rfl⟩, rfl, _, rfl⟩, ⟨⟨_, rfl⟩, rfl, _, rfl⟩, ⟨⟨_, rfl⟩, rfl, _, rfl⟩, ⟨⟨_, rfl⟩, rfl, _, rfl⟩, ⟨⟨_, rfl⟩, rfl, _, rfl⟩, ⟨⟨_, rfl⟩, rfl, _, rfl⟩, ⟨⟨_, rfl⟩, rfl, _, rfl⟩, ⟨⟨_, rfl⟩, rfl, _, rfl⟩, trivial⟩); (case yz => rfl))); (case ytc => (refine' Tk.ktab_mk ?yl ?ye ?yz; (case yl => k_is); (case ye => exact ⟨⟨⟨_, rfl⟩, rfl, _, rfl⟩, ⟨⟨_, rfl⟩, rfl, _, rfl⟩, ⟨⟨_, rfl⟩, rfl, _, rfl⟩, ⟨⟨_, rfl⟩, rfl, _, rfl⟩, ⟨⟨_, rfl⟩, rfl, _, rfl⟩, ⟨⟨_, rfl⟩, rfl, _, rfl⟩, trivial⟩); (case yz => rfl)))
    case xD1 => refine' Tk.defAt_mk KX G ?ya ?yl ?yc ?yk ?ylT ?yrv ?yne; (case ya => k_is); (case yl => k_is); (case yc => k_is); (case yk => k_is); (case ylT => k_is); (case yrv => exact .cons rfl .nil); (case yne => exact fun z => nomatch z)
    case xD2 => refine' Tk.defAt_mk KX G ?ya ?yl ?yc ?yk ?ylT ?yrv ?yne; (case ya => k_is); (case yl => k_is); (case yc => k_is); (case yk => k_is); (case ylT => k_is); (case yrv => exact .cons ⟨_, rfl⟩ .nil); (case yne => exact fun z => nomatch z)
    case xF1 => refine' Tk.funAt_mk KX G ?ya ?yl ?yc ?yk; (case ya => k_is); (case yl => k_is); (case yc => k_is); (case yk => k_is)
    case xF2 => refine' Tk.funAt_mk KX G ?ya ?yl ?yc ?yk; (case ya => k_is); (case yl => k_is); (case yc => k_is); (case yk => k_is)
    case xF3 => refine' Tk.funAt_mk KX G ?ya ?yl ?yc ?yk; (case ya => k_is); (case yl => k_is); (case yc => k_is); (case yk => k_is)
    case xF4 => refine' Tk.funAt_mk KX G ?ya ?yl ?yc ?yk; (case ya => k_is); (case yl => k_is); (case yc => k_is); (case yk => k_is)
    case xF5 => refine' Tk.funAt_mk KX G ?ya ?yl ?yc ?yk; (case ya => k_is); (case yl => k_is); (case yc => k_is); (case yk => k_is)
    case xF6 => refine' Tk.funAt_mk KX G ?ya ?yl ?yc ?yk; (case ya => k_is); (case yl => k_is); (case yc => k_is); (case yk => k_is)
    case xF7 => refine' Tk.funAt_mk KX G ?ya ?yl ?yc ?yk; (case ya => k_is); (case yl => k_is); (case yc => k_is); (case yk => k_is)
    case xF8 => refine' Tk.funAt_mk KX G ?ya ?yl ?yc ?yk; (case ya => k_is); (case yl => k_is); (case yc => k_is); (case yk => k_is)
    case xF9 => refine' Tk.funAt_mk KX G ?ya ?yl ?yc ?yk; (case ya => k_is); (case yl => k_is); (case yc => k_is); (case yk => k_is)
    case xF10 => refine' Tk.funAt_mk KX G ?ya ?yl ?yc ?yk; (case ya => k_is); (case yl => k_is); (case yc => k_is); (case yk => k_is)
    case xF11 => refine' Tk.funAt_mk KX G ?ya ?yl ?yc ?yk; (case ya => k_is); (case yl => k_is); (case yc => k_is); (case yk => k_is)
    case xF12 => refine' Tk.funAt_mk KX G ?ya ?yl ?yc ?yk; (case ya => k_is); (case yl => k_is); (case yc => k_is); (case yk => k_is)
    case xF13 => refine' Tk.funAt_mk KX G ?ya ?yl ?yc ?yk; (case ya => k_is); (case yl => k_is); (case yc => k_is); (case yk => k_is)
    case xF14 => refine' Tk.funAt_mk KX G ?ya ?yl ?yc ?yk; (case ya => k_is); (case yl => k_is); (case yc => k_is); (case yk => k_is)
    case xF15 => refine' Tk.funAt_mk KX G ?ya ?yl ?yc ?yk; (case ya => k_is); (case yl => k_is); (case yc => k_is); (case yk => k_is)
    case xF16 => refine' Tk.funAt_mk KX G ?ya ?yl ?yc ?yk; (case ya => k_is); (case yl => k_is); (case yc => k_is); (case yk => k_is)
