import PyProof.Rows.All
import Wide.All
import OpenK.AllK
import Wide.FinOn
import HandS.ForMost
import HandS.EndBits
import HandS.Exc
import HandS.ExcOwn
import HandS.WordsExc
import HandS.TryOnly
import PyProof.ReprRoads
import HandS.More
import HandS.IsInst
import HandS.Zip
import PyProof.DictUpdate
import HandS.Defaults
import PyProof.NeKinds
import HandS.Wide
import PyProof.ReprLen
import HandS.Style
import HandS.Lambda
import KE.KDflt
import HandS.ExcIs
import HandS.Codes
import OpenK.KMore
import KE.KNest
import PySem.Challenge.RW_timekernel_k84_logs_refused
set_option Elab.async false
set_option linter.all false
set_option maxRecDepth 100000
set_option maxHeartbeats 4000000
/-! Promises that also know that no repr is running around them. -/
namespace Tk
open PySem PySem.Spec PyProof.Rows L2

/-- no container's repr is under way around -/
abbrev Free (A : Around) : Prop := A.guards = some []

section
variable (P : Program) (w : World) (K : PySem.W.Frag) (mg : Str → Option Value) (base : Heap) (CX : CXT)
structure FnG (k : Nat) (f : Addr) (fd : FuncData) (ps : List Str) (sp : Sp) : Prop where
  len : ∀ vs H Q E, sp vs H Q E → vs.length = ps.length
  run : ∀ (A : Around) (outer : List Env) (s : Shared) (H : Hp) (args : Args) (us : List Value) (vs : List V) (Q : VK) (E : XK),
    Free A → Room k A → Env0 P w K mg base A outer s H → BindsTo s fd args (ps.zip us) → Vals vs us → sp vs H Q E →
    codeAny (model P w) A (.call (.ref f) args) (CR CX outer P w H s Q E) s
end

section
variable {P : Program} {w : World} {K : PySem.W.Frag} {mg : Str → Option Value} {base : Heap} {CX : CXT} {k : Nat} {f : Addr} {fd : FuncData} {ps : List Str} {sp : Sp}
theorem FnG.of (F : FnOk P w K mg base CX k f fd ps sp) : FnG P w K mg base CX k f fd ps sp :=
  ⟨F.len, fun A outer s H args us vs Q E _ => F.run A outer s H args us vs Q E⟩

theorem fnG_mk {name qual : Str} {params : Arguments} {body : List Stmt} {scope : Scope} {dV kV doc pm cdv ct oc : Value} {an od : Option Addr} {osl : Array (Option Value)} {N : List Str}
    (lk : K.lookup f = some ⟨oc, od, .func (PySem.W.fnOf name qual params body scope dV kV doc pm an cdv ct), osl⟩)
    (hcd : PySem.W.codeIn K cdv qual = true) (S : FnScope N ps scope) (len : ∀ vs H Q E, sp vs H Q E → vs.length = ps.length)
    (hb : ∀ (A : Around) (outer : List Env) (s : Shared) (H : Hp) (vs : List V) (Q : VK) (E : XK),
      Free (A.deeper (envOfC qual scope s.heap.objs.size f cdv)) → Room k (A.deeper (envOfC qual scope s.heap.objs.size f cdv)) → sp vs H Q E →
      ∃ t, PSs (cxOf CX P w K mg base N qual scope f cdv A outer s H E) body t ∧ t { nx := fun _ H' => Q .non H', rt := Q } (start N vs) H) :
    FnG P w K mg base CX (k + 1) f (PySem.W.fnOf name qual params body scope dV kV doc pm an cdv ct) ps sp := by
  constructor
  · exact len
  intro A outer s H args us vs Q E hg hr e0 hbd rv hsp
  have hlv := len _ _ _ _ hsp
  have hin : ∀ b o, base.get? b = some o → s.heap.get? b = some o := fun b o e => (e0.bs b o e).1
  have KX : K.In s.heap := e0.mod.kin.keeps hin
  have nl : s.heap.NoLimit := e0.mod.nolimit.keeps hin
  have hkd : ∀ y ∈ ps.zip us, scope.names.lookup y.1 = some .local ∨
      (scope.names.lookup y.1 = some .cell ∧ ((cellsFrom (s.heap.objs.size + 1) scope.names []).lookup y.1).isSome = true) := by
    rintro ⟨n, v⟩ hy
    have hp := S.par n (List.of_mem_zip hy).1
    exact hp.elim .inl fun q => .inr ⟨q, PySem.W.cellsFrom_some _ _ _ (.inl q)⟩
  refine codeAny_call_function hr.depth (KX _ _ lk) rfl S.co S.gen rfl (PySem.W.codeRec_of KX hcd) (hbd _ _ _ _ ?_)
  refine wpAny_newFunctionEnv_cells S.kind hkd ?_
  rintro env rfl s1 x
  refine ⟨nl.keeps x.toInCall.keep, codeAny_func ?_⟩
  obtain ⟨t, ht, hq⟩ := hb A outer s H vs Q E hg (hr.deeper _) hsp
  have J0 := inv_start (CX := CX) (N := N) (E := E) S hr.hd e0 hlv rv x
  refine wpAny_mono (ht.run [] s1 (start N vs) H _ J0 hq) ?_ (fun _ _ z => z)
  intro fl s' hs
  match fl, hs with
  | .ret u, ⟨v, σ', H', J, rv', q⟩ => exact ⟨v, H', J.os, J.bare, J.base, J.hok, rv', q⟩
  | .next, ⟨σ', H', J, q⟩ => exact ⟨V.non, H', J.os, J.bare, J.base, J.hok, rfl, q⟩
  | .brk, ⟨_, _, _, q⟩ => exact q.elim
  | .cont, ⟨_, _, _, q⟩ => exact q.elim

/-- a def of the text, nothing leaves it -/
theorem funG {x qual : Str} {st : Stmt} {N : List Str} (F : Fun K x qual st f fd) (S : FnScope N ps (defScope st)) (len : ∀ vs H Q E, sp vs H Q E → vs.length = ps.length)
    (hb : ∀ (cdv : Value) (A : Around) (outer : List Env) (s : Shared) (H : Hp) (vs : List V) (Q : VK) (E : XK),
      Free (A.deeper (envOfC qual (defScope st) s.heap.objs.size f cdv)) → Room k (A.deeper (envOfC qual (defScope st) s.heap.objs.size f cdv)) → sp vs H Q E →
      ∃ t, PSs (cxOf CX P w K mg base N qual (defScope st) f cdv A outer s H E) (defBody st) t ∧ t { nx := fun _ H' => Q .non H', rt := Q } (start N vs) H) :
    FnG P w K mg base CX (k + 1) f fd ps sp := by
  obtain ⟨oc, od, kV, doc, pm, an, cdv, ct, osl, rfl, lk, hcd⟩ := F.ex
  exact fnG_mk lk hcd S len fun A outer s H vs Q E hg hr hsp => hb cdv A outer s H vs Q E hg hr hsp
end

section
variable {X : Cx} {CX : CXT} {k : Nat} {f : Addr} {fd : FuncData} {ps : List Str} {sp : Sp} {dvs : List V} {ds : List Value} {E : XK} {x : Str} {p pos : Pos} {e : Expr} {es : List Expr} {t : TA}
theorem run_G {pins : List (Addr × Obj)} {σ : L2.St} {H : Hp} {s : Shared} {Q : VK} {us : List Value} {vs : List V}
    (F : FnG X.prog X.w X.K X.mg X.base CX k f fd ps sp) (hg : Free X.A) (hr : Room k X.A) (hb : Binds X.K fd ps ds) (hd : Vals dvs ds) (hx : Passes CX X E)
    (I : Inv X pins σ H s) (r : Vals vs us) (h : sp (vs ++ dvs) H Q E) : wpAny (model X.prog X.w) X.A (call (.ref f) us) (EP X pins σ Q) X.xe s := by
  have rr := r.append hd
  have hl : (us ++ ds).length = ps.length := rr.length ▸ F.len _ _ _ _ h
  refine wpAny_call (codeAny_mono (F.run X.A X.stack s H ⟨us, []⟩ _ _ Q E hg hr I.env0 (hb s us I.kIn hl) rr h) ?_)
  rintro (e | (_ | _ | _ | u)) s' hq
  · exact hx pins σ H s e s' I hq
  all_goals first | exact I.after hq | exact False.elim hq
theorem pe_callG (F : FnG X.prog X.w X.K X.mg X.base CX k f fd ps sp) (hfr : Free X.A) (hr : Room k X.A) (hg : Gl X x) (hm : X.mg x = some (.ref f)) (hk : PySem.W.keepIn X.K (.ref f) = true)
    (hb : Binds X.K fd ps ds) (hd : Vals dvs ds) (hx : Passes CX X E) (ha : PA X (e :: es) t) (hdb : (x == ("__debug__" : Str)) = false := by decide)
    (he : starEach (e :: es) X.env = (false, eval e X.env) :: starEach es X.env := by rfl) (hpl : (backTo pos (starEach es X.env)).any (·.1) = false := by rfl) :
    PE X (.Call (.Name x p) (e :: es) [] pos) (tCall sp dvs E t) := by
  constructor
  intro pins s σ H Q I h
  refine wpAny_Call_Name_kw (ld_glob I hg hm ?_ hdb)
  refine PySem.W.callWith_K (h₀ := X.base) I.ok.mod.kin hk (thn (ha.run pos pins s σ H _ I h) ?_) he hpl
  rintro us s1 ⟨vs, H1, I1, r, q⟩
  exact ⟨I1.kIn, run_G F hfr hr hb hd hx I1 r q⟩
end
end Tk

set_option Elab.async false
set_option linter.all false
set_option maxRecDepth 100000
set_option maxHeartbeats 4000000
namespace Tk
open PySem PySem.Spec PyProof.Rows L2

/-! ### data -/
section
variable {K : PySem.W.Frag} {H H' : Hp}
mutual
theorem Dp.noDict : ∀ {v : V} {d : PyData}, Dp K H v d → d.hasDict = false
  | _, _, .non => by simp only [PyData.hasDict]
  | _, _, .bl b => by simp only [PyData.hasDict]
  | _, _, .int i => by simp only [PyData.hasDict]
  | _, _, .str x => by simp only [PyData.hasDict]
  | _, _, .lst _ h => by simp only [PyData.hasDict]; exact DpAll.noDict h
  | _, _, .tup _ h => by simp only [PyData.hasDict]; exact DpAll.noDict h
theorem DpAll.noDict : ∀ {vs : List V} {ds : List PyData}, DpAll K H vs ds → PyData.hasDictAll ds = false
  | _, _, .nil => by simp only [PyData.hasDictAll]
  | _, _, .cons a b => by simp only [PyData.hasDictAll, Dp.noDict a, DpAll.noDict b, Bool.or_self]
end
theorem Same.sq {a : Addr} {xs : List V} (e : Same H H') (h : SqT K H a xs) : SqT K H' a xs := by
  rcases h with (h | ⟨o, h⟩) | h
  · exact .inl (.inl (e _ _ h))
  · exact .inl (.inr ⟨o, e _ _ h⟩)
  · exact .inr h
mutual
theorem Dp.same (e : Same H H') : ∀ {v : V} {d : PyData}, Dp K H v d → Dp K H' v d
  | _, _, .non => .non
  | _, _, .bl b => .bl b
  | _, _, .int i => .int i
  | _, _, .str x => .str x
  | _, _, .lst s h => .lst (e.seq s) (DpAll.same e h)
  | _, _, .tup s h => .tup (Same.sq e s) (DpAll.same e h)
theorem DpAll.same (e : Same H H') : ∀ {vs : List V} {ds : List PyData}, DpAll K H vs ds → DpAll K H' vs ds
  | _, _, .nil => .nil
  | _, _, .cons a b => .cons (Dp.same e a) (DpAll.same e b)
end
end

/-! ### repr -/
def rRepr (K : PySem.W.Frag) : List V → Hp → VK → Prop := fun xs H Q =>
  ∃ v d, xs = [v] ∧ Dp K H v d ∧ d.showable = true ∧ d.depth ≤ 60 ∧ d.shown.length ≤ sizeLine ∧ Q (.str d.shown) H
section
variable {X : Cx}
theorem call_repr (hf : Free X.A) (hu : X.A.units + 64 < cLine) : CallR X (.builtin "repr") (rRepr X.K) := by
  rintro pins s σ H xs us Q I r ⟨v, d, rfl, hd, hs, hdp, hz, q⟩
  obtain ⟨u, rfl, rv⟩ := Vals.one r
  obtain ⟨as, rd⟩ := Dp.reads I d v u hd rv
  cases rd with
  | none => exact P.repr_of_none ⟨.str _, H, I.tok _, ⟨_, rfl⟩, q⟩
  | bool b => exact P.repr_of_bool ⟨.str _, H, I.tok _, ⟨_, rfl⟩, q⟩
  | int i t => exact P.repr_of_int (by simpa [PyData.showable] using hs) ⟨.str _, H, I.tok _, ⟨_, rfl⟩, q⟩
  | str x t => exact P.repr_of_str ⟨.str _, H, I.tok _, ⟨_, rfl⟩, q⟩ (by simpa only [PyData.shown] using hz)
  | list h1 h2 h3 h4 =>
    exact repr_of_reads' (h₀ := s.heap) (.list h1 h2 h3 h4) hs (PyData.noDict_hsm (Dp.noDict hd)) hf (by omega) (fun _ _ z => z) (fun h' u tk k => ⟨.str _, H, I.kept k, ⟨_, rfl⟩, q⟩) hz
  | tuple h1 h2 h3 h4 =>
    exact repr_of_reads' (h₀ := s.heap) (.tuple h1 h2 h3 h4) hs (PyData.noDict_hsm (Dp.noDict hd)) hf (by omega) (fun _ _ z => z) (fun h' u tk k => ⟨.str _, H, I.kept k, ⟨_, rfl⟩, q⟩) hz
  | dict => cases hd

/-! ### d.update(e), both dicts of int and text keys -/
def rUpdate : V → List V → Hp → VK → Prop := fun x vs H Q => ∃ (d o : Addr) (kvs more : List (Key × V)), x = .ref d ∧ vs = [.ref o] ∧ d ≠ o ∧ H d = some (.dK kvs) ∧ H o = some (.dK more) ∧
  kvs.length + more.length ≤ sizeLine ∧ Q .non (upd H d (.dK (mergeK kvs more)))
theorem mt_update : MtR X "dict.update" rUpdate := by
  rintro pins s σ H x xs v us Q I rx r ⟨d, o, kvs, more, rfl, rfl, ne, hd, ho, hz, q⟩
  obtain rfl : v = Value.ref d := rx
  obtain ⟨u, rfl, ru⟩ := Vals.one r
  obtain rfl : u = Value.ref o := ru
  obtain ⟨z1, l1, vs1, r1, d1⟩ := dk_of I.hok hd
  obtain ⟨z2, l2, vs2, r2, d2⟩ := dk_of I.hok ho
  have e1 : kvs.length = vs1.length := Paired.length r1
  have e2 : more.length = vs2.length := Paired.length r2
  refine call_meetsIn PySem.F.slot_dict_update d1.typeIs PySem.F.entry_dict_update (PySem.F.args_dict_update_2 _ _) (meets_dict_update (mixKind X.prog X.w) d o ne l2)
    ⟨vs1, vs2, d1, d2, by omega, fun h' m1 _ sb => ?_⟩
  have hlen := length_mergeK more kvs
  have he : ∃ q, h'.get? d = some q := let ⟨q, _, _, hq, _⟩ := m1; ⟨q, hq⟩
  exact ⟨.non, _, d_write I (by rw [hd]; exact True.intro) sb he (dk_new (by omega) l1 (r2.merge r1) m1), rfl, q⟩
end
end Tk

set_option Elab.async false
set_option linter.all false
set_option maxRecDepth 100000
set_option maxHeartbeats 4000000
namespace Tk
open PySem PySem.Spec PyProof.Rows L2

/-! ### frames: what may have changed, and what not -/
def Hd (M : List Addr) (H : Hp) : Hp := fun b => if b ∈ M then none else H b
theorem Hd_of {M : List Addr} {H : Hp} {b : Addr} (n : b ∉ M) : Hd M H b = H b := if_neg n
theorem of_Hd {M : List Addr} {H : Hp} {b : Addr} {o : HO} (h : Hd M H b = some o) : b ∉ M ∧ H b = some o := by
  unfold Hd at h
  split at h
  · cases h
  · rename_i n; exact ⟨n, h⟩
structure Fr (M : List Addr) (H H' : Hp) : Prop where
  keep : ∀ b o, b ∉ M → H b = some o → H' b = some o
  live : ∀ b, H' b = none → H b = none
section
variable {M N : List Addr} {H H1 H2 : Hp} {a p : Addr} {o : HO} {K : PySem.W.Frag}
theorem Fr.refl (M : List Addr) (H : Hp) : Fr M H H := ⟨fun _ _ _ h => h, fun _ h => h⟩
theorem Fr.trans (x : Fr M H H1) (y : Fr M H1 H2) : Fr M H H2 := ⟨fun b o n h => y.keep b o n (x.keep b o n h), fun b h => x.live b (y.live b h)⟩
theorem Fr.mono (x : Fr M H H1) (s : ∀ b, b ∈ M → b ∈ N) : Fr N H H1 := ⟨fun b o n h => x.keep b o (fun z => n (s b z)) h, x.live⟩
theorem Fr.new (n : H p = none) : Fr M H (upd H p o) := by
  refine ⟨fun b u _ h => ?_, fun b h => ?_⟩
  · rw [upd_ne (ne_of_none h n)]; exact h
  · by_cases e : b = p
    · subst e; exact n
    · rw [upd_ne e] at h; exact h
theorem Fr.set (m : a ∈ M) : Fr M H (upd H a o) := by
  refine ⟨fun b u n h => ?_, fun b h => ?_⟩
  · have ne : b ≠ a := fun z => n (by rw [z]; exact m)
    rw [upd_ne ne]; exact h
  · by_cases e : b = a
    · subst e; rw [upd_same] at h; cases h
    · rw [upd_ne e] at h; exact h
/-- what was not there before need not be named -/
theorem Fr.drop (x : Fr (p :: M) H H1) (n : H p = none) : Fr M H H1 := by
  refine ⟨fun b u m h => x.keep b u ?_ h, x.live⟩
  intro z
  rcases List.mem_cons.mp z with e | e
  · exact ne_of_none h n e
  · exact m e
theorem Fr.weak (x : Fr M H H1) : Fr (p :: M) H H1 := x.mono fun _ h => List.mem_cons_of_mem _ h
theorem Fr.same (x : Fr [] H H1) : Same H H1 := fun b o h => x.keep b o List.not_mem_nil h
theorem Fr.of (x : Same H H1) (l : ∀ b, H1 b = none → H b = none) : Fr M H H1 := ⟨fun b o _ h => x b o h, l⟩
theorem Fr.hd (x : Fr M H H1) : Same (Hd M H) (Hd M H1) := fun b o h => by
  obtain ⟨n, h⟩ := of_Hd h
  rw [Hd_of n]; exact x.keep b o n h
theorem Fr.hdIn (x : Fr M H H1) (s : ∀ b, b ∈ M → b ∈ N) : Same (Hd N H) (Hd N H1) := (x.mono s).hd
theorem Hd_same : Same (Hd M H) H := fun _ _ h => (of_Hd h).2
theorem Hd_mono (s : ∀ b, b ∈ M → b ∈ N) : Same (Hd N H) (Hd M H) := fun b o h => by
  obtain ⟨n, h⟩ := of_Hd h
  rw [Hd_of fun z => n (s b z)]; exact h
theorem Fr.none (x : Fr M H H1) (n : H1 p = none) : H p = none := x.live p n
theorem Fr.at (x : Fr M H H1) (h : H p = some o) (n : p ∉ M) : H1 p = some o := x.keep p o n h
end

theorem negT {A B : Prop} (b : B) : if (!true) = true then A else B := by rw [if_neg (show ¬ ((!true) = true) by decide)]; exact b
theorem negF {A B : Prop} (a : A) : if (!false) = true then A else B := by rw [if_pos (show (!false) = true by decide)]; exact a
theorem nxt {D : Ends} {σ : L2.St} {H : Hp} (h : D.nx σ H) : tNext D σ H := h
theorem ifT {c : Bool} {A B : Prop} (h : c = true) (a : A) : if c = true then A else B := by rw [if_pos h]; exact a
theorem ifF {c : Bool} {A B : Prop} (h : c = false) (b : B) : if c = true then A else B := by rw [h, if_neg Bool.false_ne_true]; exact b
/-! ### defs of the text -/
structure FunAt (K : PySem.W.Frag) (mg : Str → Option Value) (x : Str) (st : Stmt) : Prop where
  ex : ∃ f fd, mg x = some (.ref f) ∧ Fun K x x st f fd
structure DefAt (K : PySem.W.Frag) (mg : Str → Option Value) (x : Str) (st : Stmt) (dvs : List V) : Prop where
  ex : ∃ f fd, mg x = some (.ref f) ∧ FunD K x x (defArgs st) (defBody st) (defScope st) dvs [] f fd
/-- the def's object is written -/
def LkF (K : PySem.W.Frag) (f : Addr) (fd : FuncData) : Prop := ∃ (oc : Value) (od : Option Addr) (osl : Array (Option Value)), K.lookup f = some ⟨oc, od, .func fd, osl⟩
theorem lkF_fun {K : PySem.W.Frag} {x qual : Str} {st : Stmt} {f : Addr} {fd : FuncData} (F : Fun K x qual st f fd) : LkF K f fd := by
  obtain ⟨oc, od, kV, doc, pm, an, cdv, ct, osl, rfl, lk, hcd⟩ := F.ex
  exact ⟨_, _, _, lk⟩
theorem lkF_funD {K : PySem.W.Frag} {x qual : Str} {params : Arguments} {body : List Stmt} {scope : Scope} {dvs : List V} {kws : List (Str × V)} {f : Addr} {fd : FuncData} (F : FunD K x qual params body scope dvs kws f fd) : LkF K f fd := by
  obtain ⟨oc, od, dV, kV, doc, pm, an, cdv, ct, osl, rfl, lk, _⟩ := F.ex
  exact ⟨_, _, _, lk⟩
structure Cal (P : Program) (w : World) (K : PySem.W.Frag) (mg : Str → Option Value) (base : Heap) (CX : CXT) (k : Nat) (x : Str) (ps : List Str) (dvs : List V) (sp : Sp) : Prop where
  ex : ∃ f fd ds, mg x = some (.ref f) ∧ PySem.W.keepIn K (.ref f) = true ∧ FnOk P w K mg base CX k f fd ps sp ∧ Binds K fd ps ds ∧ Vals dvs ds ∧ LkF K f fd
structure CalG (P : Program) (w : World) (K : PySem.W.Frag) (mg : Str → Option Value) (base : Heap) (CX : CXT) (k : Nat) (x : Str) (ps : List Str) (dvs : List V) (sp : Sp) : Prop where
  ex : ∃ f fd ds, mg x = some (.ref f) ∧ PySem.W.keepIn K (.ref f) = true ∧ FnG P w K mg base CX k f fd ps sp ∧ Binds K fd ps ds ∧ Vals dvs ds
section
variable {P : Program} {w : World} {K : PySem.W.Frag} {mg : Str → Option Value} {base : Heap} {CX : CXT} {k j : Nat} {x : Str} {ps N : List Str} {dvs : List V} {sp sp' : Sp} {st : Stmt}
theorem Cal.mono (c : Cal P w K mg base CX j x ps dvs sp) (h : j ≤ k) : Cal P w K mg base CX k x ps dvs sp := by
  obtain ⟨f, fd, ds, a, b, F, d, e⟩ := c.ex
  exact ⟨f, fd, ds, a, b, F.mono h, d, e⟩
theorem Cal.imp (c : Cal P w K mg base CX k x ps dvs sp) (h : ∀ vs H Q E, sp' vs H Q E → sp vs H Q E) : Cal P w K mg base CX k x ps dvs sp' := by
  obtain ⟨f, fd, ds, a, b, F, d, e⟩ := c.ex
  exact ⟨f, fd, ds, a, b, F.imp h, d, e⟩
theorem Cal.mk' (F : FunAt K mg x st)
    (hb : ∀ (kV doc pm : Value) (an : Option Addr) (cdv ct : Value) (us : List Value), us.length = ps.length → bindArgs (PySem.W.fnOf x x (defArgs st) (defBody st) (defScope st) .none kV doc pm an cdv ct) ⟨us, []⟩ = pure (ps.zip us))
    (ok : ∀ f fd, mg x = some (.ref f) → Fun K x x st f fd → FnOk P w K mg base CX k f fd ps sp) : Cal P w K mg base CX k x ps [] sp := by
  obtain ⟨f, fd, hm, F⟩ := F.ex
  exact ⟨f, fd, [], hm, F.kp, ok f fd hm F, F.binds hb, .nil, lkF_fun F⟩
/-- a def that lets nothing out -/
theorem Cal.mk0 (F : FunAt K mg x st) (S : FnScope N ps (defScope st)) (len : ∀ vs H Q E, sp vs H Q E → vs.length = ps.length)
    (hb : ∀ (kV doc pm : Value) (an : Option Addr) (cdv ct : Value) (us : List Value), us.length = ps.length → bindArgs (PySem.W.fnOf x x (defArgs st) (defBody st) (defScope st) .none kV doc pm an cdv ct) ⟨us, []⟩ = pure (ps.zip us))
    (body : ∀ (f : Addr) (cdv : Value) (A : Around) (outer : List Env) (s : Shared) (H : Hp) (vs : List V) (Q : VK) (E : XK), Room k (A.deeper (envOfC x (defScope st) s.heap.objs.size f cdv)) → sp vs H Q E →
      ∃ t, PSs (cxOf CX0 P w K mg base N x (defScope st) f cdv A outer s H E).nox (defBody st) t ∧ t { nx := fun _ H' => Q .non H', rt := Q } (start N vs) H) : Cal P w K mg base CX0 (k + 1) x ps [] sp :=
  Cal.mk' F hb fun f fd _ F => F.ok S len (body f)
/-- one that may raise -/
theorem Cal.mkX (F : FunAt K mg x st) (S : FnScope N ps (defScope st)) (len : ∀ vs H Q E, sp vs H Q E → vs.length = ps.length)
    (hb : ∀ (kV doc pm : Value) (an : Option Addr) (cdv ct : Value) (us : List Value), us.length = ps.length → bindArgs (PySem.W.fnOf x x (defArgs st) (defBody st) (defScope st) .none kV doc pm an cdv ct) ⟨us, []⟩ = pure (ps.zip us))
    (body : ∀ (f : Addr) (cdv : Value) (A : Around) (outer : List Env) (s : Shared) (H : Hp) (vs : List V) (Q : VK) (E : XK), Room k (A.deeper (envOfC x (defScope st) s.heap.objs.size f cdv)) → sp vs H Q E →
      ∃ t, PSs (cxOf (L2.CX P w) P w K mg base N x (defScope st) f cdv A outer s H E) (defBody st) t ∧ t { nx := fun _ H' => Q .non H', rt := Q } (start N vs) H) : Cal P w K mg base (L2.CX P w) (k + 1) x ps [] sp :=
  Cal.mk' F hb fun f fd _ F => F.okX S len (body f)
/-- one that lets nothing out, where no repr is around -/
theorem CalG.mk0 (F : FunAt K mg x st) (S : FnScope N ps (defScope st)) (len : ∀ vs H Q E, sp vs H Q E → vs.length = ps.length)
    (hb : ∀ (kV doc pm : Value) (an : Option Addr) (cdv ct : Value) (us : List Value), us.length = ps.length → bindArgs (PySem.W.fnOf x x (defArgs st) (defBody st) (defScope st) .none kV doc pm an cdv ct) ⟨us, []⟩ = pure (ps.zip us))
    (body : ∀ (f : Addr) (cdv : Value) (A : Around) (outer : List Env) (s : Shared) (H : Hp) (vs : List V) (Q : VK) (E : XK), Free (A.deeper (envOfC x (defScope st) s.heap.objs.size f cdv)) → Room k (A.deeper (envOfC x (defScope st) s.heap.objs.size f cdv)) → sp vs H Q E →
      ∃ t, PSs (cxOf CX0 P w K mg base N x (defScope st) f cdv A outer s H E).nox (defBody st) t ∧ t { nx := fun _ H' => Q .non H', rt := Q } (start N vs) H) : CalG P w K mg base CX0 (k + 1) x ps [] sp := by
  obtain ⟨f, fd, hm, F⟩ := F.ex
  refine ⟨f, fd, [], hm, F.kp, funG F S len fun cdv A outer s H vs Q E hg hr h => ?_, F.binds hb, .nil⟩
  obtain ⟨t, ht, q⟩ := body f cdv A outer s H vs Q E hg hr h
  exact ⟨t, ht.nox, q⟩
end
section
variable {X : Cx} {CX : CXT} {k : Nat} {ps : List Str} {sp : Sp} {dvs : List V} {E : XK} {x : Str} {p pos : Pos} {e : Expr} {es : List Expr} {t : TA}
/-- f(e, ..), f a def of the text -/
theorem pe_c (C : Cal X.prog X.w X.K X.mg X.base CX k x ps dvs sp) (hr : Room k X.A) (hg : Gl X x) (hx : Passes CX X E) (ha : PA X (e :: es) t) (hdb : (x == ("__debug__" : Str)) = false := by decide)
    (he : starEach (e :: es) X.env = (false, eval e X.env) :: starEach es X.env := by rfl) (hpl : (backTo pos (starEach es X.env)).any (·.1) = false := by rfl) :
    PE X (.Call (.Name x p) (e :: es) [] pos) (tCall sp dvs E t) := by
  obtain ⟨f, fd, ds, hm, hk, F, hb, hd, _⟩ := C.ex
  exact pe_call F hr hg hm hk hb hd hx ha hdb he hpl
theorem pe_c0 (C : Cal X.prog X.w X.K X.mg X.base CX k x ps dvs sp) (hr : Room k X.A) (hg : Gl X x) (hx : Passes CX X E) (hdb : (x == ("__debug__" : Str)) = false := by decide) :
    PE X (.Call (.Name x p) [] [] pos) (tCall sp dvs E tNil) := by
  obtain ⟨f, fd, ds, hm, hk, F, hb, hd, _⟩ := C.ex
  exact pe_call0 F hr hg hm hk hb hd hx hdb
theorem pe_cG (C : CalG X.prog X.w X.K X.mg X.base CX k x ps dvs sp) (hf : Free X.A) (hr : Room k X.A) (hg : Gl X x) (hx : Passes CX X E) (ha : PA X (e :: es) t) (hdb : (x == ("__debug__" : Str)) = false := by decide)
    (he : starEach (e :: es) X.env = (false, eval e X.env) :: starEach es X.env := by rfl) (hpl : (backTo pos (starEach es X.env)).any (·.1) = false := by rfl) :
    PE X (.Call (.Name x p) (e :: es) [] pos) (tCall sp dvs E t) := by
  obtain ⟨f, fd, ds, hm, hk, F, hb, hd⟩ := C.ex
  exact pe_callG F hf hr hg hm hk hb hd hx ha hdb he hpl
end
/-- the built-in names are not taken by the module -/
structure NoGl (mg : Str → Option Value) : Prop where
  len : mg "len" = none
  int : mg "int" = none
  range : mg "range" = none
  isinstance : mg "isinstance" = none
  bool : mg "bool" = none
  list : mg "list" = none
  tuple : mg "tuple" = none
  str : mg "str" = none
  all : mg "all" = none
  zip : mg "zip" = none
  sorted : mg "sorted" = none
  max : mg "max" = none
  min : mg "min" = none
  repr : mg "repr" = none
end Tk

set_option Elab.async false
set_option linter.all false
set_option maxRecDepth 100000
set_option maxHeartbeats 4000000
namespace Tk
open PySem PySem.Spec PyProof.Rows L2

/-! ### comprehensions whose parts only make new objects -/
/-- ys are made of the xs that are taken -/
inductive Made (p : V → Bool) (R : V → V → Hp → Prop) (H : Hp) : List V → List V → Prop where
  | nil : Made p R H [] []
  | take {x y : V} {xs ys : List V} : p x = true → R x y H → Made p R H xs ys → Made p R H (x :: xs) (y :: ys)
  | skip {x : V} {xs ys : List V} : p x = false → Made p R H xs ys → Made p R H (x :: xs) ys
section
variable {p : V → Bool} {R : V → V → Hp → Prop} {H H' : Hp}
theorem Made.same (mono : ∀ x y H H', Same H H' → R x y H → R x y H') (e : Same H H') : ∀ {xs ys : List V}, Made p R H xs ys → Made p R H' xs ys
  | _, _, .nil => .nil
  | _, _, .take a b c => .take a (mono _ _ _ _ e b) (Made.same mono e c)
  | _, _, .skip a c => .skip a (Made.same mono e c)
theorem Made.snoc {x y : V} (hp : p x = true) (r : R x y H) : ∀ {xs ys : List V}, Made p R H xs ys → Made p R H (xs ++ [x]) (ys ++ [y])
  | _, _, .nil => .take hp r .nil
  | _, _, .take a b c => .take a b (Made.snoc hp r c)
  | _, _, .skip a c => .skip a (Made.snoc hp r c)
theorem Made.out {x : V} (hp : p x = false) : ∀ {xs ys : List V}, Made p R H xs ys → Made p R H (xs ++ [x]) ys
  | _, _, .nil => .skip hp .nil
  | _, _, .take a b c => .take a b (Made.out hp c)
  | _, _, .skip a c => .skip a (Made.out hp c)
theorem Made.len : ∀ {xs ys : List V}, Made p R H xs ys → ys.length ≤ xs.length
  | _, _, .nil => Nat.le_refl _
  | _, _, .take a b c => Nat.succ_le_succ (Made.len c)
  | _, _, .skip a c => Nat.le_succ_of_le (Made.len c)
/-- R tells the value: the list is a filter and a map -/
theorem Made.pure {f : V → V} (h : ∀ x y H, R x y H → y = f x) : ∀ {xs ys : List V}, Made p R H xs ys → ys = (xs.filter p).map f
  | _, _, .nil => rfl
  | _, _, .take a b c => by rw [List.filter_cons_of_pos a, List.map_cons, ← Made.pure h c, ← h _ _ _ b]
  | _, _, .skip a c => by rw [List.filter_cons_of_neg (by rw [a]; exact Bool.false_ne_true), ← Made.pure h c]
end
theorem take_snoc {xs : List V} {i : Nat} {x : V} (h : xs[i]? = some x) : xs.take (i + 1) = xs.take i ++ [x] := by
  rw [List.take_add_one, h]; rfl

/-- one turn of a comprehension -/
abbrev LcTurn (g : TG) (tt : TT) (te : TE) (vs : List Nat) (σ : L2.St) (D : Addr) (H : Hp) (x : V) (Nx : Hp → Prop) : Prop :=
  g x (wipe σ vs) H fun σ2 H2 => wipe σ2 vs = wipe σ vs ∧ tt σ2 H2 fun b H3 =>
    if b = true then te σ2 H3 fun y H4 => ∃ acc, H4 D = some (.lst acc) ∧ acc.length < sizeLine ∧ Nx (upd H4 D (.lst (acc ++ [y]))) else Nx H3
section
variable {K : PySem.W.Frag} {a : Addr} {xs : List V} {tt : TT} {te : TE} {vs : List Nat} {σ : L2.St} {H1 : Hp} {D : Addr} {j : Nat} {Qd : Hp → Prop}
  (p : V → Bool) (R : V → V → Hp → Prop) (mono : ∀ x y H H', Same H H' → R x y H → R x y H')
  (nD : H1 D = none) (hl : xs.length < sizeLine) (hw : ∀ x, wipe ((wipe σ vs).set j (some x)) vs = wipe σ vs)
  (ht : ∀ x H Q', x ∈ xs → Fr [] H1 H → (∃ acc, H D = some (.lst acc)) → (∀ H', Fr [] H H' → Q' (p x) H') → tt ((wipe σ vs).set j (some x)) H Q')
  (he : ∀ x H Q', x ∈ xs → p x = true → Fr [] H1 H → (∃ acc, H D = some (.lst acc)) → (∀ y H', Fr [] H H' → R x y (Hd [D] H') → Q' y H') → te ((wipe σ vs).set j (some x)) H Q')
  (hd : ∀ H ys, H D = some (.lst ys) → Fr [] H1 H → Made p R (Hd [D] H) xs ys → Qd H)
def LcInv (p : V → Bool) (R : V → V → Hp → Prop) (xs : List V) (H1 : Hp) (D : Addr) (i : Nat) (H : Hp) : Prop := ∃ ys, H D = some (.lst ys) ∧ Fr [] H1 H ∧ Made p R (Hd [D] H) (xs.take i) ys
include nD in
theorem lcInv_0 : LcInv p R xs H1 D 0 (upd H1 D (.lst [])) := ⟨[], upd_same, Fr.new nD, by rw [List.take_zero]; exact .nil⟩
include mono nD hl hw ht he in
theorem lcInv_s {i : Nat} {x : V} {H : Hp} (hx : xs[i]? = some x) (I : LcInv p R xs H1 D i H) : LcTurn (gName j) tt te vs σ D H x (LcInv p R xs H1 D (i + 1)) := by
  obtain ⟨ys, hD, fr, md⟩ := I
  have hm : x ∈ xs := List.mem_of_getElem? hx
  refine ⟨hw x, ht x H _ hm fr ⟨_, hD⟩ fun H2 fr2 => ?_⟩
  have hD2 : H2 D = some (.lst ys) := fr2.same _ _ hD
  have md2 := Made.same mono (fr2.hdIn (N := [D]) (fun _ z => nomatch z)) md
  by_cases hp : p x = true
  · rw [if_pos hp]
    refine he x H2 _ hm hp (fr.trans fr2) ⟨_, hD2⟩ fun y H4 fr4 r => ?_
    have hD4 : H4 D = some (.lst ys) := fr4.same _ _ hD2
    have hz : ys.length < sizeLine := by
      have h1 := md.len
      have h2 : (xs.take i).length ≤ xs.length := by rw [List.length_take]; omega
      omega
    have fr5 : Fr [D] H4 (upd H4 D (.lst (ys ++ [y]))) := Fr.set (List.mem_singleton.mpr rfl)
    refine ⟨ys, hD4, hz, ys ++ [y], upd_same, Fr.drop (((fr.trans (fr2.trans fr4)).weak).trans fr5) nD, ?_⟩
    rw [take_snoc hx]
    exact Made.snoc hp (mono _ _ _ _ fr5.hd r) (Made.same mono (((fr4.hdIn (N := [D]) (fun _ z => nomatch z))).trans fr5.hd) md2)
  · have hp' : p x = false := by simpa using hp
    rw [if_neg hp]
    refine ⟨ys, hD2, fr.trans fr2, ?_⟩
    rw [take_snoc hx]
    exact Made.out hp' md2
include mono nD hl hw ht he hd in
theorem lc_listR (h1 : SqL K H1 a xs) : ∃ W : Nat → Nat → Hp → Prop, (∃ m, W 0 m (upd H1 D (.lst []))) ∧ ∀ i m H, W i m H →
      ((Itl K a).stop i H ∧ Qd H) ∨ ((Itl K a).go i H ∧ ∃ Nx : Hp → Prop, (∀ H', Nx H' → ∃ m', m' < m ∧ W (i + 1) m' H') ∧ ∀ x H', (Itl K a).yld i H x H' → LcTurn (gName j) tt te vs σ D H' x Nx) := by
  refine lc_list (K := K) (a := a) (xs := xs) (LcInv p R xs H1 D) (lcInv_0 p R nD) (fun i H hi I => ?_) (fun i x H hx I => lcInv_s p R mono nD hl hw ht he hx I) (fun H I => ?_)
  · obtain ⟨_, _, fr, _⟩ := I
    exact fr.same.seq h1
  · obtain ⟨ys, hD, fr, md⟩ := I
    rw [List.take_length] at md
    exact hd H ys hD fr md
include mono nD hl hw ht he hd in
theorem lc_tupR (h1 : SqT K H1 a xs) : ∃ W : Nat → Nat → Hp → Prop, (∃ m, W 0 m (upd H1 D (.lst []))) ∧ ∀ i m H, W i m H →
      ((Itt K a).stop i H ∧ Qd H) ∨ ((Itt K a).go i H ∧ ∃ Nx : Hp → Prop, (∀ H', Nx H' → ∃ m', m' < m ∧ W (i + 1) m' H') ∧ ∀ x H', (Itt K a).yld i H x H' → LcTurn (gName j) tt te vs σ D H' x Nx) := by
  refine lc_tup (K := K) (a := a) (xs := xs) (LcInv p R xs H1 D) (lcInv_0 p R nD) (fun i H hi I => ?_) (fun i x H hx I => lcInv_s p R mono nD hl hw ht he hx I) (fun H I => ?_)
  · obtain ⟨_, _, fr, _⟩ := I
    exact Same.sq fr.same h1
  · obtain ⟨ys, hD, fr, md⟩ := I
    rw [List.take_length] at md
    exact hd H ys hD fr md
end

/-! ### zip of two lists in a comprehension, a pure element -/
section
variable {K : PySem.W.Frag} {a b : Addr} {xs ys : List V} {te : TE} {vs : List Nat} {σ : L2.St} {H1 : Hp} {D : Addr} {i1 i2 : Nat} {Qd : Hp → Prop}
theorem zip_get {α β : Type} {xs : List α} {ys : List β} {i : Nat} {x : α} {y : β} (hx : xs[i]? = some x) (hy : ys[i]? = some y) : (xs.zip ys)[i]? = some (x, y) := by
  rw [List.getElem?_zip_eq_some]; exact ⟨hx, hy⟩
theorem zip_take_snoc {α β : Type} {xs : List α} {ys : List β} {i : Nat} {x : α} {y : β} (hx : xs[i]? = some x) (hy : ys[i]? = some y) : (xs.zip ys).take (i + 1) = (xs.zip ys).take i ++ [(x, y)] := by
  rw [List.take_add_one, zip_get hx hy]; rfl
theorem lc_zipP (f : V → V → V) (nD : H1 D = none) (hl : xs.length < sizeLine) (sx : SqL K H1 a xs) (sy : SqL K H1 b ys)
    (hw : ∀ x y, wipe (((wipe σ vs).set i1 (some x)).set i2 (some y)) vs = wipe σ vs)
    (he : ∀ x y H Q', (x, y) ∈ xs.zip ys → Fr [] H1 H → (∀ H', Fr [] H H' → Q' (f x y) H') → te (((wipe σ vs).set i1 (some x)).set i2 (some y)) H Q')
    (hd : ∀ H, H D = some (.lst ((xs.zip ys).map fun q => f q.1 q.2)) → Fr [] H1 H → Qd H) :
    ∃ W : Nat → Nat → Hp → Prop, (∃ m, W 0 m (upd H1 D (.lst []))) ∧ ∀ i m H, W i m H →
      ((Itz K a b).stop i H ∧ Qd H) ∨ ((Itz K a b).go i H ∧ ∃ Nx : Hp → Prop, (∀ H', Nx H' → ∃ m', m' < m ∧ W (i + 1) m' H') ∧ ∀ x H', (Itz K a b).yld i H x H' → LcTurn (gTup K 2 (gCons (gName i1) (gCons (gName i2) gNil))) tYes te vs σ D H' x Nx) := by
  let Pv : Nat → Hp → Prop := fun i H => H D = some (.lst (((xs.zip ys).take i).map fun q => f q.1 q.2)) ∧ Fr [] H1 H
  refine ⟨fun i m H => m = (xs.zip ys).length - i ∧ i ≤ (xs.zip ys).length ∧ Pv i H, ⟨_, rfl, Nat.zero_le _, upd_same, Fr.new nD⟩, ?_⟩
  rintro i m H ⟨rfl, hi, hD, fr⟩
  have qx := fr.same.seq sx
  have qy := fr.same.seq sy
  rw [List.length_zip] at hi ⊢
  by_cases hlt : i < xs.length ∧ i < ys.length
  · have hx : xs[i]? = some xs[i] := List.getElem?_eq_getElem hlt.1
    have hy : ys[i]? = some ys[i] := List.getElem?_eq_getElem hlt.2
    refine .inr ⟨⟨xs, ys, _, _, qx, qy, hx, hy⟩, Pv (i + 1), fun H' p' => ⟨min xs.length ys.length - (i + 1), by omega, rfl, by omega, p'⟩, fun v H' yl => ?_⟩
    obtain ⟨T, x', y', rfl, hT, rfl, f1, f2⟩ := yl
    have ex := f1 xs qx
    have ey := f2 ys qy
    refine ⟨T, [x', y'], rfl, SqT.of upd_same, rfl, x', [y'], rfl, y', [], rfl, rfl, hw x' y', ?_⟩
    dsimp only [tYes]
    rw [if_pos rfl]
    have fr1 : Fr [] H (upd H T (.tup [x', y'])) := Fr.new hT
    refine he x' y' _ _ (List.mem_of_getElem? (zip_get ex ey)) (fr.trans fr1) fun H4 fr4 => ?_
    have hD4 := fr4.same _ _ (fr1.same _ _ hD)
    refine ⟨_, hD4, ?_, ?_, Fr.drop ((fr.trans (fr1.trans fr4)).weak.trans (Fr.set (List.mem_singleton.mpr rfl))) nD⟩
    · rw [List.length_map, List.length_take, List.length_zip]; omega
    · rw [zip_take_snoc ex ey, List.map_append]; exact upd_same
  · refine .inl ⟨⟨xs, ys, qx, qy, by omega⟩, hd H ?_ fr⟩
    have e : i = (xs.zip ys).length := by rw [List.length_zip]; omega
    rw [e, List.take_length] at hD
    exact hD
end
end Tk

set_option Elab.async false
set_option linter.all false
set_option maxRecDepth 100000
namespace Tk
open PySem L2
def topS (i : Nat) : Stmt := PySem.Challenge.pw_timekernel_k84_logs_refused.main.body.getD i (.Pass ⟨0, 0, 0, 0⟩)
abbrev s_is_whole : Stmt := topS 6
abbrev s_is_cycles : Stmt := topS 7
abbrev s_power : Stmt := topS 8
abbrev s_check_width : Stmt := topS 11
abbrev s_size_of : Stmt := topS 17
abbrev s_is_row : Stmt := topS 18
abbrev s_check_log : Stmt := topS 19
abbrev s_check_cycles : Stmt := topS 20
abbrev s_with_looks : Stmt := topS 21
abbrev s_copied : Stmt := topS 22
abbrev s_looks_between : Stmt := topS 23
abbrev s_shortest : Stmt := topS 24
abbrev s__law_cell_at : Stmt := topS 26
abbrev s__law_mixed : Stmt := topS 27
abbrev s__law_source : Stmt := topS 28
abbrev s__law_next : Stmt := topS 29
abbrev s__law_sizes : Stmt := topS 30
abbrev s__law_rows : Stmt := topS 31
abbrev s__law_word : Stmt := topS 32
abbrev s__law_worse : Stmt := topS 33
abbrev s_law : Stmt := topS 34
end Tk

set_option Elab.async false
set_option linter.all false
set_option maxRecDepth 100000
set_option maxHeartbeats 4000000
namespace Tk
open PySem PySem.Spec PyProof.Rows L2

/-! ### kinds -/
/-- what kind of thing a value is -/
inductive Kd (H : Hp) : V → String → Prop where
  | non : Kd H .non "NoneType"
  | bl (b : Bool) : Kd H (.bl b) "bool"
  | int (i : Int) : Kd H (.int i) "int"
  | str (x : Str) : Kd H (.str x) "str"
  | lst {a : Addr} {xs : List V} (e : H a = some (.lst xs)) : Kd H (.ref a) "list"
  | tup {a : Addr} {xs : List V} (e : H a = some (.tup xs)) : Kd H (.ref a) "tuple"
  | dK {a : Addr} {kvs : List (Key × V)} (e : H a = some (.dK kvs)) : Kd H (.ref a) "dict"
section
variable {K : PySem.W.Frag} {H H' : Hp} {x : V} {t : String}
theorem Kd.same (e : Same H H') (k : Kd H x t) : Kd H' x t := by
  cases k with
  | non => exact .non
  | bl b => exact .bl b
  | int i => exact .int i
  | str y => exact .str y
  | lst h => exact .lst (e _ _ h)
  | tup h => exact .tup (e _ _ h)
  | dK h => exact .dK (e _ _ h)
theorem Kd.ty (k : Kd H x t) : TyX K H x (.type t) := by
  cases k with
  | non => exact .base .non
  | bl b => exact .base (.bl b)
  | int i => exact .base (.int i)
  | str y => exact .base (.str y)
  | lst h => exact .base (.lst h)
  | tup h => exact .base (.tup h)
  | dK h => exact .base (.dK h)
def isIntV : V → Bool | .int _ => true | .bl _ => true | _ => false
def isBlV : V → Bool | .bl _ => true | _ => false
def isStrV : V → Bool | .str _ => true | _ => false
theorem Kd.int' (k : Kd H x t) : PySem.W.kitOne K (.type t) (.type "int") = some (isIntV x) := by
  cases k <;> (refine kit_ty ?_; first | (show kitB _ _ = some true; decide +kernel) | (show kitB _ _ = some false; decide +kernel))
theorem Kd.bool' (k : Kd H x t) : PySem.W.kitOne K (.type t) (.type "bool") = some (isBlV x) := by
  cases k <;> (refine kit_ty ?_; first | (show kitB _ _ = some true; decide +kernel) | (show kitB _ _ = some false; decide +kernel))
theorem Kd.str' (k : Kd H x t) : PySem.W.kitOne K (.type t) (.type "str") = some (isStrV x) := by
  cases k <;> (refine kit_ty ?_; first | (show kitB _ _ = some true; decide +kernel) | (show kitB _ _ = some false; decide +kernel))
theorem Kd.list' (k : Kd H x t) : PySem.W.kitOne K (.type t) (.type "list") = some (decide (t = "list")) := by
  cases k <;> (refine kit_ty ?_; first | (show kitB _ _ = some true; decide +kernel) | (show kitB _ _ = some false; decide +kernel))
theorem Kd.tuple' (k : Kd H x t) : PySem.W.kitOne K (.type t) (.type "tuple") = some (decide (t = "tuple")) := by
  cases k <;> (refine kit_ty ?_; first | (show kitB _ _ = some true; decide +kernel) | (show kitB _ _ = some false; decide +kernel))
end
/-- isinstance(x, T), T one of the five -/
inductive IsA (H : Hp) (x : V) (t : String) : String → Bool → Prop where
  | int : IsA H x t "int" (isIntV x)
  | bool : IsA H x t "bool" (isBlV x)
  | str : IsA H x t "str" (isStrV x)
  | list : IsA H x t "list" (decide (t = "list"))
  | tuple : IsA H x t "tuple" (decide (t = "tuple"))
def rIs : List V → Hp → VK → Prop := fun vs H Q => ∃ x t T b, vs = [x, .ty T] ∧ Kd H x t ∧ IsA H x t T b ∧ Q (.bl b) H
theorem call_is {X : Cx} : CallR X (.builtin "isinstance") rIs := by
  rintro pins s σ H xs us Q I r ⟨x, t, T, b, rfl, k, i, q⟩
  refine call_isi pins s σ H [x, .ty T] us Q I r ⟨x, .ty T, .type t, .type T, b, rfl, .ty T, k.ty, ?_, q⟩
  cases i
  · exact k.int'
  · exact k.bool'
  · exact k.str'
  · exact k.list'
  · exact k.tuple'
/-- isinstance(e, T) -/
theorem pe_is {X : Cx} {e : Expr} {te : TE} {T : Str} {n : String} {p p2 pos : Pos} (G : NoGl X.mg) (hT : X.mg T = none) (he : PE X e te) (hg : Gl X "isinstance" := by rfl) (hg2 : Gl X T := by rfl)
    (hb : bootBuiltins T = some (.type n) := by decide +kernel) (hn : T ≠ "__name__" := by decide) (hd : (T == ("__debug__" : Str)) = false := by decide)
    (h1 : starEach [e, .Name T p2] X.env = (false, eval e X.env) :: starEach [.Name T p2] X.env := by rfl) (h2 : starEach [.Name T p2] X.env = (false, eval (.Name T p2) X.env) :: starEach [] X.env := by rfl)
    (h3 : (backTo pos (starEach [.Name T p2] X.env)).any (·.1) = false := by rfl) :
    PE X (.Call (.Name "isinstance" p) [e, .Name T p2] [] pos) (tCB rIs (tCons te (tCons (tC (.ty n)) tNil))) :=
  pe_callB call_is hg G.isinstance (by decide +kernel) (pa_cons he (pa_cons (pe_bltn hg2 hT hb rfl hn hd) pa_nil h2) h1) (by decide) (by decide) h1 h3

/-! ### is_whole, is_cycles -/
def wholeV : V → V → Bool
  | .int i, .int n => decide (n ≤ i)
  | .int _, .non => true
  | _, _ => false
section
variable {P : Program} {w : World} {K : PySem.W.Frag} {mg : Str → Option Value} {base : Heap}
def spWhole : Sp := fun vs H Q _ => ∃ (x l : V) (t : String), vs = [x, l] ∧ Kd H x t ∧ (l = .non ∨ ∃ n, l = .int n) ∧ Q (.bl (wholeV x l)) H
theorem sc_whole : FnScope ["thing", "least"] ["thing", "least"] (defScope s_is_whole) := ⟨rfl, rfl, rfl, by decide +kernel, rfl, by decide +kernel, by decide +kernel⟩
theorem fn_whole {f : Addr} {fd : FuncData} (F : FunD K "is_whole" "is_whole" (defArgs s_is_whole) (defBody s_is_whole) (defScope s_is_whole) [.non] [] f fd) (G : NoGl mg) : FnOk P w K mg base CX0 1 f fd ["thing", "least"] spWhole := by
  refine F.ok sc_whole (by rintro _ _ _ _ ⟨_, _, _, rfl, _⟩; rfl) ?_
  rintro cdv A outer s H vs Q E hr ⟨x, l, t, rfl, k, hl, q⟩
  refine ⟨_, PSs.nox (pss_one (ps_ret (pe_and (pe_is (n := "int") G G.int (pv 0)) (pe_and (pe_not (pe_is (n := "bool") G G.bool (pv 0))) (pe_one (pe_or (pe_cmp (pc_isN (pv 1)) rfl) (pe_one (pe_cmp (pc_ge (pv 0) (pv 1)) rfl)))))))), ?_⟩
  refine ⟨_, rfl, x, t, "int", _, rfl, k, .int, _, rfl, ?_⟩
  cases x with
  | int i =>
    refine ⟨_, rfl, _, t, "bool", _, rfl, k, .bool, _, rfl, _, rfl, _, rfl, ?_⟩
    rcases hl with rfl | ⟨n, rfl⟩
    · exact ⟨_, rfl, q⟩
    · exact ⟨_, rfl, _, rfl, _, rfl, _, _, rfl, rfl, q⟩
  | bl b => exact ⟨_, rfl, _, t, "bool", _, rfl, k, .bool, _, rfl, _, rfl, q⟩
  | _ => exact q
theorem ok_whole (F : DefAt K mg "is_whole" s_is_whole [.non]) (G : NoGl mg) : Cal P w K mg base CX0 1 "is_whole" ["thing", "least"] [] spWhole := by
  obtain ⟨f, fd, hm, F⟩ := F.ex
  obtain ⟨ds, hv, hb⟩ := F.binds1 (ps := ["thing", "least"]) 2 1 (by simp) rfl fun T kV doc pm an cdv ct us its h1 h2 => match us, its, h1, h2 with | [_, _], [_], _, _ => ⟨_, rfl, rfl⟩
  exact ⟨f, fd, ds, hm, F.kp, fn_whole F G, hb, hv, lkF_funD F⟩
theorem ok_whole1 (F : DefAt K mg "is_whole" s_is_whole [.non]) (G : NoGl mg) : Cal P w K mg base CX0 1 "is_whole" ["thing", "least"] [.non] spWhole := by
  obtain ⟨f, fd, hm, F⟩ := F.ex
  obtain ⟨ds, hv, hb⟩ := F.binds1 (ps := ["thing", "least"]) 1 0 (by simp) rfl fun T kV doc pm an cdv ct us its h1 h2 => match us, its, h1, h2 with | [_], [_], _, _ => ⟨_, rfl, rfl⟩
  exact ⟨f, fd, ds, hm, F.kp, fn_whole F G, hb, hv, lkF_funD F⟩
end
end Tk

set_option Elab.async false
set_option linter.all false
set_option maxRecDepth 100000
set_option maxHeartbeats 4000000
namespace Tk
open PySem PySem.Spec PyProof.Rows L2

theorem cut_from (xs : List V) (k : Nat) : cutV xs (some (k : Int)) none = xs.drop k := by
  unfold cutV
  rw [HT.sIx_nat, HT.sIx_none]
  by_cases h : k ≤ xs.length
  · rw [Nat.min_eq_left h]
    exact List.take_of_length_le (by rw [List.length_drop]; omega)
  · rw [Nat.min_eq_right (by omega), List.drop_eq_nil_of_le (Nat.le_refl _), List.drop_eq_nil_of_le (by omega), List.take_nil]

/-- x <= y of ints -/
def leV : V → V → Bool
  | .int i, .int j => decide (i ≤ j)
  | _, _ => false
def cyclesL (n : Int) (xs : List V) : Bool := xs.all (fun x => wholeV x (.int n)) && (xs.zip (xs.drop 1)).all (fun q => leV q.1 q.2)
theorem whole_int {x : V} {n : Int} (h : wholeV x (.int n) = true) : ∃ i, x = .int i := by
  cases x with
  | int i => exact ⟨i, rfl⟩
  | _ => cases h
theorem map_bl {α : Type} (xs : List α) (f : α → Bool) : (xs.map fun x => V.bl (f x)) = (xs.map f).map V.bl := by rw [List.map_map]; rfl
theorem all_map {α : Type} (xs : List α) (f : α → Bool) : (xs.map f).all id = xs.all f := by rw [List.all_map]; rfl
section
variable {P : Program} {w : World} {K : PySem.W.Frag} {mg : Str → Option Value} {base : Heap}
def spCycles : Sp := fun vs H Q _ => ∃ (x : V) (n : Int) (t : String), vs = [x, .int n] ∧ Kd H x t ∧
  ((t ≠ "list" ∧ ∀ H', Fr [] H H' → Q (.bl false) H') ∨
   ∃ a xs, x = .ref a ∧ H a = some (.lst xs) ∧ (∀ y, y ∈ xs → ∃ u, Kd H y u) ∧ xs.length < sizeLine ∧ ∀ H', Fr [] H H' → Q (.bl (cyclesL n xs)) H')
theorem sc_cycles : FnScope ["thing", "least", "one", "other"] ["thing", "least"] (defScope s_is_cycles) := ⟨rfl, rfl, rfl, by decide +kernel, rfl, by decide +kernel, by decide +kernel⟩
theorem fn_cycles {f : Addr} {fd : FuncData} (F : FunD K "is_cycles" "is_cycles" (defArgs s_is_cycles) (defBody s_is_cycles) (defScope s_is_cycles) [.int 0] [] f fd) (G : NoGl mg)
    (Cw : Cal P w K mg base CX0 1 "is_whole" ["thing", "least"] [] spWhole) : FnOk P w K mg base CX0 2 f fd ["thing", "least"] spCycles := by
  refine F.ok sc_cycles (by rintro _ _ _ _ ⟨_, _, _, rfl, _⟩; rfl) ?_
  rintro cdv A outer s H vs Q E hr ⟨x, n, t, rfl, k, h⟩
  have nd := sc_cycles.nd
  refine ⟨_, PSs.nox (pss_cons (ps_if (PW.pt (pw_or (pt_not (pt_val (pe_is (n := "list") G G.list (pv 0)))) (pw_or1 (pt_not (pt_val (pe_callB (cr_all rfl) (by rfl) G.all (by decide +kernel) (pa_cons
      (pe_lc (own := [("one", 2)]) (g := gName 2) (tt := tYes) rfl nd (pi_list (pv 0)) (blkOk_by (own := [("one", 2)]) (N := ["thing", "least", "one", "other"]) (sc := defScope s_is_cycles) (by decide +kernel))
        (fun _ _ _ _ _ => pg_name (i := 2) nd rfl (Or.inl rfl)) (fun _ _ _ _ _ => pts_nil) (fun _ _ _ _ _ => pe_c Cw hr (by rfl) pass0 (pa_cons (pv 2) (pa_cons (pv 1) pa_nil)))) pa_nil)))))))
      (pss_one (ps_ret pe_bl)) pss_nil)
    (pss_one (ps_ret (pe_callB (cr_all rfl) (by rfl) G.all (by decide +kernel) (pa_cons
      (pe_lc (own := [("one", 2), ("other", 3)]) (g := gTup K 2 (gCons (gName 2) (gCons (gName 3) gNil))) (tt := tYes) rfl nd (pi_zip (by rfl) G.zip (pa_cons (pv 0) (pa_cons (pe_slice sl_list (pv 0) (po_some pe_int) po_none) pa_nil)))
        (blkOk_by (own := [("one", 2), ("other", 3)]) (N := ["thing", "least", "one", "other"]) (sc := defScope s_is_cycles) (by decide +kernel))
        (fun _ _ _ _ _ => pg_tup rfl (pgs_cons (pg_name (i := 2) nd rfl (Or.inl rfl) (Or.inr rfl)) (pgs_cons (pg_name (i := 3) nd rfl (Or.inl rfl) (Or.inr rfl)) pgs_nil))) (fun _ _ _ _ _ => pts_nil)
        (fun _ _ _ _ _ => pe_cmp (pc_le (pv 2) (pv 3)) rfl)) pa_nil))))), ?_⟩
  refine ⟨_, rfl, x, t, "list", _, rfl, k, .list, _, rfl, ?_⟩
  rcases h with ⟨ht, q⟩ | ⟨a, xs, rfl, ha, hk, hl, q⟩
  · rw [decide_eq_false ht]
    exact q H (Fr.refl _ _)
  · have ht : t = "list" := by
      cases k with
      | lst e => rfl
      | tup e => cases ha.symm.trans e
      | dK e => cases ha.symm.trans e
    subst ht
    refine ⟨_, rfl, a, rfl, ⟨xs, SqL.of ha⟩, fun D hD => ?_⟩
    refine lc_listR (K := K) (fun _ => true) (fun x y _ => y = .bl (wholeV x (.int n))) (fun _ _ _ _ _ h => h) hD hl (fun _ => rfl) (fun x H' Q' _ _ _ h => h H' (Fr.refl _ _)) ?_ ?_ (SqL.of ha)
    · intro x H' Q' hx _ fr _ hq
      obtain ⟨u, ku⟩ := hk x hx
      exact ⟨_, rfl, _, rfl, x, .int n, u, rfl, ku.same fr.same, .inr ⟨n, rfl⟩, hq _ _ (Fr.refl _ _) rfl⟩
    · intro H2 ys hD2 fr2 md
      have e : ys = (xs.map fun x => wholeV x (.int n)).map V.bl := by
        have e := md.pure (f := fun x => V.bl (wholeV x (.int n))) (fun _ _ _ h => h)
        rw [List.filter_eq_self.mpr (fun _ _ => rfl), map_bl] at e
        exact e
      subst e
      refine ⟨D, _, rfl, SqL.of hD2, _, rfl, ?_⟩
      rw [all_map]
      have ha2 := fr2.same _ _ ha
      refine ite2 (fun c => ?_) (fun c => ?_)
      · have c : xs.all (fun x => wholeV x (.int n)) = false := by simpa using c
        have z : cyclesL n xs = false := by unfold cyclesL; rw [c]; rfl
        have q := q H2 fr2
        rw [z] at q; exact q
      · have c : xs.all (fun x => wholeV x (.int n)) = true := by simpa using c
        refine ⟨_, rfl, _, rfl, _, rfl, a, xs, rfl, SqL.of ha2, fun p hp => ?_⟩
        have ep : cutV xs (some 1) none = xs.drop 1 := cut_from xs 1
        rw [ep]
        have fr3 : Fr [] H2 (upd H2 p (.lst (xs.drop 1))) := Fr.new hp
        refine ⟨a, p, xs, xs.drop 1, rfl, SqL.of (fr3.same _ _ ha2), SqL.of upd_same, fun D2 hD2 => ?_⟩
        refine lc_zipP (K := K) (fun x y => .bl (leV x y)) hD2 hl (SqL.of (fr3.same _ _ ha2)) (SqL.of upd_same) (fun _ _ => rfl) ?_ ?_
        · intro x y H' Q' hm fr hq
          have hx : x ∈ xs := (List.of_mem_zip hm).1
          have hy : y ∈ xs := List.mem_of_mem_drop (List.of_mem_zip hm).2
          obtain ⟨i, rfl⟩ := whole_int (List.all_eq_true.mp c x hx)
          obtain ⟨j, rfl⟩ := whole_int (List.all_eq_true.mp c y hy)
          exact ⟨_, rfl, _, rfl, i, j, rfl, rfl, hq _ (Fr.refl _ _)⟩
        · intro H4 hD4 fr4
          rw [map_bl (xs.zip (xs.drop 1)) (fun q => leV q.1 q.2)] at hD4
          refine ⟨D2, _, rfl, SqL.of hD4, ?_⟩
          rw [all_map]
          have z : cyclesL n xs = (xs.zip (xs.drop 1)).all (fun q => leV q.1 q.2) := by unfold cyclesL; rw [c]; rfl
          have q := q H4 (fr2.trans (fr3.trans fr4))
          rw [z] at q; exact q
theorem ok_cycles (F : DefAt K mg "is_cycles" s_is_cycles [.int 0]) (G : NoGl mg) (Cw : Cal P w K mg base CX0 1 "is_whole" ["thing", "least"] [] spWhole) : Cal P w K mg base CX0 2 "is_cycles" ["thing", "least"] [.int 0] spCycles := by
  obtain ⟨f, fd, hm, F⟩ := F.ex
  obtain ⟨ds, hv, hb⟩ := F.binds1 (ps := ["thing", "least"]) 1 0 (by simp) rfl fun T kV doc pm an cdv ct us its h1 h2 => match us, its, h1, h2 with | [_], [_], _, _ => ⟨_, rfl, rfl⟩
  exact ⟨f, fd, ds, hm, F.kp, fn_cycles F G Cw, hb, hv, lkF_funD F⟩
end
end Tk

set_option Elab.async false
set_option linter.all false
set_option maxRecDepth 100000
set_option maxHeartbeats 4000000
namespace Tk
open PySem PySem.Spec PyProof.Rows L2

/-! ### a table of the module: texts to ints, asked by .get -/
def EntsAre (P : Params) : List DictEntry → List (Str × Int) → Prop
  | [], [] => True
  | e :: es, q :: qs => ((∃ t, e.key = .str q.1 t) ∧ e.hash = PyData.keyHash P q.1 ∧ ∃ t, e.val = .int q.2 t) ∧ EntsAre P es qs
  | _, _ => False
structure KTab (K : PySem.W.Frag) (w : World) (d : Addr) (tab : List (Str × Int)) : Prop where
  at_ : ∃ es n, K.lookup d = some ⟨.type "dict", none, .dict es n, #[]⟩ ∧ EntsAre w.params es.toList tab
  low : (d == sysModules) = false
theorem EntsAre.lit {P : Params} : ∀ {es : List DictEntry} {tab : List (Str × Int)}, EntsAre P es tab → PySem.W.KeysLit P es
  | [], [], _ => trivial
  | e :: es, q :: qs, ⟨⟨⟨t, h1⟩, h2, _⟩, r⟩ => ⟨⟨q.1, t, h1, h2⟩, EntsAre.lit r⟩
  | [], _ :: _, h => h.elim
  | _ :: _, [], h => h.elim
theorem EntsAre.find {P : Params} (z : Str) : ∀ {es : List DictEntry} {tab : List (Str × Int)}, EntsAre P es tab →
    (match tab.lookup z with
    | some i => ∃ t, (es.find? fun e => Value.isStrOf z e.key).map (·.val) = some (Value.int i t)
    | none => (es.find? fun e => Value.isStrOf z e.key).map (·.val) = none)
  | [], [], _ => rfl
  | e :: es, q :: qs, ⟨⟨⟨t, h1⟩, h2, t', h3⟩, r⟩ => by
    have ih := EntsAre.find z r
    rw [List.find?_cons, List.lookup_cons]
    by_cases h : z = q.1
    · have e1 : (z == q.1) = true := beq_iff_eq.mpr h
      have e2 : Value.isStrOf z e.key = true := by rw [h1, h]; simp [Value.isStrOf]
      rw [e1, e2]
      exact ⟨t', by rw [Option.map_some, h3]⟩
    · have e1 : (z == q.1) = false := beq_eq_false_iff_ne.mpr h
      have e2 : Value.isStrOf z e.key = false := by
        rw [h1]
        cases hb : Value.isStrOf z (.str q.1 t) with
        | false => rfl
        | true =>
          obtain ⟨t2, e3⟩ := Value.isStrOf_shape (x := z) (v := .str q.1 t) hb
          injection e3 with e4 _
          exact absurd e4.symm h
      rw [e1, e2]
      exact ih
  | [], _ :: _, h => h.elim
  | _ :: _, [], h => h.elim
def ofOpt (y : V) : Option Int → V
  | some i => .int i
  | none => y
section
variable {X : Cx} {d : Addr} {tab : List (Str × Int)}
theorem ktab_map {pins : List (Addr × Obj)} {σ : L2.St} {H : Hp} {s : Shared} (D : KTab X.K X.w d tab) (I : Inv X pins σ H s) :
    ∃ f, s.heap.MapOf (strKind X.prog X.w) d f ∧ (∀ z, match tab.lookup z with | some i => ∃ t, f z = some (Value.int i t) | none => f z = none) ∧ s.TypeIs (.ref d) "dict" ∧
      (∀ a, Value.ref d = .ref a → ∃ ob, s.heap.get? a = some ob ∧ ob.dict = none) := by
  obtain ⟨es, n, hl, he⟩ := D.at_
  have m := PySem.W.mapOf_K (prog := X.prog) (w := X.w) I.kIn hl he.lit
  refine ⟨_, m, fun z => ?_, m.typeIs, fun a e => ?_⟩
  · have q := he.find z
    obtain ⟨l⟩ := es
    simp only [findBy, List.find?_toArray]
    exact q
  · cases e
    exact ⟨_, I.kIn _ _ hl, rfl⟩
def rKGet (d : Addr) (tab : List (Str × Int)) : List V → Hp → VK → Prop := fun vs H Q => ∃ z, (vs = [.str z] ∧ Q (ofOpt .non (tab.lookup z)) H) ∨ ∃ y, vs = [.str z, y] ∧ Q (ofOpt y (tab.lookup z)) H
def tKGet (d : Addr) (tab : List (Str × Int)) (t : TA) : TE := fun σ H Q => t σ H fun vs H1 => rKGet d tab vs H1 Q
theorem pe_kget {x : Str} {u : Value} {e : Expr} {es : List Expr} {t : TA} {p apos cpos : Pos} (D : KTab X.K X.w d tab) (hm : X.mg x = some (.ref d)) (ha : PA X (e :: es) t) (hg : Gl X x := by rfl)
    (hd : (x == ("__debug__" : Str)) = false := by decide)
    (hbase : attributeBase (.Name x p) "get" X.env (eval (.Name x p) X.env) = eval (.Name x p) X.env := by rfl)
    (hfew : ((backTo cpos (starEach (e :: es) X.env)).all (fun x => !x.1) && (backToKw cpos (keywordEach [] X.env)).all (fun x => x.1.isSome)
      && decide ((e :: es).length + ([] : List Keyword).length + (if ([] : List Keyword).isEmpty then 0 else 1) < 30)) = true := by rfl)
    (hline : (apos.endLine == cpos.line) = true := by rfl) (hs : starEach (e :: es) X.env = (false, eval e X.env) :: starEach es X.env := by rfl) (hplain : (backTo cpos (starEach es X.env)).any (·.1) = false := by rfl) :
    PE X (.Call (.Attribute (.Name x p) "get" apos) (e :: es) [] cpos) (tKGet d tab t) := by
  constructor
  intro pins s σ H Q I h
  refine wpAny_Call_method_late hbase hfew hline rfl (thn ((pe_glob (v := .ref d) hg hm rfl hd).run pins s σ H (fun v H1 => v = .ref d ∧ H1 = H) I ⟨rfl, rfl⟩) ?_)
  rintro v s1 ⟨y, H1, I1, r1, rfl, rfl⟩
  obtain rfl : v = Value.ref d := r1
  obtain ⟨f, m, hf, h1, h2⟩ := ktab_map D I1
  refine ⟨"dict", "dict.get", PySem.F.plainAttrs_dict, PySem.F.slot_dict_get, PySem.F.type_dict_get, h1, h2, ?_⟩
  have hA := ha.run cpos pins s1 σ H1 _ I1 h
  rw [hs] at hA ⊢
  refine Calls.callWith_builtin (by show (false || (backTo cpos (starEach es X.env)).any (·.1)) = false; rw [hplain]; rfl) (Calls.evalArgs_plain ?_)
  refine thn hA ?_
  rintro us s2 ⟨vs, H2, I2, r2, z, q⟩
  obtain ⟨f, m, hf, h1, h2⟩ := ktab_map D I2
  have hz := hf z
  rcases q with ⟨rfl, q⟩ | ⟨y, rfl, q⟩
  · obtain ⟨u1, rfl, t1, rfl⟩ := Vals.one r2
    refine call_meetsIn PySem.F.slot_dict_get h1 PySem.F.entry_dict_get (PySem.F.args_dict_get_2 _ _) (meets_dict_get (strKind X.prog X.w) d (strKind_is X.prog X.w z t1) D.low) ⟨f, m, _, _, I2.tok _, ?_, q⟩
    cases e : tab.lookup z with
    | none => rw [e] at hz; rw [hz]; rfl
    | some i => rw [e] at hz; obtain ⟨t, hz⟩ := hz; rw [hz]; exact ⟨t, rfl⟩
  · obtain ⟨u1, u2, rfl, ⟨t1, rfl⟩, ry⟩ := Vals.two r2
    refine call_meetsIn PySem.F.slot_dict_get h1 PySem.F.entry_dict_get (PySem.F.args_dict_get_3 _ _ _) (meets_dict_get_default (strKind X.prog X.w) d (strKind_is X.prog X.w z t1) D.low u2) ⟨f, m, _, _, I2.tok _, ?_, q⟩
    cases e : tab.lookup z with
    | none => rw [e] at hz; rw [hz]; exact ry
    | some i => rw [e] at hz; obtain ⟨t, hz⟩ := hz; rw [hz]; exact ⟨t, rfl⟩
end
end Tk

set_option Elab.async false
set_option linter.all false
set_option maxRecDepth 100000
set_option maxHeartbeats 4000000
namespace Tk
open PySem PySem.Spec PyProof.Rows L2

/-! ### compared with the empty list, the empty tuple: whatever the items are -/
theorem vals_size {xs : List V} {its : List Value} (r : Vals xs its) : its.toArray.size = xs.length := by rw [List.size_toArray, r.length]
section
variable {X : Cx}
def rNil (sq : PySem.W.Frag → Hp → Addr → List V → Prop) (K : PySem.W.Frag) (neg : Bool) : R2 := fun x y H Q =>
  ∃ a b xs, x = .ref a ∧ y = .ref b ∧ sq K H a xs ∧ sq K H b [] ∧ Q (.bl (if neg then !xs.isEmpty else xs.isEmpty)) H
theorem op_eqNilL (hu : X.A.units < cLine) : OpR X (compareOp .Eq) (rNil SqL X.K false) := by
  rintro pins s σ H x y v u Q I rx ry ⟨a, b, xs, rfl, rfl, ha, hb, q⟩
  obtain rfl : v = Value.ref a := rx
  obtain rfl : u = Value.ref b := ry
  obtain ⟨its, r1, p1, _⟩ := I.list ha
  obtain ⟨its2, r2, p2, _⟩ := I.list hb
  cases r2
  have z1 := vals_size r1
  cases xs with
  | nil =>
    refine SeqAt.eq_listAt (e := fun _ => true) p1.isList p2.isList z1 hu (fun j h1 h2 => absurd h2 (by simp)) ?_
    exact ⟨.bl true, H, I, by simp [z1, L2.RelV], q⟩
  | cons x xs =>
    exact SeqAt.eq_list_lengthsAt p1.isList p2.isList (by rw [z1]; rfl) hu ⟨.bl false, H, I, rfl, q⟩
theorem op_neNilL (hu : X.A.units < cLine) : OpR X (compareOp .NotEq) (rNil SqL X.K true) := by
  rintro pins s σ H x y v u Q I rx ry ⟨a, b, xs, rfl, rfl, ha, hb, q⟩
  obtain rfl : v = Value.ref a := rx
  obtain rfl : u = Value.ref b := ry
  obtain ⟨its, r1, p1, _⟩ := I.list ha
  obtain ⟨its2, r2, p2, _⟩ := I.list hb
  cases r2
  have z1 := vals_size r1
  cases xs with
  | nil =>
    refine SeqAt.RcNeAt.lists (e := fun _ => true) p1.isList p2.isList z1 hu (fun j h1 h2 => absurd h2 (by simp)) _ _ _ _ ?_
    exact ⟨.bl false, H, I, by simp [z1, L2.RelV], q⟩
  | cons x xs =>
    exact SeqAt.RcNeAt.lists_lengths p1.isList p2.isList (by rw [z1]; rfl) hu _ _ _ _ ⟨.bl true, H, I, rfl, q⟩
theorem op_eqNilT (hu : X.A.units < cLine) : OpR X (compareOp .Eq) (rNil SqT X.K false) := by
  rintro pins s σ H x y v u Q I rx ry ⟨a, b, xs, rfl, rfl, ha, hb, q⟩
  obtain rfl : v = Value.ref a := rx
  obtain rfl : u = Value.ref b := ry
  obtain ⟨its, r1, p1, _⟩ := I.tuple ha
  obtain ⟨its2, r2, p2, _⟩ := I.tuple hb
  cases r2
  have z1 := vals_size r1
  refine SeqAt.eq_tupleAt (e := fun _ => true) p1 p2 hu (fun j h1 h2 => absurd h2 (by simp)) ?_
  refine ⟨.bl xs.isEmpty, H, I, ?_, q⟩
  have e : ((List.range (min its.toArray.size (#[] : Array Value).size)).all (fun _ => true) && its.toArray.size == (#[] : Array Value).size) = xs.isEmpty := by
    rw [z1]
    cases xs <;> simp
  exact congrArg Value.bool e
end
end Tk

set_option Elab.async false
set_option linter.all false
set_option maxRecDepth 100000
set_option maxHeartbeats 4000000
namespace Tk
open PySem PySem.Spec PyProof.Rows L2

/-! ### rows -/
def tabA : List (Str × Int) := [("look", 2), ("read", 3), ("set_rate", 3), ("set_real", 3), ("slew", 4), ("stop", 3), ("go", 2), ("put", 7),
  ("drop", 3)]
def tabB : List (Str × Int) := [("expired", 3), ("take", 2), ("put_tick", 4), ("hand_over", 4), ("process", 2), ("thread", 3), ("run", 5),
  ("join", 4)]
def tabC : List (Str × Int) := [("leave", 3), ("sleep", 4), ("limit", 4), ("waiting", 3), ("running", 3), ("sampled", 3)]
def sizeV (z : Str) : V := ofOpt (ofOpt (ofOpt .non (tabC.lookup z)) (tabB.lookup z)) (tabA.lookup z)
structure Tabs (K : PySem.W.Frag) (w : World) (mg : Str → Option Value) : Prop where
  ex : ∃ a b c, mg "SIZES" = some (.ref a) ∧ mg "MORE_SIZES" = some (.ref b) ∧ mg "LAST_SIZES" = some (.ref c) ∧ KTab K w a tabA ∧ KTab K w b tabB ∧ KTab K w c tabC
section
variable {P : Program} {w : World} {K : PySem.W.Frag} {mg : Str → Option Value} {base : Heap}
def spSizeOf : Sp := fun vs H Q _ => ∃ z, vs = [.str z] ∧ Q (sizeV z) H
theorem sc_sizeOf : FnScope ["name"] ["name"] (defScope s_size_of) := ⟨rfl, rfl, rfl, by decide +kernel, rfl, by decide +kernel, by decide +kernel⟩
theorem ok_sizeOf (F : FunAt K mg "size_of" s_size_of) (T : Tabs K w mg) : Cal P w K mg base CX0 1 "size_of" ["name"] [] spSizeOf := by
  refine Cal.mk0 F sc_sizeOf (by rintro _ _ _ _ ⟨_, rfl, _⟩; rfl) (fun _ _ _ _ _ _ us hl => match us, hl with | [_], _ => rfl) ?_
  rintro f cdv A outer s H vs Q E hr ⟨z, rfl, q⟩
  obtain ⟨a, b, c, ma, mb, mc, Ta, Tb, Tc⟩ := T.ex
  refine ⟨_, pss_one (ps_ret (pe_kget (u := .none) Ta ma (pa_cons (pv 0) (pa_cons (pe_kget (u := .none) Tb mb (pa_cons (pv 0) (pa_cons (pe_kget (u := .none) Tc mc (pa_cons (pv 0) pa_nil)) pa_nil))) pa_nil)))), ?_⟩
  exact ⟨_, rfl, _, rfl, _, rfl, z, .inl ⟨rfl, z, .inr ⟨_, rfl, z, .inr ⟨_, rfl, q⟩⟩⟩⟩

/-- is what stands in a tuple a row -/
def isRowL : List V → Bool
  | .str z :: r => decide (V.int ((r.length + 1 : Nat) : Int) = sizeV z)
  | _ => false
theorem size_scal (n : Int) (z : Str) : scal (.int n) (sizeV z) = true := by
  unfold sizeV
  cases tabA.lookup z with
  | some i => rfl
  | none =>
    cases tabB.lookup z with
    | some i => rfl
    | none =>
      cases tabC.lookup z with
      | some i => rfl
      | none => rfl
/-- is x a row: what is_row tells of it -/
inductive RowIs (H : Hp) (x : V) : Bool → Prop where
  | no {t : String} (k : Kd H x t) (h : t ≠ "tuple") : RowIs H x false
  | tup {a : Addr} {xs : List V} (e : x = .ref a) (h : H a = some (.tup xs)) (k : ∀ y, xs[0]? = some y → ∃ t, Kd H y t) (z : xs.length < 2 ^ 62) : RowIs H x (isRowL xs)
theorem RowIs.same {H H' : Hp} {x : V} {b : Bool} (e : Same H H') (r : RowIs H x b) : RowIs H' x b := by
  cases r with
  | no k h => exact .no (k.same e) h
  | tup e1 h k z => exact .tup e1 (e _ _ h) (fun y hy => let ⟨t, kt⟩ := k y hy; ⟨t, kt.same e⟩) z
def spIsRow : Sp := fun vs H Q _ => ∃ x b, vs = [x] ∧ RowIs H x b ∧ ∀ H', Fr [] H H' → Q (.bl b) H'
theorem sc_isRow : FnScope ["thing"] ["thing"] (defScope s_is_row) := ⟨rfl, rfl, rfl, by decide +kernel, rfl, by decide +kernel, by decide +kernel⟩
theorem ok_isRow (F : FunAt K mg "is_row" s_is_row) (G : NoGl mg) (Cs : Cal P w K mg base CX0 1 "size_of" ["name"] [] spSizeOf) : Cal P w K mg base CX0 2 "is_row" ["thing"] [] spIsRow := by
  refine Cal.mk0 F sc_isRow (by rintro _ _ _ _ ⟨_, _, rfl, _⟩; rfl) (fun _ _ _ _ _ _ us hl => match us, hl with | [_], _ => rfl) ?_
  rintro f cdv A outer s H vs Q E hr ⟨x, b, rfl, r, q⟩
  refine ⟨_, pss_cons (ps_if (PW.pt (pw_or (pt_not (pt_val (pe_is (n := "tuple") G G.tuple (pv 0)))) (pw_or (pt_cmpR (op_eqNilT hr.units0) (pv 0) (pe_tup pa_nil) (nomark _))
      (pw_or1 (pt_not (pt_val (pe_is (n := "str") G G.str (pe_ix ix_tup (pv 0) pe_int (fun _ _ => rfl))))))))) (pss_one (ps_ret pe_bl)) pss_nil)
    (pss_one (ps_ret (pe_cmpR op_eq (pe_callB call_len_seq (by rfl) G.len PySem.boot_len (pa_cons (pv 0) pa_nil)) (pe_c Cs hr (by rfl) pass0 (pa_cons (pe_ix ix_tup (pv 0) pe_int (fun _ _ => rfl)) pa_nil)) (nomark _)))), ?_⟩
  cases r with
  | @no t k h =>
    refine ⟨_, rfl, x, t, "tuple", _, rfl, k, .tuple, _, rfl, ?_⟩
    rw [decide_eq_false h]
    exact q H (Fr.refl _ _)
  | @tup a xs e h k z =>
    subst e
    refine ⟨_, rfl, _, _, "tuple", _, rfl, .tup h, .tuple, _, rfl, ?_⟩
    refine ⟨_, rfl, (by show 0 ≤ sizeLine; decide), fun p hp => ?_⟩
    have fr : Fr [] H (upd H p (.tup [])) := Fr.new hp
    have h1 := fr.same _ _ h
    refine ⟨a, p, xs, rfl, rfl, SqT.of h1, SqT.of upd_same, _, rfl, ?_⟩
    cases xs with
    | nil => exact q _ fr
    | cons y r =>
      obtain ⟨t, ky⟩ := k y rfl
      refine ⟨_, rfl, a, _, _, y, rfl, rfl, SqT.of h1, atI_nat (j := 0) rfl, y, t, "str", _, rfl, ky.same fr.same, .str, _, rfl, ?_⟩
      cases y with
      | str n =>
        refine ⟨_, rfl, a, _, rfl, .inr (SqT.of h1), _, rfl, a, _, _, _, rfl, rfl, SqT.of h1, atI_nat (j := 0) rfl, n, rfl, size_scal _ n, ?_⟩
        exact q _ fr
      | _ => exact q _ fr
end
end Tk

set_option Elab.async false
set_option linter.all false
set_option maxRecDepth 100000
set_option maxHeartbeats 4000000
namespace Tk
open PySem PySem.Spec PyProof.Rows L2

/-! ### errors -/
/-- an own error class over ValueError (directly or not), without an __init__ of its own -/
structure ExcC (K : PySem.W.Frag) (mg : Str → Option Value) (x : Str) (C : Addr) : Prop where
  g : mg x = some (.ref C)
  ex : PySem.W.excIn K C [.type "ValueError", .type "Exception", .type "BaseException", .type "object"] "ValueError.__new__" = true
  kp : PySem.W.keepIn K (.ref C) = true
  sub : PySem.W.subIn K (.ref C) (.type "BaseException") = some true
  ty : PySem.W.typeIn K (.ref C) = some (.type "type")
section
variable {X : Cx} {x m : Str} {C : Addr} {W : WX} {j : Nat} {p p2 pos pos2 : Pos}
theorem ps_rs (T : ExcC X.K X.mg x C) (hc : X.calm = true) (tk : Takes X W) (hg : Gl X x := by rfl) (hdb : (x == ("__debug__" : Str)) = false := by decide) :
    PS X (.Raise (some (.Call (.Name x p) [.Constant (.str m) j p2] [] pos)) none pos2) (fun _ σ H => W (.ref C) none σ H) :=
  ps_raise hc tk (pmk_own PySem.F.excBase_ValueError T.ex T.g T.kp (raises_own T.sub T.ty) hg hdb)
end

/-! ### check_log -/
/-- what check_log finds -/
inductive LogIs (H : Hp) (x : V) : Bool → Prop where
  | no {t : String} (k : Kd H x t) (h : t ≠ "list") : LogIs H x false
  | lst {a : Addr} {xs : List V} (f : V → Bool) (e : x = .ref a) (h : H a = some (.lst xs)) (r : ∀ y, y ∈ xs → RowIs H y (f y)) (z : xs.length < sizeLine) : LogIs H x (xs.all f)
section
variable {P : Program} {w : World} {K : PySem.W.Frag} {mg : Str → Option Value} {base : Heap} {C : Addr}
def spCheckLog (C : Addr) : Sp := fun vs H Q E => ∃ x b, vs = [x] ∧ LogIs H x b ∧ ∀ H', Fr [] H H' → if b = true then Q .non H' else E (.ref C) none H'
theorem sc_checkLog : FnScope ["log", "row"] ["log"] (defScope s_check_log) := ⟨rfl, rfl, rfl, by decide +kernel, rfl, by decide +kernel, by decide +kernel⟩
theorem ok_checkLog (F : FunAt K mg "check_log" s_check_log) (G : NoGl mg) (T : ExcC K mg "NoCall" C) (Cr : Cal P w K mg base CX0 2 "is_row" ["thing"] [] spIsRow) :
    Cal P w K mg base (L2.CX P w) 3 "check_log" ["log"] [] (spCheckLog C) := by
  refine Cal.mkX F sc_checkLog (by rintro _ _ _ _ ⟨_, _, rfl, _⟩; rfl) (fun _ _ _ _ _ _ us hl => match us, hl with | [_], _ => rfl) ?_
  rintro f cdv A outer s H vs Q E hr ⟨x, b, rfl, r, q⟩
  have nd := sc_checkLog.nd
  refine ⟨_, pss_one (ps_if (PW.pt (pw_or (pt_not (pt_val (pe_is (n := "list") G G.list (pv 0)))) (pw_or1 (pt_not (pt_val (pe_callB (cr_all rfl) (by rfl) G.all (by decide +kernel) (pa_cons
      (pe_lc (own := [("row", 1)]) (g := gName 1) (tt := tYes) rfl nd (pi_list (pv 0)) (blkOk_by (own := [("row", 1)]) (N := ["log", "row"]) (sc := defScope s_check_log) (by decide +kernel))
        (fun _ _ _ _ _ => pg_name (i := 1) nd rfl (Or.inl rfl)) (fun _ _ _ _ _ => pts_nil) (fun _ _ _ _ _ => pe_c Cr hr (by rfl) pass0 (pa_cons (pv 1) pa_nil))) pa_nil)))))))
      (pss_one (ps_rs T rfl (takes_of rfl rfl rfl rfl))) pss_nil), ?_⟩
  cases r with
  | @no t k h =>
    refine ⟨_, rfl, x, t, "list", _, rfl, k, .list, _, rfl, ?_⟩
    rw [decide_eq_false h]
    exact q H (Fr.refl _ _)
  | @lst a xs g e h r z =>
    subst e
    refine ⟨_, rfl, _, _, "list", _, rfl, .lst h, .list, _, rfl, ?_⟩
    refine ⟨_, rfl, a, rfl, ⟨xs, SqL.of h⟩, fun D hD => ?_⟩
    refine lc_listR (K := K) (fun _ => true) (fun x y _ => y = .bl (g x)) (fun _ _ _ _ _ h => h) hD z (fun _ => rfl) (fun x H' Q' _ _ _ h => h H' (Fr.refl _ _)) ?_ ?_ (SqL.of h)
    · intro x H' Q' hx _ fr _ hq
      exact ⟨_, rfl, x, g x, rfl, (r x hx).same fr.same, fun H2 fr2 => hq _ _ fr2 rfl⟩
    · intro H2 ys hD2 fr2 md
      have e : ys = (xs.map g).map V.bl := by
        have e := md.pure (f := fun x => V.bl (g x)) (fun _ _ _ h => h)
        rw [List.filter_eq_self.mpr (fun _ _ => rfl), map_bl] at e
        exact e
      subst e
      refine ⟨D, _, rfl, SqL.of hD2, _, rfl, ?_⟩
      rw [all_map]
      have q := q H2 fr2
      cases c : xs.all g with
      | true => rw [c] at q; exact q
      | false => rw [c] at q; exact q
end

/-! ### copied -/
def rListOf (K : PySem.W.Frag) : List V → Hp → VK → Prop := fun xs H Q => ∃ p ys, xs = [.ref p] ∧ (SqL K H p ys ∨ SqT K H p ys) ∧ ∀ l, H l = none → Q (.ref l) (upd H l (.lst ys))
theorem call_listOf {X : Cx} : CallR X (.type "list") (rListOf X.K) := call_list_of
/-- y is x, or a new list like x -/
def Cpy (H0 H : Hp) (x y : V) : Prop := ((∃ t, Kd H0 x t ∧ t ≠ "list") ∧ y = x) ∨ ∃ a xs p, x = .ref a ∧ H0 a = some (.lst xs) ∧ y = .ref p ∧ H0 p = none ∧ H p = some (.lst xs)
theorem Cpy.same {H0 H H' : Hp} {x y : V} (e : Same H H') (c : Cpy H0 H x y) : Cpy H0 H' x y := by
  rcases c with c | ⟨a, xs, p, h1, h2, h3, h4, h5⟩
  · exact .inl c
  · exact .inr ⟨a, xs, p, h1, h2, h3, h4, e _ _ h5⟩
section
variable {P : Program} {w : World} {K : PySem.W.Frag} {mg : Str → Option Value} {base : Heap}
theorem Made.paired {R : V → V → Hp → Prop} {H : Hp} : ∀ {xs ys : List V}, Made (fun _ => true) R H xs ys → Paired (fun x y => R x y H) xs ys
  | _, _, .nil => .nil
  | _, _, .take _ b c => .cons b (Made.paired c)
  | _, _, .skip a _ => nomatch a
def spCopied : Sp := fun vs H Q _ => ∃ a xs, vs = [.ref a] ∧ H a = some (.tup xs) ∧ xs.length < sizeLine ∧ (∀ y, y ∈ xs → ∃ t, Kd H y t) ∧
  ∀ p ys H', H p = none → H' p = some (.tup ys) → Fr [] H H' → Paired (Cpy H H') xs ys → Q (.ref p) H'
theorem sc_copied : FnScope ["row", "one"] ["row"] (defScope s_copied) := ⟨rfl, rfl, rfl, by decide +kernel, rfl, by decide +kernel, by decide +kernel⟩
theorem ok_copied (F : FunAt K mg "copied" s_copied) (G : NoGl mg) : Cal P w K mg base CX0 1 "copied" ["row"] [] spCopied := by
  refine Cal.mk0 F sc_copied (by rintro _ _ _ _ ⟨_, _, rfl, _⟩; rfl) (fun _ _ _ _ _ _ us hl => match us, hl with | [_], _ => rfl) ?_
  rintro f cdv A outer s H vs Q E hr ⟨a, xs, rfl, h, hz, ks, q⟩
  have nd := sc_copied.nd
  refine ⟨_, pss_one (ps_ret (pe_callTy call_tuple_of (by rfl) G.tuple (by decide +kernel) (pa_cons
      (pe_lc (own := [("one", 1)]) (g := gName 1) (tt := tYes) (te := tIf (tB (tCB rIs (tCons (tVar 1) (tCons (tC (.ty "list")) tNil)))) (tCB (rListOf K) (tCons (tVar 1) tNil)) (tVar 1))
        rfl nd (pi_tup (pv 0)) (blkOk_by (own := [("one", 1)]) (N := ["row", "one"]) (sc := defScope s_copied) (by decide +kernel))
        (fun _ _ _ _ _ => pg_name (i := 1) nd rfl (Or.inl rfl)) (fun _ _ _ _ _ => pts_nil)
        (fun _ _ _ _ _ => pe_ifExp (pt_val (pe_is (n := "list") G G.list (pv 1))) (pe_callTy (T := "list") call_listOf (by rfl) G.list (by decide +kernel) (pa_cons (pv 1) pa_nil)) (pv 1))) pa_nil))), ?_⟩
  refine ⟨_, rfl, a, rfl, ⟨xs, SqT.of h⟩, fun D hD => ?_⟩
  refine lc_tupR (K := K) (fun _ => true) (fun x y H' => Cpy H H' x y) (fun _ _ _ _ e c => c.same e) hD hz (fun _ => rfl) (fun x H' Q' _ _ _ h => h H' (Fr.refl _ _)) ?_ ?_ (SqT.of h)
  · intro x H' Q' hx _ fr ⟨acc, hDa⟩ hq
    obtain ⟨t, k⟩ := ks x hx
    refine ⟨_, rfl, x, t, "list", _, rfl, k.same fr.same, .list, _, rfl, ite2 (fun c => ?_) (fun c => ?_)⟩
    · have c : t = "list" := of_decide_eq_true c
      cases k with
      | @lst b ys e =>
        refine ⟨_, rfl, b, ys, rfl, .inl (SqL.of (fr.same _ _ e)), fun l hl => ?_⟩
        have ne : l ∉ [D] := fun z => ne_of_none hDa hl (List.mem_singleton.mp z).symm
        exact hq _ _ (Fr.new hl) (.inr ⟨b, ys, l, rfl, e, rfl, fr.none hl, by rw [Hd_of ne]; exact upd_same⟩)
      | _ => exact absurd c (by decide)
    · exact ⟨_, rfl, hq _ _ (Fr.refl _ _) (.inl ⟨⟨t, k, fun z => c (decide_eq_true z)⟩, rfl⟩)⟩
  · intro H2 ys hD2 fr2 md
    refine ⟨D, ys, rfl, .inl ⟨SqL.of hD2, fun l hl => ?_⟩⟩
    have fr3 : Fr [] H2 (upd H2 l (.tup ys)) := Fr.new hl
    exact q l ys _ (fr2.none hl) upd_same (fr2.trans fr3) (L2.Paired.mapP md.paired fun x y c => (c.same Hd_same).same fr3.same)
end
end Tk

set_option Elab.async false
set_option linter.all false
set_option maxRecDepth 100000
set_option maxHeartbeats 4000000
namespace Tk
open PySem PySem.Spec PyProof.Rows L2

/-! ### rows of a log, as data -/
structure Rw where
  name : Str
  args : List V
def Rw.vs (r : Rw) : List V := .str r.name :: r.args
def Rw.at (r : Rw) : V := r.args.headD .non
def Rw.is (n : Str) (r : Rw) : Bool := decide (r.name = n)
structure RwAt (H : Hp) (x : V) (r : Rw) : Prop where
  tup : ∃ p, x = .ref p ∧ H p = some (.tup r.vs)
  kd : ∀ y, y ∈ r.args → ∃ t, Kd H y t
  size : sizeV r.name = .int ((r.args.length + 1 : Nat) : Int)
theorem RwAt.same {H H' : Hp} {x : V} {r : Rw} (e : Same H H') (a : RwAt H x r) : RwAt H' x r := by
  obtain ⟨⟨p, h1, h2⟩, h3, h4⟩ := a
  exact ⟨⟨p, h1, e _ _ h2⟩, fun y hy => let ⟨t, k⟩ := h3 y hy; ⟨t, k.same e⟩, h4⟩
theorem lookup_mem {tab : List (Str × Int)} {z : Str} {i : Int} (h : tab.lookup z = some i) : ∃ k, (k, i) ∈ tab := by
  induction tab with
  | nil => cases h
  | cons q r ih =>
    rw [List.lookup_cons] at h
    split at h
    · cases h; exact ⟨q.1, List.mem_cons_self⟩
    · obtain ⟨k, m⟩ := ih h; exact ⟨k, List.mem_cons_of_mem _ m⟩
theorem tab_rng {tab : List (Str × Int)} (ok : tab.all (fun q => decide (2 ≤ q.2 ∧ q.2 ≤ 7)) = true) {z : Str} {i : Int} (h : tab.lookup z = some i) : 2 ≤ i ∧ i ≤ 7 := by
  obtain ⟨k, m⟩ := lookup_mem h
  exact of_decide_eq_true (List.all_eq_true.mp ok _ m)
theorem size_rng {z : Str} {n : Int} (h : sizeV z = .int n) : 2 ≤ n ∧ n ≤ 7 := by
  unfold sizeV at h
  cases e1 : tabA.lookup z with
  | some i =>
    rw [e1] at h
    cases h
    exact tab_rng (by decide) e1
  | none =>
    rw [e1] at h
    cases e2 : tabB.lookup z with
    | some i =>
      rw [e2] at h
      cases h
      exact tab_rng (by decide) e2
    | none =>
      rw [e2] at h
      cases e3 : tabC.lookup z with
      | some i =>
        rw [e3] at h
        cases h
        exact tab_rng (by decide) e3
      | none => rw [e3] at h; cases h
theorem RwAt.args {H : Hp} {x : V} {r : Rw} (a : RwAt H x r) : ∃ y l, r.args = y :: l ∧ r.at = y ∧ l.length ≤ 5 := by
  have z := size_rng a.size
  cases e : r.args with
  | nil => rw [e] at z; simp at z
  | cons y l =>
    rw [e] at z
    refine ⟨y, l, rfl, by unfold Rw.at; rw [e]; rfl, ?_⟩
    simp at z; omega
theorem RwAt.row {H : Hp} {x : V} {r : Rw} (a : RwAt H x r) : RowIs H x true := by
  obtain ⟨⟨p, h1, h2⟩, h3, h4⟩ := a
  have z := size_rng h4
  have e : isRowL r.vs = true := by
    show decide _ = true
    rw [h4]; exact decide_eq_true rfl
  have q := RowIs.tup (x := x) h1 h2 (fun y hy => by cases hy; exact ⟨_, .str _⟩) (by show r.args.length + 1 < 2 ^ 62; omega)
  rw [e] at q; exact q
/-- a log as it comes in -/
inductive LogRs (H : Hp) (x : V) : Option (List Rw) → Prop where
  | bad (h : LogIs H x false) : LogRs H x none
  | ok {a : Addr} {xs : List V} {rs : List Rw} (e : x = .ref a) (h : H a = some (.lst xs)) (z : xs.length < 1000000) (r : Paired (RwAt H) xs rs) : LogRs H x (some rs)
theorem LogRs.log {H : Hp} {x : V} {o : Option (List Rw)} (l : LogRs H x o) : LogIs H x o.isSome := by
  cases l with
  | bad h => exact h
  | @ok a xs rs e h z r =>
    have q := LogIs.lst (x := x) (fun _ => true) e h (fun y hy => by
      clear z h
      induction r with
      | nil => cases hy
      | cons p _ ih =>
        rcases List.mem_cons.mp hy with e | m
        · rw [e]; exact p.row
        · exact ih m) (by rw [sizeLine_eq]; omega)
    rw [show xs.all (fun _ => true) = true by simp] at q
    exact q

theorem RwAt.one {H : Hp} {x : V} {r r' : Rw} (a : RwAt H x r) (b : RwAt H x r') : r = r' := by
  obtain ⟨p, rfl, h⟩ := a.tup
  obtain ⟨p', e, h'⟩ := b.tup
  cases e
  have z := h.symm.trans h'
  cases r
  cases r'
  injection z with z
  injection z with z
  injection z with z1 z2
  injection z1 with z1
  simp only at z1 z2
  rw [z1, z2]
noncomputable def rowOf (H : Hp) (x : V) : Rw := open Classical in if h : ∃ r, RwAt H x r then Classical.choose h else ⟨"", []⟩
theorem rowOf_eq {H : Hp} {x : V} {r : Rw} (a : RwAt H x r) : rowOf H x = r := by
  have h : ∃ r, RwAt H x r := ⟨r, a⟩
  unfold rowOf
  rw [dif_pos h]
  exact (Classical.choose_spec h).one a
theorem Paired.mem {α β : Type} {F : α → β → Prop} : ∀ {xs : List α} {ys : List β}, Paired F xs ys → ∀ {x : α}, x ∈ xs → ∃ y, y ∈ ys ∧ F x y
  | _, _, .cons a b, x, h => by
    rcases List.mem_cons.mp h with e | m
    · exact ⟨_, List.mem_cons_self, e ▸ a⟩
    · obtain ⟨y, h1, h2⟩ := Paired.mem b m
      exact ⟨y, List.mem_cons_of_mem _ h1, h2⟩

theorem Paired.mem' {α β : Type} {F : α → β → Prop} : ∀ {xs : List α} {ys : List β}, Paired F xs ys → ∀ {y : β}, y ∈ ys → ∃ x, F x y
  | _, _, .cons a b, y, h => by
    rcases List.mem_cons.mp h with e | m
    · exact ⟨_, e ▸ a⟩
    · exact Paired.mem' b m

/-! ### what check_cycles asks -/
def isNm (n : Str) : Option Rw → Bool
  | some r => r.is n
  | none => false
def stopPair (p q : Option Rw) : Bool := !(decide (isNm "go" q ≠ isNm "stop" p) && !(isNm "stop" p && q.isNone))
def stopsOk (rs : List Rw) : Bool := ((none :: rs.map some).zip (rs.map some ++ [none])).all fun q => stopPair q.1 q.2
def cycV (rs : List Rw) : List V := (rs.filter fun r => !r.is "go").map Rw.at
def logOk (rs : List Rw) : Bool := cyclesL 0 (cycV rs) && stopsOk rs

def OptAt (H : Hp) (x : V) : Option Rw → Prop
  | none => x = .non
  | some r => RwAt H x r
theorem OptAt.same {H H' : Hp} {x : V} {o : Option Rw} (e : Same H H') (a : OptAt H x o) : OptAt H' x o := by
  cases o with
  | none => exact a
  | some r => exact RwAt.same e a
theorem Paired.get {α β : Type} {F : α → β → Prop} : ∀ {xs : List α} {ys : List β}, Paired F xs ys → ∀ {i : Nat} {x : α}, xs[i]? = some x → ∃ y, ys[i]? = some y ∧ F x y
  | _, _, .nil, i, x, h => by simp at h
  | _, _, .cons a b, 0, x, h => by cases h; exact ⟨_, rfl, a⟩
  | _, _, .cons a b, i + 1, x, h => Paired.get b (i := i) h
theorem Paired.app {α β : Type} {F : α → β → Prop} : ∀ {xs xs' : List α} {ys ys' : List β}, Paired F xs ys → Paired F xs' ys' → Paired F (xs ++ xs') (ys ++ ys')
  | _, _, _, _, .nil, b => b
  | _, _, _, _, .cons a c, b => .cons a (Paired.app c b)
theorem opt_map {H : Hp} : ∀ {xs : List V} {rs : List Rw}, Paired (RwAt H) xs rs → Paired (OptAt H) xs (rs.map some)
  | _, _, .nil => .nil
  | _, _, .cons a b => .cons a (opt_map b)
/-- the rows' filter and map over the references -/
theorem Made.rows {H : Hp} {p : V → Bool} {f : V → V} {pr : Rw → Bool} {fr : Rw → V} (hp : ∀ x r, RwAt H x r → p x = pr r) (hf : ∀ x r, RwAt H x r → f x = fr r) :
    ∀ {xs : List V} {rs : List Rw}, Paired (RwAt H) xs rs → (xs.filter p).map f = (rs.filter pr).map fr
  | _, _, .nil => rfl
  | _, _, .cons (a := x) (b := r) a b => by
    have ih := Made.rows hp hf b
    have e := hp _ _ a
    cases c : pr r with
    | true => rw [List.filter_cons_of_pos (e.trans c), List.filter_cons_of_pos c, List.map_cons, List.map_cons, ih, hf _ _ a]
    | false => rw [List.filter_cons_of_neg (by rw [e, c]; exact Bool.false_ne_true), List.filter_cons_of_neg (by rw [c]; exact Bool.false_ne_true), ih]
end Tk

set_option Elab.async false
set_option linter.all false
set_option maxRecDepth 100000
set_option maxHeartbeats 4000000
namespace Tk
open PySem PySem.Spec PyProof.Rows L2
section
variable {P : Program} {w : World} {K : PySem.W.Frag} {mg : Str → Option Value} {base : Heap} {C : Addr}
def spCheckCycles (C : Addr) : Sp := fun vs H Q E => ∃ x o, vs = [x] ∧ LogRs H x o ∧ ∀ H', Fr [] H H' → if (match o with | none => false | some rs => logOk rs) = true then Q .non H' else E (.ref C) none H'
theorem sc_checkCycles : FnScope ["log", "row", "later", "is_stop", "is_go"] ["log"] (defScope s_check_cycles) := ⟨rfl, rfl, rfl, by decide +kernel, rfl, by decide +kernel, by decide +kernel⟩
theorem row_ix {H : Hp} {x : V} {r : Rw} (a : RwAt H x r) : ∃ p, x = .ref p ∧ SqT K H p r.vs ∧ atI r.vs 0 = some (.str r.name) ∧ atI r.vs 1 = some r.at := by
  obtain ⟨p, e, h⟩ := a.tup
  obtain ⟨y, l, e1, e2, _⟩ := a.args
  refine ⟨p, e, SqT.of h, atI_nat (j := 0) rfl, atI_nat (j := 1) ?_⟩
  unfold Rw.vs
  rw [e1, e2]
  rfl
theorem dec_str {a b : Str} : decide (V.str a = V.str b) = decide (a = b) := by
  by_cases h : a = b
  · subst h; simp
  · rw [decide_eq_false h, decide_eq_false fun z => h (V.str.inj z)]
theorem ev_nm {σ : L2.St} {H : Hp} {x : V} {o : Option Rw} {i : Nat} {n : Str} {Q : VK} (hσ : σ[i]? = some (some x)) (a : OptAt H x o) (q : Q (.bl (isNm n o)) H) :
    tAndV (tNotN (tVar i)) (tOp rEq (tOp (rIxT K) (tVar i) (tC (.int 0))) (tC (.str n))) σ H Q := by
  refine ⟨x, hσ, _, rfl, ?_⟩
  cases o with
  | none =>
    obtain rfl : x = .non := a
    exact q
  | some r =>
    obtain ⟨p, e, st, i0, i1⟩ := row_ix (K := K) (show RwAt H x r from a)
    subst e
    refine ⟨_, hσ, p, _, _, _, rfl, rfl, st, i0, rfl, ?_⟩
    rw [dec_str]
    exact q
theorem stops_at {rs : List Rw} {i : Nat} {o1 o2 : Option Rw} (h1 : (none :: rs.map some)[i]? = some o1) (h2 : (rs.map some ++ [none])[i]? = some o2) (h : stopPair o1 o2 = false) : stopsOk rs = false := by
  have m := List.mem_of_getElem? (zip_get h1 h2)
  cases c : stopsOk rs with
  | false => rfl
  | true =>
    have z := List.all_eq_true.mp c _ m
    rw [h] at z
    cases z
theorem stops_all {rs : List Rw} (h : ∀ (i : Nat) (o1 o2 : Option Rw), (none :: rs.map some)[i]? = some o1 → (rs.map some ++ [none])[i]? = some o2 → stopPair o1 o2 = true) : stopsOk rs = true := by
  refine List.all_eq_true.mpr fun q hq => ?_
  obtain ⟨i, hi⟩ := List.getElem?_of_mem hq
  rw [List.getElem?_zip_eq_some] at hi
  exact h i q.1 q.2 hi.1 hi.2
theorem ok_checkCycles (F : FunAt K mg "check_cycles" s_check_cycles) (G : NoGl mg) (T_NoCall : ExcC K mg "NoCall" C) (C_check_log : Cal P w K mg base (L2.CX P w) 3 "check_log" ["log"] [] (spCheckLog C))
    (C_is_cycles : Cal P w K mg base CX0 2 "is_cycles" ["thing", "least"] [.int 0] spCycles) :
    Cal P w K mg base (L2.CX P w) 4 "check_cycles" ["log"] [] (spCheckCycles C) := by
  refine Cal.mkX F sc_checkCycles (by rintro _ _ _ _ ⟨_, _, rfl, _⟩; rfl) (fun _ _ _ _ _ _ us hl => match us, hl with | [_], _ => rfl) ?_
  rintro f cdv A outer s H vs Q E hr ⟨x, o, rfl, lr, q⟩
  have nd := sc_checkCycles.nd
  refine ⟨_, (pss_cons (ps_expr (pe_c C_check_log (hr.mono (by decide)) (by rfl) (passes_call (takes_of rfl rfl rfl rfl) (fun _ _ _ _ h => h)) (pa_cons (pv 0) pa_nil)))
    (pss_cons (ps_if (pt_not (pt_val (pe_c C_is_cycles (hr.mono (by decide)) (by rfl) pass0 (pa_cons (pe_lc (own := [("row", 1)]) (g := gName 1) (tt := tTest (tOp rNe (tOp (rIxT K) (tVar 1) (tC (.int 0))) (tC (.str "go")))) (te := tOp (rIxT K) (tVar 1) (tC (.int 1))) rfl nd (pi_list (pv 0))
        (blkOk_by (own := [("row", 1)]) (N := ["log", "row", "later", "is_stop", "is_go"]) (sc := defScope s_check_cycles) (by decide +kernel))
        (fun _ _ _ _ _ => (pg_name (i := 1) nd rfl (.inl rfl) (Or.inr rfl))) (fun _ _ _ _ _ => (pts_one (pt_cmpR op_ne (pe_ix ix_tup (pv 1) pe_int (fun _ _ => rfl)) pe_str (nomark _))))
        (fun _ _ _ _ _ => (pe_ix ix_tup (pv 1) pe_int (fun _ _ => rfl)))) pa_nil))))
      (pss_one (ps_rs T_NoCall rfl (takes_of rfl rfl rfl rfl)))
      pss_nil)
    (pss_one (ps_for (passes_of rfl) rfl (pi_zip (by rfl) G.zip (pa_cons (pe_op op_cat (pe_lst (pa_cons pe_non pa_nil)) (pv 0)) (pa_cons (pe_op op_cat (pv 0) (pe_lst (pa_cons pe_non pa_nil))) pa_nil))) (pg_tup rfl (pgs_cons (pg_name (i := 1) nd rfl (.inl rfl)) (pgs_cons (pg_name (i := 2) nd rfl (.inl rfl)) pgs_nil)))
      (pss_cons (ps_set (i := 3) nd rfl (.inl rfl) (pe_and (pe_cmp (pc_notN (pv 1)) rfl) (pe_one (pe_cmpR op_eq (pe_ix ix_tup (pv 1) pe_int (fun _ _ => rfl)) pe_str (nomark _)))))
      (pss_cons (ps_set (i := 4) nd rfl (.inl rfl) (pe_and (pe_cmp (pc_notN (pv 2)) rfl) (pe_one (pe_cmpR op_eq (pe_ix ix_tup (pv 2) pe_int (fun _ _ => rfl)) pe_str (nomark _)))))
      (pss_one (ps_if (PW.pt (pw_and (pt_cmpR op_ne (pv 4) (pv 3) (nomark _)) (pw_and1 (pt_not (PW.pt (pw_and (pt_val (pv 3)) (pw_and1 (pt_cmp (pc_isN (pv 2)) rfl))))))))
        (pss_one (ps_rs T_NoCall rfl (takes_of rfl rfl rfl rfl)))
        pss_nil)))))))), ?_⟩
  refine ⟨_, rfl, _, _, rfl, lr.log, fun H1 fr1 => ?_⟩
  cases lr with
  | bad h => exact q H1 fr1
  | @ok a xs rs e h z r =>
    subst e
    have hz : xs.length < sizeLine := by rw [sizeLine_eq]; omega
    have h1 := fr1.same _ _ h
    have r1 : ∀ {H'}, Fr [] H H' → Paired (RwAt H') xs rs := fun fr => L2.Paired.mapP r fun x y c => c.same fr.same
    refine ⟨_, rfl, a, rfl, ⟨xs, SqL.of h1⟩, fun D hD => ?_⟩
    refine lc_listR (K := K) (fun x => !(rowOf H x).is "go") (fun x y _ => y = (rowOf H x).at) (fun _ _ _ _ _ h => h) hD hz (fun _ => rfl) ?_ ?_ ?_ (SqL.of h1)
    · intro x H' Q' hx fr _ hq
      obtain ⟨y, _, ry⟩ := Paired.mem (r1 (fr1.trans fr)) hx
      obtain ⟨y0, _, ry0⟩ := Paired.mem r hx
      obtain ⟨p, e, st, i0, i1⟩ := row_ix (K := K) ry
      obtain rfl := (ry0.same (fr1.trans fr).same).one ry
      subst e
      refine ⟨_, rfl, p, _, _, _, rfl, rfl, st, i0, rfl, _, rfl, ?_⟩
      rw [dec_str]
      have q2 := hq _ (Fr.refl _ _)
      rw [rowOf_eq ry0] at q2
      exact q2
    · intro x H' Q' hx _ fr _ hq
      obtain ⟨y, _, ry⟩ := Paired.mem (r1 (fr1.trans fr)) hx
      obtain ⟨y0, _, ry0⟩ := Paired.mem r hx
      obtain ⟨p, e, st, i0, i1⟩ := row_ix (K := K) ry
      obtain rfl := (ry0.same (fr1.trans fr).same).one ry
      subst e
      exact ⟨_, rfl, p, _, _, _, rfl, rfl, st, i1, hq _ _ (Fr.refl _ _) (by rw [rowOf_eq ry0])⟩
    · intro H2 ys hD2 fr2 md
      have e := (md.pure (f := fun x => (rowOf H x).at) (fun _ _ _ h => h)).trans (Made.rows (pr := fun r => !r.is "go") (fr := Rw.at) (fun x r a => by rw [rowOf_eq a]) (fun x r a => by rw [rowOf_eq a]) r)
      have fr02 := fr1.trans fr2
      have hk : ∀ y, y ∈ ys → ∃ u, Kd H2 y u := by
        intro y hy
        rw [e] at hy
        obtain ⟨w0, hw, rfl⟩ := List.mem_map.mp hy
        have hw : w0 ∈ rs := (List.mem_filter.mp hw).1
        obtain ⟨x0, rx⟩ := Paired.mem' r hw
        obtain ⟨y, l, e1, e2, _⟩ := rx.args
        obtain ⟨t, k⟩ := rx.kd y (by rw [e1]; exact List.mem_cons_self)
        rw [e2]
        exact ⟨t, k.same fr02.same⟩
      have hzy : ys.length < sizeLine := by
        have := md.len
        omega
      refine ⟨.ref D, 0, "list", rfl, .lst hD2, .inr ⟨D, ys, rfl, hD2, hk, hzy, fun H3 fr3 => ?_⟩⟩
      have fr03 := fr02.trans fr3
      refine ⟨_, rfl, ?_⟩
      rw [e]
      cases c1 : cyclesL 0 ((rs.filter fun r => !r.is "go").map Rw.at) with
      | false =>
        have z : logOk rs = false := by unfold logOk cycV; rw [c1]; rfl
        have q := q H3 fr03
        simp only [z] at q
        exact q
      | true =>
        have zq : logOk rs = stopsOk rs := by unfold logOk cycV; rw [c1]; rfl
        have h3 := fr03.same _ _ h
        have hz2 : xs.length + 1 ≤ sizeLine := by rw [sizeLine_eq]; omega
        refine ⟨(by show 1 ≤ sizeLine; decide), fun p hp => ?_⟩
        have frA : Fr [] H3 (upd H3 p (.lst [V.non])) := Fr.new hp
        refine ⟨_, rfl, p, a, [V.non], xs, rfl, rfl, upd_same, frA.same _ _ h3, (by show 1 + xs.length ≤ sizeLine; omega), fun p2 hp2 => ?_⟩
        have frB : Fr [] (upd H3 p (.lst [V.non])) (upd (upd H3 p (.lst [V.non])) p2 (.lst ([V.non] ++ xs))) := Fr.new hp2
        refine ⟨_, rfl, (by show 1 ≤ sizeLine; decide), fun p3 hp3 => ?_⟩
        have frC := Fr.new (M := []) (o := .lst [V.non]) hp3
        have fr3C := frA.trans (frB.trans frC)
        refine ⟨a, p3, xs, [V.non], rfl, rfl, fr3C.same _ _ h3, upd_same, (by show xs.length + 1 ≤ sizeLine; omega), fun p4 hp4 => ?_⟩
        have frD := Fr.new (M := []) (o := .lst (xs ++ [V.non])) hp4
        have frN := fr3C.trans frD
        have c2 := (frC.trans frD).same p2 _ upd_same
        refine ⟨p2, p4, [V.non] ++ xs, xs ++ [V.non], rfl, SqL.of c2, SqL.of upd_same, ?_⟩
        have all1 : ∀ {H'}, Fr [] H3 H' → Paired (OptAt H') ([V.non] ++ xs) (none :: rs.map some) := fun fr => .cons rfl (opt_map (L2.Paired.mapP r fun x y c => c.same (fr03.trans fr).same))
        have all2 : ∀ {H'}, Fr [] H3 H' → Paired (OptAt H') (xs ++ [V.non]) (rs.map some ++ [none]) := fun fr => Paired.app (opt_map (L2.Paired.mapP r fun x y c => c.same (fr03.trans fr).same)) (.cons rfl .nil)
        refine RZ.for_zipL (K := K) (xs := [V.non] ++ xs) (ys := xs ++ [V.non]) (by simp [Nat.add_comm]) (fun i σ H' => (∃ s1 s2 s3 s4, σ = [some (V.ref a), s1, s2, s3, s4]) ∧ Fr [] _ H' ∧
          ∀ (j : Nat) (o1 o2 : Option Rw), j < i → (none :: rs.map some)[j]? = some o1 → (rs.map some ++ [none])[j]? = some o2 → stopPair o1 o2 = true)
          ⟨⟨_, _, _, _, rfl⟩, Fr.refl _ _, fun _ _ _ z => absurd z (Nat.not_lt_zero _)⟩ ?_ ?_ ?_
        · rintro i σ H' ⟨_, fr, _⟩
          exact ⟨fr.same.seq (SqL.of c2), fr.same.seq (SqL.of upd_same)⟩
        · rintro i x y T2 σ H' hx hy ⟨⟨s1, s2, s3, s4, rfl⟩, fr, old⟩ new
          have frT := Fr.new (M := []) (o := .tup [x, y]) new
          have frE := frN.trans (fr.trans frT)
          obtain ⟨o1, g1, a1⟩ := Paired.get (all1 frE) hx
          obtain ⟨o2, g2, a2⟩ := Paired.get (all2 frE) hy
          refine ⟨T2, [x, y], rfl, SqT.of upd_same, rfl, x, [y], rfl, y, [], rfl, rfl, ?_⟩
          refine ev_nm (K := K) (n := "stop") rfl a1 ?_
          refine ev_nm (K := K) (n := "go") rfl a2 ?_
          refine ⟨_, rfl, _, rfl, by cases isNm "go" o2 <;> cases isNm "stop" o1 <;> rfl, _, rfl, ?_⟩
          have done : stopPair o1 o2 = true → (∃ s1 s2 s3 s4, ([some (V.ref a), some x, some y, some (V.bl (isNm "stop" o1)), some (V.bl (isNm "go" o2))] : L2.St) = [some (V.ref a), s1, s2, s3, s4]) ∧ Fr [] _ (upd H' T2 (.tup [x, y])) ∧
              ∀ (j : Nat) (o1 o2 : Option Rw), j < i + 1 → (none :: rs.map some)[j]? = some o1 → (rs.map some ++ [none])[j]? = some o2 → stopPair o1 o2 = true := fun ok =>
            ⟨⟨_, _, _, _, rfl⟩, fr.trans frT, fun j u1 u2 hj e1 e2 => by
              rcases Nat.lt_succ_iff_lt_or_eq.mp hj with h | rfl
              · exact old j u1 u2 h e1 e2
              · cases g1.symm.trans e1
                cases g2.symm.trans e2
                exact ok⟩
          have bad : stopPair o1 o2 = false → E (.ref C) none (upd H' T2 (.tup [x, y])) := fun z => by
            have zz : logOk rs = false := by rw [zq]; exact stops_at g1 g2 z
            have q := q _ (fr03.trans frE)
            simp only [zz] at q
            exact q
          have n2 : (y = V.non) ↔ o2.isNone = true := by
            cases o2 with
            | none => exact ⟨fun _ => rfl, fun _ => a2⟩
            | some r2 =>
              obtain ⟨p, e, _⟩ := (show RwAt _ y r2 from a2).tup
              subst e
              exact ⟨fun z => (nomatch z), fun z => (nomatch z)⟩
          cases d1 : isNm "stop" o1 <;> cases d2 : isNm "go" o2 <;> rw [d1, d2] at done
          · exact done (by unfold stopPair; rw [d1, d2]; rfl)
          · refine ⟨_, rfl, _, rfl, ?_⟩
            exact bad (by unfold stopPair; rw [d1, d2]; rfl)
          · refine ⟨_, rfl, _, rfl, _, rfl, _, rfl, ?_⟩
            by_cases yn : y = V.non
            · rw [decide_eq_true yn]
              exact done (by unfold stopPair; rw [d1, d2, n2.mp yn]; rfl)
            · rw [decide_eq_false yn]
              have : o2.isNone = false := by
                cases z : o2.isNone with
                | false => rfl
                | true => exact absurd (n2.mpr z) yn
              exact bad (by unfold stopPair; rw [d1, d2, this]; rfl)
          · exact done (by unfold stopPair; rw [d1, d2]; rfl)
        · rintro σ H' ⟨_, fr, old⟩
          have zz : logOk rs = true := by
            rw [zq]
            refine stops_all fun i o1 o2 e1 e2 => old i o1 o2 ?_ e1 e2
            have := (List.getElem?_eq_some_iff.mp e1).1
            have l := PySem.Paired.length r
            simp at this ⊢
            omega
          have q := q _ (fr03.trans (frN.trans fr))
          simp only [zz] at q
          exact q
end
end Tk

set_option Elab.async false
set_option linter.all false
set_option maxRecDepth 100000
set_option maxHeartbeats 4000000
namespace Tk
open PySem PySem.Spec PyProof.Rows L2

/-! ### what with_looks makes -/
def Rw.c (r : Rw) : Int := match r.at with | .int i => i | _ => 0
inductive Out where
  | look (c : Int)
  | row (r : Rw)
def merge : List Rw → List Int → List Out
  | [], ls => ls.map .look
  | r :: rs, ls => if r.is "go" = true then .row r :: merge rs ls else (ls.takeWhile fun c => decide (c ≤ r.c)).map .look ++ .row r :: merge rs (ls.dropWhile fun c => decide (c ≤ r.c))
theorem merge_cons (r : Rw) (rs : List Rw) (ls : List Int) : merge (r :: rs) ls =
    if r.is "go" = true then .row r :: merge rs ls else (ls.takeWhile fun c => decide (c ≤ r.c)).map .look ++ .row r :: merge rs (ls.dropWhile fun c => decide (c ≤ r.c)) := rfl
theorem merge_look {r : Rw} {rs : List Rw} {c : Int} {ls : List Int} (h : r.is "go" = false) (hc : c ≤ r.c) : merge (r :: rs) (c :: ls) = .look c :: merge (r :: rs) ls := by
  rw [merge_cons, merge_cons, h, if_neg Bool.false_ne_true, if_neg Bool.false_ne_true, List.takeWhile_cons_of_pos (by simpa using hc), List.dropWhile_cons_of_pos (by simpa using hc)]
  rfl
theorem merge_row {r : Rw} {rs : List Rw} {ls : List Int} (h : r.is "go" = true ∨ ls = [] ∨ ∃ c l, ls = c :: l ∧ ¬ c ≤ r.c) : merge (r :: rs) ls = .row r :: merge rs ls := by
  rw [merge_cons]
  cases e : r.is "go" with
  | true => rw [if_pos rfl]
  | false =>
    rw [if_neg Bool.false_ne_true]
    rcases h with h | rfl | ⟨c, l, rfl, hc⟩
    · rw [e] at h; cases h
    · simp
    · rw [List.takeWhile_cons_of_neg (by simpa using hc), List.dropWhile_cons_of_neg (by simpa using hc)]
      rfl
def late (rs : List Rw) (ls : List Int) : Bool := match rs.getLast?, ls.getLast? with
  | some r, some c => r.is "stop" && decide (r.c < c)
  | _, _ => false
/-- what stands in the returned list -/
def OutAt (H0 H : Hp) (y : V) : Out → Prop
  | .look c => ∃ q, y = .ref q ∧ H0 q = none ∧ H q = some (.tup [.str "look", .int c])
  | .row r => ∃ q vs, y = .ref q ∧ H0 q = none ∧ H q = some (.tup vs) ∧ Paired (Cpy H0 H) r.vs vs
theorem OutAt.same {H0 H H' : Hp} {y : V} {o : Out} (e : Same H H') (a : OutAt H0 H y o) : OutAt H0 H' y o := by
  cases o with
  | look c => obtain ⟨q, h1, h2, h3⟩ := a; exact ⟨q, h1, h2, e _ _ h3⟩
  | row r => obtain ⟨q, vs, h1, h2, h3, h4⟩ := a; exact ⟨q, vs, h1, h2, e _ _ h3, L2.Paired.mapP h4 fun x y c => c.same e⟩
/-- looks as they come in -/
inductive LooksRs (H : Hp) (y : V) : Option (List Int) → Prop where
  | no {t : String} (k : Kd H y t) (h : t ≠ "list") : LooksRs H y none
  | bad {b : Addr} {xs : List V} (e : y = .ref b) (h : H b = some (.lst xs)) (k : ∀ z, z ∈ xs → ∃ u, Kd H z u) (z : xs.length < sizeLine) (c : cyclesL 0 xs = false) : LooksRs H y none
  | ok {b : Addr} {ls : List Int} (e : y = .ref b) (h : H b = some (.lst (ls.map V.int))) (z : ls.length < 1000000) (c : cyclesL 0 (ls.map V.int) = true) : LooksRs H y (some ls)

theorem Kd.one {H : Hp} {x : V} {t t' : String} (a : Kd H x t) (b : Kd H x t') : t = t' := by
  cases a <;> cases b <;> first | rfl | (rename_i h1 _ h2; cases h1.symm.trans h2)
theorem Cpy.back {H0 H H' : Hp} {x y : V} (fr : Fr [] H0 H) (k : ∃ t, Kd H0 x t) (c : Cpy H H' x y) : Cpy H0 H' x y := by
  obtain ⟨t, k⟩ := k
  rcases c with ⟨⟨t', k', ne⟩, e⟩ | ⟨a, xs, p, rfl, h, e2, hp, h'⟩
  · obtain rfl := (k.same fr.same).one k'
    exact .inl ⟨⟨t, k, ne⟩, e⟩
  · refine .inr ⟨a, xs, p, rfl, ?_, e2, fr.none hp, h'⟩
    cases k with
    | lst e => cases (fr.same _ _ e).symm.trans h; exact e
    | tup e => cases (fr.same _ _ e).symm.trans h
    | dK e => cases (fr.same _ _ e).symm.trans h
theorem if_reading {c : TT} {t u : TS} {D : Ends} {σ : L2.St} {H : Hp} (b : Bool) (hc : ∀ Q : Bool → Hp → Prop, (∀ H', Fr [] H H' → Q b H') → c σ H Q) (h : ∀ H', Fr [] H H' → if b = true then t D σ H' else u D σ H') :
    tIfS c t u D σ H := hc _ h
theorem if_reading2 {c : TT} {t u rest : TS} {D : Ends} {σ : L2.St} {H : Hp} (b : Bool) (hc : ∀ Q : Bool → Hp → Prop, (∀ H', Fr [] H H' → Q b H') → c σ H Q)
    (h : ∀ H', Fr [] H H' → if b = true then t { D with nx := rest D } σ H' else u { D with nx := rest D } σ H') : tSeq (tIfS c t u) rest D σ H := hc _ h
theorem row_int {rs : List Rw} (h : logOk rs = true) {r : Rw} (m : r ∈ rs) (g : r.is "go" = false) : r.at = .int r.c := by
  have c : cyclesL 0 (cycV rs) = true := by
    unfold logOk at h
    exact (Bool.and_eq_true_iff.mp h).1
  have c1 : (cycV rs).all (fun x => wholeV x (.int 0)) = true := (Bool.and_eq_true_iff.mp c).1
  have m2 : r.at ∈ cycV rs := List.mem_map.mpr ⟨r, List.mem_filter.mpr ⟨m, by rw [g]; rfl⟩, rfl⟩
  obtain ⟨i, e⟩ := whole_int (List.all_eq_true.mp c1 _ m2)
  unfold Rw.c
  rw [e]
theorem last_map {α β : Type} (f : α → β) : ∀ (l : List α), (l.map f).getLast? = l.getLast?.map f := fun l => by simp [List.getLast?_map]
theorem paired_last {α β : Type} {F : α → β → Prop} {xs : List α} {ys : List β} (p : Paired F xs ys) {x : α} (h : xs.getLast? = some x) : ∃ y, ys.getLast? = some y ∧ F x y := by
  have l := PySem.Paired.length p
  rw [List.getLast?_eq_getElem?] at h
  obtain ⟨y, e, q⟩ := Paired.get p h
  refine ⟨y, ?_, q⟩
  rw [List.getLast?_eq_getElem?, ← l]
  exact e
end Tk

set_option Elab.async false
set_option linter.all false
set_option maxRecDepth 100000
set_option maxHeartbeats 4000000
namespace Tk
open PySem PySem.Spec PyProof.Rows L2

/-! ### cycles in order -/
theorem zip_le : ∀ {cs : List Int}, cs.Pairwise (· ≤ ·) → (((cs.map V.int).zip ((cs.map V.int).drop 1)).all fun q => leV q.1 q.2) = true
  | [], _ => rfl
  | [c], _ => rfl
  | c :: d :: r, h => by
    have ih := zip_le (cs := d :: r) h.tail
    have h1 : c ≤ d := (List.pairwise_cons.mp h).1 d List.mem_cons_self
    show ((V.int c, V.int d) :: ((d :: r).map V.int).zip (((d :: r).map V.int).drop 1)).all _ = true
    rw [List.all_cons, ih]
    show (decide (c ≤ d) && true) = true
    rw [decide_eq_true h1]
    rfl
theorem cycles_of {cs : List Int} (h0 : ∀ c, c ∈ cs → 0 ≤ c) (h : cs.Pairwise (· ≤ ·)) : cyclesL 0 (cs.map V.int) = true := by
  unfold cyclesL
  rw [zip_le h, Bool.and_true, List.all_eq_true]
  intro x hx
  obtain ⟨c, hc, rfl⟩ := List.mem_map.mp hx
  exact decide_eq_true (h0 c hc)

/-! ### stops and goes -/
def stopsR : Bool → List Rw → Bool
  | _, [] => true
  | p, r :: rs => (r.is "go" == p) && stopsR (r.is "stop") rs
def endStop : Bool → List Rw → Bool
  | p, [] => p
  | _, r :: rs => endStop (r.is "stop") rs
theorem stops_go : ∀ (o : Option Rw) (rs : List Rw), (((o :: rs.map some).zip (rs.map some ++ [none])).all fun q => stopPair q.1 q.2) = stopsR (isNm "stop" o) rs
  | o, [] => by
    show (stopPair o none && true) = true
    unfold stopPair
    cases isNm "stop" o <;> rfl
  | o, r :: rs => by
    have ih := stops_go (some r) rs
    show (stopPair o (some r) && ((some r :: rs.map some).zip (rs.map some ++ [none])).all fun q => stopPair q.1 q.2) = ((r.is "go" == isNm "stop" o) && stopsR (r.is "stop") rs)
    rw [ih]
    have e : stopPair o (some r) = (r.is "go" == isNm "stop" o) := by
      unfold stopPair
      show (!(decide (r.is "go" ≠ isNm "stop" o) && !(isNm "stop" o && false))) = _
      cases r.is "go" <;> cases isNm "stop" o <;> rfl
    rw [e]
    rfl
theorem stopsOk_eq (rs : List Rw) : stopsOk rs = stopsR false rs := stops_go none rs
theorem stopsR_app : ∀ (p : Bool) (xs ys : List Rw), stopsR p (xs ++ ys) = (stopsR p xs && stopsR (endStop p xs) ys)
  | p, [], ys => by simp [stopsR, endStop]
  | p, x :: xs, ys => by
    have ih := stopsR_app (x.is "stop") xs ys
    show ((x.is "go" == p) && stopsR (x.is "stop") (xs ++ ys)) = (((x.is "go" == p) && stopsR (x.is "stop") xs) && stopsR (endStop (x.is "stop") xs) ys)
    rw [ih, Bool.and_assoc]
theorem endStop_app : ∀ (p : Bool) (xs ys : List Rw), endStop p (xs ++ ys) = endStop (endStop p xs) ys
  | _, [], _ => rfl
  | _, x :: xs, ys => endStop_app (x.is "stop") xs ys

/-! ### rows in the making -/
structure Mk0 (rs : List Rw) (at_ : Int) : Prop where
  cyc : ∃ cs : List Int, cycV rs = cs.map V.int ∧ cs.Pairwise (· ≤ ·) ∧ ∀ c, c ∈ cs → 0 ≤ c ∧ c ≤ at_
  st : stopsR false rs = true
  en : endStop false rs = false
theorem Mk0.nil : Mk0 [] 0 := ⟨⟨[], rfl, .nil, fun _ h => nomatch h⟩, rfl, rfl⟩
theorem cyc_app (xs ys : List Rw) : cycV (xs ++ ys) = cycV xs ++ cycV ys := by simp [cycV, List.filter_append, List.map_append]
theorem cyc_snoc {cs : List Int} {a b : Int} (h : cs.Pairwise (· ≤ ·)) (k : ∀ c, c ∈ cs → 0 ≤ c ∧ c ≤ a) (ab : a ≤ b) (h0 : 0 ≤ b) : (cs ++ [b]).Pairwise (· ≤ ·) ∧ ∀ c, c ∈ cs ++ [b] → 0 ≤ c ∧ c ≤ b := by
  refine ⟨List.pairwise_append.mpr ⟨h, List.pairwise_singleton _ _, fun x hx y hy => ?_⟩, fun c hc => ?_⟩
  · obtain rfl := List.mem_singleton.mp hy
    exact Int.le_trans (k x hx).2 ab
  · rcases List.mem_append.mp hc with h | h
    · exact ⟨(k c h).1, Int.le_trans (k c h).2 ab⟩
    · obtain rfl := List.mem_singleton.mp h
      exact ⟨h0, Int.le_refl _⟩
section
variable {rs : List Rw} {a b : Int} {r : Rw}
theorem Mk0.plain (m : Mk0 rs a) (h0 : 0 ≤ a) (ab : a ≤ b) (g : r.is "go" = false) (s : r.is "stop" = false) (e : r.at = .int b) : Mk0 (rs ++ [r]) b := by
  obtain ⟨cs, c1, c2, c3⟩ := m.cyc
  obtain ⟨p1, p2⟩ := cyc_snoc c2 c3 ab (Int.le_trans h0 ab)
  refine ⟨⟨cs ++ [b], ?_, p1, p2⟩, ?_, ?_⟩
  · rw [cyc_app, c1, List.map_append]
    congr 1
    simp [cycV, g, e]
  · rw [stopsR_app, m.st, m.en]
    simp [stopsR, g]
  · rw [endStop_app]; exact s
theorem Mk0.pair {r' : Rw} (m : Mk0 rs a) (h0 : 0 ≤ a) (ab : a ≤ b) (s : r.is "stop" = true) (g : r.is "go" = false) (e : r.at = .int b) (g' : r'.is "go" = true) (s' : r'.is "stop" = false) : Mk0 (rs ++ [r, r']) b := by
  obtain ⟨cs, c1, c2, c3⟩ := m.cyc
  obtain ⟨p1, p2⟩ := cyc_snoc c2 c3 ab (Int.le_trans h0 ab)
  refine ⟨⟨cs ++ [b], ?_, p1, p2⟩, ?_, ?_⟩
  · rw [cyc_app, c1, List.map_append]
    congr 1
    simp [cycV, g, g', e]
  · rw [stopsR_app, m.st, m.en]
    simp [stopsR, g, s, g']
  · rw [endStop_app]; exact s'
/-- what a finished list of rows is -/
structure Mk1 (rs : List Rw) : Prop where
  ok : logOk rs = true
  sorted : ∃ cs : List Int, cycV rs = cs.map V.int ∧ cs.Pairwise (· ≤ ·) ∧ ∀ c, c ∈ cs → 0 ≤ c
theorem Mk0.done (m : Mk0 rs a) : Mk1 rs := by
  obtain ⟨cs, c1, c2, c3⟩ := m.cyc
  refine ⟨?_, cs, c1, c2, fun c h => (c3 c h).1⟩
  unfold logOk
  rw [c1, cycles_of (fun c h => (c3 c h).1) c2, stopsOk_eq, m.st]
  rfl
theorem Mk0.stop (m : Mk0 rs a) (h0 : 0 ≤ a) (ab : a ≤ b) (s : r.is "stop" = true) (g : r.is "go" = false) (e : r.at = .int b) : Mk1 (rs ++ [r]) := by
  obtain ⟨cs, c1, c2, c3⟩ := m.cyc
  obtain ⟨p1, p2⟩ := cyc_snoc c2 c3 ab (Int.le_trans h0 ab)
  have c : cycV (rs ++ [r]) = (cs ++ [b]).map V.int := by
    rw [cyc_app, c1, List.map_append]
    congr 1
    simp [cycV, g, e]
  refine ⟨?_, cs ++ [b], c, p1, fun c h => (p2 c h).1⟩
  unfold logOk
  rw [c, cycles_of (fun c h => (p2 c h).1) p1, stopsOk_eq, stopsR_app, m.st, m.en]
  simp [stopsR, g]
end

/-! ### the law's own way to put looks in -/
def dueGo : List Rw → List Int → List Out × List Int
  | [], left => ([], left)
  | r :: rs, left =>
    let here := left.filter fun c => !r.is "go" && decide (c ≤ r.c)
    let q := dueGo rs (left.drop here.length)
    (here.map .look ++ .row r :: q.1, q.2)
def dueO (rs : List Rw) (ls : List Int) : Option (List Out) :=
  let q := dueGo rs ls
  if (decide (q.2 ≠ []) && (decide (rs ≠ []) && endStop false rs)) = true then none else some (q.1 ++ q.2.map .look)
theorem filter_take : ∀ {ls : List Int} (k : Int), ls.Pairwise (· ≤ ·) → (ls.filter fun c => decide (c ≤ k)) = ls.takeWhile fun c => decide (c ≤ k)
  | [], _, _ => rfl
  | c :: ls, k, h => by
    by_cases hc : c ≤ k
    · rw [List.filter_cons_of_pos (by simpa using hc), List.takeWhile_cons_of_pos (by simpa using hc), filter_take (ls := ls) k h.tail]
    · rw [List.filter_cons_of_neg (by simpa using hc), List.takeWhile_cons_of_neg (by simpa using hc), List.filter_eq_nil_iff.mpr]
      intro d hd
      have := (List.pairwise_cons.mp h).1 d hd
      simp; omega
theorem drop_take {α : Type} (p : α → Bool) : ∀ ls : List α, ls.drop (ls.takeWhile p).length = ls.dropWhile p
  | [] => rfl
  | c :: ls => by
    cases h : p c with
    | true => rw [List.takeWhile_cons_of_pos h, List.dropWhile_cons_of_pos h]; exact drop_take p ls
    | false =>
      have h' : ¬ p c = true := by rw [h]; exact Bool.false_ne_true
      rw [List.takeWhile_cons_of_neg h', List.dropWhile_cons_of_neg h']
      rfl
theorem here_nongo {r : Rw} {ls : List Int} (g : r.is "go" = false) (h : ls.Pairwise (· ≤ ·)) : (ls.filter fun c => !r.is "go" && decide (c ≤ r.c)) = ls.takeWhile fun c => decide (c ≤ r.c) := by
  rw [← filter_take r.c h]
  congr 1
  funext c
  rw [g]; rfl
theorem here_go {r : Rw} {ls : List Int} (g : r.is "go" = true) : (ls.filter fun c => !r.is "go" && decide (c ≤ r.c)) = [] := by
  rw [g]; simp
theorem dropWhile_sorted {ls : List Int} (p : Int → Bool) (h : ls.Pairwise (· ≤ ·)) : (ls.dropWhile p).Pairwise (· ≤ ·) := h.sublist (List.dropWhile_sublist p)
theorem dueGo_go {r : Rw} {rs : List Rw} {ls : List Int} (g : r.is "go" = true) : dueGo (r :: rs) ls = (.row r :: (dueGo rs ls).1, (dueGo rs ls).2) := by
  show ((ls.filter _).map Out.look ++ .row r :: (dueGo rs (ls.drop (ls.filter _).length)).1, (dueGo rs (ls.drop (ls.filter _).length)).2) = _
  rw [here_go g]
  rfl
theorem dueGo_non {r : Rw} {rs : List Rw} {ls : List Int} (g : r.is "go" = false) (h : ls.Pairwise (· ≤ ·)) :
    dueGo (r :: rs) ls = ((ls.takeWhile fun c => decide (c ≤ r.c)).map .look ++ .row r :: (dueGo rs (ls.dropWhile fun c => decide (c ≤ r.c))).1, (dueGo rs (ls.dropWhile fun c => decide (c ≤ r.c))).2) := by
  show ((ls.filter _).map Out.look ++ .row r :: (dueGo rs (ls.drop (ls.filter _).length)).1, (dueGo rs (ls.drop (ls.filter _).length)).2) = _
  rw [here_nongo g h, drop_take]
theorem dueGo_merge : ∀ {rs : List Rw} {ls : List Int}, ls.Pairwise (· ≤ ·) → (dueGo rs ls).1 ++ (dueGo rs ls).2.map .look = merge rs ls
  | [], ls, _ => rfl
  | r :: rs, ls, h => by
    cases g : r.is "go" with
    | true =>
      rw [dueGo_go g, merge_cons, if_pos g]
      show Out.row r :: ((dueGo rs ls).1 ++ _) = _
      rw [dueGo_merge h]
    | false =>
      rw [dueGo_non g h, merge_cons, if_neg (by rw [g]; exact Bool.false_ne_true)]
      show (_ ++ Out.row r :: _) ++ _ = _
      rw [List.append_assoc, List.cons_append, dueGo_merge (dropWhile_sorted _ h)]
theorem dropWhile_dropWhile {c d : Int} (h : c ≤ d) : ∀ ls : List Int, (ls.dropWhile fun x => decide (x ≤ c)).dropWhile (fun x => decide (x ≤ d)) = ls.dropWhile fun x => decide (x ≤ d)
  | [] => rfl
  | x :: ls => by
    by_cases hx : x ≤ c
    · rw [List.dropWhile_cons_of_pos (by simpa using hx), List.dropWhile_cons_of_pos (by simp; omega)]
      exact dropWhile_dropWhile h ls
    · rw [List.dropWhile_cons_of_neg (by simpa using hx)]
theorem left_drop {d : Int} : ∀ {rs : List Rw} {ls : List Int}, ls.Pairwise (· ≤ ·) → (∀ r, r ∈ rs → r.is "go" = false → r.c ≤ d) → ((dueGo rs ls).2.dropWhile fun x => decide (x ≤ d)) = ls.dropWhile fun x => decide (x ≤ d)
  | [], _, _, _ => rfl
  | r :: rs, ls, h, k => by
    cases g : r.is "go" with
    | true =>
      rw [dueGo_go g]
      exact left_drop h fun r' m => k r' (List.mem_cons_of_mem _ m)
    | false =>
      rw [dueGo_non g h]
      show ((dueGo rs _).2.dropWhile _) = _
      rw [left_drop (dropWhile_sorted _ h) fun r' m => k r' (List.mem_cons_of_mem _ m), dropWhile_dropWhile (k r List.mem_cons_self g)]
theorem dueGo_app : ∀ {rs : List Rw} {r : Rw} {ls : List Int}, ls.Pairwise (· ≤ ·) → r.is "go" = false → (dueGo (rs ++ [r]) ls).2 = (dueGo rs ls).2.dropWhile fun x => decide (x ≤ r.c)
  | [], r, ls, h, g => by
    show (dueGo [r] ls).2 = ls.dropWhile _
    rw [dueGo_non g h]
    rfl
  | q :: rs, r, ls, h, g => by
    cases gq : q.is "go" with
    | true =>
      rw [List.cons_append, dueGo_go gq, dueGo_go gq]
      exact dueGo_app h g
    | false =>
      rw [List.cons_append, dueGo_non gq h, dueGo_non gq h]
      exact dueGo_app (dropWhile_sorted _ h) g
theorem dropWhile_last {d : Int} : ∀ {ls : List Int} {c : Int}, ls.Pairwise (· ≤ ·) → ls.getLast? = some c → (decide ((ls.dropWhile fun x => decide (x ≤ d)) ≠ []) = decide (d < c))
  | [], _, _, h => by simp at h
  | [x], c, _, h => by
    have e : x = c := by simpa using h
    subst e
    by_cases hx : x ≤ d
    · rw [List.dropWhile_cons_of_pos (by simpa using hx)]
      simp; omega
    · rw [List.dropWhile_cons_of_neg (by simpa using hx)]
      simp; omega
  | x :: y :: r, c, p, h => by
    have h' : (y :: r).getLast? = some c := by rw [← h]; simp [List.getLast?_cons_cons]
    by_cases hx : x ≤ d
    · rw [List.dropWhile_cons_of_pos (by simpa using hx)]
      exact dropWhile_last p.tail h'
    · rw [List.dropWhile_cons_of_neg (by simpa using hx)]
      have m : c ∈ y :: r := List.mem_of_getLast? h'
      have := (List.pairwise_cons.mp p).1 c m
      simp; omega
theorem endStop_last {rs : List Rw} {r : Rw} : endStop false (rs ++ [r]) = r.is "stop" := by rw [endStop_app]; rfl
theorem due_eq {rs : List Rw} {ls : List Int} (m : Mk1 rs) (h : ls.Pairwise (· ≤ ·)) : dueO rs ls = if late rs ls = true then none else some (merge rs ls) := by
  have e : (decide ((dueGo rs ls).2 ≠ []) && (decide (rs ≠ []) && endStop false rs)) = late rs ls := by
    rcases List.eq_nil_or_concat rs with rfl | ⟨qs, r, rfl⟩
    · simp [late]
    · rw [List.concat_eq_append] at *
      rw [endStop_last]
      unfold late
      rw [List.getLast?_append, List.getLast?_singleton, Option.some_or]
      cases s : r.is "stop" with
      | false => cases ls.getLast? <;> simp [s]
      | true =>
        have g : r.is "go" = false := by
          have z : r.name = "stop" := of_decide_eq_true s
          unfold Rw.is; rw [z]; decide
        rw [dueGo_app h g]
        obtain ⟨cs, c1, c2, _⟩ := m.sorted
        have er : r.at = .int r.c := row_int m.ok (by simp) g
        have k : ∀ r', r' ∈ qs → r'.is "go" = false → r'.c ≤ r.c := by
          intro r' hm g'
          have er' : r'.at = .int r'.c := row_int m.ok (by simp [hm]) g'
          rw [cyc_app] at c1
          have e2 : cycV [r] = [V.int r.c] := by simp [cycV, g, er]
          rw [e2] at c1
          obtain ⟨l1, l2, rfl, e3, e4⟩ := List.map_eq_append_iff.mp c1.symm
          obtain ⟨d, rfl, e5⟩ : ∃ d, l2 = [d] ∧ V.int d = V.int r.c := by
            cases l2 with
            | nil => cases e4
            | cons d t => cases t with
              | nil => exact ⟨d, rfl, by simpa using e4⟩
              | cons _ _ => simp at e4
          cases e5
          have m2 : V.int r'.c ∈ cycV qs := by rw [← er']; exact List.mem_map.mpr ⟨r', List.mem_filter.mpr ⟨hm, by rw [g']; rfl⟩, rfl⟩
          rw [← e3] at m2
          obtain ⟨c0, hc0, e6⟩ := List.mem_map.mp m2
          cases e6
          exact (List.pairwise_append.mp c2).2.2 _ hc0 _ (by simp)
        rw [left_drop h k]
        cases hl : ls.getLast? with
        | none =>
          rw [List.getLast?_eq_none_iff] at hl
          subst hl
          simp
        | some c =>
          rw [dropWhile_last h hl]
          simp [s]
  show (if (decide ((dueGo rs ls).2 ≠ []) && (decide (rs ≠ []) && endStop false rs)) = true then none else some _) = _
  rw [e, dueGo_merge h]
end Tk

set_option Elab.async false
set_option linter.all false
set_option maxRecDepth 100000
set_option maxHeartbeats 4000000
namespace Tk
open PySem PySem.Spec PyProof.Rows L2

/-! ### the draws -/
def mixA (cell k : Int) : Int := cell % 2147483629 + cell / 2147483629 * 30011
def mixB (cell k : Int) : Int := ((mixA cell k + 69621 * k + 1) * 48271) % 2147483629
def mixC (cell k : Int) : Int := (mixB cell k * (mixB cell k / 907 + 16831 + k)) % 2147483587
def mixed (cell k : Int) : Int := (mixC cell k * (mixC cell k / 1201 + 30011)) % 2147483563
theorem mixed_nn (c k : Int) : 0 ≤ mixed c k := Int.emod_nonneg _ (by decide)
def cellAt (ns : List Int) (k : Nat) : Int := ns.getD k 0

section
variable {P : Program} {w : World} {K : PySem.W.Frag} {mg : Str → Option Value} {base : Heap}
def spCellAt (K : PySem.W.Frag) : Sp := fun vs H Q _ => ∃ (a : Addr) (k : Nat) (ns : List Int), vs = [.ref a, .int k] ∧ SqL K H a (ns.map V.int) ∧ Q (.int (cellAt ns k)) H
theorem sc_cellAt : FnScope ["script", "k"] ["script", "k"] (defScope s__law_cell_at) := ⟨rfl, rfl, rfl, by decide +kernel, rfl, by decide +kernel, by decide +kernel⟩
theorem ok_cellAt (F : FunAt K mg "_law_cell_at" s__law_cell_at) (G : NoGl mg) : Cal P w K mg base CX0 1 "_law_cell_at" ["script", "k"] [] (spCellAt K) := by
  refine Cal.mk0 F sc_cellAt (by rintro _ _ _ _ ⟨_, _, _, rfl, _⟩; rfl) (fun _ _ _ _ _ _ us hl => match us, hl with | [_, _], _ => rfl) ?_
  rintro f cdv A outer s H vs Q E hr ⟨a, k, ns, rfl, hs, q⟩
  refine ⟨_, pss_cons (ps_if (pt_cmpR op_lt (pv 1) (pe_callB call_len_seq (by rfl) G.len PySem.boot_len (pa_cons (pv 0) pa_nil)) (nomark _)) (pss_one (ps_ret (pe_ix ix_list (pv 0) (pv 1) (fun _ _ => rfl)))) pss_nil)
    (pss_one (ps_ret pe_int)), ?_⟩
  refine ⟨_, rfl, _, rfl, a, _, rfl, .inl hs, _, _, rfl, rfl, _, rfl, ?_⟩
  refine ite2 (fun h => ?_) (fun h => ?_)
  · have h := of_decide_eq_true h
    have hk : k < ns.length := by simpa using h
    refine ⟨_, rfl, _, rfl, a, _, _, _, rfl, rfl, hs, atI_nat (j := k) (v := V.int ns[k]) (by simp [hk]), ?_⟩
    have e : cellAt ns k = ns[k] := by simp [cellAt, List.getD, hk]
    rw [e] at q; exact q
  · have hk : ns.length ≤ k := by
      have h := mt decide_eq_true h
      simpa using h
    have e : cellAt ns k = 0 := by simp [cellAt, List.getD, hk]
    rw [e] at q; exact q

def spMixed : Sp := fun vs H Q _ => ∃ (c k : Int), vs = [.int c, .int k] ∧ Q (.int (mixed c k)) H
theorem sc_mixed : FnScope ["cell", "k", "low"] ["cell", "k"] (defScope s__law_mixed) := ⟨rfl, rfl, rfl, by decide +kernel, rfl, by decide +kernel, by decide +kernel⟩
theorem small_l {i : Int} (j : Int) (h0 : 0 ≤ i) (h1 : i < 2147483648) : CMul i j := .inl ⟨by omega, by omega⟩
theorem ok_mixed (F : FunAt K mg "_law_mixed" s__law_mixed) (G : NoGl mg) : Cal P w K mg base CX0 1 "_law_mixed" ["cell", "k"] [] spMixed := by
  refine Cal.mk0 F sc_mixed (by rintro _ _ _ _ ⟨_, _, rfl, _⟩; rfl) (fun _ _ _ _ _ _ us hl => match us, hl with | [_, _], _ => rfl) ?_
  rintro f cdv A outer s H vs Q E hr ⟨c, k, rfl, q⟩
  have nd := sc_mixed.nd
  refine ⟨_, pss_cons (ps_set (i := 2) nd rfl (.inl rfl) (pe_op op_add (pe_op op_mod (pe_callTy call_int1 (by rfl) G.int (by decide +kernel) (pa_cons (pv 0) pa_nil)) pe_int) (pe_op op_mul (pe_op op_fdivW (pv 0) pe_int) pe_int)))
    (pss_cons (ps_set (i := 2) nd rfl (.inl rfl) (pe_op op_mod (pe_callTy call_int1 (by rfl) G.int (by decide +kernel) (pa_cons (pe_op op_mul (pe_op op_add (pe_op op_add (pv 2) (pe_op op_mul pe_int (pv 1))) pe_int) pe_int) pa_nil)) pe_int))
    (pss_cons (ps_set (i := 2) nd rfl (.inl rfl) (pe_op op_mod (pe_callTy call_int1 (by rfl) G.int (by decide +kernel) (pa_cons (pe_op op_mul (pv 2) (pe_op op_add (pe_op op_add (pe_op op_fdivW (pv 2) pe_int) pe_int) (pv 1))) pa_nil)) pe_int))
    (pss_one (ps_ret (pe_op op_mod (pe_callTy call_int1 (by rfl) G.int (by decide +kernel) (pa_cons (pe_op op_mul (pv 2) (pe_op op_add (pe_op op_fdivW (pv 2) pe_int) pe_int)) pa_nil)) pe_int))))), ?_⟩
  have w1 : CDivW c 2147483629 := ⟨by decide, by decide⟩
  refine ⟨_, rfl, .inl ⟨_, rfl, _, _, rfl, rfl, (by show (0 : Int) < 2147483629; decide), _, rfl, _, _, rfl, rfl, w1, _, _, rfl, rfl, .inr ⟨by decide, by decide⟩, _, _, rfl, rfl, ?_⟩⟩
  refine ⟨_, rfl, _, rfl, _, _, rfl, rfl, .inl ⟨by decide, by decide⟩, _, _, rfl, rfl, _, _, rfl, rfl, _, _, rfl, rfl, .inr ⟨by decide, by decide⟩, .inl ⟨_, rfl, _, _, rfl, rfl, (by show (0 : Int) < 2147483629; decide), ?_⟩⟩
  have b0 : 0 ≤ mixB c k := Int.emod_nonneg _ (by decide)
  have b1 : mixB c k < 2147483629 := Int.emod_lt_of_pos _ (by decide)
  refine ⟨_, rfl, _, rfl, _, _, rfl, rfl, ⟨by decide, by decide⟩, _, _, rfl, rfl, _, rfl, _, _, rfl, rfl, _, _, rfl, rfl, small_l _ b0 (by exact Int.lt_trans b1 (by decide)), .inl ⟨_, rfl, _, _, rfl, rfl, (by show (0 : Int) < 2147483587; decide), ?_⟩⟩
  have c0 : 0 ≤ mixC c k := Int.emod_nonneg _ (by decide)
  have c1 : mixC c k < 2147483587 := Int.emod_lt_of_pos _ (by decide)
  refine ⟨_, rfl, _, rfl, _, _, rfl, rfl, ⟨by decide, by decide⟩, _, _, rfl, rfl, _, _, rfl, rfl, small_l _ c0 (by exact Int.lt_trans c1 (by decide)), .inl ⟨_, rfl, _, _, rfl, rfl, (by show (0 : Int) < 2147483563; decide), ?_⟩⟩
  exact q

/-- the draws of the k-th thing -/
def srcOf (ns : List Int) (k : Nat) : Int := if k < ns.length then cellAt ns k else mixed (cellAt ns 0) (1000 + k)
def spSource (K : PySem.W.Frag) : Sp := fun vs H Q _ => ∃ (a : Addr) (k : Nat) (ns : List Int), vs = [.ref a, .int k] ∧ SqL K H a (ns.map V.int) ∧
  ∀ p H', H p = none → H' p = some (.lst [.int (srcOf ns k), .int (srcOf ns k), .int 0]) → Fr [] H H' → Q (.ref p) H'
theorem sc_source : FnScope ["script", "k", "cell"] ["script", "k"] (defScope s__law_source) := ⟨rfl, rfl, rfl, by decide +kernel, rfl, by decide +kernel, by decide +kernel⟩
theorem ok_source (F : FunAt K mg "_law_source" s__law_source) (G : NoGl mg) (C1 : Cal P w K mg base CX0 1 "_law_cell_at" ["script", "k"] [] (spCellAt K)) (C2 : Cal P w K mg base CX0 1 "_law_mixed" ["cell", "k"] [] spMixed) :
    Cal P w K mg base CX0 2 "_law_source" ["script", "k"] [] (spSource K) := by
  refine Cal.mk0 F sc_source (by rintro _ _ _ _ ⟨_, _, _, rfl, _⟩; rfl) (fun _ _ _ _ _ _ us hl => match us, hl with | [_, _], _ => rfl) ?_
  rintro f cdv A outer s H vs Q E hr ⟨a, k, ns, rfl, hs, q⟩
  have nd := sc_source.nd
  refine ⟨_, pss_cons (ps_if (pt_cmpR op_lt (pv 1) (pe_callB call_len_seq (by rfl) G.len PySem.boot_len (pa_cons (pv 0) pa_nil)) (nomark _))
      (pss_one (ps_ret (pe_lst (pa_cons (pe_ix ix_list (pv 0) (pv 1) (fun _ _ => rfl)) (pa_cons (pe_ix ix_list (pv 0) (pv 1) (fun _ _ => rfl)) (pa_cons pe_int pa_nil)))))) pss_nil)
    (pss_cons (ps_set (i := 2) nd rfl (.inl rfl) (pe_c C2 hr (by rfl) pass0 (pa_cons (pe_c C1 hr (by rfl) pass0 (pa_cons (pv 0) (pa_cons pe_int pa_nil))) (pa_cons (pe_op op_add pe_int (pv 1)) pa_nil))))
    (pss_one (ps_ret (pe_lst (pa_cons (pv 2) (pa_cons (pv 2) (pa_cons pe_int pa_nil))))))), ?_⟩
  refine ⟨_, rfl, _, rfl, a, _, rfl, .inl hs, _, _, rfl, rfl, _, rfl, ?_⟩
  refine ite2 (fun h => ?_) (fun h => ?_)
  · have h := of_decide_eq_true h
    have hk : k < ns.length := by simpa using h
    have at_ := atI_nat (xs := ns.map V.int) (j := k) (v := V.int (cellAt ns k)) (by simp [cellAt, List.getD, hk])
    refine ⟨_, rfl, _, rfl, a, _, _, _, rfl, rfl, hs, at_, _, rfl, _, rfl, a, _, _, _, rfl, rfl, hs, at_, (by show 3 ≤ sizeLine; decide), fun p hp => ?_⟩
    have e : srcOf ns k = cellAt ns k := if_pos hk
    rw [e] at q
    exact q p _ hp upd_same (Fr.new hp)
  · have hk : ¬ k < ns.length := by
      have h := mt decide_eq_true h
      simpa using h
    refine ⟨_, rfl, a, 0, ns, rfl, hs, _, rfl, _, _, rfl, rfl, _, _, rfl, _, rfl, _, rfl, (by show 3 ≤ sizeLine; decide), fun p hp => ?_⟩
    have e : srcOf ns k = mixed (cellAt ns 0) (1000 + k) := if_neg hk
    rw [e] at q
    exact q p _ hp upd_same (Fr.new hp)

/-- a source: what is left of the number, the number, how many were mixed -/
abbrev srcO (x y z : Int) : HO := .lst [.int x, .int y, .int z]
def nextV (x y z m : Int) : Int := if 10 ^ 18 ≤ x then x % m else mixed y (z + 1) % m
def nextX (x m : Int) : Int := if 10 ^ 18 ≤ x then x / m else x
def nextZ (x z : Int) : Int := if 10 ^ 18 ≤ x then z else z + 1
def spNext : Sp := fun vs H Q _ => ∃ (a : Addr) (x y z m : Int), vs = [.ref a, .int m] ∧ H a = some (srcO x y z) ∧ 0 < m ∧ m < 2 ^ 64 ∧
  ∀ H', H' a = some (srcO (nextX x m) y (nextZ x z)) → Fr [a] H H' → Q (.int (nextV x y z m)) H'
theorem nextV_nn {x y z m : Int} (h : 0 < m) : 0 ≤ nextV x y z m := by unfold nextV; split <;> exact Int.emod_nonneg _ (by omega)
theorem nextV_lt {x y z m : Int} (h : 0 < m) : nextV x y z m < m := by unfold nextV; split <;> exact Int.emod_lt_of_pos _ h
theorem sc_next : FnScope ["source", "many", "found"] ["source", "many"] (defScope s__law_next) := ⟨rfl, rfl, rfl, by decide +kernel, rfl, by decide +kernel, by decide +kernel⟩
theorem ok_next (F : FunAt K mg "_law_next" s__law_next) (G : NoGl mg) (C2 : Cal P w K mg base CX0 1 "_law_mixed" ["cell", "k"] [] spMixed) :
    Cal P w K mg base CX0 2 "_law_next" ["source", "many"] [] spNext := by
  refine Cal.mk0 F sc_next (by rintro _ _ _ _ ⟨_, _, _, _, _, rfl, _⟩; rfl) (fun _ _ _ _ _ _ us hl => match us, hl with | [_, _], _ => rfl) ?_
  rintro f cdv A outer s H vs Q E hr ⟨a, x, y, z, m, rfl, hs, hm, hm2, q⟩
  have nd := sc_next.nd
  refine ⟨_, pss_cons (ps_if (pt_cmpR op_ge (pe_ix ix_list (pv 0) pe_int (fun _ _ => rfl)) (pe_op op_pow pe_int pe_int) (nomark _))
      (pss_cons (ps_set (i := 2) nd rfl (.inl rfl) (pe_op op_mod (pe_callTy call_int1 (by rfl) G.int (by decide +kernel) (pa_cons (pe_ix ix_list (pv 0) pe_int (fun _ _ => rfl)) pa_nil)) (pv 1)))
      (pss_cons (ps_asg (pe_op op_fdivW (pe_ix ix_list (pv 0) pe_int (fun _ _ => rfl)) (pv 1)) (pg_sub (pv 0) pe_int set_list))
      (pss_one (ps_ret (pv 2))))) pss_nil)
    (pss_cons (ps_asg (pe_op op_add (pe_ix ix_list (pv 0) pe_int (fun _ _ => rfl)) pe_int) (pg_sub (pv 0) pe_int set_list))
    (pss_one (ps_ret (pe_op op_mod (pe_callTy call_int1 (by rfl) G.int (by decide +kernel) (pa_cons (pe_c C2 hr (by rfl) pass0 (pa_cons (pe_ix ix_list (pv 0) pe_int (fun _ _ => rfl)) (pa_cons (pe_ix ix_list (pv 0) pe_int (fun _ _ => rfl)) pa_nil))) pa_nil)) (pv 1))))), ?_⟩
  refine ⟨_, rfl, a, _, _, _, rfl, rfl, SqL.of hs, rfl, _, _, rfl, rfl, ⟨by decide, by decide, by decide⟩, _, _, rfl, rfl, _, rfl, ?_⟩
  refine ite2 (fun h => ?_) (fun h => ?_)
  · have h : (10 : Int) ^ 18 ≤ x := of_decide_eq_true h
    refine ⟨_, rfl, a, _, _, _, rfl, rfl, SqL.of hs, rfl, .inl ⟨_, rfl, _, rfl, _, _, rfl, rfl, hm, ?_⟩⟩
    have w1 : CDivW x m := wide_div (b := 64) hm (by omega) (by decide) (by decide)
    refine ⟨_, rfl, a, _, _, _, rfl, rfl, SqL.of hs, rfl, _, rfl, _, _, rfl, rfl, w1, _, rfl, a, _, _, 0, rfl, rfl, hs, rfl, ?_⟩
    refine ⟨_, rfl, ?_⟩
    have e1 : nextV x y z m = x % m := if_pos h
    have e2 : nextX x m = x / m := if_pos h
    have e3 : nextZ x z = z := if_pos h
    rw [e1, e2, e3] at q
    exact q _ upd_same (Fr.set (List.mem_singleton.mpr rfl))
  · have h : ¬ (10 : Int) ^ 18 ≤ x := fun t => h (decide_eq_true t)
    refine ⟨_, rfl, a, _, _, _, rfl, rfl, SqL.of hs, rfl, _, _, rfl, rfl, _, rfl, a, _, _, 2, rfl, rfl, hs, rfl, ?_⟩
    have hs2 : (upd H a (.lst ([V.int x, V.int y, V.int z].set 2 (V.int (z + 1))))) a = some (srcO x y (z + 1)) := upd_same
    refine ⟨_, rfl, a, _, _, _, rfl, rfl, SqL.of hs2, rfl, _, rfl, a, _, _, _, rfl, rfl, SqL.of hs2, rfl, _, _, rfl, .inl ⟨_, rfl, _, rfl, _, _, rfl, rfl, hm, ?_⟩⟩
    have e1 : nextV x y z m = mixed y (z + 1) % m := if_neg h
    have e2 : nextX x m = x := if_neg h
    have e3 : nextZ x z = z + 1 := if_neg h
    rw [e1, e2, e3] at q
    exact q _ hs2 (Fr.set (List.mem_singleton.mpr rfl))
/-- a draw, of which only the bounds are told -/
def spDraw : Sp := fun vs H Q _ => ∃ (a : Addr) (x y z m : Int), vs = [.ref a, .int m] ∧ H a = some (srcO x y z) ∧ 0 < m ∧ m < 2 ^ 64 ∧
  ∀ (d x' z' : Int) (H' : Hp), 0 ≤ d → d < m → H' a = some (srcO x' y z') → Fr [a] H H' → Q (.int d) H'
theorem draw_of {CX : CXT} {k : Nat} (C : Cal P w K mg base CX k "_law_next" ["source", "many"] [] spNext) : Cal P w K mg base CX k "_law_next" ["source", "many"] [] spDraw :=
  C.imp fun vs H Q E ⟨a, x, y, z, m, e, h, m0, m1, q⟩ => ⟨a, x, y, z, m, e, h, m0, m1, fun H' h' fr => q _ _ _ H' (nextV_nn m0) (nextV_lt m0) h' fr⟩
end
end Tk

set_option Elab.async false
set_option linter.all false
set_option maxRecDepth 100000
set_option maxHeartbeats 4000000
namespace Tk
open PySem PySem.Spec PyProof.Rows L2

/-! ### data that stands in the tracked heap -/
mutual
inductive Dd (H : Hp) : V → PyData → Prop
  | non : Dd H .non .none
  | bl (b : Bool) : Dd H (.bl b) (.bool b)
  | int (i : Int) : Dd H (.int i) (.int i)
  | str (x : Str) : Dd H (.str x) (.str x)
  | lst {a : Addr} {xs : List V} {ds : List PyData} : H a = some (.lst xs) → DdAll H xs ds → Dd H (.ref a) (.list ds)
  | tup {a : Addr} {xs : List V} {ds : List PyData} : H a = some (.tup xs) → DdAll H xs ds → Dd H (.ref a) (.tuple ds)
inductive DdAll (H : Hp) : List V → List PyData → Prop
  | nil : DdAll H [] []
  | cons {v : V} {vs : List V} {d : PyData} {ds : List PyData} : Dd H v d → DdAll H vs ds → DdAll H (v :: vs) (d :: ds)
end
section
variable {K : PySem.W.Frag} {H H' : Hp}
mutual
theorem Dd.dp : ∀ {v : V} {d : PyData}, Dd H v d → Dp K H v d
  | _, _, .non => .non
  | _, _, .bl b => .bl b
  | _, _, .int i => .int i
  | _, _, .str x => .str x
  | _, _, .lst s h => .lst (SqL.of s) (DdAll.dp h)
  | _, _, .tup s h => .tup (SqT.of s) (DdAll.dp h)
theorem DdAll.dp : ∀ {vs : List V} {ds : List PyData}, DdAll H vs ds → DpAll K H vs ds
  | _, _, .nil => .nil
  | _, _, .cons a b => .cons (Dd.dp a) (DdAll.dp b)
end
mutual
theorem Dd.same (e : Same H H') : ∀ {v : V} {d : PyData}, Dd H v d → Dd H' v d
  | _, _, .non => .non
  | _, _, .bl b => .bl b
  | _, _, .int i => .int i
  | _, _, .str x => .str x
  | _, _, .lst s h => .lst (e _ _ s) (DdAll.same e h)
  | _, _, .tup s h => .tup (e _ _ s) (DdAll.same e h)
theorem DdAll.same (e : Same H H') : ∀ {vs : List V} {ds : List PyData}, DdAll H vs ds → DdAll H' vs ds
  | _, _, .nil => .nil
  | _, _, .cons a b => .cons (Dd.same e a) (DdAll.same e b)
end
mutual
theorem Dd.one : ∀ {v : V} {d d' : PyData}, Dd H v d → Dd H v d' → d = d'
  | _, _, _, .non, h => by cases h; rfl
  | _, _, _, .bl b, h => by cases h; rfl
  | _, _, _, .int i, h => by cases h; rfl
  | _, _, _, .str x, h => by cases h; rfl
  | _, _, _, .lst s a, h => by
    cases h with
    | lst s' a' => cases s.symm.trans s'; rw [DdAll.one a a']
    | tup s' a' => cases s.symm.trans s'
  | _, _, _, .tup s a, h => by
    cases h with
    | lst s' a' => cases s.symm.trans s'
    | tup s' a' => cases s.symm.trans s'; rw [DdAll.one a a']
theorem DdAll.one : ∀ {vs : List V} {ds ds' : List PyData}, DdAll H vs ds → DdAll H vs ds' → ds = ds'
  | _, _, _, .nil, h => by cases h; rfl
  | _, _, _, .cons a b, h => by
    cases h with
    | cons a' b' => rw [Dd.one a a', DdAll.one b b']
end
theorem DdAll.app : ∀ {xs ys : List V} {ds es : List PyData}, DdAll H xs ds → DdAll H ys es → DdAll H (xs ++ ys) (ds ++ es)
  | _, _, _, _, .nil, b => b
  | _, _, _, _, .cons a c, b => .cons a (DdAll.app c b)
theorem DdAll.ints : ∀ ns : List Int, DdAll H (ns.map V.int) (ns.map PyData.int)
  | [] => .nil
  | n :: ns => .cons (.int n) (DdAll.ints ns)
theorem DdAll.strs : ∀ ns : List Str, DdAll H (ns.map V.str) (ns.map PyData.str)
  | [] => .nil
  | n :: ns => .cons (.str n) (DdAll.strs ns)
end
/-- the data of a value -/
noncomputable def dOf (H : Hp) (v : V) : PyData := open Classical in if h : ∃ d, Dd H v d then Classical.choose h else .none
theorem dOf_eq {H : Hp} {v : V} {d : PyData} (h : Dd H v d) : dOf H v = d := by
  have e : ∃ d, Dd H v d := ⟨d, h⟩
  unfold dOf
  rw [dif_pos e]
  exact (Classical.choose_spec e).one h
theorem dOf_at {H : Hp} {v : V} (h : ∃ d, Dd H v d) : Dd H v (dOf H v) := by
  obtain ⟨d, h⟩ := h
  rw [dOf_eq h]; exact h

/-! ### small data: its text fits -/
mutual
def okD : PyData → Bool
  | .none | .bool _ => true
  | .int i => decide (i.natAbs < 10 ^ 40)
  | .str x => decide (x.length ≤ 64) && x.cps.toList.all fun c => decide (c < 128)
  | .list xs | .tuple xs => okDs xs
  | .dict _ => false
def okDs : List PyData → Bool
  | [] => true
  | x :: xs => okD x && okDs xs
end
mutual
def nodes : PyData → Nat
  | .none | .bool _ | .int _ | .str _ | .dict _ => 1
  | .list xs | .tuple xs => 1 + nodesAll xs
def nodesAll : List PyData → Nat
  | [] => 0
  | x :: xs => nodes x + nodesAll xs
end
theorem nodes_pos : ∀ d : PyData, 1 ≤ nodes d
  | .none | .bool _ | .int _ | .str _ | .dict _ => by simp only [nodes]; omega
  | .list xs | .tuple xs => by simp only [nodes]; omega
theorem nodesAll_len : ∀ ds : List PyData, ds.length ≤ nodesAll ds
  | [] => Nat.zero_le _
  | d :: ds => by
    have h1 := nodes_pos d
    have h2 := nodesAll_len ds
    simp only [nodesAll, List.length_cons]; omega
theorem shownAll_len : ∀ ds : List PyData, (PyData.shownAll ds).length = ds.length
  | [] => by simp only [PyData.shownAll, List.length_nil]
  | d :: ds => by simp only [PyData.shownAll, List.length_cons, shownAll_len ds]
mutual
theorem shown_okD : ∀ d : PyData, okD d = true → d.shown.length + 5 ≤ 1000 * nodes d
  | .none, _ => by
    have e : (PyData.shown .none).length = 4 := rfl
    simp only [nodes]; omega
  | .bool b, _ => by
    have e : (PyData.shown (.bool b)).length ≤ 5 := by cases b <;> decide
    simp only [nodes]; omega
  | .int i, h => by
    have h : i.natAbs < 10 ^ 40 := by simpa only [okD, decide_eq_true_eq] using h
    have e := int_text_length_le10 (k := 40) (by decide) h
    have e2 : (PyData.shown (.int i)).length ≤ 41 := by
      show (Str.ofString (toString i)).length ≤ 41
      rw [PySem.ofString_length]; exact e
    simp only [nodes]; omega
  | .str x, h => by
    simp only [okD, Bool.and_eq_true, decide_eq_true_eq, List.all_eq_true] at h
    have e := StrLaws.reprText_len x fun c hc => Nat.lt_trans (h.2 c hc) (by decide)
    have e2 : (PyData.shown (.str x)).length ≤ 10 * x.length + 2 := by rw [PyData.shown]; exact e
    simp only [nodes]; omega
  | .list xs, h => by
    have h : okDs xs = true := by simpa only [okD] using h
    have e := shownAll_okD xs h
    have l := listText_len_le (PyData.shownAll xs)
    rw [shownAll_len] at l
    simp only [PyData.shown, nodes]; omega
  | .tuple xs, h => by
    have h : okDs xs = true := by simpa only [okD] using h
    have e := shownAll_okD xs h
    have l := tupleText_len_le (PyData.shownAll xs)
    rw [shownAll_len] at l
    simp only [PyData.shown, nodes]; omega
  | .dict _, h => by simp [okD] at h
theorem shownAll_okD : ∀ ds : List PyData, okDs ds = true → ((PyData.shownAll ds).map (·.length)).sum + 5 * ds.length ≤ 1000 * nodesAll ds
  | [], _ => by simp [PyData.shownAll]
  | d :: ds, h => by
    simp only [okDs, Bool.and_eq_true] at h
    have e1 := shown_okD d h.1
    have e2 := shownAll_okD ds h.2
    simp only [PyData.shownAll, List.map_cons, List.sum_cons, List.length_cons, nodesAll]; omega
end
mutual
theorem okD_showable : ∀ d : PyData, okD d = true → d.showable = true
  | .none, _ => by simp only [PyData.showable]
  | .bool b, _ => by simp only [PyData.showable]
  | .int i, h => by
    have h : i.natAbs < 10 ^ 40 := by simpa only [okD, decide_eq_true_eq] using h
    simp only [PyData.showable, decide_eq_true_eq]
    by_cases z : i.natAbs = 0
    · rw [z]; decide
    · exact (Nat.log2_lt z).mpr (Nat.lt_of_lt_of_le h (Nat.le_trans (by decide : 10 ^ 40 ≤ 2 ^ 140) (Nat.pow_le_pow_right (by decide) (by decide))))
  | .str x, _ => by simp only [PyData.showable]
  | .list xs, h => by simp only [PyData.showable]; exact okDs_showable xs (by simpa only [okD] using h)
  | .tuple xs, h => by simp only [PyData.showable]; exact okDs_showable xs (by simpa only [okD] using h)
  | .dict _, h => by simp [okD] at h
theorem okDs_showable : ∀ ds : List PyData, okDs ds = true → PyData.showableAll ds = true
  | [], _ => by simp only [PyData.showableAll]
  | d :: ds, h => by
    simp only [okDs, Bool.and_eq_true] at h
    simp only [PyData.showableAll, okD_showable d h.1, okDs_showable ds h.2, Bool.and_self]
end
theorem shown_fits {d : PyData} (h : okD d = true) (n : nodes d ≤ 16000) : d.shown.length ≤ sizeLine := by
  have e := shown_okD d h
  rw [sizeLine_eq]; omega
/-- repr of small data -/
theorem repr_at {K : PySem.W.Frag} {H : Hp} {v : V} {d : PyData} {Q : VK} (h : Dd H v d) (ok : okD d = true) (n : nodes d ≤ 16000) (dp : d.depth ≤ 60) (q : Q (.str d.shown) H) : rRepr K [v] H Q :=
  ⟨v, d, rfl, h.dp, okD_showable d ok, dp, shown_fits ok n, q⟩
end Tk

set_option Elab.async false
set_option linter.all false
set_option maxRecDepth 100000
set_option maxHeartbeats 4000000
namespace Tk
open PySem PySem.Spec PyProof.Rows L2

/-! ### the law's table of sizes -/
def szA : List (Str × Int) := [("look", 1), ("read", 2), ("set_rate", 2), ("set_real", 2), ("slew", 3), ("stop", 2), ("go", 1), ("put", 6),
  ("drop", 2)]
def szB : List (Str × Int) := [("expired", 2), ("take", 1), ("put_tick", 3), ("hand_over", 3), ("process", 1), ("thread", 2),
  ("run", 4)]
def szC : List (Str × Int) := [("join", 3), ("leave", 2), ("sleep", 3), ("limit", 3), ("waiting", 2), ("running", 2),
  ("sampled", 2)]
def lawSizes : List (Str × Int) := szA ++ szB ++ szC
def toKV (l : List (Str × Int)) : List (Key × V) := l.map fun q => ((Sum.inr q.1 : Key), V.int q.2)
theorem valV_none {kvs : List (Key × V)} {k : Key} (h : k ∉ kvs.map (·.1)) : valV kvs k = none := by
  induction kvs with
  | nil => rfl
  | cons p r ih =>
    rw [List.map_cons, List.mem_cons, not_or] at h
    rw [valV_neg fun z => h.1 z.symm]
    exact ih h.2
theorem merge_new : ∀ {more kvs : List (Key × V)}, ((kvs ++ more).map (·.1)).Nodup → mergeK kvs more = kvs ++ more
  | [], kvs, _ => by rw [List.append_nil]; rfl
  | p :: r, kvs, h => by
    have e : putK kvs p.1 p.2 = kvs ++ [p] := by
      refine putK_new _ (valV_none fun m => ?_)
      rw [List.map_append, List.nodup_append] at h
      exact h.2.2 _ m p.1 (by simp) rfl
    show mergeK (putK kvs p.1 p.2) r = _
    rw [e, merge_new (by rw [List.append_assoc]; exact h), List.append_assoc]
    rfl
theorem keys_kv (l : List (Str × Int)) : (toKV l).map (·.1) = (l.map (·.1)).map Sum.inr := by simp [toKV, List.map_map]
theorem nodup_kv {l : List (Str × Int)} (h : (l.map (·.1)).Nodup) : ((toKV l).map (·.1)).Nodup := by
  rw [keys_kv]
  exact List.Pairwise.map _ (fun _ _ n z => n (Sum.inr.inj z)) h
theorem kv_app (a b : List (Str × Int)) : toKV (a ++ b) = toKV a ++ toKV b := by simp [toKV]
theorem sz_nodup : (lawSizes.map (·.1)).Nodup := by decide +kernel
theorem szAB_nodup : ((szA ++ szB).map (·.1)).Nodup := by decide +kernel
theorem szA_nodup : (szA.map (·.1)).Nodup := by decide +kernel
theorem szB_nodup : (szB.map (·.1)).Nodup := by decide +kernel
theorem szC_nodup : (szC.map (·.1)).Nodup := by decide +kernel
theorem mrg0 {l : List (Str × Int)} (h : (l.map (·.1)).Nodup) : mergeK [] (toKV l) = toKV l := merge_new (kvs := []) (nodup_kv h)
theorem mrg1 : mergeK (toKV szA) (toKV szB) = toKV (szA ++ szB) := by rw [kv_app]; exact merge_new (by rw [← kv_app]; exact nodup_kv szAB_nodup)
theorem mrg2 : mergeK (toKV (szA ++ szB)) (toKV szC) = toKV lawSizes := by
  show _ = toKV (szA ++ szB ++ szC)
  rw [kv_app (szA ++ szB) szC]
  exact merge_new (by rw [← kv_app]; exact nodup_kv sz_nodup)
theorem sz_val {q : Str × Int} (h : q ∈ lawSizes) : valV (toKV lawSizes) (Sum.inr q.1) = some (.int q.2) := by
  have ok : (lawSizes.all fun q => decide (valV (toKV lawSizes) (Sum.inr q.1) = some (.int q.2))) = true := by decide +kernel
  exact of_decide_eq_true (List.all_eq_true.mp ok _ h)
theorem sz_size {q : Str × Int} (h : q ∈ lawSizes) : sizeV q.1 = .int (q.2 + 1) ∧ 1 ≤ q.2 ∧ q.2 ≤ 6 := by
  have ok : (lawSizes.all fun q => decide (sizeV q.1 = .int (q.2 + 1) ∧ 1 ≤ q.2 ∧ q.2 ≤ 6)) = true := by decide +kernel
  exact of_decide_eq_true (List.all_eq_true.mp ok _ h)
section
variable {P : Program} {w : World} {K : PySem.W.Frag} {mg : Str → Option Value} {base : Heap}
def spSizes : Sp := fun vs H Q _ => vs = [] ∧ ∀ d H', H d = none → H' d = some (.dK (toKV lawSizes)) → Fr [] H H' → Q (.ref d) H'
theorem sc_sizes : FnScope ["found"] [] (defScope s__law_sizes) := ⟨rfl, rfl, rfl, by decide +kernel, rfl, by decide +kernel, by decide +kernel⟩
theorem ok_sizes (F : FunAt K mg "_law_sizes" s__law_sizes) : Cal P w K mg base CX0 1 "_law_sizes" [] [] spSizes := by
  refine Cal.mk0 F sc_sizes (by rintro _ _ _ _ ⟨rfl, _⟩; rfl) (fun _ _ _ _ _ _ us hl => match us, hl with | [], _ => rfl) ?_
  rintro f cdv A outer s H vs Q E hr ⟨rfl, q⟩
  have nd := sc_sizes.nd
  refine ⟨_, (pss_cons (ps_set (i := 0) nd rfl (.inl rfl) (pe_disp (pps_cons pe_str pe_int (pps_cons pe_str pe_int (pps_cons pe_str pe_int (pps_cons pe_str pe_int (pps_cons pe_str pe_int (pps_cons pe_str pe_int (pps_cons pe_str pe_int (pps_cons pe_str pe_int (pps_cons pe_str pe_int pps_nil))))))))) (by rfl) (by rfl) (fun z => by cases z) (by decide)))
    (pss_cons (ps_expr (pe_bm PySem.F.plainAttrs_dict PySem.F.slot_dict_update PySem.F.type_dict_update mt_update (pv 0) (pa_cons (pe_disp (pps_cons pe_str pe_int (pps_cons pe_str pe_int (pps_cons pe_str pe_int (pps_cons pe_str pe_int (pps_cons pe_str pe_int (pps_cons pe_str pe_int (pps_cons pe_str pe_int pps_nil))))))) (by rfl) (by rfl) (fun z => by cases z) (by decide)) pa_nil)))
    (pss_cons (ps_expr (pe_bm PySem.F.plainAttrs_dict PySem.F.slot_dict_update PySem.F.type_dict_update mt_update (pv 0) (pa_cons (pe_disp (pps_cons pe_str pe_int (pps_cons pe_str pe_int (pps_cons pe_str pe_int (pps_cons pe_str pe_int (pps_cons pe_str pe_int (pps_cons pe_str pe_int (pps_cons pe_str pe_int pps_nil))))))) (by rfl) (by rfl) (fun z => by cases z) (by decide)) pa_nil)))
    (pss_one (ps_ret (pv 0)))))), ?_⟩
  intro d hd
  have f1 : Fr [] H (upd H d (.dK [])) := Fr.new hd
  have f2 : Fr [d] (upd H d (.dK [])) (upd (upd H d (.dK [])) d (.dK (mergeK [] (toKV szA)))) := Fr.set (List.mem_singleton.mpr rfl)
  have n1 := Fr.drop (f1.weak.trans f2) hd
  refine ⟨upd_same, toKV szA, rfl, (by decide), ?_⟩
  rw [mrg0 szA_nodup] at n1 ⊢
  refine ⟨_, rfl, .inr (.inr (.inl ⟨rfl, .inl ⟨_, upd_same⟩⟩)), fun p hp => ?_⟩
  have np : d ≠ p := ne_of_none upd_same hp
  have f3 := Fr.new (M := [d]) (o := .dK []) hp
  refine ⟨upd_same, toKV szB, rfl, (by decide), ?_⟩
  rw [mrg0 szB_nodup]
  refine ⟨d, p, _, _, rfl, rfl, np, by rw [upd_ne np, upd_ne np]; exact upd_same, upd_same, (by decide), ?_⟩
  rw [mrg1]
  refine ⟨_, rfl, .inr (.inr (.inl ⟨rfl, .inl ⟨_, upd_same⟩⟩)), fun p2 hp2 => ?_⟩
  have np2 : d ≠ p2 := ne_of_none upd_same hp2
  refine ⟨upd_same, toKV szC, rfl, (by decide), ?_⟩
  rw [mrg0 szC_nodup]
  refine ⟨d, p2, _, _, rfl, rfl, np2, by rw [upd_ne np2, upd_ne np2]; exact upd_same, upd_same, (by decide), ?_⟩
  rw [mrg2]
  refine ⟨_, rfl, q d _ hd upd_same ?_⟩
  refine Fr.drop (n1.weak.trans ?_) hd
  have g1 : ∀ {H : Hp} {o : HO}, Fr [d] H (upd H d o) := Fr.set (List.mem_singleton.mpr rfl)
  exact (Fr.drop ((Fr.new hp).weak.trans (Fr.set (List.mem_cons_self))) hp).trans (g1.trans ((Fr.drop ((Fr.new hp2).weak.trans (Fr.set (List.mem_cons_self))) hp2).trans g1))
end
end Tk

set_option Elab.async false
set_option linter.all false
set_option maxRecDepth 100000
set_option maxHeartbeats 4000000
namespace Tk
open PySem PySem.Spec PyProof.Rows L2

/-! ### the law's rows -/
/-- a row of ints -/
def GoodRw (r : Rw) : Prop := ∃ (q : Str × Int) (ns : List Int), q ∈ lawSizes ∧ r = ⟨q.1, ns.map V.int⟩ ∧ (ns.length : Int) = q.2 ∧ ∀ i, i ∈ ns → 0 ≤ i ∧ i < 10 ^ 13
theorem rwAt_of {H : Hp} {p : Addr} {q : Str × Int} {ns : List Int} (m : q ∈ lawSizes) (l : (ns.length : Int) = q.2) (h : H p = some (.tup (.str q.1 :: ns.map V.int))) : RwAt H (.ref p) ⟨q.1, ns.map V.int⟩ := by
  refine ⟨⟨p, rfl, h⟩, fun y hy => ?_, ?_⟩
  · obtain ⟨i, _, rfl⟩ := List.mem_map.mp hy
    exact ⟨_, .int i⟩
  · rw [(sz_size m).1]
    simp only [List.length_map]
    congr 1
    omega
theorem eqv_str (a b : Str) : eqV (.str a) (.str b) = decide (a = b) := by
  show (a == b) = _
  by_cases h : a = b
  · subst h; simp
  · rw [decide_eq_false h]; exact beq_eq_false_iff_ne.mpr h
theorem in_goStop (n : Str) : inV (.str n) [.str "go", .str "stop"] = (decide (n = "go") || decide (n = "stop")) := by
  show (eqV (.str "go") (.str n) || (eqV (.str "stop") (.str n) || false)) = _
  rw [eqv_str, eqv_str, Bool.or_false]
  congr 1 <;> (congr 1; exact propext ⟨Eq.symm, Eq.symm⟩)
theorem go_mem : (("go", 1) : Str × Int) ∈ lawSizes := by decide +kernel
theorem stop_mem : (("stop", 2) : Str × Int) ∈ lawSizes := by decide +kernel
/-- what the loop over the turns keeps -/
structure RowsI (H : Hp) (a pn : Addr) (y span : Int) (names : List Str) (i : Nat) (fo : Addr) (at_ : Int) (H' : Hp) : Prop where
  src : ∃ x z, H' a = some (srcO x y z)
  nm : H' pn = some (.lst (names.map V.str))
  ls : ∃ xs rs, H' fo = some (.lst xs) ∧ Paired (RwAt (Hd [a, fo] H')) xs rs ∧ (∀ r, r ∈ rs → GoodRw r) ∧ Mk0 rs at_ ∧ rs.length ≤ 2 * i
  new : H fo = none
  nfa : fo ≠ a
  npf : pn ≠ fo
  fr : Fr [a] H H'
  rng : 0 ≤ at_ ∧ at_ ≤ i * span
theorem hd_move {H' H2 : Hp} {a fo p : Addr} (fr : Fr [a] H' H2) (n : H' p = none) : Same (Hd [a, fo] H') (Hd [a, p] H2) := by
  intro b o h
  obtain ⟨m, h⟩ := of_Hd h
  have na : b ≠ a := fun z => m (by simp [z])
  have np : b ≠ p := ne_of_none h n
  rw [Hd_of (by simp [na, np])]
  exact fr.at h (by simpa using na)
section
variable {P : Program} {w : World} {K : PySem.W.Frag} {mg : Str → Option Value} {base : Heap}
def spRows : Sp := fun vs H Q _ => ∃ (a : Addr) (x y z span : Int) (many : Nat), vs = [.ref a, .int span, .int many] ∧ H a = some (srcO x y z) ∧ 0 < span ∧ span ≤ 10 ^ 10 ∧ many ≤ 16 ∧
  ∀ p xs rs H', H p = none → p ≠ a → H' p = some (.lst xs) → (∃ x z, H' a = some (srcO x y z)) → Fr [a] H H' → Paired (RwAt (Hd [a] H')) xs rs → (∀ r, r ∈ rs → GoodRw r) → Mk1 rs → rs.length ≤ 40 → Q (.ref p) H'
theorem sc_rows : FnScope ["source", "span", "many", "names", "turn", "found", "at", "name", "place"] ["source", "span", "many"] (defScope s__law_rows) := ⟨rfl, rfl, rfl, by decide +kernel, rfl, by decide +kernel, by decide +kernel⟩
theorem ok_rows (F : FunAt K mg "_law_rows" s__law_rows) (G : NoGl mg) (C__law_sizes : Cal P w K mg base CX0 1 "_law_sizes" [] [] spSizes) (C__law_next : Cal P w K mg base CX0 2 "_law_next" ["source", "many"] [] spDraw) :
    Cal P w K mg base CX0 3 "_law_rows" ["source", "span", "many"] [] spRows := by
  refine Cal.mk0 F sc_rows (by rintro _ _ _ _ ⟨_, _, _, _, _, _, rfl, _⟩; rfl) (fun _ _ _ _ _ _ us hl => match us, hl with | [_, _, _], _ => rfl) ?_
  rintro f cdv A outer s H vs Q E hr ⟨a, x, y, z, span, many, rfl, hs, sp0, sp1, hm, q⟩
  have nd := sc_rows.nd
  have hu1 := hu_of hr
  refine ⟨_, (pss_cons (ps_set (i := 3) nd rfl (.inl rfl) (pe_callB (call_sortedD rfl) (by rfl) G.sorted (by decide +kernel) (pa_cons (pe_c0 C__law_sizes (hr.mono (by decide)) (by rfl) pass0) pa_nil)))
    (pss_cons (ps_par (i := 5) (j := 6) (by rfl) nd rfl rfl (by decide) rfl rfl (pa_cons (pe_lst pa_nil) (pa_cons pe_int pa_nil)) (by rfl))
    (pss_cons (ps_for PassesOwn.never rfl (pi_range1 (by rfl) G.range (pa_cons (pv 2) pa_nil)) (pg_name (i := 4) nd rfl (.inl rfl))
      (pss_cons (ps_set (i := 6) nd rfl (.inl rfl) (pe_op op_add (pv 6) (pe_c C__law_next (hr.mono (by decide)) (by rfl) pass0 (pa_cons (pv 0) (pa_cons (pv 1) pa_nil)))))
      (pss_cons (ps_set (i := 7) nd rfl (.inl rfl) (pe_ix ix_list (pv 3) (pe_c C__law_next (hr.mono (by decide)) (by rfl) pass0 (pa_cons (pv 0) (pa_cons (pe_callB call_len_seq (by rfl) G.len (by decide +kernel) (pa_cons (pv 3) pa_nil)) pa_nil))) (fun _ _ => rfl)))
      (pss_one (ps_if (pt_cmpR op_in_seq (pv 7) (pe_tup (pa_cons pe_str (pa_cons pe_str pa_nil))) rfl)
        (pss_one (ps_set (i := 5) nd rfl (.inl rfl) (pe_op op_cat (pv 5) (pe_lst (pa_cons (pe_tup (pa_cons pe_str (pa_cons (pv 6) (pa_cons pe_int pa_nil)))) (pa_cons (pe_tup (pa_cons pe_str (pa_cons (pe_op op_add pe_int (pe_c C__law_next (hr.mono (by decide)) (by rfl) pass0 (pa_cons (pv 0) (pa_cons pe_int pa_nil)))) pa_nil))) pa_nil))))))
        (pss_one (ps_expr (pe_bm PySem.F.plainAttrs_list PySem.F.slot_list_append PySem.F.type_list_append mt_append (pv 5) (pa_cons (pe_op op_catT (pe_tup (pa_cons (pv 7) (pa_cons (pv 6) pa_nil))) (pe_callTy (T := "tuple") call_tuple_of (by rfl) G.tuple (by decide +kernel) (pa_cons (pe_lc (own := [("place", 8)]) (g := gName 8) (tt := tYes) rfl nd (pi_range1 (by rfl) G.range (pa_cons (pe_op op_sub (pe_dget hu1 (pe_c0 C__law_sizes (hr.mono (by decide)) (by rfl) pass0) (pv 7) (fun _ _ => rfl)) pe_int) pa_nil))
        (blkOk_by (own := [("place", 8)]) (N := ["source", "span", "many", "names", "turn", "found", "at", "name", "place"]) (sc := defScope s__law_rows) (by decide +kernel))
        (fun _ _ _ _ _ => (pg_name (i := 8) nd rfl (.inl rfl) (Or.inr rfl))) (fun _ _ _ _ _ => pts_nil)
        (fun _ _ _ _ _ => (pe_c C__law_next (hr.mono (by decide)) (by rfl) pass0 (pa_cons (pv 0) (pa_cons pe_int pa_nil))))) pa_nil))) pa_nil)))))))))
    (pss_one (ps_ret (pe_op op_cat (pv 5) (pe_op op_rep (pe_lst (pa_cons (pe_tup (pa_cons pe_str (pa_cons (pe_op op_add (pv 6) (pe_c C__law_next (hr.mono (by decide)) (by rfl) pass0 (pa_cons (pv 0) (pa_cons (pv 1) pa_nil)))) (pa_cons pe_int pa_nil)))) pa_nil)) (pe_callTy (T := "int") call_int1 (by rfl) G.int (by decide +kernel) (pa_cons (pe_cmpR op_eq (pe_c C__law_next (hr.mono (by decide)) (by rfl) pass0 (pa_cons (pv 0) (pa_cons pe_int pa_nil))) pe_int (nomark _)) pa_nil))))))))), ?_⟩
  -- names = sorted(_law_sizes())
  refine ⟨rfl, fun d H1 hd hd1 fr1 => ?_⟩
  refine ⟨d, _, lawSizes.map (·.1), rfl, .inl hd1, keys_kv _, (by decide), fun names pn hperm _ hpn => ?_⟩
  have frn := Fr.new (M := []) (o := .lst (names.map V.str)) hpn
  have ln : names.length = 23 := hperm.length_eq
  have s1 := (fr1.trans frn).same _ _ hs
  -- found, at = [], 0
  refine ⟨(by show 0 ≤ sizeLine; decide), fun f0 hf0 => ⟨_, _, rfl, ?_⟩⟩
  have frf := Fr.new (M := []) (o := .lst []) hf0
  have fr0 := fr1.trans (frn.trans frf)
  refine ⟨_, rfl, many, rfl, (by omega), (by omega), ?_⟩
  have npn : pn ≠ a := (ne_of_none (fr1.same _ _ hs) hpn).symm
  have nf0 : f0 ≠ a := (ne_of_none s1 hf0).symm
  have npf : pn ≠ f0 := ne_of_none upd_same hf0
  refine for_range (lo := 0) (n := many) (fun i σ H' => ∃ fo at_ s4 s7 s8, σ = [some (V.ref a), some (V.int span), some (V.int many), some (V.ref pn), s4, some (V.ref fo), some (V.int at_), s7, s8] ∧ RowsI H a pn y span names i fo at_ H')
    ⟨f0, 0, _, _, _, rfl, ⟨x, z, frf.same _ _ s1⟩, frf.same _ _ upd_same, ⟨[], [], upd_same, .nil, (fun _ h => nomatch h), .nil, Nat.le_refl _⟩, (fr1.trans frn).none hf0, nf0, npf, fr0.mono (fun _ h => nomatch h), by omega, by omega⟩ ?_ ?_
  · rintro i σ H' hi ⟨fo, at_, s4, s7, s8, rfl, I⟩
    obtain ⟨⟨x1, z1, src1⟩, nm1, ⟨xs, rs, hfo, pr, good, mk, len⟩, new, nfa, npfo, fr, at0, at1⟩ := I
    have K1 : ∀ {H1 H2 : Hp}, Fr [a] H1 H2 → ∀ {b o}, H1 b = some o → b ≠ a → H2 b = some o := fun fr b o h ne => fr.at h (by simpa using ne)
    -- at
    refine ⟨_, rfl, _, rfl, _, rfl, a, x1, y, z1, span, rfl, src1, sp0, (by omega), fun d1 x2 z2 H2 d10 d11 src2 fr2 => ⟨_, _, rfl, rfl, ?_⟩⟩
    have nm2 := K1 fr2 nm1 npn
    have hfo2 := K1 fr2 hfo nfa
    -- name
    refine ⟨_, rfl, _, rfl, _, rfl, pn, _, rfl, .inl (SqL.of nm2), a, x2, y, z2, _, rfl, src2, (by rw [List.length_map, ln]; decide), (by rw [List.length_map, ln]; decide), fun d2 x3 z3 H3 d20 d21 src3 fr3 => ?_⟩
    have nm3 := K1 fr3 nm2 npn
    have hfo3 := K1 fr3 hfo2 nfa
    rw [List.length_map, ln] at d21
    obtain ⟨j, rfl⟩ : ∃ j : Nat, d2 = j := ⟨d2.toNat, by omega⟩
    have hj : j < names.length := by omega
    have mem : names[j] ∈ lawSizes.map (·.1) := hperm.mem_iff.mp (List.getElem_mem hj)
    generalize hn : names[j] = n at mem
    refine ⟨pn, _, _, V.str n, rfl, rfl, SqL.of nm3, atI_nat (j := j) (by rw [List.getElem?_map, List.getElem?_eq_getElem hj, hn]; rfl), ?_⟩
    -- name in ('go', 'stop')
    refine ⟨_, rfl, (by show 2 ≤ sizeLine; decide), fun pt hpt => ⟨pt, _, rfl, .inr (SqT.of upd_same), rfl, rfl, _, rfl, ?_⟩⟩
    have frt := Fr.new (M := []) (o := .tup [V.str "go", V.str "stop"]) hpt
    have src4 := frt.same _ _ src3
    have nm4 := frt.same _ _ nm3
    have hfo4 := frt.same _ _ hfo3
    have fr14 : Fr [a] H' (upd H3 pt (.tup [V.str "go", V.str "stop"])) := fr2.trans (fr3.trans (frt.mono fun _ h => nomatch h))
    have fo3 : Hd [a, fo] H' = Hd [a, fo] H' := rfl
    show if inV (V.str n) [V.str "go", V.str "stop"] = true then _ else _
    rw [in_goStop]
    have lx := PySem.Paired.length pr
    have atn : at_ ≤ at_ + d1 := by omega
    have at0' : 0 ≤ at_ + d1 := by omega
    have at1' : at_ + d1 ≤ (i + 1 : Nat) * span := by
      have : ((i + 1 : Nat) : Int) * span = i * span + span := by rw [Int.natCast_add, Int.add_mul]; simp
      omega
    have at2 : at_ + d1 < 10 ^ 13 := by
      have h1 : ((i + 1 : Nat) : Int) ≤ 16 := by omega
      have h2 : ((i + 1 : Nat) : Int) * span ≤ 16 * span := Int.mul_le_mul_of_nonneg_right h1 (by omega)
      omega
    refine ite2 (fun c => ?_) (fun c => ?_)
    · -- found = found + [('stop', at, 3), ('go', 3 + draw)]
      refine ⟨_, rfl, _, rfl, (by show 3 ≤ sizeLine; decide), fun p1 hp1 => ⟨_, rfl, a, x3, y, z3, 5, rfl, ?_⟩⟩
      have frp1 := Fr.new (M := []) (o := .tup [V.str "stop", V.int (at_ + d1), V.int 3]) hp1
      refine ⟨frp1.same _ _ src4, by decide, by decide, fun d5 x5 z5 H5 d50 d51 src5 fr5 => ⟨_, _, rfl, rfl, (by show 2 ≤ sizeLine; decide), fun p2 hp2 => ⟨(by show 2 ≤ sizeLine; decide), fun p3 hp3 => ?_⟩⟩⟩
      have np1a : p1 ≠ a := (ne_of_none src4 hp1).symm
      have h15 := K1 fr5 upd_same np1a
      have frp2 := Fr.new (M := []) (o := .tup [V.str "go", V.int (3 + d5)]) hp2
      have frp3 := Fr.new (M := []) (o := .lst [V.ref p1, V.ref p2]) hp3
      have fr13 : ∀ {M}, Fr M _ _ := fun {M} => (frp2.trans frp3).mono (N := M) fun _ h => nomatch h
      have hfo5 := fr13.at (M := []) (K1 fr5 (frp1.same _ _ hfo4) nfa) List.not_mem_nil
      refine ⟨fo, p3, xs, _, rfl, rfl, hfo5, upd_same, (by rw [sizeLine_eq]; show xs.length + 2 ≤ _; omega), fun p4 hp4 => ?_⟩
      have frp4 := Fr.new (M := []) (o := .lst (xs ++ [V.ref p1, V.ref p2])) hp4
      have frA : Fr [a] H' _ := fr14.trans ((frp1.mono (fun _ h => nomatch h)).trans (fr5.trans (fr13.trans (frp4.mono (fun _ h => nomatch h)))))
      have fr1B := fr14.trans ((frp1.mono (fun _ h => nomatch h)).trans (fr5.trans (fr13 (M := [a]))))
      have np4 : p4 ≠ a := (ne_of_none (fr13.at (M := []) src5 List.not_mem_nil) hp4).symm
      have np4n : pn ≠ p4 := ne_of_none (fr13.at (M := []) (K1 fr5 (frp1.same _ _ nm4) npn) List.not_mem_nil) hp4
      have e1 : (upd (upd (upd H5 p2 (.tup [V.str "go", V.int (3 + d5)])) p3 (.lst [V.ref p1, V.ref p2])) p4 (.lst (xs ++ [V.ref p1, V.ref p2]))) p1 = some (.tup [V.str "stop", V.int (at_ + d1), V.int 3]) := frp4.same _ _ (fr13.at (M := []) h15 List.not_mem_nil)
      have e2 := frp4.same p2 _ (frp3.same p2 _ upd_same)
      have nn1 : p1 ≠ p4 := ne_of_none (fr13.at (M := []) h15 List.not_mem_nil) hp4
      have nn2 : p2 ≠ p4 := ne_of_none (frp3.same p2 _ upd_same) hp4
      have np2a : p2 ≠ a := (ne_of_none src5 hp2).symm
      refine ⟨p4, at_ + d1, _, _, _, rfl, ⟨x5, z5, frp4.same _ _ (fr13.at (M := []) src5 List.not_mem_nil)⟩, frA.at nm1 (by simpa using npn),
        ⟨xs ++ [V.ref p1, V.ref p2], rs ++ [⟨"stop", [V.int (at_ + d1), V.int 3]⟩, ⟨"go", [V.int (3 + d5)]⟩], upd_same, ?_, ?_, ?_, ?_⟩, (fr.trans fr1B).none hp4, np4, np4n, fr.trans frA, at0', at1'⟩
      · refine Paired.app (L2.Paired.mapP pr fun x y c => c.same (hd_move frA (fr1B.none hp4))) (.cons (rwAt_of (ns := [at_ + d1, 3]) stop_mem rfl ?_) (.cons (rwAt_of (ns := [3 + d5]) go_mem rfl ?_) .nil))
        · rw [Hd_of (by simp [np1a, nn1])]; exact e1
        · rw [Hd_of (by simp [np2a, nn2])]; exact e2
      · intro r hr
        rcases List.mem_append.mp hr with h | h
        · exact good r h
        · rcases List.mem_cons.mp h with rfl | h
          · exact ⟨_, [at_ + d1, 3], stop_mem, rfl, rfl, fun k hk => by simp at hk; omega⟩
          · obtain rfl := List.mem_singleton.mp h
            exact ⟨_, [3 + d5], go_mem, rfl, rfl, fun k hk => by simp at hk; omega⟩
      · exact mk.pair at0 atn rfl rfl rfl rfl rfl
      · rw [List.length_append]; show rs.length + 2 ≤ _; omega
    · -- found.append((name, at) + tuple([draws]))
      have ng : n ≠ "go" ∧ n ≠ "stop" := by
        rw [Bool.or_eq_true, decide_eq_true_eq, decide_eq_true_eq, not_or] at c
        exact c
      obtain ⟨⟨n', k⟩, mk', rfl⟩ := List.mem_map.mp mem
      obtain ⟨_, k1, k6⟩ := sz_size mk'
      have k1 : 1 ≤ k := k1
      have k6 : k ≤ 6 := k6
      refine ⟨_, rfl, .inl ⟨rfl, _, SqL.of hfo4⟩, _, rfl, _, rfl, (by show 2 ≤ sizeLine; decide), fun p1 hp1 => ?_⟩
      have frp1 := Fr.new (M := []) (o := .tup [V.str n', V.int (at_ + d1)]) hp1
      refine ⟨rfl, fun d H5 hd hd5 fr5 => ?_⟩
      have dg : DGet H5 d (V.str n') (some (V.int k)) := by
        have t := DGet.k (k := (Sum.inr n' : Key)) hd5
        rw [sz_val mk'] at t
        exact t
      refine ⟨_, rfl, d, _, rfl, dg, _, _, rfl, rfl, k - 1, rfl, (by omega), (by omega), fun D hD => ?_⟩
      have src5 := fr5.same _ _ (frp1.same _ _ src4)
      have fr15 : Fr [a] H' H5 := fr14.trans ((frp1.trans fr5).mono fun _ h => nomatch h)
      have nDa : D ≠ a := (ne_of_none src5 hD).symm
      have nDf : D ≠ fo := (ne_of_none (K1 fr15 hfo nfa) hD).symm
      have hp15 := fr5.same p1 _ upd_same
      have np1a : p1 ≠ a := (ne_of_none src4 hp1).symm
      have np1f : p1 ≠ fo := (ne_of_none hfo4 hp1).symm
      refine lc_range (lo := 0) (n := (k - 1).toNat) (fun j H6 => ∃ ns : List Int, ns.length = j ∧ (∀ x, x ∈ ns → 0 ≤ x ∧ x < 5) ∧ H6 D = some (.lst (ns.map V.int)) ∧ (∃ x z, H6 a = some (srcO x y z)) ∧ Fr [a] H5 H6)
        ⟨[], rfl, (fun _ h => nomatch h), upd_same, ⟨x3, z3, by rw [upd_ne nDa.symm]; exact src5⟩, Fr.new hD⟩ ?_ ?_
      · rintro j H6 hj6 ⟨ns, l6, b6, hD6, ⟨x6, z6, src6⟩, fr6⟩
        refine ⟨rfl, _, rfl, a, x6, y, z6, 5, rfl, src6, by decide, by decide, fun d7 x7 z7 H7 d70 d71 src7 fr7 => ?_⟩
        have hD7 := K1 fr7 hD6 nDa
        refine ⟨_, hD7, (by rw [List.length_map, sizeLine_eq]; omega), ns ++ [d7], (by rw [List.length_append]; show ns.length + 1 = _; omega), ?_, ?_, ⟨x7, z7, by rw [upd_ne nDa.symm]; exact src7⟩, ?_⟩
        · intro x hx
          rcases List.mem_append.mp hx with h | h
          · exact b6 x h
          · obtain rfl := List.mem_singleton.mp h
            exact ⟨d70, d71⟩
        · rw [upd_same, List.map_append]; rfl
        · exact Fr.drop ((fr6.trans fr7).weak.trans (Fr.set List.mem_cons_self)) hD
      · rintro H6 ⟨ns, l6, b6, hD6, ⟨x6, z6, src6⟩, fr6⟩
        refine ⟨D, _, rfl, .inl ⟨SqL.of hD6, fun l hl => ?_⟩⟩
        have frl := Fr.new (M := []) (o := .tup (ns.map V.int)) hl
        have frA : Fr [a] H' (upd H6 l (.tup (ns.map V.int))) := fr15.trans (fr6.trans (frl.mono fun _ h => nomatch h))
        have hp16 := frl.same _ _ (K1 fr6 hp15 np1a)
        have lk : (ns.length : Int) = k - 1 := by omega
        have fin : ∀ (Hx : Hp) (pt : Addr), Fr [a] H' Hx → Hx pt = some (.tup (V.str n' :: V.int (at_ + d1) :: ns.map V.int)) → pt ≠ a → pt ≠ fo → (∃ x z, Hx a = some (srcO x y z)) →
            RowsI H a pn y span names (i + 1) fo (at_ + d1) (upd Hx fo (.lst (xs ++ [V.ref pt]))) := by
          intro Hx pt frx hx nxa nxf ⟨x9, z9, src9⟩
          have frX : Fr [a, fo] H' (upd Hx fo (.lst (xs ++ [V.ref pt]))) := (frx.mono (by simp)).trans (Fr.set (by simp))
          refine ⟨⟨x9, z9, by rw [upd_ne nfa.symm]; exact src9⟩, by rw [upd_ne npfo]; exact K1 frx nm1 npn, ⟨xs ++ [V.ref pt], rs ++ [⟨n', ((at_ + d1) :: ns).map V.int⟩], upd_same, ?_, ?_, ?_, ?_⟩, new, nfa, npfo, ?_, at0', at1'⟩
          · refine Paired.app (L2.Paired.mapP pr fun x y c => c.same frX.hd) (.cons (rwAt_of (q := (n', k)) mk' (by rw [List.length_cons]; omega) ?_) .nil)
            rw [Hd_of (by simp [nxa, nxf]), upd_ne nxf]; exact hx
          · intro r hr
            rcases List.mem_append.mp hr with h | h
            · exact good r h
            · obtain rfl := List.mem_singleton.mp h
              refine ⟨(n', k), (at_ + d1) :: ns, mk', rfl, by rw [List.length_cons]; show ((ns.length + 1 : Nat) : Int) = k; omega, fun x hx => ?_⟩
              rcases List.mem_cons.mp hx with rfl | h
              · exact ⟨at0', at2⟩
              · have := b6 x h; omega
          · exact mk.plain at0 atn (decide_eq_false ng.1) (decide_eq_false ng.2) rfl
          · rw [List.length_append]; show rs.length + 1 ≤ _; omega
          · exact Fr.drop ((fr.trans frx).weak.trans (Fr.set List.mem_cons_self)) new
        have hfoA := frA.at hfo (by simpa using nfa)
        have hsrcA : (upd H6 l (.tup (ns.map V.int))) a = some (srcO x6 y z6) := frl.same _ _ src6
        refine ⟨p1, l, _, _, rfl, rfl, SqT.of hp16, SqT.of upd_same, (fun z => nomatch z), (by rw [List.length_map, sizeLine_eq]; show 2 + ns.length ≤ _; omega), fun e => ?_, fun _ p5 hp5 => ?_⟩
        · have en : ns = [] := List.map_eq_nil_iff.mp e
          refine ⟨fo, xs, _, rfl, rfl, hfoA, (by rw [sizeLine_eq]; omega), fo, at_ + d1, _, _, _, rfl, fin _ p1 frA ?_ np1a np1f ⟨x6, z6, hsrcA⟩⟩
          rw [hp16, en]
          rfl
        · have frp5 := Fr.new (M := []) (o := .tup ([V.str n', V.int (at_ + d1)] ++ ns.map V.int)) hp5
          refine ⟨fo, xs, _, rfl, rfl, frp5.same _ _ hfoA, (by rw [sizeLine_eq]; omega), fo, at_ + d1, _, _, _, rfl, fin _ p5 (frA.trans (frp5.mono fun _ h => nomatch h)) upd_same (ne_of_none hsrcA hp5).symm (ne_of_none hfoA hp5).symm ⟨x6, z6, frp5.same _ _ hsrcA⟩⟩
  · rintro σ H' ⟨fo, at_, s4, s7, s8, rfl, I⟩
    obtain ⟨⟨x1, z1, src1⟩, nm1, ⟨xs, rs, hfo, pr, good, mk, len⟩, new, nfa, npfo, fr, at0, at1⟩ := I
    have K1 : ∀ {H1 H2 : Hp}, Fr [a] H1 H2 → ∀ {b o}, H1 b = some o → b ≠ a → H2 b = some o := fun fr b o h ne => fr.at h (by simpa using ne)
    have lx := PySem.Paired.length pr
    refine ⟨_, rfl, _, rfl, _, rfl, _, rfl, a, x1, y, z1, span, rfl, src1, sp0, (by omega), fun d1 x2 z2 H2 d10 d11 src2 fr2 => ⟨_, _, rfl, rfl, (by show 3 ≤ sizeLine; decide), fun p1 hp1 => ⟨(by show 1 ≤ sizeLine; decide), fun p2 hp2 => ?_⟩⟩⟩
    have frp1 := Fr.new (M := []) (o := .tup [V.str "stop", V.int (at_ + d1), V.int 1]) hp1
    have frp2 := Fr.new (M := []) (o := .lst [V.ref p1]) hp2
    have src3 := frp2.same _ _ (frp1.same _ _ src2)
    refine ⟨_, rfl, a, x2, y, z2, 6, rfl, src3, by decide, by decide, fun d2 x3 z3 H3 d20 d21 src4 fr3 => ⟨rfl, .inr ⟨_, rfl, ?_⟩⟩⟩
    have fr13 : Fr [a] H' H3 := fr2.trans (((frp1.trans frp2).mono (fun _ h => nomatch h)).trans fr3)
    have hfo3 := K1 fr13 hfo nfa
    have np1a : p1 ≠ a := (ne_of_none src2 hp1).symm
    have np2a : p2 ≠ a := (ne_of_none (frp1.same _ _ src2) hp2).symm
    have hp13 := K1 fr3 (frp2.same p1 _ upd_same) np1a
    have hp23 := K1 fr3 (b := p2) upd_same np2a
    have at2 : at_ + d1 < 10 ^ 13 := by
      have h2 : (many : Int) * span ≤ 16 * span := Int.mul_le_mul_of_nonneg_right (by omega) (by omega)
      omega
    generalize decide (V.int d2 = V.int 0) = b
    refine ⟨p2, _, [V.ref p1], rfl, rfl, hp23, (by cases b <;> decide), (by cases b <;> decide), (by cases b <;> (rw [sizeLine_eq]; simp)), fun p3 hp3 => ?_⟩
    have frp3 : ∀ o, Fr [] H3 (upd H3 p3 o) := fun o => Fr.new hp3
    refine ⟨fo, p3, xs, _, rfl, rfl, (frp3 _).same _ _ hfo3, upd_same, (by cases b <;> (rw [sizeLine_eq]; simp; omega)), fun p4 hp4 => ?_⟩
    have frp4 : ∀ o, Fr [] _ (upd _ p4 o) := fun o => Fr.new hp4
    have frA : ∀ o, Fr [a] H' (upd _ p4 o) := fun o => fr13.trans (((frp3 _).trans (frp4 o)).mono (fun _ h => nomatch h))
    have nfr : H' p4 = none := (fr13.trans ((frp3 _).mono (fun _ h => nomatch h))).none hp4
    have np4a : p4 ≠ a := (ne_of_none ((frp3 _).same _ _ src4) hp4).symm
    have move : ∀ o, Same (Hd [a, fo] H') (Hd [a] (upd _ p4 o)) := fun o => Same.trans (frA o |>.mono (by simp)).hd (Hd_mono (by simp))
    have rows : ∀ o, Paired (RwAt (Hd [a] (upd _ p4 o))) xs rs := fun o => L2.Paired.mapP pr fun x y c => c.same (move o)
    cases b with
    | false =>
      exact q p4 _ rs _ (fr.none nfr) np4a upd_same ⟨x3, z3, (frp4 _).same _ _ ((frp3 _).same _ _ src4)⟩ (fr.trans (frA _)) (by
        have e : xs ++ (List.replicate (Int.toNat (if false = true then 1 else 0)) [V.ref p1]).flatten = xs := by simp
        rw [e]
        exact rows _) good mk.done (by omega)
    | true =>
      refine q p4 _ (rs ++ [⟨"stop", [V.int (at_ + d1), V.int 1]⟩]) _ (fr.none nfr) np4a upd_same ⟨x3, z3, (frp4 _).same _ _ ((frp3 _).same _ _ src4)⟩ (fr.trans (frA _)) ?_ ?_ (mk.stop at0 (by omega : at_ ≤ at_ + d1) rfl rfl rfl) (by rw [List.length_append]; show rs.length + 1 ≤ _; omega)
      · refine Paired.app (rows _) (.cons (rwAt_of (ns := [at_ + d1, 1]) stop_mem rfl ?_) .nil)
        rw [Hd_of (by simp [np1a])]
        exact (frp4 _).same _ _ ((frp3 _).same _ _ hp13)
      · intro r hr
        rcases List.mem_append.mp hr with h | h
        · exact good r h
        · obtain rfl := List.mem_singleton.mp h
          exact ⟨_, [at_ + d1, 1], stop_mem, rfl, rfl, fun k hk => by simp at hk; omega⟩
end
end Tk

set_option Elab.async false
set_option linter.all false
set_option maxRecDepth 100000
set_option maxHeartbeats 4000000
namespace Tk
open PySem PySem.Spec PyProof.Rows L2

/-! ### logs that are none (k84) -/
def rLook (x : V) : Rw := ⟨"look", [x]⟩
def rGo (i : Int) : Rw := ⟨"go", [.int i]⟩
def rStop : Rw := ⟨"stop", [.int 0, .int 1]⟩
theorem rLook_go (x : V) : (rLook x).is "go" = false := by show decide (("look" : Str) = "go") = false; decide
theorem rLook_stop (x : V) : (rLook x).is "stop" = false := by show decide (("look" : Str) = "stop") = false; decide
theorem rGo_go (i : Int) : (rGo i).is "go" = true := by show decide (("go" : Str) = "go") = true; decide
theorem rGo_stop (i : Int) : (rGo i).is "stop" = false := by show decide (("go" : Str) = "stop") = false; decide
theorem rStop_go : rStop.is "go" = false := by decide
theorem rStop_stop : rStop.is "stop" = true := by decide
theorem bad_stops {rs : List Rw} (h : stopsR false rs = false) : logOk rs = false := by
  unfold logOk
  rw [stopsOk_eq, h, Bool.and_false]
theorem bad_cycles {rs : List Rw} (h : cyclesL 0 (cycV rs) = false) : logOk rs = false := by
  unfold logOk
  rw [h, Bool.false_and]
section
variable {rs : List Rw}
theorem bad_go : logOk (rGo 5 :: rs) = false := bad_stops (by
  show ((rGo 5).is "go" == false && _) = false
  rw [rGo_go]; rfl)
theorem bad_stop_look : logOk (rStop :: rLook (.int 0) :: rs) = false := bad_stops (by
  show (rStop.is "go" == false && ((rLook (.int 0)).is "go" == rStop.is "stop" && _)) = false
  rw [rStop_go, rStop_stop, rLook_go]; rfl)
theorem bad_go_go : logOk (rStop :: rGo 1 :: rGo 1 :: rs) = false := bad_stops (by
  show (rStop.is "go" == false && ((rGo 1).is "go" == rStop.is "stop" && ((rGo 1).is "go" == (rGo 1).is "stop" && _))) = false
  rw [rStop_go, rStop_stop, rGo_go, rGo_stop]; rfl)
theorem bad_stop_stop : logOk (rStop :: rStop :: rGo 1 :: rs) = false := bad_stops (by
  show (rStop.is "go" == false && (rStop.is "go" == rStop.is "stop" && _)) = false
  rw [rStop_go, rStop_stop]; rfl)
theorem bad_look_go (x : V) : logOk (rs ++ [rLook x, rGo 5]) = false := bad_stops (by
  rw [stopsR_app]
  show (_ && ((rLook x).is "go" == endStop false rs && ((rGo 5).is "go" == (rLook x).is "stop" && true))) = false
  rw [rLook_go, rLook_stop, rGo_go]
  cases endStop false rs <;> simp)
theorem cycV_look {x : V} : cycV (rLook x :: rs) = x :: cycV rs := by
  unfold cycV
  rw [List.filter_cons_of_pos (by rw [rLook_go]; rfl)]; rfl
theorem bad_first {x : V} (h : wholeV x (.int 0) = false) : logOk (rLook x :: rs) = false := bad_cycles (by
  rw [cycV_look]
  unfold cyclesL
  rw [List.all_cons, h]; rfl)
theorem bad_fall (a : Int) : logOk (rs ++ [rLook (.int (a + 1)), rLook (.int a)]) = false := bad_cycles (by
  rw [cyc_app]
  have e : cycV [rLook (.int (a + 1)), rLook (.int a)] = [V.int (a + 1), V.int a] := rfl
  rw [e]
  unfold cyclesL
  have m : (V.int (a + 1), V.int a) ∈ (cycV rs ++ [V.int (a + 1), V.int a]).zip ((cycV rs ++ [V.int (a + 1), V.int a]).drop 1) := by
    refine List.mem_of_getElem? (i := (cycV rs).length) ?_
    rw [List.getElem?_zip_eq_some]
    refine ⟨by rw [List.getElem?_append_right (Nat.le_refl _), Nat.sub_self]; rfl, ?_⟩
    rw [List.getElem?_drop, List.getElem?_append_right (by omega), show 1 + (cycV rs).length - (cycV rs).length = 1 by omega]; rfl
  have f : leV (V.int (a + 1)) (V.int a) = false := by
    show decide (a + 1 ≤ a) = false
    exact decide_eq_false (by omega)
  have g : (((cycV rs ++ [V.int (a + 1), V.int a]).zip ((cycV rs ++ [V.int (a + 1), V.int a]).drop 1)).all fun q => leV q.1 q.2) = false := by
    rw [List.all_eq_false]
    exact ⟨_, m, by rw [f]; exact Bool.false_ne_true⟩
  rw [g, Bool.and_false])
end
end Tk

set_option Elab.async false
set_option linter.all false
set_option maxRecDepth 100000
set_option maxHeartbeats 4000000
namespace Tk
open PySem PySem.Spec PyProof.Rows L2

section
variable {P : Program} {w : World} {K : PySem.W.Frag} {mg : Str → Option Value} {base : Heap}
theorem wipe1 {σ : L2.St} {i : Nat} {x : V} : wipe ((wipe σ [i]).set i (some x)) [i] = wipe σ [i] := by simp [wipe, List.set_set]
theorem slot1 {σ : L2.St} {i : Nat} {x : V} (hi : i < σ.length) : ((wipe σ [i]).set i (some x))[i]? = some (some x) := by simp [wipe, hi]
/-- [row[1] for row in rows if row[0] != 'go'] -/
theorem ev_cyc {σ : L2.St} {i j : Nat} {a : Addr} {xs : List V} {rs : List Rw} {H : Hp} {Q : VK} (hj : σ[j]? = some (some (V.ref a))) (hi : i < σ.length) (h : H a = some (.lst xs)) (r : Paired (RwAt H) xs rs) (hz : xs.length < sizeLine)
    (q : ∀ D H', H D = none → H' D = some (.lst (cycV rs)) → Fr [] H H' → Q (.ref D) H') :
    tLc (iList K (tVar j)) (gName i) (tTest (tOp rNe (tOp (rIxT K) (tVar i) (tC (.int 0))) (tC (.str "go")))) (tOp (rIxT K) (tVar i) (tC (.int 1))) [i] σ H Q := by
  refine ⟨_, hj, a, rfl, ⟨xs, SqL.of h⟩, fun D hD => ?_⟩
  refine lc_listR (K := K) (fun x => !(rowOf H x).is "go") (fun x y _ => y = (rowOf H x).at) (fun _ _ _ _ _ h => h) hD hz (fun _ => wipe1) ?_ ?_ ?_ (SqL.of h)
  · intro x H' Q' hx fr _ hq
    obtain ⟨y, _, ry⟩ := Paired.mem r hx
    obtain ⟨p, e, st, i0, i1⟩ := row_ix (K := K) (ry.same fr.same)
    subst e
    refine ⟨_, slot1 hi, p, _, _, _, rfl, rfl, st, i0, rfl, _, rfl, ?_⟩
    rw [dec_str]
    have q2 := hq _ (Fr.refl _ _)
    rw [rowOf_eq ry] at q2
    exact q2
  · intro x H' Q' hx _ fr _ hq
    obtain ⟨y, _, ry⟩ := Paired.mem r hx
    obtain ⟨p, e, st, i0, i1⟩ := row_ix (K := K) (ry.same fr.same)
    subst e
    exact ⟨_, slot1 hi, p, _, _, _, rfl, rfl, st, i1, hq _ _ (Fr.refl _ _) (by rw [rowOf_eq ry])⟩
  · intro H2 ys hD2 fr2 md
    have e := (md.pure (f := fun x => (rowOf H x).at) (fun _ _ _ h => h)).trans (Made.rows (pr := fun r => !r.is "go") (fr := Rw.at) (fun x r a => by rw [rowOf_eq a]) (fun x r a => by rw [rowOf_eq a]) r)
    exact q D H2 hD (by rw [hD2, e]; rfl) fr2

/-! ### the law's looks -/
theorem good_at {r : Rw} (g : GoodRw r) : ∃ i, r.at = .int i ∧ 0 ≤ i ∧ i < 10 ^ 13 := by
  obtain ⟨q, ns, m, rfl, l, b⟩ := g
  have := (sz_size m).2.1
  cases ns with
  | nil => simp at l; omega
  | cons n ns => exact ⟨n, rfl, b n List.mem_cons_self⟩
theorem good_cyc {rs : List Rw} (g : ∀ r, r ∈ rs → GoodRw r) : ∃ cs : List Int, cycV rs = cs.map V.int ∧ cs.length ≤ rs.length ∧ ∀ c, c ∈ cs → 0 ≤ c ∧ c < 10 ^ 13 := by
  induction rs with
  | nil => exact ⟨[], rfl, Nat.le_refl _, fun _ h => nomatch h⟩
  | cons r rs ih =>
    obtain ⟨cs, e, l, b⟩ := ih fun r h => g r (List.mem_cons_of_mem _ h)
    cases z : r.is "go" with
    | true => exact ⟨cs, by rw [← e]; simp [cycV, z], by rw [List.length_cons]; omega, b⟩
    | false =>
      obtain ⟨i, ei, b0, b1⟩ := good_at (g r List.mem_cons_self)
      refine ⟨i :: cs, by rw [List.map_cons, ← e]; simp [cycV, z, ei], by simp; omega, fun c hc => ?_⟩
      rcases List.mem_cons.mp hc with rfl | h
      · exact ⟨b0, b1⟩
      · exact b c h
end
end Tk

set_option Elab.async false
set_option linter.all false
set_option maxRecDepth 100000
set_option maxHeartbeats 4000000
namespace Tk
open PySem PySem.Spec PyProof.Rows L2
section
variable {P : Program} {w : World} {K : PySem.W.Frag} {mg : Str → Option Value} {base : Heap} {CC CL : Addr}
/-- is the last row a stop, and a look behind it: the third test of with_looks -/
theorem ev_late {X : Cx} {H : Hp} {a b : Addr} {xs : List V} {rs : List Rw} {ls : List Int} {s2 s3 s4 s5 : Option V} {Q : Bool → Hp → Prop} (ha : H a = some (.lst xs)) (r : Paired (RwAt H) xs rs) (hb : H b = some (.lst (ls.map V.int)))
    (ok : logOk rs = true) (q : ∀ H', Fr [] H H' → Q (late rs ls) H') :
    tAnd (tTest (tOp (rNil SqL K true) (tVar 0) (tLst tNil))) (tAnd (tTest (tOp rEq (tOp (rIxT K) (tOp (rIxL K) (tVar 0) (tUn (rU fun i => .int (-i)) (tC (.int 1)))) (tC (.int 0))) (tC (.str "stop"))))
      (tAnd (tTest (tOp (rNil SqL K true) (tVar 1) (tLst tNil))) (tTest (tOp (rI0 fun i j => .bl (decide (j < i))) (tOp (rIxL K) (tVar 1) (tUn (rU fun i => .int (-i)) (tC (.int 1))))
        (tOp (rIxT K) (tOp (rIxL K) (tVar 0) (tUn (rU fun i => .int (-i)) (tC (.int 1)))) (tC (.int 1))))))) [some (V.ref a), some (V.ref b), s2, s3, s4, s5] H Q := by
  refine ⟨_, rfl, (by show 0 ≤ sizeLine; decide), fun p hp => ?_⟩
  have fr1 := Fr.new (M := []) (o := .lst []) hp
  refine ⟨a, p, xs, rfl, rfl, SqL.of (fr1.same _ _ ha), SqL.of upd_same, _, rfl, ?_⟩
  rcases List.eq_nil_or_concat xs with rfl | ⟨ys, x, rfl⟩
  · cases r
    exact q _ fr1
  · rw [List.concat_eq_append] at *
    obtain ⟨rl, el, al⟩ := paired_last r (x := x) (by simp)
    have e0 : (!(ys ++ [x]).isEmpty) = true := by cases ys <;> rfl
    rw [if_pos rfl, e0, if_pos rfl]
    have al1 := al.same fr1.same
    obtain ⟨pr, e, st, i0, i1⟩ := row_ix (K := K) al1
    subst e
    refine ⟨_, rfl, _, rfl, a, _, _, _, rfl, rfl, SqL.of (fr1.same _ _ ha), atI_last _ _, pr, _, _, _, rfl, rfl, st, i0, rfl, _, rfl, ?_⟩
    rw [dec_str]
    have hl : late rs ls = match ls.getLast? with | some c => rl.is "stop" && decide (rl.c < c) | none => false := by
      unfold late
      rw [el]
      cases ls.getLast? <;> rfl
    refine ite2 (fun s => ?_) (fun s => ?_)
    · have isS : rl.is "stop" = true := s
      have nG : rl.is "go" = false := by
        have z : rl.name = "stop" := of_decide_eq_true isS
        unfold Rw.is
        rw [z]; decide
      have mrl : rl ∈ rs := List.mem_of_getLast? el
      have eat := row_int ok mrl nG
      rw [eat] at i1
      refine ⟨_, rfl, (by show 0 ≤ sizeLine; decide), fun p2 hp2 => ?_⟩
      have fr2 := Fr.new (M := []) (o := .lst []) hp2
      have fr12 := fr1.trans fr2
      refine ⟨b, p2, _, rfl, rfl, SqL.of (fr12.same _ _ hb), SqL.of upd_same, _, rfl, ?_⟩
      rcases List.eq_nil_or_concat ls with rfl | ⟨l, c, rfl⟩
      · have q := q _ fr12
        rw [hl] at q
        exact q
      · rw [List.concat_eq_append] at *
        have e0 : (!((l ++ [c]).map V.int).isEmpty) = true := by cases l <;> rfl
        rw [if_pos rfl, e0, if_pos rfl]
        have eb : (l ++ [c]).map V.int = l.map V.int ++ [V.int c] := by simp
        rw [eb] at hb
        have st2 : SqT K _ pr rl.vs := Same.sq fr2.same st
        refine ⟨_, rfl, _, rfl, b, _, _, _, rfl, rfl, SqL.of (fr12.same _ _ hb), atI_last _ _, _, rfl, _, rfl, a, _, _, _, rfl, rfl, SqL.of (fr12.same _ _ ha), atI_last _ _, pr, _, _, _, rfl, rfl, st2, i1, _, _, rfl, rfl, _, rfl, ?_⟩
        have q := q _ fr12
        rw [hl] at q
        simp only [List.getLast?_append, List.getLast?_singleton, Option.some_or, isS, Bool.true_and] at q
        exact q
    · have isS : rl.is "stop" = false := by
        cases z : rl.is "stop" with
        | false => rfl
        | true => exact absurd z s
      have q := q _ fr1
      have hl0 : late rs ls = false := by
        rw [hl, isS]
        cases ls.getLast? <;> rfl
      rw [hl0] at q
      exact q

def okO : Option (List Rw) → Bool
  | some rs => logOk rs
  | none => false
def spWithLooks (CC CL : Addr) : Sp := fun vs H Q E => ∃ x y o l, vs = [x, y] ∧ LogRs H x o ∧ LooksRs H y l ∧
  (okO o = false → ∀ H', Fr [] H H' → E (.ref CC) none H') ∧
  ∀ rs, o = some rs → logOk rs = true → (l = none → ∀ H', Fr [] H H' → E (.ref CL) none H') ∧
    ∀ ls, l = some ls → (late rs ls = true → ∀ H', Fr [] H H' → E (.ref CL) none H') ∧
      (late rs ls = false → ∀ p ys H', H p = none → H' p = some (.lst ys) → Fr [] H H' → Paired (OutAt H H') ys (merge rs ls) → Q (.ref p) H')
theorem sc_withLooks : FnScope ["log", "looks", "left", "found", "row", "look"] ["log", "looks"] (defScope s_with_looks) := ⟨rfl, rfl, rfl, by decide +kernel, rfl, by decide +kernel, by decide +kernel⟩
/-- what holds between two rows -/
def Lp (H : Hp) (l fo : Addr) (rs : List Rw) (ls : List Int) (i : Nat) (H' : Hp) : Prop := ∃ left ys outs, H' l = some (.lst (left.map V.int)) ∧ H' fo = some (.lst ys) ∧ Fr [] H H' ∧
  Paired (OutAt H (Hd [l, fo] H')) ys outs ∧ outs ++ merge (rs.drop i) left = merge rs ls ∧ ys.length + left.length ≤ i + ls.length
/-- what holds within a row, ahead of each look -/
def Lw (H : Hp) (l fo : Addr) (rs : List Rw) (ls : List Int) (i : Nat) (rr : Rw) (σ0 : L2.St) (m : Nat) (σ : L2.St) (H2 : Hp) : Prop := σ = σ0 ∧ ∃ left ys outs, m = left.length ∧ H2 l = some (.lst (left.map V.int)) ∧ H2 fo = some (.lst ys) ∧ Fr [] H H2 ∧
  Paired (OutAt H (Hd [l, fo] H2)) ys outs ∧ outs ++ merge (rr :: rs.drop (i + 1)) left = merge rs ls ∧ ys.length + left.length ≤ i + ls.length
theorem paired_mem {α β : Type} {F G : α → β → Prop} : ∀ {xs : List α} {ys : List β}, Paired F xs ys → (∀ x y, x ∈ xs → F x y → G x y) → Paired G xs ys
  | _, _, .nil, _ => .nil
  | _, _, .cons a b, h => .cons (h _ _ List.mem_cons_self a) (paired_mem b fun x y m => h x y (List.mem_cons_of_mem _ m))
theorem seq0 {α : Type} (x : α) (l : List α) : seqIndex? 0 (x :: l).length = some 0 := by
  unfold seqIndex?
  simp
  try omega
theorem looks_out {H H5 H6 : Hp} (fr : Fr [] H5 H6) : ∀ {left : List Int} {zs : List V}, Paired (fun x y => ∃ c q, x = V.int c ∧ y = V.ref q ∧ H q = none ∧ H5 q = some (.tup [V.str "look", V.int c])) (left.map V.int) zs →
    Paired (OutAt H H6) zs (merge [] left)
  | [], _, .nil => .nil
  | c :: left, _, .cons ⟨c', q, e, e2, n, h⟩ b => by
    cases e
    exact .cons ⟨q, e2, n, fr.same _ _ h⟩ (looks_out fr b)
theorem ok_withLooks (F : FunAt K mg "with_looks" s_with_looks) (G : NoGl mg) (T_NoLooks : ExcC K mg "NoLooks" CL) (C_check_cycles : Cal P w K mg base (L2.CX P w) 4 "check_cycles" ["log"] [] (spCheckCycles CC))
    (C_is_cycles : Cal P w K mg base CX0 2 "is_cycles" ["thing", "least"] [.int 0] spCycles) (C_copied : Cal P w K mg base CX0 1 "copied" ["row"] [] spCopied) :
    Cal P w K mg base (L2.CX P w) 5 "with_looks" ["log", "looks"] [] (spWithLooks CC CL) := by
  refine Cal.mkX F sc_withLooks (by rintro _ _ _ _ ⟨_, _, _, _, rfl, _⟩; rfl) (fun _ _ _ _ _ _ us hl => match us, hl with | [_, _], _ => rfl) ?_
  rintro f cdv A outer s H vs Q E hr ⟨x, y, o, lo, rfl, lr, kr, qbad, q⟩
  have nd := sc_withLooks.nd
  refine ⟨_, (pss_cons (ps_expr (pe_c C_check_cycles (hr.mono (by decide)) (by rfl) (passes_call (takes_of rfl rfl rfl rfl) (fun _ _ _ _ h => h)) (pa_cons (pv 0) pa_nil)))
    (pss_cons (ps_if (pt_not (pt_val (pe_c C_is_cycles (hr.mono (by decide)) (by rfl) pass0 (pa_cons (pv 1) pa_nil))))
      (pss_one (ps_rs T_NoLooks rfl (takes_of rfl rfl rfl rfl)))
      pss_nil)
    (pss_cons (ps_if (PW.pt (pw_and (pt_cmpR (op_neNilL hr.units0) (pv 0) (pe_lst pa_nil) (nomark _)) (pw_and (pt_cmpR op_eq (pe_ix ix_tup (pe_ix ix_list (pv 0) (pe_un un_neg pe_int) (fun _ _ => rfl)) pe_int (fun _ _ => rfl)) pe_str (nomark _)) (pw_and (pt_cmpR (op_neNilL hr.units0) (pv 1) (pe_lst pa_nil) (nomark _)) (pw_and1 (pt_cmpR op_gt (pe_ix ix_list (pv 1) (pe_un un_neg pe_int) (fun _ _ => rfl)) (pe_ix ix_tup (pe_ix ix_list (pv 0) (pe_un un_neg pe_int) (fun _ _ => rfl)) pe_int (fun _ _ => rfl)) (nomark _)))))))
      (pss_one (ps_rs T_NoLooks rfl (takes_of rfl rfl rfl rfl)))
      pss_nil)
    (pss_cons (ps_set (i := 2) nd rfl (.inl rfl) (pe_callTy (T := "list") call_listOf (by rfl) G.list (by decide +kernel) (pa_cons (pv 1) pa_nil)))
    (pss_cons (ps_set (i := 3) nd rfl (.inl rfl) (pe_lst pa_nil))
    (pss_cons (ps_for (passes_of rfl) rfl (pi_list (pv 0)) (pg_name (i := 4) nd rfl (.inl rfl))
      (pss_cons (ps_while (passes_of rfl) (PW.pt (pw_and (pt_cmpR op_ne (pe_ix ix_tup (pv 4) pe_int (fun _ _ => rfl)) pe_str (nomark _)) (pw_and (pt_cmpR (op_neNilL hr.units0) (pv 2) (pe_lst pa_nil) (nomark _)) (pw_and1 (pt_cmpR op_le (pe_ix ix_list (pv 2) pe_int (fun _ _ => rfl)) (pe_ix ix_tup (pv 4) pe_int (fun _ _ => rfl)) (nomark _))))))
        (pss_one (ps_expr (pe_bm PySem.F.plainAttrs_list PySem.F.slot_list_append PySem.F.type_list_append mt_append (pv 3) (pa_cons (pe_tup (pa_cons pe_str (pa_cons (pe_bm PySem.F.plainAttrs_list PySem.F.slot_list_pop PySem.F.type_list_pop mt_popAt (pv 2) (pa_cons pe_int pa_nil)) pa_nil))) pa_nil)))))
      (pss_one (ps_expr (pe_bm PySem.F.plainAttrs_list PySem.F.slot_list_append PySem.F.type_list_append mt_append (pv 3) (pa_cons (pe_c C_copied (hr.mono (by decide)) (by rfl) pass0 (pa_cons (pv 4) pa_nil)) pa_nil))))))
    (pss_one (ps_ret (pe_op op_cat (pv 3) (pe_lc (own := [("look", 5)]) (g := gName 5) (tt := tYes) rfl nd (pi_list (pv 2))
        (blkOk_by (own := [("look", 5)]) (N := ["log", "looks", "left", "found", "row", "look"]) (sc := defScope s_with_looks) (by decide +kernel))
        (fun _ _ _ _ _ => (pg_name (i := 5) nd rfl (.inl rfl) (Or.inr rfl))) (fun _ _ _ _ _ => pts_nil)
        (fun _ _ _ _ _ => (pe_tup (pa_cons pe_str (pa_cons (pv 5) pa_nil)))))))))))))), ?_⟩
  refine ⟨_, rfl, _, _, rfl, lr, fun H1 fr1 => ?_⟩
  cases lr with
  | bad h => exact qbad rfl H1 fr1
  | @ok a xs rs e h z r =>
    subst e
    show if logOk rs = true then _ else _
    cases okl : logOk rs with
    | false => exact qbad okl H1 fr1
    | true =>
      rw [if_pos rfl]
      have q := q rs rfl okl
      have hz : xs.length < sizeLine := by rw [sizeLine_eq]; omega
      have lenx := PySem.Paired.length r
      have h1 := fr1.same _ _ h
      -- is_cycles(looks)
      cases kr with
      | @no t k ne =>
        refine ⟨_, rfl, y, 0, t, rfl, k.same fr1.same, .inl ⟨ne, fun H2 fr2 => ?_⟩⟩
        exact ⟨_, rfl, q.1 rfl H2 (fr1.trans fr2)⟩
      | @bad b zs e hb kz zz c =>
        subst e
        refine ⟨_, rfl, _, 0, "list", rfl, .lst (fr1.same _ _ hb), .inr ⟨b, zs, rfl, fr1.same _ _ hb, fun y hy => let ⟨u, k⟩ := kz y hy; ⟨u, k.same fr1.same⟩, zz, fun H2 fr2 => ?_⟩⟩
        rw [c]
        exact ⟨_, rfl, q.1 rfl H2 (fr1.trans fr2)⟩
      | @ok b ls e hb zb c =>
        subst e
        obtain ⟨qlate, q⟩ := q.2 ls rfl
        have hzb : (ls.map V.int).length < sizeLine := by rw [List.length_map, sizeLine_eq]; omega
        refine ⟨_, rfl, _, 0, "list", rfl, .lst (fr1.same _ _ hb), .inr ⟨b, _, rfl, fr1.same _ _ hb, fun y hy => by
          obtain ⟨i, _, rfl⟩ := List.mem_map.mp hy
          exact ⟨_, .int i⟩, hzb, fun H2 fr2 => ?_⟩⟩
        rw [c]
        refine ⟨_, rfl, ?_⟩
        have fr12 := fr1.trans fr2
        have r2 : Paired (RwAt H2) xs rs := L2.Paired.mapP r fun x y c => c.same fr12.same
        refine negT (nxt ?_)
        dsimp only
        refine if_reading2 (late rs ls) (fun Qt hq => ev_late (X := cxOf (L2.CX P w) P w K mg base ["log", "looks", "left", "found", "row", "look"] "with_looks" (defScope s_with_looks) f cdv A outer s H E)
          (fr12.same _ _ h) r2 (fr12.same _ _ hb) okl hq) fun H3 fr3 => ?_
        have fr13 := fr12.trans fr3
        cases lt : late rs ls with
        | true => exact qlate lt H3 fr13
        | false =>
          have q := q lt
          have hb3 := fr13.same _ _ hb
          have ha3 := fr13.same _ _ h
          -- left = list(looks); found = []
          refine ⟨_, rfl, b, _, rfl, .inl (SqL.of hb3), fun l hl => ?_⟩
          have frl := Fr.new (M := []) (o := .lst (ls.map V.int)) hl
          refine ⟨(by show 0 ≤ sizeLine; decide), fun fo hf => ?_⟩
          have frf := Fr.new (M := []) (o := .lst []) hf
          have nlf : l ≠ fo := ne_of_none upd_same hf
          have frA := fr13.trans (frl.trans frf)
          have nl : H l = none := fr13.none hl
          have nf : H fo = none := (fr13.trans frl).none hf
          have hl4 := frf.same l _ upd_same
          -- for row in log
          refine ⟨_, rfl, a, rfl, ⟨xs, SqL.of (frA.same _ _ h)⟩, ?_⟩
          refine for_list (K := K) (a := a) (xs := xs) (fun i σ H' => (∃ s4 s5, σ = [some (V.ref a), some (V.ref b), some (V.ref l), some (V.ref fo), s4, s5]) ∧ Lp H l fo rs ls i H')
            ⟨⟨_, _, rfl⟩, ls, [], [], hl4, upd_same, frA, .nil, rfl, Nat.le_refl _⟩ ?_ ?_ ?_
          · rintro i σ H' _ ⟨_, _, _, _, _, _, fr, _⟩
            exact fr.same.seq (SqL.of h)
          · rintro i x σ H' hx ⟨⟨s4, s5, rfl⟩, left, ys, outs, hL, hF, fr, po, eq, hn⟩
            obtain ⟨rr, hrr, ax⟩ := Paired.get r hx
            have ax' := ax.same fr.same
            have hi : i < rs.length := (List.getElem?_eq_some_iff.mp hrr).1
            have ed : rs.drop i = rr :: rs.drop (i + 1) := by
              rw [List.drop_eq_getElem_cons hi, (List.getElem?_eq_some_iff.mp hrr).2]
            rw [ed] at eq
            -- while
            refine ⟨Lw H l fo rs ls i rr [some (V.ref a), some (V.ref b), some (V.ref l), some (V.ref fo), some x, s5], ⟨_, rfl, left, ys, outs, rfl, hL, hF, fr, po, eq, hn⟩, ?_⟩
            clear hL hF fr po eq hn
            rintro m σ H2 ⟨rfl, left, ys, outs, rfl, hL, hF, fr, po, eq, hn⟩
            have ax2 := ax.same fr.same
            obtain ⟨pr, e, st, i0, i1⟩ := row_ix (K := K) ax2
            obtain ⟨pr', e', tr⟩ := ax2.tup
            subst e
            cases e'
            -- what follows when no look goes ahead
            have go_on : ∀ H3, Fr [] H2 H3 → (rr.is "go" = true ∨ left = [] ∨ ∃ c l, left = c :: l ∧ ¬ c ≤ rr.c) →
                tDrop (tBM K "list" rAppend (tVar 3) (tCons (tCall spCopied [] E0 (tCons (tVar 4) tNil)) tNil))
                  { nx := fun σ H' => (∃ s4 s5, σ = [some (V.ref a), some (V.ref b), some (V.ref l), some (V.ref fo), s4, s5]) ∧ Lp H l fo rs ls (i + 1) H', rt := Q }
                  [some (V.ref a), some (V.ref b), some (V.ref l), some (V.ref fo), some (V.ref pr), s5] H3 := by
              intro H3 fr3 hm
              have fr23 := fr.trans fr3
              have ax3 := ax.same fr23.same
              obtain ⟨p3, e3, t3⟩ := ax3.tup
              cases e3
              have hF3 := fr3.same _ _ hF
              have hL3 := fr3.same _ _ hL
              obtain ⟨_, _, _, _, hl5⟩ := ax.args
              have zr : rr.vs.length < sizeLine := by
                obtain ⟨y0, l0, e0, _, h5⟩ := ax.args
                show rr.args.length + 1 < sizeLine
                rw [e0, sizeLine_eq, List.length_cons]; omega
              have kds : ∀ y, y ∈ rr.vs → ∃ t, Kd H y t := fun y hy => by
                rcases List.mem_cons.mp hy with rfl | hm
                · exact ⟨_, .str _⟩
                · exact ax.kd y hm
              refine ⟨_, rfl, .inl ⟨rfl, _, SqL.of hF3⟩, _, rfl, pr, rr.vs, rfl, t3, zr, fun y hy => let ⟨t, k⟩ := kds y hy; ⟨t, k.same fr23.same⟩, fun q0 vs0 H4 nq hq4 fr4 cp => ?_⟩
              have hF4 := fr4.same _ _ hF3
              have hL4 := fr4.same _ _ hL3
              have zy : ys.length < sizeLine := by rw [sizeLine_eq]; omega
              refine ⟨fo, ys, _, rfl, rfl, hF4, zy, ⟨_, _, rfl⟩, left, ys ++ [.ref q0], outs ++ [.row rr], ?_, upd_same, ?_, ?_, ?_, ?_⟩
              · rw [upd_ne nlf]; exact hL4
              · exact Fr.drop ((fr23.trans fr4).weak.trans (Fr.set (List.mem_singleton.mpr rfl))) nf
              · have frX : Fr [l, fo] H2 (upd H4 fo (.lst (ys ++ [.ref q0]))) := ((fr3.trans fr4).mono (fun _ z => nomatch z)).trans (Fr.set (by simp))
                refine Paired.app (L2.Paired.mapP po fun x y c => c.same frX.hd) (.cons ⟨q0, vs0, rfl, fr23.none nq, ?_, ?_⟩ .nil)
                · have n1 : q0 ≠ l := fun z => ne_of_none hL3 nq z.symm
                  have n2 : q0 ≠ fo := fun z => ne_of_none hF3 nq z.symm
                  rw [Hd_of (by simp [n1, n2]), upd_ne n2]
                  exact hq4
                · refine paired_mem cp fun x y hx c => ?_
                  have c' := c.back fr23 (kds x hx)
                  rcases c' with c' | ⟨b1, b2, b3, b4, b5, b6, b7, b8⟩
                  · exact .inl c'
                  · refine .inr ⟨b1, b2, b3, b4, b5, b6, b7, ?_⟩
                    have n1 : b3 ≠ l := fun z => by rw [z, hL4] at b8; cases c with | inl u => (obtain ⟨_, u⟩ := u; rw [u, b4] at b6; cases b6; rw [z, nl] at b5; cases b5) | inr u => (obtain ⟨_, _, p9, _, _, e9, n9, _⟩ := u; rw [e9] at b6; cases b6; rw [z, hL3] at n9; cases n9)
                    have n2 : b3 ≠ fo := fun z => by cases c with | inl u => (obtain ⟨_, u⟩ := u; rw [u, b4] at b6; cases b6; rw [z, nf] at b5; cases b5) | inr u => (obtain ⟨_, _, p9, _, _, e9, n9, _⟩ := u; rw [e9] at b6; cases b6; rw [z, hF3] at n9; cases n9)
                    rw [Hd_of (by simp [n1, n2]), upd_ne n2]
                    exact b8
              · rw [merge_row hm] at eq
                rw [← eq, List.append_assoc]; rfl
              · rw [List.length_append, List.length_singleton]; omega
            -- the test
            refine ⟨_, rfl, pr, _, _, _, rfl, rfl, st, i0, rfl, _, rfl, ?_⟩
            rw [dec_str]
            cases hg : rr.is "go" with
            | true =>
              have : decide (rr.name = "go") = true := hg
              rw [this]
              exact go_on H2 (Fr.refl _ _) (.inl hg)
            | false =>
              have : decide (rr.name = "go") = false := hg
              rw [this]
              refine ⟨_, rfl, (by show 0 ≤ sizeLine; decide), fun pn hpn => ?_⟩
              have frn := Fr.new (M := []) (o := .lst []) hpn
              have hLn := frn.same _ _ hL
              refine ⟨l, pn, _, rfl, rfl, SqL.of hLn, SqL.of upd_same, _, rfl, ?_⟩
              cases left with
              | nil => exact go_on _ frn (.inr (.inl rfl))
              | cons c left =>
                have mrr : rr ∈ rs := List.mem_of_getElem? hrr
                have eat := row_int okl mrr hg
                rw [eat] at i1
                have stn : SqT K _ pr rr.vs := Same.sq frn.same st
                refine ⟨_, rfl, l, _, _, _, rfl, rfl, SqL.of hLn, atI_nat (j := 0) rfl, _, rfl, pr, _, _, _, rfl, rfl, stn, i1, _, _, rfl, rfl, _, rfl, ?_⟩
                refine ite2 (fun hc => ?_) (fun hc => ?_)
                · have hc : c ≤ rr.c := of_decide_eq_true hc
                  refine ⟨Lw H l fo rs ls i rr [some (V.ref a), some (V.ref b), some (V.ref l), some (V.ref fo), some (V.ref pr), s5] left.length, fun σ' H' p => ⟨left.length, Nat.lt_succ_self _, p⟩, ?_⟩
                  have hFn := frn.same _ _ hF
                  refine ⟨_, rfl, .inl ⟨rfl, _, SqL.of hFn⟩, _, rfl, .inl ⟨rfl, _, SqL.of hLn⟩, l, _, 0, 0, V.int c, rfl, rfl, hLn, (by decide), (by decide), seq0 _ _, rfl, (by show 2 ≤ sizeLine; decide), fun pt hpt => ?_⟩
                  have ntl : pt ≠ l := fun z => by rw [z, upd_same] at hpt; cases hpt
                  have hpt2 : (upd H2 pn (.lst [])) pt = none := by rw [upd_ne ntl] at hpt; exact hpt
                  have ntf : pt ≠ fo := (ne_of_none hFn hpt2).symm
                  have nfl : fo ≠ l := nlf.symm
                  have zy : ys.length < sizeLine := by rw [sizeLine_eq]; simp at hn; omega
                  have frS : Fr [l, fo] H2 (upd (upd (upd H2 pn (.lst [])) l (.lst (((c :: left).map V.int).eraseIdx 0))) pt (.tup [V.str "look", V.int c])) :=
                    (frn.mono (fun _ z => nomatch z)).trans ((Fr.set (by simp)).trans (Fr.new hpt))
                  refine ⟨fo, ys, _, rfl, rfl, ?_, zy, rfl, left, ys ++ [.ref pt], outs ++ [.look c], rfl, ?_, upd_same, ?_, ?_, ?_, ?_⟩
                  · rw [upd_ne ntf.symm, upd_ne nfl]; exact hFn
                  · rw [upd_ne nlf, upd_ne ntl.symm, upd_same]; rfl
                  · exact Fr.drop (Fr.drop ((fr.mono (fun _ z => nomatch z)).trans (frS.trans (Fr.set (by simp)))) nl) nf
                  · have frX := frS.trans (Fr.set (a := fo) (o := .lst (ys ++ [.ref pt])) (by simp))
                    refine Paired.app (L2.Paired.mapP po fun x y c => c.same frX.hd) (.cons ⟨pt, rfl, (fr.trans frn).none hpt2, ?_⟩ .nil)
                    rw [Hd_of (by simp [ntl, ntf]), upd_ne ntf, upd_same]
                  · rw [merge_look hg hc] at eq
                    rw [← eq, List.append_assoc]; rfl
                  · rw [List.length_append, List.length_singleton]; simp at hn; omega
                · exact go_on _ frn (.inr (.inr ⟨c, left, rfl, fun z => hc (decide_eq_true z)⟩))
          · rintro σ H' ⟨⟨s4, s5, rfl⟩, left, ys, outs, hL, hF, fr, po, eq, hn⟩
            rw [lenx, List.drop_length] at eq
            refine ⟨_, rfl, _, rfl, l, rfl, ⟨_, SqL.of hL⟩, fun D hD => ?_⟩
            have zl : (left.map V.int).length < sizeLine := by rw [List.length_map, sizeLine_eq]; omega
            refine lc_listR (K := K) (fun _ => true) (fun x y H5 => ∃ c q, x = V.int c ∧ y = V.ref q ∧ H q = none ∧ H5 q = some (.tup [V.str "look", V.int c])) (fun x y H5 H6 e ⟨c, q, a1, a2, a3, a4⟩ => ⟨c, q, a1, a2, a3, e _ _ a4⟩) hD zl (fun _ => rfl)
              (fun x H' Q' _ _ _ h => h H' (Fr.refl _ _)) ?_ ?_ (SqL.of hL)
            · intro x H5 Q' hx _ fr5 ⟨acc, hacc⟩ hq
              obtain ⟨c, _, rfl⟩ := List.mem_map.mp hx
              refine ⟨_, rfl, (by show 2 ≤ sizeLine; decide), fun q0 hq0 => ?_⟩
              have ne : q0 ∉ [D] := fun z => ne_of_none hacc hq0 (List.mem_singleton.mp z).symm
              exact hq _ _ (Fr.new hq0) ⟨c, q0, rfl, rfl, (fr.trans fr5).none hq0, by rw [Hd_of ne]; exact upd_same⟩
            · intro H5 zs hD5 fr5 md
              have zz : zs.length ≤ left.length := by have := md.len; rw [List.length_map] at this; exact this
              refine ⟨fo, D, ys, zs, rfl, rfl, fr5.same _ _ hF, hD5, (by rw [sizeLine_eq]; omega), fun p hp => ?_⟩
              have frp := Fr.new (M := []) (o := .lst (ys ++ zs)) hp
              have frZ := fr.trans (fr5.trans frp)
              refine q p (ys ++ zs) _ ((fr.trans fr5).none hp) upd_same frZ ?_
              rw [← eq]
              refine Paired.app (L2.Paired.mapP po fun x y c => (c.same Hd_same).same (fr5.trans frp).same) ?_
              have md2 : Paired (fun x y => ∃ c q, x = V.int c ∧ y = V.ref q ∧ H q = none ∧ H5 q = some (.tup [V.str "look", V.int c])) (left.map V.int) zs :=
                L2.Paired.mapP md.paired fun x y ⟨c, q, a1, a2, a3, a4⟩ => ⟨c, q, a1, a2, a3, (of_Hd a4).2⟩
              exact looks_out frp md2
end
end Tk

set_option Elab.async false
set_option linter.all false
set_option maxRecDepth 100000
set_option maxHeartbeats 4000000
namespace Tk
open PySem PySem.Spec PyProof.Rows L2

/-! ### rows and looks as data -/
def SmA (H : Hp) (a : V) : Prop := ∃ d, Dd H a d ∧ okD d = true ∧ nodes d ≤ 8 ∧ d.depth ≤ 3
theorem SmA.same {H H' : Hp} {a : V} (e : Same H H') (s : SmA H a) : SmA H' a := by
  obtain ⟨d, h, r⟩ := s
  exact ⟨d, h.same e, r⟩
structure RwD (H : Hp) (r : Rw) : Prop where
  nm : okD (.str r.name) = true
  len : r.args.length ≤ 6
  sm : ∀ a, a ∈ r.args → SmA H a
noncomputable def rowD (H : Hp) (r : Rw) : PyData := .tuple (.str r.name :: r.args.map (dOf H))
noncomputable def outD (H : Hp) : Out → PyData
  | .look c => .tuple [.str "look", .int c]
  | .row r => rowD H r
theorem args_dd {H : Hp} : ∀ {l : List V}, (∀ a, a ∈ l → SmA H a) → DdAll H l (l.map (dOf H))
  | [], _ => .nil
  | a :: l, h => .cons (dOf_at (let ⟨d, q, _⟩ := h a List.mem_cons_self; ⟨d, q⟩)) (args_dd fun b m => h b (List.mem_cons_of_mem _ m))
theorem row_dd {H H' : Hp} {y : V} {r : Rw} (a : RwAt H' y r) (e : Same H H') (g : RwD H r) : Dd H' y (rowD H r) := by
  obtain ⟨p, rfl, h⟩ := a.tup
  exact .tup h (.cons (.str _) (DdAll.same e (args_dd g.sm)))
theorem rows_dd {H H' : Hp} (e : Same H H') : ∀ {xs : List V} {rs : List Rw}, Paired (RwAt H') xs rs → (∀ r, r ∈ rs → RwD H r) → DdAll H' xs (rs.map (rowD H))
  | _, _, .nil, _ => .nil
  | _, _, .cons a b, g => .cons (row_dd a e (g _ List.mem_cons_self)) (rows_dd e b fun r m => g r (List.mem_cons_of_mem _ m))
theorem cpy_dd {H H' : Hp} {x y : V} {d : PyData} (e : Same H H') (c : Cpy H H' x y) (h : Dd H x d) : Dd H' y d := by
  rcases c with ⟨_, rfl⟩ | ⟨a, xs, p, rfl, h1, rfl, _, h2⟩
  · exact h.same e
  · cases h with
    | lst s k => cases s.symm.trans h1; exact .lst h2 (DdAll.same e k)
    | tup s k => cases s.symm.trans h1
theorem cpys_dd {H H' : Hp} (e : Same H H') : ∀ {l ys : List V}, Paired (Cpy H H') l ys → (∀ a, a ∈ l → SmA H a) → DdAll H' ys (l.map (dOf H))
  | _, _, .nil, _ => .nil
  | _, _, .cons a b, g => .cons (cpy_dd e a (dOf_at (let ⟨d, q, _⟩ := g _ List.mem_cons_self; ⟨d, q⟩))) (cpys_dd e b fun r m => g r (List.mem_cons_of_mem _ m))
def GoodO (H : Hp) : Out → Prop
  | .look c => c.natAbs < 10 ^ 40
  | .row r => RwD H r
theorem out_dd {H H' : Hp} {y : V} {o : Out} (e : Same H H') (a : OutAt H H' y o) (g : GoodO H o) : Dd H' y (outD H o) := by
  cases o with
  | look c => obtain ⟨q, rfl, _, h⟩ := a; exact .tup h (.cons (.str _) (.cons (.int _) .nil))
  | row r =>
    obtain ⟨q, vs, rfl, _, h, p⟩ := a
    cases p with
    | cons c cs => exact .tup h (.cons (cpy_dd e c (.str _)) (cpys_dd e cs (g : RwD H r).sm))
theorem outs_dd {H H' : Hp} (e : Same H H') : ∀ {ys : List V} {os : List Out}, Paired (OutAt H H') ys os → (∀ o, o ∈ os → GoodO H o) → DdAll H' ys (os.map (outD H))
  | _, _, .nil, _ => .nil
  | _, _, .cons a b, g => .cons (out_dd e a (g _ List.mem_cons_self)) (outs_dd e b fun r m => g r (List.mem_cons_of_mem _ m))
/-! ### and how large they are -/
theorem all_small {n k : Nat} : ∀ {ds : List PyData}, (∀ d, d ∈ ds → okD d = true ∧ nodes d ≤ n ∧ d.depth ≤ k) → okDs ds = true ∧ nodesAll ds ≤ n * ds.length ∧ PyData.depthAll ds ≤ k
  | [], _ => ⟨by simp only [okDs], by simp [nodesAll], by simp [PyData.depthAll]⟩
  | d :: ds, h => by
    obtain ⟨a, b, c⟩ := h d List.mem_cons_self
    obtain ⟨a2, b2, c2⟩ := all_small (ds := ds) fun e m => h e (List.mem_cons_of_mem _ m)
    refine ⟨by simp only [okDs, a, a2, Bool.and_self], ?_, ?_⟩
    · simp only [nodesAll, List.length_cons, Nat.mul_add, Nat.mul_one]; omega
    · simp only [PyData.depthAll]; omega
theorem small_list {n k m : Nat} {ds : List PyData} (h : ∀ d, d ∈ ds → okD d = true ∧ nodes d ≤ n ∧ d.depth ≤ k) (l : n * ds.length ≤ m) : okD (.list ds) = true ∧ nodes (.list ds) ≤ m + 1 ∧ (PyData.list ds).depth ≤ k + 1 := by
  obtain ⟨a, b, c⟩ := all_small h
  refine ⟨by simp only [okD, a], ?_, ?_⟩
  · simp only [nodes]; omega
  · simp only [PyData.depth]; omega
theorem row_small {H : Hp} {r : Rw} (g : RwD H r) : okD (rowD H r) = true ∧ nodes (rowD H r) ≤ 57 ∧ (rowD H r).depth ≤ 4 := by
  obtain ⟨a, b, c⟩ := all_small (n := 8) (k := 3) (ds := .str r.name :: r.args.map (dOf H)) (by
    intro d hd
    rcases List.mem_cons.mp hd with rfl | hd
    · exact ⟨g.nm, by simp [nodes], by simp [PyData.depth]⟩
    · obtain ⟨v, hv, rfl⟩ := List.mem_map.mp hd
      obtain ⟨d, q, r1⟩ := g.sm v hv
      rw [dOf_eq q]; exact r1)
  have l := g.len
  rw [List.length_cons, List.length_map] at b
  unfold rowD
  refine ⟨by simp only [okD, a], ?_, ?_⟩
  · simp only [nodes]; omega
  · simp only [PyData.depth]; omega
theorem out_small {H : Hp} {o : Out} (g : GoodO H o) : okD (outD H o) = true ∧ nodes (outD H o) ≤ 57 ∧ (outD H o).depth ≤ 4 := by
  cases o with
  | look c =>
    have g : c.natAbs < 10 ^ 40 := g
    have s : okD (.str "look") = true := by decide
    refine ⟨?_, ?_, ?_⟩
    · simp only [outD, okD, okDs, decide_eq_true g, Bool.and_true]; exact s
    · simp [outD, nodes, nodesAll]
    · simp [outD, PyData.depth, PyData.depthAll]
  | row r => exact row_small g
theorem outs_small {H : Hp} {os : List Out} (g : ∀ o, o ∈ os → GoodO H o) (l : os.length ≤ 60) : okD (.list (os.map (outD H))) = true ∧ nodes (.list (os.map (outD H))) ≤ 16000 ∧ (PyData.list (os.map (outD H))).depth ≤ 60 := by
  obtain ⟨a, b, c⟩ := small_list (n := 57) (k := 4) (m := 57 * 60) (ds := os.map (outD H)) (by
    intro d hd
    obtain ⟨o, ho, rfl⟩ := List.mem_map.mp hd
    exact out_small (g o ho)) (by rw [List.length_map]; omega)
  exact ⟨a, by omega, by omega⟩
theorem rows_small {H : Hp} {rs : List Rw} (g : ∀ r, r ∈ rs → RwD H r) (l : rs.length ≤ 60) : okD (.list (rs.map (rowD H))) = true ∧ nodes (.list (rs.map (rowD H))) ≤ 16000 ∧ (PyData.list (rs.map (rowD H))).depth ≤ 60 := by
  obtain ⟨a, b, c⟩ := small_list (n := 57) (k := 4) (m := 57 * 60) (ds := rs.map (rowD H)) (by
    intro d hd
    obtain ⟨o, ho, rfl⟩ := List.mem_map.mp hd
    exact row_small (g o ho)) (by rw [List.length_map]; omega)
  exact ⟨a, by omega, by omega⟩
theorem ints_small {ls : List Int} (g : ∀ c, c ∈ ls → c.natAbs < 10 ^ 40) (l : ls.length ≤ 60) : okD (.list (ls.map .int)) = true ∧ nodes (.list (ls.map .int)) ≤ 16000 ∧ (PyData.list (ls.map .int)).depth ≤ 60 := by
  obtain ⟨a, b, c⟩ := small_list (n := 1) (k := 0) (m := 60) (ds := ls.map PyData.int) (by
    intro d hd
    obtain ⟨o, ho, rfl⟩ := List.mem_map.mp hd
    exact ⟨by simp only [okD, decide_eq_true (g o ho)], by simp [nodes], by simp [PyData.depth]⟩) (by rw [List.length_map]; omega)
  exact ⟨a, by omega, by omega⟩
theorem good_rwd {H : Hp} {r : Rw} (g : GoodRw r) : RwD H r := by
  obtain ⟨q, ns, m, rfl, l, b⟩ := g
  refine ⟨?_, ?_, fun a ha => ?_⟩
  · have ok : (lawSizes.all fun q => okD (.str q.1)) = true := by decide +kernel
    exact List.all_eq_true.mp ok _ m
  · have := (sz_size m).2.2
    rw [List.length_map]; omega
  · obtain ⟨i, hi, rfl⟩ := List.mem_map.mp ha
    obtain ⟨b0, b1⟩ := b i hi
    refine ⟨.int i, .int i, ?_, by simp [nodes], by simp [PyData.depth]⟩
    simp only [okD, decide_eq_true_eq]
    omega
abbrev H0 : Hp := fun _ => none
theorem s0 {H : Hp} : Same H0 H := fun _ _ h => nomatch h
noncomputable def dR (rs : List Rw) : PyData := .list (rs.map (rowD H0))
def Sml (d : PyData) : Prop := okD d = true ∧ nodes d ≤ 16000 ∧ d.depth ≤ 60
theorem rep_at {K : PySem.W.Frag} {H : Hp} {v : V} {d : PyData} {Q : VK} (h : Dd H v d) (s : Sml d) (q : Q (.str d.shown) H) : rRepr K [v] H Q := repr_at h s.1 s.2.1 s.2.2 q
theorem goods_sml {rs : List Rw} (g : ∀ r, r ∈ rs → GoodRw r) (l : rs.length ≤ 60) : Sml (dR rs) := rows_small (fun r m => good_rwd (g r m)) l
theorem goods_dd {H : Hp} {R : Addr} {xs : List V} {rs : List Rw} (g : ∀ r, r ∈ rs → GoodRw r) (h : H R = some (.lst xs)) (pr : Paired (RwAt H) xs rs) : Dd H (.ref R) (dR rs) := .lst h (rows_dd s0 pr fun r m => good_rwd (g r m))
end Tk

set_option Elab.async false
set_option linter.all false
set_option maxRecDepth 100000
set_option maxHeartbeats 4000000
namespace Tk
open PySem PySem.Spec PyProof.Rows L2

/-! ### counts, and the looks that keep them -/
def mo (w : Nat) : Int := 2 ^ w - 1
def lkN (w : Nat) (m : Int) : Nat := ((m + mo w - 1) / mo w - 1).toNat
def lks (w : Nat) (a : Int) : Nat → List Out
  | 0 => []
  | n + 1 => .look a :: lks w (a + mo w) n
theorem mo_pos {w : Nat} (h : 1 ≤ w) : 1 ≤ mo w := by
  have h2 : (2 : Int) ^ 1 ≤ 2 ^ w := by
    have : (2 : Nat) ^ 1 ≤ 2 ^ w := Nat.pow_le_pow_right (by decide) h
    exact_mod_cast this
  unfold mo; omega
theorem mo_lt {w : Nat} (h : w ≤ 64) : mo w < 2 ^ 64 := by
  have : (2 : Nat) ^ w ≤ 2 ^ 64 := Nat.pow_le_pow_right (by decide) h
  have h2 : (2 : Int) ^ w ≤ 2 ^ 64 := by exact_mod_cast this
  unfold mo; omega
theorem lks_snoc (w : Nat) : ∀ (n : Nat) (a : Int), lks w a (n + 1) = lks w a n ++ [.look (a + n * mo w)]
  | 0, a => by simp [lks]
  | n + 1, a => by
    have ih := lks_snoc w n (a + mo w)
    show Out.look a :: lks w (a + mo w) (n + 1) = Out.look a :: lks w (a + mo w) n ++ [.look (a + ((n + 1 : Nat) : Int) * mo w)]
    rw [ih, List.cons_append]
    congr 4
    rw [Int.natCast_add, Int.add_mul, Int.add_assoc]
    congr 1
    simp [Int.add_comm]
theorem lks_len (w : Nat) : ∀ (n : Nat) (a : Int), (lks w a n).length = n
  | 0, _ => rfl
  | n + 1, a => by simp [lks, lks_len w n]
def onlyV : List V := [.str "look", .str "read", .str "expired", .str "running", .str "waiting", .str "sampled"]
def Rw.only (r : Rw) : Bool := inV (.str r.name) onlyV
def atR (l : Int) (r : Rw) : Int := if r.is "go" = true then l else r.c
def shortGo (w : Nat) : Int → Int → Int → List Rw → List Out
  | b, l, m, [] => if b < l then lks w (l - m + mo w) (lkN w m) ++ [.look l] else []
  | b, l, m, r :: rs =>
    if r.only = true then shortGo w b (atR l r) (m + (atR l r - l) % 2 ^ w) rs
    else lks w (atR l r - (m + (atR l r - l) % 2 ^ w) + mo w) (lkN w (m + (atR l r - l) % 2 ^ w)) ++ .row r :: shortGo w (atR l r) (atR l r) 0 rs
def shortL (w : Nat) (rs : List Rw) : List Out := shortGo w 0 0 0 rs
theorem lkN_le {w : Nat} (h : 1 ≤ w) {m : Int} {n : Nat} (hm : m ≤ (n + 1 : Nat) * mo w) : lkN w m ≤ n := by
  have p := mo_pos h
  have q : (m + mo w - 1) / mo w ≤ n + 1 := by
    refine Int.le_of_lt_add_one ((Int.ediv_lt_iff_lt_mul (by omega)).mpr ?_)
    have e : ((n : Int) + 1 + 1) * mo w = ((n + 1 : Nat) : Int) * mo w + mo w := by rw [Int.add_mul ((n : Int) + 1) 1, Int.one_mul]; simp
    rw [e]; omega
  unfold lkN
  omega

section
variable {P : Program} {w : World} {K : PySem.W.Frag} {mg : Str → Option Value} {base : Heap} {CW CC : Addr}
/-! ### check_width, power -/
def okW : V → Bool
  | .int i => decide (1 ≤ i) && !decide (64 < i)
  | _ => false
def spWidth (CW : Addr) : Sp := fun vs H Q E => ∃ x t, vs = [x] ∧ Kd H x t ∧ (okW x = false → E (.ref CW) none H) ∧ (okW x = true → Q .non H)
theorem sc_width : FnScope ["width"] ["width"] (defScope s_check_width) := ⟨rfl, rfl, rfl, by decide +kernel, rfl, by decide +kernel, by decide +kernel⟩
theorem ok_width {tk : Tok} (F : FunAt K mg "check_width" s_check_width) (T_NoWidth : ExcC K mg "NoWidth" CW) (G_MOST_WIDTH : mg "MOST_WIDTH" = some (.int 64 tk)) (C_is_whole : Cal P w K mg base CX0 1 "is_whole" ["thing", "least"] [] spWhole) :
    Cal P w K mg base (L2.CX P w) 2 "check_width" ["width"] [] (spWidth CW) := by
  refine Cal.mkX F sc_width (by rintro _ _ _ _ ⟨_, _, rfl, _⟩; rfl) (fun _ _ _ _ _ _ us hl => match us, hl with | [_], _ => rfl) ?_
  rintro f cdv A outer s H vs Q E hr ⟨x, t, rfl, k, qb, q⟩
  have nd := sc_width.nd
  refine ⟨_, (pss_one (ps_if (PW.pt (pw_or (pt_not (pt_val (pe_c C_is_whole (hr.mono (by decide)) (by rfl) pass0 (pa_cons (pv 0) (pa_cons pe_int pa_nil))))) (pw_or1 (pt_cmpR op_gt (pv 0) (pe_glob (v := .int 64) (by rfl) G_MOST_WIDTH ⟨_, rfl⟩) (nomark _)))))
      (pss_one (ps_rs T_NoWidth rfl (takes_of rfl rfl rfl rfl)))
      pss_nil)), ?_⟩
  refine ⟨_, rfl, x, .int 1, t, rfl, k, .inr ⟨1, rfl⟩, ?_⟩
  cases x with
  | int i =>
    by_cases h1 : 1 ≤ i
    · have e1 : wholeV (.int i) (.int 1) = true := decide_eq_true h1
      rw [e1]
      refine ⟨_, rfl, ?_⟩
      refine negT ⟨_, rfl, i, 64, rfl, rfl, _, rfl, ?_⟩
      refine ite2 (fun h2 => ?_) (fun h2 => ?_)
      · refine qb ?_
        show (decide (1 ≤ i) && !decide (64 < i)) = false
        rw [h2]; simp
      · refine q ?_
        show (decide (1 ≤ i) && !decide (64 < i)) = true
        rw [decide_eq_true h1, Bool.eq_false_iff.mpr h2]; rfl
    · have e1 : wholeV (.int i) (.int 1) = false := decide_eq_false h1
      rw [e1]
      refine ⟨_, rfl, ?_⟩
      refine negF (qb ?_)
      show (decide (1 ≤ i) && !decide (64 < i)) = false
      rw [decide_eq_false h1]; rfl
  | _ => exact ⟨_, rfl, negF (qb rfl)⟩
def spPower : Sp := fun vs H Q _ => ∃ n : Nat, vs = [.int n] ∧ n ≤ 64 ∧ Q (.int (2 ^ n)) H
theorem sc_power : FnScope ["number"] ["number"] (defScope s_power) := ⟨rfl, rfl, rfl, by decide +kernel, rfl, by decide +kernel, by decide +kernel⟩
theorem ok_power (F : FunAt K mg "power" s_power) : Cal P w K mg base CX0 1 "power" ["number"] [] spPower := by
  refine Cal.mk0 F sc_power (by rintro _ _ _ _ ⟨_, rfl, _⟩; rfl) (fun _ _ _ _ _ _ us hl => match us, hl with | [_], _ => rfl) ?_
  rintro f cdv A outer s H vs Q E hr ⟨n, rfl, hn, q⟩
  refine ⟨_, (pss_one (ps_ret (pe_op op_shl pe_int (pv 0)))), ?_⟩
  refine ⟨_, rfl, 1, n, rfl, rfl, ⟨by omega, by omega, by decide⟩, ?_⟩
  show Q (V.int (1 * 2 ^ (n : Int).toNat)) H
  rw [Int.one_mul, Int.toNat_natCast]
  exact q
/-! ### looks_between -/
def spLB : Sp := fun vs H Q _ => ∃ (n : Nat) (b g m : Int), vs = [.int n, .int b, .int g, .int m] ∧ 1 ≤ n ∧ n ≤ 64 ∧ lkN n m ≤ 1000 ∧
  ∀ p ys H', H p = none → H' p = some (.lst ys) → Fr [] H H' → Paired (OutAt H H') ys (lks n (b + g - m + mo n) (lkN n m)) → Q (.ref p) H'
theorem sc_lb : FnScope ["width", "begin", "gap", "many", "most", "found", "look", "number"] ["width", "begin", "gap", "many"] (defScope s_looks_between) := ⟨rfl, rfl, rfl, by decide +kernel, rfl, by decide +kernel, by decide +kernel⟩
theorem ok_lb (F : FunAt K mg "looks_between" s_looks_between) (G : NoGl mg) (C_power : Cal P w K mg base CX0 1 "power" ["number"] [] spPower) : Cal P w K mg base CX0 2 "looks_between" ["width", "begin", "gap", "many"] [] spLB := by
  refine Cal.mk0 F sc_lb (by rintro _ _ _ _ ⟨_, _, _, _, rfl, _⟩; rfl) (fun _ _ _ _ _ _ us hl => match us, hl with | [_, _, _, _], _ => rfl) ?_
  rintro f cdv A outer s H vs Q E hr ⟨n, b, g, m, rfl, n1, n64, hk, q⟩
  have nd := sc_lb.nd
  refine ⟨_, (pss_cons (ps_set (i := 4) nd rfl (.inl rfl) (pe_op op_sub (pe_c C_power (hr.mono (by decide)) (by rfl) pass0 (pa_cons (pv 0) pa_nil)) pe_int))
    (pss_cons (ps_set (i := 5) nd rfl (.inl rfl) (pe_lst pa_nil))
    (pss_cons (ps_set (i := 6) nd rfl (.inl rfl) (pe_op op_add (pe_op op_sub (pe_op op_add (pv 1) (pv 2)) (pv 3)) (pv 4)))
    (pss_cons (ps_for PassesOwn.never rfl (pi_range1 (by rfl) G.range (pa_cons (pe_callB (call_max2 rfl) (by rfl) G.max (by decide +kernel) (pa_cons pe_int (pa_cons (pe_op op_sub (pe_op op_fdivW (pe_op op_sub (pe_op op_add (pv 3) (pv 4)) pe_int) (pv 4)) pe_int) pa_nil))) pa_nil)) (pg_name (i := 7) nd rfl (.inl rfl))
      (pss_cons (ps_expr (pe_bm PySem.F.plainAttrs_list PySem.F.slot_list_append PySem.F.type_list_append mt_append (pv 5) (pa_cons (pe_tup (pa_cons pe_str (pa_cons (pv 6) pa_nil))) pa_nil)))
      (pss_one (ps_aug (i := 6) nd rfl (.inl rfl) (pv 4) ip_add))))
    (pss_one (ps_ret (pv 5))))))), ?_⟩
  have mp := mo_pos n1
  have ml := mo_lt n64
  refine ⟨_, rfl, n, rfl, n64, _, _, rfl, rfl, ?_⟩
  have emo : (2 : Int) ^ n - 1 = mo n := rfl
  refine ⟨(by show 0 ≤ sizeLine; decide), fun fo nfo => ?_⟩
  refine ⟨_, rfl, _, rfl, _, _, rfl, rfl, _, rfl, _, _, rfl, rfl, _, rfl, _, _, rfl, rfl, ?_⟩
  have fr0 := Fr.new (M := []) (o := .lst []) nfo
  have lg : (mo n).natAbs.log2 < 9000 := (Nat.log2_lt (by omega)).mpr (Nat.lt_of_lt_of_le (by omega : (mo n).natAbs < 2 ^ 64) (Nat.pow_le_pow_right (by decide) (by decide)))
  refine ⟨_, rfl, _, rfl, _, _, rfl, rfl, _, _, rfl, rfl, _, rfl, _, _, rfl, rfl, ⟨by show 0 < mo n; omega, lg⟩, _, _, rfl, rfl, _, _, rfl, lkN n m, ?_, by omega, by omega, ?_⟩
  · show [V.int (if (m + mo n - 1) / mo n - 1 > 0 then (m + mo n - 1) / mo n - 1 else 0)] = [V.int (lkN n m)]
    congr 2
    unfold lkN
    split <;> omega
  refine for_range (lo := 0) (n := lkN n m) (fun i σ H' => ∃ (s7 : Option V) (ys : List V), σ = [some (V.int n), some (V.int b), some (V.int g), some (V.int m), some (V.int (mo n)), some (V.ref fo), some (V.int (b + g - m + mo n + i * mo n)), s7] ∧
      H' fo = some (.lst ys) ∧ Fr [] H H' ∧ Paired (OutAt H (Hd [fo] H')) ys (lks n (b + g - m + mo n) i)) ⟨none, [], ?_, upd_same, fr0, .nil⟩ ?_ ?_
  · show _ = [some (V.int n), some (V.int b), some (V.int g), some (V.int m), some (V.int (mo n)), some (V.ref fo), some (V.int (b + g - m + mo n + (0 : Nat) * mo n)), none]
    rw [show b + g - m + mo n + ((0 : Nat) : Int) * mo n = b + g - m + mo n by simp]
    rfl
  · rintro i σ H' hi ⟨s7, ys, rfl, hf, fr, po⟩
    have ly := PySem.Paired.length po
    rw [lks_len] at ly
    refine ⟨_, rfl, .inl ⟨rfl, _, SqL.of hf⟩, _, rfl, (by show 2 ≤ sizeLine; decide), fun pt npt => ?_⟩
    have frt := Fr.new (M := []) (o := .tup [.str "look", .int (b + g - m + mo n + i * mo n)]) npt
    have ntf : pt ≠ fo := (ne_of_none hf npt).symm
    refine ⟨fo, ys, _, rfl, rfl, frt.same _ _ hf, (by rw [sizeLine_eq]; omega), _, rfl, _, rfl, _, _, rfl, rfl, ?_⟩
    have frS := frt.weak (p := fo) |>.trans (Fr.set (o := .lst (ys ++ [V.ref pt])) List.mem_cons_self)
    refine ⟨some (V.int (0 + (i : Int))), ys ++ [.ref pt], ?_, upd_same, Fr.drop ((fr.weak).trans frS) nfo, ?_⟩
    · show _ = [some (V.int n), some (V.int b), some (V.int g), some (V.int m), some (V.int (mo n)), some (V.ref fo), some (V.int (b + g - m + mo n + ((i + 1 : Nat) : Int) * mo n)), some (V.int (0 + (i : Int)))]
      rw [show b + g - m + mo n + ((i + 1 : Nat) : Int) * mo n = b + g - m + mo n + i * mo n + mo n by rw [Int.natCast_add, Int.add_mul]; simp [Int.add_assoc]]
      rfl
    · rw [lks_snoc]
      refine Paired.app (L2.Paired.mapP po fun x y c => c.same frS.hd) (.cons ⟨pt, rfl, fr.none npt, ?_⟩ .nil)
      rw [Hd_of (by simpa using ntf), upd_ne ntf, upd_same]
  · rintro σ H' ⟨s7, ys, rfl, hf, fr, po⟩
    exact ⟨_, rfl, q fo ys H' nfo hf fr (L2.Paired.mapP po fun x y c => c.same Hd_same)⟩
end
end Tk

set_option Elab.async false
set_option linter.all false
set_option maxRecDepth 100000
set_option maxHeartbeats 4000000
namespace Tk
open PySem PySem.Spec PyProof.Rows L2

/-! ### shortest -/
theorem lk_base {H Hg H1 : Hp} (fr : Fr [] H Hg) {w : Nat} : ∀ {n : Nat} {a : Int} {ys : List V}, Paired (OutAt Hg H1) ys (lks w a n) → Paired (OutAt H H1) ys (lks w a n)
  | 0, _, _, .nil => .nil
  | n + 1, a, _, .cons ⟨q, h1, h2, h3⟩ b => .cons ⟨q, h1, fr.none h2, h3⟩ (lk_base fr b)
theorem cpy_base {H Hg H1 : Hp} (fr : Fr [] H Hg) : ∀ {xs ys : List V}, Paired (Cpy Hg H1) xs ys → (∀ x, x ∈ xs → ∃ t, Kd H x t) → Paired (Cpy H H1) xs ys
  | _, _, .nil, _ => .nil
  | _, _, .cons a b, h => .cons (a.back fr (h _ List.mem_cons_self)) (cpy_base fr b fun x m => h x (List.mem_cons_of_mem _ m))
section
variable {P : Program} {w : World} {K : PySem.W.Frag} {mg : Str → Option Value} {base : Heap} {CW CC : Addr}
theorem ev_at {σ : L2.St} {i j : Nat} {x : V} {rr : Rw} {l : Int} {H : Hp} {Q : VK} (h3 : σ[i]? = some (some x)) (h5 : σ[j]? = some (some (.int l))) (ax : RwAt H x rr) (ci : rr.is "go" = false → rr.at = .int rr.c) (q : Q (.int (atR l rr)) H) :
    tIf (tTest (tOp rEq (tOp (rIxT K) (tVar i) (tC (.int 0))) (tC (.str "go")))) (tVar j) (tOp (rIxT K) (tVar i) (tC (.int 1))) σ H Q := by
  obtain ⟨p, e, st, i0, i1⟩ := row_ix (K := K) ax
  subst e
  refine ⟨_, h3, p, _, _, _, rfl, rfl, st, i0, rfl, _, rfl, ?_⟩
  rw [dec_str]
  cases hg : rr.is "go" with
  | true =>
    have e : decide (rr.name = "go") = true := hg
    have e2 : atR l rr = l := if_pos hg
    rw [e]
    rw [e2] at q
    exact ⟨_, h5, q⟩
  | false =>
    have e : decide (rr.name = "go") = false := hg
    have e2 : atR l rr = rr.c := if_neg (by rw [hg]; exact Bool.false_ne_true)
    rw [e]
    rw [e2] at q
    rw [ci hg] at i1
    exact ⟨_, h3, p, _, _, _, rfl, rfl, st, i1, q⟩
def okLg : Option (List Rw) → Bool
  | some rs => logOk rs
  | none => false
def spShort (CW CC : Addr) : Sp := fun vs H Q E => ∃ (x : V) (t : String) (y : V) (o : Option (List Rw)), vs = [x, y] ∧ Kd H x t ∧ LogRs H y o ∧ (okW x = false → ∀ H', Fr [] H H' → E (.ref CW) none H') ∧
  (okW x = true → (okLg o = false → ∀ H', Fr [] H H' → E (.ref CC) none H') ∧ ∀ (n : Nat) (rs : List Rw), x = .int n → o = some rs → logOk rs = true → rs.length ≤ 1000 ∧
    ∀ p ys H', H p = none → H' p = some (.lst ys) → Fr [] H H' → Paired (OutAt H H') ys (shortL n rs) → ys.length ≤ rs.length → Q (.ref p) H')
theorem sc_short : FnScope ["width", "log", "found", "row", "begin", "last", "many", "at"] ["width", "log"] (defScope s_shortest) := ⟨rfl, rfl, rfl, by decide +kernel, rfl, by decide +kernel, by decide +kernel⟩
theorem ok_short {ol : Addr} (F : FunAt K mg "shortest" s_shortest) (G : NoGl mg) (G_ONLY_LOOKS : mg "ONLY_LOOKS" = some (.ref ol)) (hol : ∀ H, SqT K H ol onlyV) (C_check_width : Cal P w K mg base (L2.CX P w) 2 "check_width" ["width"] [] (spWidth CW))
    (C_check_cycles : Cal P w K mg base (L2.CX P w) 4 "check_cycles" ["log"] [] (spCheckCycles CC)) (C_power : Cal P w K mg base CX0 1 "power" ["number"] [] spPower) (C_looks_between : Cal P w K mg base CX0 2 "looks_between" ["width", "begin", "gap", "many"] [] spLB)
    (C_copied : Cal P w K mg base CX0 1 "copied" ["row"] [] spCopied) : Cal P w K mg base (L2.CX P w) 5 "shortest" ["width", "log"] [] (spShort CW CC) := by
  refine Cal.mkX F sc_short (by rintro _ _ _ _ ⟨_, _, _, _, rfl, _⟩; rfl) (fun _ _ _ _ _ _ us hl => match us, hl with | [_, _], _ => rfl) ?_
  rintro f cdv A outer s H vs Q E hr ⟨x, t, y, o, rfl, kx, lr, qw, q⟩
  have nd := sc_short.nd
  refine ⟨_, (pss_cons (ps_expr (pe_c C_check_width (hr.mono (by decide)) (by rfl) (passes_call (takes_of rfl rfl rfl rfl) (fun _ _ _ _ h => h)) (pa_cons (pv 0) pa_nil)))
    (pss_cons (ps_expr (pe_c C_check_cycles (hr.mono (by decide)) (by rfl) (passes_call (takes_of rfl rfl rfl rfl) (fun _ _ _ _ h => h)) (pa_cons (pv 1) pa_nil)))
    (pss_cons (ps_set (i := 2) nd rfl (.inl rfl) (pe_lst pa_nil))
    (pss_cons (ps_asg (pe_tup (pa_cons pe_int (pa_cons pe_int (pa_cons pe_int pa_nil)))) (pg_tup rfl (pgs_cons (pg_name (i := 4) nd rfl (.inl rfl)) (pgs_cons (pg_name (i := 5) nd rfl (.inl rfl)) (pgs_cons (pg_name (i := 6) nd rfl (.inl rfl)) pgs_nil)))))
    (pss_cons (ps_for (passes_of rfl) rfl (pi_list (pv 1)) (pg_name (i := 3) nd rfl (.inl rfl))
      (pss_cons (ps_set (i := 7) nd rfl (.inl rfl) (pe_ifExp (pt_cmpR op_eq (pe_ix ix_tup (pv 3) pe_int (fun _ _ => rfl)) pe_str (nomark _)) (pv 5) (pe_ix ix_tup (pv 3) pe_int (fun _ _ => rfl))))
      (pss_cons (ps_aug (i := 6) nd rfl (.inl rfl) (pe_op op_mod (pe_op op_sub (pv 7) (pv 5)) (pe_c C_power (hr.mono (by decide)) (by rfl) pass0 (pa_cons (pv 0) pa_nil))) ip_add)
      (pss_cons (ps_set (i := 5) nd rfl (.inl rfl) (pv 7))
      (pss_one (ps_if (pt_cmpR op_notIn_seq (pe_ix ix_tup (pv 3) pe_int (fun _ _ => rfl)) (pe_glob (v := .ref ol) (by rfl) G_ONLY_LOOKS rfl) rfl)
        (pss_cons (ps_set (i := 2) nd rfl (.inl rfl) (pe_op op_cat (pe_op op_cat (pv 2) (pe_c C_looks_between (hr.mono (by decide)) (by rfl) pass0 (pa_cons (pv 0) (pa_cons (pv 4) (pa_cons (pe_op op_sub (pv 7) (pv 4)) (pa_cons (pv 6) pa_nil)))))) (pe_lst (pa_cons (pe_c C_copied (hr.mono (by decide)) (by rfl) pass0 (pa_cons (pv 3) pa_nil)) pa_nil))))
        (pss_one (ps_par (i := 4) (j := 6) (by rfl) nd rfl rfl (by decide) rfl rfl (pa_cons (pv 7) (pa_cons pe_int pa_nil)) (by rfl))))
        pss_nil))))))
    (pss_cons (ps_if (pt_cmpR op_gt (pv 5) (pv 4) (nomark _))
      (pss_one (ps_set (i := 2) nd rfl (.inl rfl) (pe_op op_cat (pe_op op_cat (pv 2) (pe_c C_looks_between (hr.mono (by decide)) (by rfl) pass0 (pa_cons (pv 0) (pa_cons (pv 4) (pa_cons (pe_op op_sub (pv 5) (pv 4)) (pa_cons (pv 6) pa_nil)))))) (pe_lst (pa_cons (pe_tup (pa_cons pe_str (pa_cons (pv 5) pa_nil))) pa_nil)))))
      pss_nil)
    (pss_one (ps_ret (pv 2))))))))), ?_⟩
  refine ⟨_, rfl, x, t, rfl, kx, fun h => qw h H (Fr.refl _ _), fun hw => ?_⟩
  obtain ⟨qc, q⟩ := q hw
  obtain ⟨n, rfl, n1, n64⟩ : ∃ n : Nat, x = .int n ∧ 1 ≤ n ∧ n ≤ 64 := by
    cases x with
    | int i =>
      have hw : (decide (1 ≤ i) && !decide (64 < i)) = true := hw
      rw [Bool.and_eq_true, decide_eq_true_eq, Bool.not_eq_true', decide_eq_false_iff_not] at hw
      exact ⟨i.toNat, by rw [Int.toNat_of_nonneg (by omega)], by omega, by omega⟩
    | _ => cases hw
  refine ⟨_, rfl, _, _, rfl, lr, fun H1 fr1 => ?_⟩
  cases lr with
  | bad h => exact qc rfl H1 fr1
  | @ok a xs rs e h z r =>
    subst e
    show if logOk rs = true then _ else _
    cases okl : logOk rs with
    | false => exact qc okl H1 fr1
    | true =>
      rw [if_pos rfl]
      obtain ⟨len, q⟩ := q n rs rfl rfl okl
      have lenx := PySem.Paired.length r
      have mp := mo_pos n1
      have pw : (0 : Int) < 2 ^ n := by have : mo n = 2 ^ n - 1 := rfl; omega
      refine ⟨(by show 0 ≤ sizeLine; decide), fun f0 nf0 => ?_⟩
      have fr2 := Fr.new (M := []) (o := .lst []) nf0
      have ci : ∀ rr, rr ∈ rs → rr.is "go" = false → rr.at = .int rr.c := fun rr m g => row_int okl m g
      -- begin, last, many = 0, 0, 0
      refine ⟨(by show 3 ≤ sizeLine; decide), fun pt npt => ⟨pt, [.int 0, .int 0, .int 0], rfl, SqT.of upd_same, rfl, _, _, rfl, _, _, rfl, _, _, rfl, rfl, ?_⟩⟩
      have frt := Fr.new (M := []) (o := .tup [V.int 0, V.int 0, V.int 0]) npt
      have fr02 := fr1.trans (fr2.trans frt)
      refine ⟨_, rfl, a, rfl, ⟨xs, SqL.of (fr02.same _ _ h)⟩, ?_⟩
      refine for_list (K := K) (a := a) (xs := xs) (fun i σ H' => ∃ (fo : Addr) (s3 s7 : Option V) (b l m : Int) (c : Nat) (ys : List V) (outs : List Out), σ = [some (V.int n), some (V.ref a), some (V.ref fo), s3, some (V.int b), some (V.int l), some (V.int m), s7] ∧
          H fo = none ∧ H' fo = some (.lst ys) ∧ Fr [] H H' ∧ Paired (OutAt H H') ys outs ∧ outs ++ shortGo n b l m (rs.drop i) = shortL n rs ∧ m ≤ c * mo n ∧ ys.length + c ≤ i ∧ (b < l → 1 ≤ c))
        ⟨f0, _, _, 0, 0, 0, 0, [], [], rfl, fr1.none nf0, frt.same _ _ upd_same, fr02, .nil, rfl, by simp, by simp, fun z => absurd z (by decide)⟩ ?_ ?_ ?_
      · rintro i σ H' _ ⟨_, _, _, _, _, _, _, _, _, _, _, _, fr, _⟩
        exact fr.same.seq (SqL.of h)
      · rintro i x σ H' hx ⟨fo, s3, s7, b, l, m, c, ys, outs, rfl, nfo, hF, fr, po, eq, hm, hc, hbl⟩
        obtain ⟨rr, hrr, ax⟩ := Paired.get r hx
        have hi : i < rs.length := (List.getElem?_eq_some_iff.mp hrr).1
        have ed : rs.drop i = rr :: rs.drop (i + 1) := by
          rw [List.drop_eq_getElem_cons hi, (List.getElem?_eq_some_iff.mp hrr).2]
        rw [ed] at eq
        have mrr : rr ∈ rs := List.mem_of_getElem? hrr
        have ax' := ax.same fr.same
        dsimp only [L2.gName, L2.tSeq, L2.tAsg]
        refine ev_at (K := K) (i := 3) (j := 5) (x := x) (l := l) (rr := rr) rfl rfl ax' (ci rr mrr) ?_
        obtain ⟨pr, e, st, i0, i1⟩ := row_ix (K := K) ax'
        subst e
        generalize hat : atR l rr = at_ at *
        have md0 : 0 ≤ (at_ - l) % 2 ^ n := Int.emod_nonneg _ (by omega)
        have md1 : (at_ - l) % 2 ^ n ≤ mo n := by
          have := Int.emod_lt_of_pos (at_ - l) pw
          have e : mo n = 2 ^ n - 1 := rfl
          omega
        refine ⟨_, rfl, _, rfl, _, rfl, _, _, rfl, rfl, _, rfl, n, rfl, n64, _, _, rfl, rfl, pw, _, _, rfl, rfl, ?_⟩
        refine ⟨_, rfl, ?_⟩
        have hm' : m + (at_ - l) % 2 ^ n ≤ ((c + 1 : Nat) : Int) * mo n := by
          rw [Int.natCast_add, Int.add_mul]; simp; omega
        refine ⟨_, rfl, pr, _, _, _, rfl, rfl, st, i0, ol, onlyV, rfl, .inr (hol _), rfl, rfl, _, rfl, ?_⟩
        cases ho : inV (V.str rr.name) onlyV with
        | true =>
          have ho' : rr.only = true := ho
          have eq : outs ++ shortGo n b at_ (m + (at_ - l) % 2 ^ n) (rs.drop (i + 1)) = shortL n rs := by
            rw [← eq]
            show _ = outs ++ if rr.only = true then shortGo n b (atR l rr) (m + (atR l rr - l) % 2 ^ n) (rs.drop (i + 1)) else _
            rw [if_pos ho', hat]
          exact ⟨fo, _, _, b, at_, _, c + 1, ys, outs, rfl, nfo, hF, fr, po, eq, hm', by omega, fun _ => by omega⟩
        | false =>
          have ho' : rr.only = false := ho
          have eq : outs ++ (lks n (at_ - (m + (at_ - l) % 2 ^ n) + mo n) (lkN n (m + (at_ - l) % 2 ^ n)) ++ .row rr :: shortGo n at_ at_ 0 (rs.drop (i + 1))) = shortL n rs := by
            rw [← eq]
            show _ = outs ++ if rr.only = true then _ else (lks n (atR l rr - (m + (atR l rr - l) % 2 ^ n) + mo n) (lkN n (m + (atR l rr - l) % 2 ^ n)) ++ .row rr :: shortGo n (atR l rr) (atR l rr) 0 (rs.drop (i + 1)))
            rw [if_neg (by rw [ho']; exact Bool.false_ne_true), hat]
          have hk := lkN_le n1 hm'
          dsimp only
          generalize hmm : m + (at_ - l) % 2 ^ n = m' at *
          refine ⟨_, rfl, _, rfl, _, rfl, _, rfl, _, rfl, _, _, rfl, rfl, _, rfl, n, b, at_ - b, m', rfl, n1, n64, (by omega), fun p1 y1 H1 np1 hp1 fr1 po1 => ?_⟩
          rw [show b + (at_ - b) - m' + mo n = at_ - m' + mo n by omega] at po1
          have ly1 := PySem.Paired.length po1
          rw [lks_len] at ly1
          refine ⟨fo, p1, ys, y1, rfl, rfl, fr1.same _ _ hF, hp1, (by rw [sizeLine_eq]; omega), fun p2 np2 => ?_⟩
          have fr2 := Fr.new (M := []) (o := .lst (ys ++ y1)) np2
          obtain ⟨pr', e', tr⟩ := ax.tup
          cases e'
          have fr12 := fr1.trans fr2
          have frH2 := fr.trans fr12
          have zr : rr.vs.length < sizeLine := by
            obtain ⟨y0, l0, e0, _, h5⟩ := ax.args
            show rr.args.length + 1 < sizeLine
            rw [e0, sizeLine_eq, List.length_cons]; omega
          have kds : ∀ y, y ∈ rr.vs → ∃ t, Kd H y t := fun y hy => by
            rcases List.mem_cons.mp hy with rfl | hm
            · exact ⟨_, .str _⟩
            · exact ax.kd y hm
          refine ⟨_, rfl, pr, rr.vs, rfl, frH2.same _ _ tr, zr, fun y hy => let ⟨t, k⟩ := kds y hy; ⟨t, k.same frH2.same⟩, fun q0 vs0 H3 nq hq3 fr3 cp => ?_⟩
          refine ⟨(by show 1 ≤ sizeLine; decide), fun p4 np4 => ?_⟩
          have fr4 := Fr.new (M := []) (o := .lst [V.ref q0]) np4
          have fr34 := fr3.trans fr4
          refine ⟨p2, p4, _, _, rfl, rfl, fr34.same _ _ upd_same, upd_same, (by rw [List.length_append, sizeLine_eq]; show _ + 1 ≤ _; omega), fun p5 np5 => ?_⟩
          have fr5 := Fr.new (M := []) (o := .lst (ys ++ y1 ++ [V.ref q0])) np5
          have fr35 := fr34.trans fr5
          have fr15 := fr12.trans fr35
          refine ⟨_, rfl, _, _, rfl, ?_⟩
          refine ⟨p5, _, _, at_, at_, 0, 0, ys ++ y1 ++ [V.ref q0], outs ++ lks n (at_ - m' + mo n) (lkN n m') ++ [.row rr], rfl, (frH2.trans fr34).none np5, upd_same, fr.trans fr15, ?_, ?_, by simp, by rw [List.length_append, List.length_append, List.length_singleton]; omega, fun z => absurd z (Int.lt_irrefl _)⟩
          · refine Paired.app (Paired.app (L2.Paired.mapP po fun x y c => c.same fr15.same) (L2.Paired.mapP (lk_base fr po1) fun x y c => c.same (fr2.trans fr35).same)) (.cons ⟨q0, vs0, rfl, frH2.none nq, (fr4.trans fr5).same _ _ hq3, ?_⟩ .nil)
            exact L2.Paired.mapP (cpy_base frH2 cp kds) fun x y c => c.same (fr4.trans fr5).same
          · rw [← eq]; simp
      · rintro σ H' ⟨fo, s3, s7, b, l, m, c, ys, outs, rfl, nfo, hF, fr, po, eq, hm, hc, hbl⟩
        rw [lenx, List.drop_length] at eq
        refine ⟨_, rfl, _, rfl, _, _, rfl, rfl, _, rfl, ?_⟩
        refine ite2 (fun hlt => ?_) (fun hlt => ?_)
        · have hlt : b < l := of_decide_eq_true hlt
          have eq : outs ++ (lks n (l - m + mo n) (lkN n m) ++ [.look l]) = shortL n rs := by
            rw [← eq]
            show _ = outs ++ if b < l then _ else _
            rw [if_pos hlt]
          have hc1 := hbl hlt
          obtain ⟨c, rfl⟩ : ∃ c', c = c' + 1 := ⟨c - 1, by omega⟩
          have hk := lkN_le n1 hm
          refine ⟨_, rfl, _, rfl, _, rfl, _, rfl, _, rfl, _, _, rfl, rfl, _, rfl, n, b, l - b, m, rfl, n1, n64, (by omega), fun p1 y1 H1 np1 hp1 fr1 po1 => ?_⟩
          rw [show b + (l - b) - m + mo n = l - m + mo n by omega] at po1
          have ly1 := PySem.Paired.length po1
          rw [lks_len] at ly1
          refine ⟨fo, p1, ys, y1, rfl, rfl, fr1.same _ _ hF, hp1, (by rw [sizeLine_eq]; omega), fun p2 np2 => ?_⟩
          have fr2 := Fr.new (M := []) (o := .lst (ys ++ y1)) np2
          refine ⟨_, rfl, (by show 2 ≤ sizeLine; decide), fun q0 nq => ?_⟩
          have fr3 := Fr.new (M := []) (o := .tup [V.str "look", V.int l]) nq
          refine ⟨(by show 1 ≤ sizeLine; decide), fun p4 np4 => ?_⟩
          have fr4 := Fr.new (M := []) (o := .lst [V.ref q0]) np4
          have fr34 := fr3.trans fr4
          refine ⟨p2, p4, _, _, rfl, rfl, fr34.same _ _ upd_same, upd_same, (by rw [List.length_append, sizeLine_eq]; show _ + 1 ≤ _; omega), fun p5 np5 => ?_⟩
          have fr5 := Fr.new (M := []) (o := .lst (ys ++ y1 ++ [V.ref q0])) np5
          have fr45 := fr4.trans fr5
          have fr25 := fr2.trans (fr3.trans fr45)
          have fr15 := fr1.trans fr25
          refine ⟨_, rfl, q p5 _ _ ((fr.trans (fr1.trans (fr2.trans fr34))).none np5) upd_same (fr.trans fr15) ?_ (by rw [List.length_append, List.length_append, List.length_singleton]; omega)⟩
          rw [← eq, ← List.append_assoc]
          exact Paired.app (Paired.app (L2.Paired.mapP po fun x y c => c.same fr15.same) (L2.Paired.mapP (lk_base fr po1) fun x y c => c.same fr25.same)) (.cons ⟨q0, rfl, (fr.trans (fr1.trans fr2)).none nq, fr45.same _ _ upd_same⟩ .nil)
        · have hlt : ¬ b < l := fun z => hlt (decide_eq_true z)
          have eq : outs = shortL n rs := by
            rw [← eq]
            show outs = outs ++ if b < l then _ else []
            rw [if_neg hlt, List.append_nil]
          rw [← eq] at q
          exact ⟨_, rfl, q fo ys H' nfo hF fr po (by omega)⟩
end
end Tk

set_option Elab.async false
set_option linter.all false
set_option maxRecDepth 100000
set_option maxHeartbeats 4000000
namespace Tk
open PySem PySem.Spec PyProof.Rows L2

/-! ### a list that is no log, as data (k84) -/
/-- a row-like thing whose text is short -/
def SmR (H : Hp) (y : V) : Prop := ∃ d, Dd H y d ∧ okD d = true ∧ nodes d ≤ 57 ∧ d.depth ≤ 4
theorem SmR.same {H H' : Hp} {a : V} (e : Same H H') (s : SmR H a) : SmR H' a := by
  obtain ⟨d, h, r⟩ := s
  exact ⟨d, h.same e, r⟩
theorem smA_int {H : Hp} {i : Int} (h : i.natAbs < 10 ^ 40) : SmA H (.int i) := ⟨_, .int i, by simp only [okD, decide_eq_true h], by simp [nodes], by simp [PyData.depth]⟩
theorem smA_str {H : Hp} {x : Str} (h : okD (.str x) = true) : SmA H (.str x) := ⟨_, .str x, h, by simp [nodes], by simp [PyData.depth]⟩
theorem smA_non {H : Hp} : SmA H .non := ⟨_, .non, by simp [okD], by simp [nodes], by simp [PyData.depth]⟩
theorem smA_bl {H : Hp} {b : Bool} : SmA H (.bl b) := ⟨_, .bl b, by simp [okD], by simp [nodes], by simp [PyData.depth]⟩
theorem smA_l1 {H : Hp} {p : Addr} {i : Int} (hp : H p = some (.lst [.int i])) (h : i.natAbs < 10 ^ 40) : SmA H (.ref p) :=
  ⟨_, .lst hp (.cons (.int i) .nil), by simp only [okD, okDs, decide_eq_true h, Bool.and_true], by simp [nodes, nodesAll], by simp [PyData.depth, PyData.depthAll]⟩
theorem SmA.r {H : Hp} {v : V} (s : SmA H v) : SmR H v := by
  obtain ⟨d, h, a, b, c⟩ := s
  exact ⟨d, h, a, by omega, by omega⟩
theorem smR_tup {H : Hp} {p : Addr} {vs : List V} (h : H p = some (.tup vs)) (a : ∀ v, v ∈ vs → SmA H v) (l : vs.length ≤ 7) : SmR H (.ref p) := by
  obtain ⟨x, y, z⟩ := all_small (n := 8) (k := 3) (ds := vs.map (dOf H)) (by
    intro d hd
    obtain ⟨v, hv, rfl⟩ := List.mem_map.mp hd
    obtain ⟨d, q, r1⟩ := a v hv
    rw [dOf_eq q]; exact r1)
  rw [List.length_map] at y
  refine ⟨_, .tup h (args_dd a), by simp only [okD, x], ?_, ?_⟩
  · simp only [nodes]; omega
  · simp only [PyData.depth]; omega
theorem smR_lst {H : Hp} {p : Addr} {vs : List V} (h : H p = some (.lst vs)) (a : ∀ v, v ∈ vs → SmA H v) (l : vs.length ≤ 7) : SmR H (.ref p) := by
  obtain ⟨x, y, z⟩ := all_small (n := 8) (k := 3) (ds := vs.map (dOf H)) (by
    intro d hd
    obtain ⟨v, hv, rfl⟩ := List.mem_map.mp hd
    obtain ⟨d, q, r1⟩ := a v hv
    rw [dOf_eq q]; exact r1)
  rw [List.length_map] at y
  refine ⟨_, .lst h (args_dd a), by simp only [okD, x], ?_, ?_⟩
  · simp only [nodes]; omega
  · simp only [PyData.depth]; omega
theorem smR_good {H : Hp} {y : V} {r : Rw} (a : RwAt H y r) (g : GoodRw r) : SmR H y := ⟨_, row_dd a (e := s0) (good_rwd g), row_small (good_rwd g)⟩
structure BadLog (H : Hp) (w : Addr) : Prop where
  ex : ∃ (xs : List V) (o : Option (List Rw)), H w = some (.lst xs) ∧ LogRs H (.ref w) o ∧ okO o = false ∧ (∀ y, y ∈ xs → SmR H y) ∧ xs.length ≤ 50
theorem logRs_same {H H' : Hp} {x : V} {o : Option (List Rw)} (e : Same H H') (l : LogRs H x o) : LogRs H' x o := by
  cases l with
  | bad h =>
    refine .bad ?_
    generalize hb : false = b at h
    cases h with
    | no k n => exact hb ▸ .no (k.same e) n
    | lst f e1 h r z => exact .lst f e1 (e _ _ h) (fun y hy => (r y hy).same e) z
  | ok e1 h z r => exact .ok e1 (e _ _ h) z (L2.Paired.mapP r fun _ _ c => c.same e)
theorem BadLog.same {H H' : Hp} {w : Addr} (e : Same H H') (b : BadLog H w) : BadLog H' w := by
  obtain ⟨xs, o, h, l, k, s, z⟩ := b.ex
  exact ⟨xs, o, e _ _ h, logRs_same e l, k, fun y hy => (s y hy).same e, z⟩
theorem BadLog.data {H : Hp} {w : Addr} (b : BadLog H w) : ∃ d, Dd H (.ref w) d ∧ Sml d := by
  obtain ⟨xs, o, h, l, k, s, z⟩ := b.ex
  obtain ⟨x, y, q⟩ := small_list (n := 57) (k := 4) (m := 57 * 50) (ds := xs.map (dOf H)) (by
    intro d hd
    obtain ⟨v, hv, rfl⟩ := List.mem_map.mp hd
    obtain ⟨d, q, r1⟩ := s v hv
    rw [dOf_eq q]; exact r1) (by rw [List.length_map]; omega)
  have dd : ∀ {l : List V}, (∀ a, a ∈ l → SmR H a) → DdAll H l (l.map (dOf H)) := by
    intro l
    induction l with
    | nil => exact fun _ => .nil
    | cons a l ih => exact fun g => .cons (dOf_at (let ⟨d, q, _⟩ := g a List.mem_cons_self; ⟨d, q⟩)) (ih fun b m => g b (List.mem_cons_of_mem _ m))
  exact ⟨_, .lst h (dd s), x, by omega, by omega⟩
/-- one thing among rows that is none -/
theorem bad_item {H : Hp} {w : Addr} {pre post : List V} {o : V} {rp rq : List Rw} (h : H w = some (.lst (pre ++ [o] ++ post))) (n : RowIs H o false) (so : SmR H o) (a : Paired (RwAt H) pre rp) (b : Paired (RwAt H) post rq) (ga : ∀ r, r ∈ rp → GoodRw r) (gb : ∀ r, r ∈ rq → GoodRw r)
    (z : pre.length + post.length ≤ 49) : BadLog H w := by
  have mp : ∀ {l : List V} {rs : List Rw}, Paired (RwAt H) l rs → (∀ r, r ∈ rs → GoodRw r) → ∀ y, y ∈ l → RowIs H y true ∧ SmR H y := by
    intro l rs p g y hy
    obtain ⟨r, hr, ar⟩ := Paired.mem p hy
    exact ⟨ar.row, smR_good ar (g r hr)⟩
  have all : ∀ y, y ∈ pre ++ [o] ++ post → y = o ∨ (RowIs H y true ∧ SmR H y) := by
    intro y hy
    rcases List.mem_append.mp hy with hy | hy
    · rcases List.mem_append.mp hy with hy | hy
      · exact .inr (mp a ga y hy)
      · exact .inl (List.mem_singleton.mp hy)
    · exact .inr (mp b gb y hy)
  have ll : (pre ++ [o] ++ post).length ≤ 50 := by rw [List.length_append, List.length_append, List.length_singleton]; omega
  refine ⟨_, none, h, .bad ?_, rfl, fun y hy => (all y hy).elim (fun e => e ▸ so) (·.2), ll⟩
  have k := LogIs.lst (H := H) (x := .ref w) (fun y => !decide (y = o)) rfl h (fun y hy => ?_) (by rw [sizeLine_eq]; omega)
  · have e : ((pre ++ [o] ++ post).all fun y => !decide (y = o)) = false := by
      rw [List.all_eq_false]
      exact ⟨o, by simp, by simp⟩
    rw [e] at k
    exact k
  · by_cases e : y = o
    · subst e
      simpa using n
    · have := (all y hy).resolve_left e
      simpa [e] using this.1
/-- rows that stand in the wrong order -/
theorem bad_rows {H : Hp} {w : Addr} {ys : List V} {rs : List Rw} (h : H w = some (.lst ys)) (a : Paired (RwAt H) ys rs) (n : logOk rs = false) (s : ∀ y, y ∈ ys → SmR H y) (z : ys.length ≤ 50) : BadLog H w :=
  ⟨_, some rs, h, .ok rfl h (by omega) a, n, s, z⟩
theorem pair_app {H : Hp} : ∀ {xs ys : List V} {rs ss : List Rw}, Paired (RwAt H) xs rs → Paired (RwAt H) ys ss → Paired (RwAt H) (xs ++ ys) (rs ++ ss)
  | _, _, _, _, .nil, b => b
  | _, _, _, _, .cons a c, b => .cons a (pair_app c b)
/-- new rows -/
theorem rw_look {H : Hp} {p : Addr} {x : V} {t : String} (h : H p = some (.tup [.str "look", x])) (k : Kd H x t) : RwAt H (.ref p) (rLook x) := ⟨⟨p, rfl, h⟩, fun y hy => by obtain rfl := List.mem_singleton.mp hy; exact ⟨t, k⟩, by show sizeV "look" = .int 2; decide +kernel⟩
theorem rw_go {H : Hp} {p : Addr} {i : Int} (h : H p = some (.tup [.str "go", .int i])) : RwAt H (.ref p) (rGo i) := ⟨⟨p, rfl, h⟩, fun y hy => by obtain rfl := List.mem_singleton.mp hy; exact ⟨_, .int i⟩, by show sizeV "go" = .int 2; decide +kernel⟩
theorem rw_stop {H : Hp} {p : Addr} (h : H p = some (.tup [.str "stop", .int 0, .int 1])) : RwAt H (.ref p) rStop := by
  refine ⟨⟨p, rfl, h⟩, fun y hy => ?_, by decide +kernel⟩
  rcases List.mem_cons.mp hy with rfl | hy
  · exact ⟨_, .int 0⟩
  · obtain rfl := List.mem_singleton.mp hy; exact ⟨_, .int 1⟩
theorem sm_look {H : Hp} {p : Addr} {x : V} (h : H p = some (.tup [.str "look", x])) (k : SmA H x) : SmR H (.ref p) := smR_tup h (fun v hv => by
  rcases List.mem_cons.mp hv with rfl | hv
  · exact smA_str (by decide +kernel)
  · obtain rfl := List.mem_singleton.mp hv; exact k) (by simp)
theorem sm_go {H : Hp} {p : Addr} {i : Int} (h : H p = some (.tup [.str "go", .int i])) (b : i.natAbs < 10 ^ 40) : SmR H (.ref p) := smR_tup h (fun v hv => by
  rcases List.mem_cons.mp hv with rfl | hv
  · exact smA_str (by decide +kernel)
  · obtain rfl := List.mem_singleton.mp hv; exact smA_int b) (by simp)
theorem sm_stop {H : Hp} {p : Addr} (h : H p = some (.tup [.str "stop", .int 0, .int 1])) : SmR H (.ref p) := smR_tup h (fun v hv => by
  rcases List.mem_cons.mp hv with rfl | hv
  · exact smA_str (by decide +kernel)
  · rcases List.mem_cons.mp hv with rfl | hv
    · exact smA_int (by decide)
    · obtain rfl := List.mem_singleton.mp hv; exact smA_int (by decide)) (by simp)
theorem sm_rows {H : Hp} {xs : List V} {rs : List Rw} (p : Paired (RwAt H) xs rs) (g : ∀ r, r ∈ rs → GoodRw r) : ∀ y, y ∈ xs → SmR H y := fun y hy => let ⟨r, hr, a⟩ := Paired.mem p hy; smR_good a (g r hr)
end Tk

set_option Elab.async false
set_option linter.all false
set_option maxRecDepth 100000
set_option maxHeartbeats 4000000
namespace Tk
open PySem PySem.Spec PyProof.Rows L2

section
variable {P : Program} {w : World} {K : PySem.W.Frag} {mg : Str → Option Value} {base : Heap}
/-- rows in a list of their own, seen without the draws -/
structure RowsAt (a R : Addr) (xs : List V) (rs : List Rw) (H : Hp) : Prop where
  r : H R = some (.lst xs)
  ne : R ≠ a
  pr : Paired (RwAt (Hd [a] H)) xs rs
  good : ∀ r, r ∈ rs → GoodRw r
  len : rs.length ≤ 40
def spWorse : Sp := fun vs H Q _ => ∃ (a R : Addr) (x y z : Int) (xs : List V) (rs : List Rw), vs = [.ref a, .ref R] ∧ H a = some (srcO x y z) ∧ RowsAt a R xs rs H ∧
  ∀ w H', H w = none → w ≠ a → (∃ x z, H' a = some (srcO x y z)) → Fr [a] H H' → BadLog (Hd [a] H') w → Q (.ref w) H'
theorem sc_worse : FnScope ["source", "rows", "spot", "last", "odd", "some", "cycle", "before", "behind", "row"] ["source", "rows"] (defScope s__law_worse) := ⟨rfl, rfl, rfl, by decide +kernel, rfl, by decide +kernel, by decide +kernel⟩
theorem hd_new {H' H2 : Hp} {a p : Addr} (fr : Fr [a] H' H2) (n : H' p = none) : Same (Hd [a] H') (Hd [a, p] H2) := by
  intro b o h
  obtain ⟨m, h⟩ := of_Hd h
  have na : b ≠ a := fun z => m (by simp [z])
  have np : b ≠ p := ne_of_none h n
  rw [Hd_of (by simp [na, np])]
  exact fr.at h (by simpa using na)
/-- what holds while the spoilt lists are put together -/
structure WI (a R so : Addr) (y : Int) (xs : List V) (rs : List Rw) (H0 : Hp) (ps : List Addr) (H : Hp) : Prop where
  src : ∃ x z, H a = some (srcO x y z)
  r : H R = some (.lst xs)
  l : H so = some (.lst (ps.map V.ref))
  bad : ∀ p, p ∈ ps → BadLog (Hd [a, so] H) p ∧ H0 p = none
  new : H0 so = none
  fr : Fr [a] H0 H
  ne : so ≠ a
theorem WI.step {a R so p : Addr} {y : Int} {xs : List V} {rs : List Rw} {H0 H H2 : Hp} {ps : List Addr} (W : WI a R so y xs rs H0 ps H) (nR : R ≠ so) (nRa : R ≠ a) (fr : Fr [] H H2) (hp : H p = none) (b : BadLog (Hd [a, so] H2) p) :
    WI a R so y xs rs H0 (ps ++ [p]) (upd H2 so (.lst (ps.map V.ref ++ [V.ref p]))) := by
  have fs : Fr [so] H2 (upd H2 so (.lst (ps.map V.ref ++ [V.ref p]))) := Fr.set List.mem_cons_self
  have hd : Same (Hd [a, so] H2) (Hd [a, so] (upd H2 so (.lst (ps.map V.ref ++ [V.ref p])))) := fs.hdIn fun _ h => by simp at h; simp [h]
  obtain ⟨x, z, s⟩ := W.src
  refine ⟨⟨x, z, ?_⟩, ?_, ?_, fun q hq => ?_, W.new, ?_, W.ne⟩
  · rw [upd_ne (Ne.symm W.ne)]; exact fr.same _ _ s
  · rw [upd_ne nR]; exact fr.same _ _ W.r
  · rw [upd_same, List.map_append]; rfl
  · rcases List.mem_append.mp hq with hq | hq
    · obtain ⟨b1, n1⟩ := W.bad q hq
      exact ⟨b1.same (fun _ _ h => hd _ _ ((fr.mono fun _ h => nomatch h).hd (M := [a, so]) _ _ h)), n1⟩
    · obtain rfl := List.mem_singleton.mp hq
      exact ⟨b.same hd, W.fr.none hp⟩
  · exact Fr.drop ((W.fr.weak (p := so)).trans ((fr.mono fun _ h => nomatch h).trans (fs.mono fun _ h => by simp at h; simp [h]))) W.new
theorem paired_take {α β : Type} {G : α → β → Prop} : ∀ {xs : List α} {rs : List β}, Paired G xs rs → ∀ n, Paired G (xs.take n) (rs.take n)
  | _, _, _, 0 => .nil
  | _, _, .nil, _ + 1 => .nil
  | _, _, .cons a b, n + 1 => .cons a (paired_take b n)
theorem paired_drop {α β : Type} {G : α → β → Prop} : ∀ {xs : List α} {rs : List β}, Paired G xs rs → ∀ n, Paired G (xs.drop n) (rs.drop n)
  | _, _, h, 0 => h
  | _, _, .nil, _ + 1 => .nil
  | _, _, .cons _ b, n + 1 => paired_drop b n
theorem ok_worse (F : FunAt K mg "_law_worse" s__law_worse) (G : NoGl mg) (C__law_next : Cal P w K mg base CX0 2 "_law_next" ["source", "many"] [] spDraw) :
    Cal P w K mg base CX0 3 "_law_worse" ["source", "rows"] [] spWorse := by
  refine Cal.mk0 F sc_worse (by rintro _ _ _ _ ⟨_, _, _, _, _, _, _, rfl, _⟩; rfl) (fun _ _ _ _ _ _ us hl => match us, hl with | [_, _], _ => rfl) ?_
  rintro f cdv A outer s H vs Q E hr ⟨a, R, x, y, z, xs, rs, rfl, hs, RW, q⟩
  have nd := sc_worse.nd
  refine ⟨_, (pss_cons (ps_set (i := 2) nd rfl (.inl rfl) (pe_c C__law_next (hr.mono (by decide)) (by rfl) pass0 (pa_cons (pv 0) (pa_cons (pe_op op_add (pe_callB call_len_seq (by rfl) G.len (by decide +kernel) (pa_cons (pv 1) pa_nil)) pe_int) pa_nil))))
    (pss_cons (ps_par (i := 7) (j := 8) (by rfl) nd rfl rfl (by decide) rfl rfl (pa_cons (pe_slice sl_list (pv 1) po_none (po_some (pv 2))) (pa_cons (pe_slice sl_list (pv 1) (po_some (pv 2)) po_none) pa_nil)) (by rfl))
    (pss_cons (ps_set (i := 3) nd rfl (.inl rfl) (pe_callB (cr_max rfl) (by rfl) G.max (by decide +kernel) (pa_cons (pe_op op_cat (pe_lc (own := [("row", 9)]) (g := gName 9) (tt := tTest (tOp rNe (tOp (rIxT K) (tVar 9) (tC (.int 0))) (tC (.str "go")))) (te := tOp (rIxT K) (tVar 9) (tC (.int 1))) rfl nd (pi_list (pv 1))
        (blkOk_by (own := [("row", 9)]) (N := ["source", "rows", "spot", "last", "odd", "some", "cycle", "before", "behind", "row"]) (sc := defScope s__law_worse) (by decide +kernel))
        (fun _ _ _ _ _ => (pg_name (i := 9) nd rfl (.inl rfl) (Or.inr rfl))) (fun _ _ _ _ _ => (pts_one (pt_cmpR op_ne (pe_ix ix_tup (pv 9) pe_int (fun _ _ => rfl)) pe_str (nomark _))))
        (fun _ _ _ _ _ => (pe_ix ix_tup (pv 9) pe_int (fun _ _ => rfl)))) (pe_lst (pa_cons pe_int pa_nil))) pa_nil)))
    (pss_cons (ps_set (i := 4) nd rfl (.inl rfl) (pe_lst (pa_cons pe_non (pa_cons (pe_tup (pa_cons pe_str pa_nil)) (pa_cons (pe_lst (pa_cons pe_str (pa_cons (pv 3) pa_nil))) (pa_cons (pe_tup (pa_cons pe_str (pa_cons (pv 3) (pa_cons (pv 3) pa_nil)))) (pa_cons (pe_tup (pa_cons pe_str (pa_cons (pv 3) pa_nil))) (pa_cons (pe_tup pa_nil) (pa_cons pe_str (pa_cons (pe_tup (pa_cons pe_str pa_nil)) pa_nil))))))))))
    (pss_cons (ps_set (i := 5) nd rfl (.inl rfl) (pe_lst (pa_cons (pe_op op_cat (pe_op op_cat (pv 7) (pe_lst (pa_cons (pe_ix ix_list (pv 4) (pe_c C__law_next (hr.mono (by decide)) (by rfl) pass0 (pa_cons (pv 0) (pa_cons (pe_callB call_len_seq (by rfl) G.len (by decide +kernel) (pa_cons (pv 4) pa_nil)) pa_nil))) (fun _ _ => rfl)) pa_nil))) (pv 8)) (pa_cons (pe_op op_cat (pv 1) (pe_lst (pa_cons (pe_tup (pa_cons pe_str (pa_cons (pe_op op_add (pv 3) pe_int) pa_nil))) (pa_cons (pe_tup (pa_cons pe_str (pa_cons (pv 3) pa_nil))) pa_nil)))) pa_nil))))
    (pss_cons (ps_set (i := 6) nd rfl (.inl rfl) (pe_ix ix_list (pe_lst (pa_cons pe_bl (pa_cons pe_non (pa_cons pe_str (pa_cons (pe_un un_neg pe_int) (pa_cons (pe_lst (pa_cons (pv 3) pa_nil)) (pa_cons (pe_op op_sub pe_int (pe_op op_pow pe_int pe_int)) pa_nil))))))) (pe_c C__law_next (hr.mono (by decide)) (by rfl) pass0 (pa_cons (pv 0) (pa_cons pe_int pa_nil))) (fun _ _ => rfl)))
    (pss_cons (ps_expr (pe_bm PySem.F.plainAttrs_list PySem.F.slot_list_append PySem.F.type_list_append mt_append (pv 5) (pa_cons (pe_op op_cat (pe_lst (pa_cons (pe_tup (pa_cons pe_str (pa_cons (pv 6) pa_nil))) pa_nil)) (pv 1)) pa_nil)))
    (pss_cons (ps_expr (pe_bm PySem.F.plainAttrs_list PySem.F.slot_list_append PySem.F.type_list_append mt_append (pv 5) (pa_cons (pe_op op_cat (pe_lst (pa_cons (pe_tup (pa_cons pe_str (pa_cons pe_int pa_nil))) pa_nil)) (pv 1)) pa_nil)))
    (pss_cons (ps_expr (pe_bm PySem.F.plainAttrs_list PySem.F.slot_list_append PySem.F.type_list_append mt_append (pv 5) (pa_cons (pe_op op_cat (pv 1) (pe_lst (pa_cons (pe_tup (pa_cons pe_str (pa_cons (pe_op op_add (pv 3) pe_int) pa_nil))) (pa_cons (pe_tup (pa_cons pe_str (pa_cons pe_int pa_nil))) pa_nil)))) pa_nil)))
    (pss_cons (ps_expr (pe_bm PySem.F.plainAttrs_list PySem.F.slot_list_append PySem.F.type_list_append mt_append (pv 5) (pa_cons (pe_op op_cat (pe_lst (pa_cons (pe_tup (pa_cons pe_str (pa_cons pe_int (pa_cons pe_int pa_nil)))) (pa_cons (pe_tup (pa_cons pe_str (pa_cons pe_int pa_nil))) pa_nil))) (pv 1)) pa_nil)))
    (pss_cons (ps_expr (pe_bm PySem.F.plainAttrs_list PySem.F.slot_list_append PySem.F.type_list_append mt_append (pv 5) (pa_cons (pe_op op_cat (pe_lst (pa_cons (pe_tup (pa_cons pe_str (pa_cons pe_int (pa_cons pe_int pa_nil)))) (pa_cons (pe_tup (pa_cons pe_str (pa_cons pe_int pa_nil))) (pa_cons (pe_tup (pa_cons pe_str (pa_cons pe_int pa_nil))) pa_nil)))) (pv 1)) pa_nil)))
    (pss_cons (ps_expr (pe_bm PySem.F.plainAttrs_list PySem.F.slot_list_append PySem.F.type_list_append mt_append (pv 5) (pa_cons (pe_op op_cat (pe_lst (pa_cons (pe_tup (pa_cons pe_str (pa_cons pe_int (pa_cons pe_int pa_nil)))) (pa_cons (pe_tup (pa_cons pe_str (pa_cons pe_int (pa_cons pe_int pa_nil)))) (pa_cons (pe_tup (pa_cons pe_str (pa_cons pe_int pa_nil))) pa_nil)))) (pv 1)) pa_nil)))
    (pss_one (ps_ret (pe_ix ix_list (pv 5) (pe_c C__law_next (hr.mono (by decide)) (by rfl) pass0 (pa_cons (pv 0) (pa_cons (pe_callB call_len_seq (by rfl) G.len (by decide +kernel) (pa_cons (pv 5) pa_nil)) pa_nil))) (fun _ _ => rfl)))))))))))))))), ?_⟩
  have lx := PySem.Paired.length RW.pr
  have K1 : ∀ {H1 H2 : Hp}, Fr [a] H1 H2 → ∀ {b o}, H1 b = some o → b ≠ a → H2 b = some o := fun fr b o h ne => fr.at h (by simpa using ne)
  refine ⟨_, rfl, _, rfl, R, _, rfl, .inl (SqL.of RW.r), _, _, rfl, rfl, a, x, y, z, _, rfl, hs, (by omega), (by have := RW.len; omega), fun d0 x1 z1 H1 d00 d01 src1 fr1 => ?_⟩
  obtain ⟨j, rfl⟩ : ∃ j : Nat, d0 = j := ⟨d0.toNat, by omega⟩
  have r1 := K1 fr1 RW.r RW.ne
  refine ⟨_, rfl, _, rfl, _, rfl, R, xs, rfl, SqL.of r1, fun pb npb => ?_⟩
  have fb := Fr.new (M := [a]) (o := .lst (cutV xs none (some (j : Int)))) npb
  have r2 := K1 fb r1 RW.ne
  have src2 := upd_ne (o := .lst (cutV xs none (some (j : Int)))) (ne_of_none src1 npb) |>.trans src1
  refine ⟨_, rfl, _, rfl, _, rfl, R, xs, rfl, SqL.of r2, fun ph nph => ⟨_, _, rfl, ?_⟩⟩
  have lcut : cutV xs none (some (j : Int)) = xs.take j ∧ cutV xs (some (j : Int)) none = xs.drop j := by
    refine ⟨?_, cut_from xs j⟩
    unfold cutV
    rw [HT.sIx_nat, HT.sIx_none, Nat.min_eq_left (by omega), List.drop_zero, Nat.sub_zero]
  rw [lcut.1] at fb src2 r2 nph ⊢
  rw [lcut.2]
  have fh := Fr.new (M := [a]) (o := .lst (xs.drop j)) nph
  have frA := fr1.trans (fb.trans fh)
  have npba : pb ≠ a := (ne_of_none src1 npb).symm
  have npha : ph ≠ a := (ne_of_none src2 nph).symm
  have s3 := upd_ne (o := .lst (xs.drop j)) (ne_of_none src2 nph) |>.trans src2
  have r3 := K1 fh r2 RW.ne
  have b3 := K1 fh (b := pb) upd_same npba
  have h3 : upd (upd H1 pb (.lst (xs.take j))) ph (.lst (xs.drop j)) ph = some (.lst (xs.drop j)) := upd_same
  generalize upd (upd H1 pb (.lst (xs.take j))) ph (.lst (xs.drop j)) = H3 at frA s3 r3 b3 h3 ⊢
  have pr3 := L2.Paired.mapP RW.pr fun x y c => c.same frA.hd
  have pr3' := L2.Paired.mapP pr3 fun x y c => c.same Hd_same
  obtain ⟨cs, ecs, lcs, bcs⟩ := good_cyc RW.good
  dsimp only [L2.tSeq, L2.tAsg, L2.tCB, L2.tCons]
  unfold L2.tOp
  refine ev_cyc (K := K) (j := 1) (i := 9) rfl (by show 9 < 10; decide) r3 pr3' (by have := RW.len; rw [sizeLine_eq]; omega) fun D H4 hD hD4 fr4 => ?_
  rw [ecs] at hD4
  refine ⟨(by show 1 ≤ sizeLine; decide), fun p1 hp1 => ?_⟩
  have frp1 := Fr.new (M := []) (o := .lst [V.int 0]) hp1
  refine ⟨D, p1, _, _, rfl, rfl, frp1.same _ _ hD4, upd_same, (by have := RW.len; rw [List.length_map, sizeLine_eq]; show cs.length + 1 ≤ _; omega), fun pc hpc => ?_⟩
  have frpc := Fr.new (M := []) (o := .lst (cs.map V.int ++ [V.int 0])) hpc
  have frB := fr4.trans (frp1.trans frpc)
  have ecy : cs.map V.int ++ [V.int 0] = (cs ++ [0]).map V.int := by simp
  refine ⟨pc, cs ++ [0], rfl, SqL.of (upd_same.trans (congrArg (fun l => some (HO.lst l)) ecy)), (by rw [List.length_append]; show 0 < cs.length + 1; omega), fun m hm _ => ?_⟩
  have bm : 0 ≤ m ∧ m < 10 ^ 13 := by
    rcases List.mem_append.mp hm with h | h
    · exact bcs m h
    · obtain rfl := List.mem_singleton.mp h; decide
  have frC := frA.trans (frB.mono fun _ h => nomatch h)
  have K0 : ∀ {Ha Hb : Hp}, Fr [] Ha Hb → ∀ {b o}, Ha b = some o → Hb b = some o := fun fr b o h => fr.same _ _ h
  have s5 := K0 frB s3
  have r5 := K0 frB r3
  have b5 := K0 frB b3
  have h5 := K0 frB h3
  generalize upd (upd H4 p1 (.lst [V.int 0])) pc (.lst (cs.map V.int ++ [V.int 0])) = H5 at frC s5 r5 b5 h5 ⊢
  clear frB frpc frp1 hD4 fr4 hpc hp1 hD
  -- odd
  refine ⟨(by show 1 ≤ sizeLine; decide), fun o1 n1 => ?_⟩
  have f1 := Fr.new (M := []) (o := .tup [V.str "look"]) n1
  refine ⟨_, rfl, (by show 2 ≤ sizeLine; decide), fun o2 n2 => ?_⟩
  have f2 := Fr.new (M := []) (o := .lst [V.str "look", V.int m]) n2
  refine ⟨_, rfl, _, rfl, (by show 3 ≤ sizeLine; decide), fun o3 n3 => ?_⟩
  have f3 := Fr.new (M := []) (o := .tup [V.str "look", V.int m, V.int m]) n3
  refine ⟨_, rfl, (by show 2 ≤ sizeLine; decide), fun o4 n4 => ?_⟩
  have f4 := Fr.new (M := []) (o := .tup [V.str "noon", V.int m]) n4
  refine ⟨(by show 0 ≤ sizeLine; decide), fun o5 n5 => ?_⟩
  have f5 := Fr.new (M := []) (o := .tup []) n5
  refine ⟨(by show 1 ≤ sizeLine; decide), fun o6 n6 => ⟨(by show 8 ≤ sizeLine; decide), fun od nod => ?_⟩⟩
  have f6 := Fr.new (M := []) (o := .tup [V.str "go"]) n6
  have f7 := Fr.new (M := []) (o := .lst [V.non, V.ref o1, V.ref o2, V.ref o3, V.ref o4, V.ref o5, V.str "look", V.ref o6]) nod
  have s6 := K0 (f1.trans (f2.trans (f3.trans (f4.trans (f5.trans (f6.trans f7)))))) s5
  have r6 := K0 (f1.trans (f2.trans (f3.trans (f4.trans (f5.trans (f6.trans f7)))))) r5
  have b6 := K0 (f1.trans (f2.trans (f3.trans (f4.trans (f5.trans (f6.trans f7)))))) b5
  have h6 := K0 (f1.trans (f2.trans (f3.trans (f4.trans (f5.trans (f6.trans f7)))))) h5
  have e1 := K0 (f2.trans (f3.trans (f4.trans (f5.trans (f6.trans f7))))) (b := o1) upd_same
  have e2 := K0 (f3.trans (f4.trans (f5.trans (f6.trans f7)))) (b := o2) upd_same
  have e3 := K0 (f4.trans (f5.trans (f6.trans f7))) (b := o3) upd_same
  have e4 := K0 (f5.trans (f6.trans f7)) (b := o4) upd_same
  have e5 := K0 (f6.trans f7) (b := o5) upd_same
  have e6 := K0 f7 (b := o6) upd_same
  have frD := frC.trans ((f1.trans (f2.trans (f3.trans (f4.trans (f5.trans (f6.trans f7)))))).mono fun _ h => nomatch h)
  have d7 : (upd (upd (upd (upd (upd (upd (upd H5 o1 (.tup [V.str "look"])) o2 (.lst [V.str "look", V.int m])) o3 (.tup [V.str "look", V.int m, V.int m])) o4 (.tup [V.str "noon", V.int m])) o5 (.tup [])) o6 (.tup [V.str "go"])) od (.lst [V.non, V.ref o1, V.ref o2, V.ref o3, V.ref o4, V.ref o5, V.str "look", V.ref o6])) od = _ := upd_same
  generalize (upd (upd (upd (upd (upd (upd (upd H5 o1 (.tup [V.str "look"])) o2 (.lst [V.str "look", V.int m])) o3 (.tup [V.str "look", V.int m, V.int m])) o4 (.tup [V.str "noon", V.int m])) o5 (.tup [])) o6 (.tup [V.str "go"])) od (.lst [V.non, V.ref o1, V.ref o2, V.ref o3, V.ref o4, V.ref o5, V.str "look", V.ref o6])) = H7 at s6 r6 b6 h6 e1 e2 e3 e4 e5 e6 frD d7 ⊢
  clear f1 f2 f3 f4 f5 f6 f7 n1 n2 n3 n4 n5 n6 nod s5 r5 b5 h5 frC
  have nda : ∀ {b : Addr} {o : HO}, H7 b = some o → (∀ x z, o ≠ srcO x y z) → b ≠ a := fun e n z => by
    rw [z, s6] at e
    exact n _ _ (Option.some.inj e).symm
  have hd7 : ∀ {b : Addr} {o : HO}, H7 b = some o → (∀ x z, o ≠ srcO x y z) → Hd [a] H7 b = some o := fun e n => by rw [Hd_of (by simpa using nda e n)]; exact e
  have sI : SmA (Hd [a] H7) (.int m) := smA_int (by omega)
  have sS : ∀ {x : Str}, okD (.str x) = true → SmA (Hd [a] H7) (.str x) := smA_str
  have items : ∀ d : Nat, d < 8 → ∃ v, [V.non, V.ref o1, V.ref o2, V.ref o3, V.ref o4, V.ref o5, V.str "look", V.ref o6][d]? = some v ∧ RowIs (Hd [a] H7) v false ∧ SmR (Hd [a] H7) v := by
    have tupN : ∀ {p : Addr} {l : List V}, H7 p = some (.tup l) → isRowL l = false → l.length < 8 → (∀ v, v ∈ l → SmA (Hd [a] H7) v) → RowIs (Hd [a] H7) (.ref p) false ∧ SmR (Hd [a] H7) (.ref p) := by
      intro p l e n z s
      have e' := hd7 e (fun _ _ z => by cases z)
      refine ⟨?_, smR_tup e' s (by omega)⟩
      have k := RowIs.tup (H := Hd [a] H7) (x := .ref p) rfl e' (fun v hv => ?_) (Nat.lt_trans z (by decide))
      · rw [n] at k; exact k
      · obtain ⟨d, dd, _⟩ := s v (List.mem_of_getElem? hv)
        cases dd with
        | non => exact ⟨_, .non⟩
        | bl b => exact ⟨_, .bl b⟩
        | int i => exact ⟨_, .int i⟩
        | str x => exact ⟨_, .str x⟩
        | lst h _ => exact ⟨_, .lst h⟩
        | tup h _ => exact ⟨_, .tup h⟩
    have m1 : ∀ {x y : V}, SmA (Hd [a] H7) x → ∀ v, v ∈ [x] → SmA (Hd [a] H7) v := fun sx v hv => by obtain rfl := List.mem_singleton.mp hv; exact sx
    have mc : ∀ {x : V} {l : List V}, SmA (Hd [a] H7) x → (∀ v, v ∈ l → SmA (Hd [a] H7) v) → ∀ v, v ∈ x :: l → SmA (Hd [a] H7) v := fun sx sl v hv => (List.mem_cons.mp hv).elim (fun e => e ▸ sx) (sl v)
    have m0 : ∀ v, v ∈ ([] : List V) → SmA (Hd [a] H7) v := fun v hv => nomatch hv
    intro d hd
    match d, hd with
    | 0, _ => exact ⟨_, rfl, .no .non (by decide), smA_non.r⟩
    | 1, _ => exact ⟨_, rfl, tupN e1 (by decide +kernel) (by decide) (mc (sS (by decide +kernel)) m0)⟩
    | 2, _ =>
      have e' := hd7 e2 (fun _ _ z => by cases z)
      exact ⟨_, rfl, .no (.lst e') (by decide), smR_lst e' (mc (sS (by decide +kernel)) (mc sI m0)) (by simp)⟩
    | 3, _ => exact ⟨_, rfl, tupN e3 (by show decide (V.int ((3 : Nat) : Int) = sizeV "look") = false; decide +kernel) (by simp) (mc (sS (by decide +kernel)) (mc sI (mc sI m0)))⟩
    | 4, _ => exact ⟨_, rfl, tupN e4 (by show decide (V.int ((2 : Nat) : Int) = sizeV "noon") = false; decide +kernel) (by simp) (mc (sS (by decide +kernel)) (mc sI m0))⟩
    | 5, _ => exact ⟨_, rfl, tupN e5 rfl (by decide) m0⟩
    | 6, _ => exact ⟨_, rfl, .no (.str _) (by decide), (sS (by decide +kernel)).r⟩
    | 7, _ => exact ⟨_, rfl, tupN e6 (by decide +kernel) (by decide) (mc (sS (by decide +kernel)) m0)⟩
  clear e1 e2 e3 e4 e5 e6 sS
  -- some
  refine ⟨_, rfl, _, rfl, _, rfl, _, rfl, od, _, rfl, .inl (SqL.of d7), a, x1, y, z1, 8, rfl, s6, by decide, by decide, fun d2 x2 z2 H8 d20 d21 s8 fr8 => ?_⟩
  obtain ⟨j2, rfl⟩ : ∃ j : Nat, d2 = j := ⟨d2.toNat, by omega⟩
  obtain ⟨it, at_, nRow, sRow⟩ := items j2 (by omega)
  have k8 : ∀ {b : Addr} {o : HO}, H7 b = some o → (∀ x z, o ≠ srcO x y z) → H8 b = some o := fun e n => K1 fr8 e (nda e n)
  have d8 := k8 d7 (fun _ _ z => by cases z)
  refine ⟨od, _, _, it, rfl, rfl, SqL.of d8, atI_nat at_, (by show 1 ≤ sizeLine; decide), fun l1 nl1 => ?_⟩
  have g1 := Fr.new (M := []) (o := .lst [it]) nl1
  have lR := RW.len
  refine ⟨pb, l1, _, _, rfl, rfl, K0 g1 (K1 fr8 b6 npba), upd_same, (by rw [List.length_take, sizeLine_eq]; show _ + 1 ≤ _; omega), fun c1 nc1 => ?_⟩
  have g2 := Fr.new (M := []) (o := .lst (xs.take j ++ [it])) nc1
  refine ⟨_, rfl, c1, ph, _, _, rfl, rfl, upd_same, K0 (g1.trans g2) (K1 fr8 h6 npha), (by rw [List.length_append, List.length_take, List.length_drop, sizeLine_eq]; show _ + 1 + _ ≤ _; omega), fun c2 nc2 => ?_⟩
  have g3 := Fr.new (M := []) (o := .lst (xs.take j ++ [it] ++ xs.drop j)) nc2
  refine ⟨_, rfl, _, rfl, _, _, rfl, rfl, (by show 2 ≤ sizeLine; decide), fun t1 nt1 => ?_⟩
  have g4 := Fr.new (M := []) (o := .tup [V.str "look", V.int (m + 1)]) nt1
  refine ⟨_, rfl, (by show 2 ≤ sizeLine; decide), fun t2 nt2 => ?_⟩
  have g5 := Fr.new (M := []) (o := .tup [V.str "look", V.int m]) nt2
  refine ⟨(by show 2 ≤ sizeLine; decide), fun l2 nl2 => ?_⟩
  have g6 := Fr.new (M := []) (o := .lst [V.ref t1, V.ref t2]) nl2
  have r8 := K1 fr8 r6 RW.ne
  refine ⟨R, l2, _, _, rfl, rfl, K0 (g1.trans (g2.trans (g3.trans (g4.trans (g5.trans g6))))) r8, upd_same, (by rw [sizeLine_eq]; show _ + 2 ≤ _; omega), fun c3 nc3 => ⟨(by show 2 ≤ sizeLine; decide), fun so nso => ?_⟩⟩
  have g7 := Fr.new (M := []) (o := .lst (xs ++ [V.ref t1, V.ref t2])) nc3
  have g8 := Fr.new (M := []) (o := .lst [V.ref c2, V.ref c3]) nso
  have gA := g1.trans (g2.trans (g3.trans (g4.trans (g5.trans (g6.trans (g7.trans g8))))))
  have s9 := K0 gA s8
  have r9 := K0 gA r8
  have pC2 := K0 (g4.trans (g5.trans (g6.trans g7))) (b := c2) upd_same
  have pT1 := K0 (g5.trans (g6.trans g7)) (b := t1) upd_same
  have pT2 := K0 (g6.trans g7) (b := t2) upd_same
  have qC2 := ne_of_none pC2 nso
  have qT1 := ne_of_none pT1 nso
  have qT2 := ne_of_none pT2 nso
  have qC3 : c3 ≠ so := ne_of_none upd_same nso
  have eC2 := K0 g8 pC2
  have eT1 := K0 g8 pT1
  have eT2 := K0 g8 pT2
  have eC3 := K0 g8 (b := c3) upd_same
  have frE := frD.trans (fr8.trans (gA.mono fun _ h => nomatch h))
  have nso7 : H7 so = none := (fr8.trans ((g1.trans (g2.trans (g3.trans (g4.trans (g5.trans (g6.trans g7)))))).mono fun _ h => nomatch h)).none nso
  have sRow9 := sRow.same (hd_new (fr8.trans (gA.mono fun _ h => nomatch h)) nso7)
  have nRow9 := nRow.same (hd_new (fr8.trans (gA.mono fun _ h => nomatch h)) nso7)
  have so9 : upd (upd (upd (upd (upd (upd (upd (upd H8 l1 (.lst [it])) c1 (.lst (xs.take j ++ [it]))) c2 (.lst (xs.take j ++ [it] ++ xs.drop j))) t1 (.tup [V.str "look", V.int (m + 1)])) t2 (.tup [V.str "look", V.int m])) l2 (.lst [V.ref t1, V.ref t2])) c3 (.lst (xs ++ [V.ref t1, V.ref t2]))) so (.lst [V.ref c2, V.ref c3]) so = some (.lst [V.ref c2, V.ref c3]) := upd_same
  have nso0 : H so = none := (frD.trans (fr8.trans ((g1.trans (g2.trans (g3.trans (g4.trans (g5.trans (g6.trans g7)))))).mono fun _ h => nomatch h))).none nso
  have nc20 : H c2 = none := (frD.trans (fr8.trans ((g1.trans g2).mono fun _ h => nomatch h))).none nc2
  have nc30 : H c3 = none := (frD.trans (fr8.trans ((g1.trans (g2.trans (g3.trans (g4.trans (g5.trans g6))))).mono fun _ h => nomatch h))).none nc3
  generalize upd (upd (upd (upd (upd (upd (upd (upd H8 l1 (.lst [it])) c1 (.lst (xs.take j ++ [it]))) c2 (.lst (xs.take j ++ [it] ++ xs.drop j))) t1 (.tup [V.str "look", V.int (m + 1)])) t2 (.tup [V.str "look", V.int m])) l2 (.lst [V.ref t1, V.ref t2])) c3 (.lst (xs ++ [V.ref t1, V.ref t2]))) so (.lst [V.ref c2, V.ref c3]) = H9 at gA g8 s9 r9 eC2 eT1 eT2 eC3 frE sRow9 nRow9 so9 ⊢
  clear pC2 pT1 pT2
  have hd9 : ∀ {b : Addr} {o : HO}, H9 b = some o → b ≠ a → b ≠ so → Hd [a, so] H9 b = some o := fun e n n2 => by rw [Hd_of (by simp [n, n2])]; exact e
  have nof : ∀ {b : Addr} {o : HO}, H9 b = some o → (∀ x z, o ≠ srcO x y z) → b ≠ a := fun e n z => by
    rw [z, s9] at e
    exact n _ _ (Option.some.inj e).symm
  have pr9 := L2.Paired.mapP RW.pr fun x y c => c.same (hd_new frE nso0)
  have nsa : so ≠ a := (ne_of_none hs nso0).symm
  have B2 : BadLog (Hd [a, so] H9) c2 := by
    refine bad_item (hd9 eC2 ?_ qC2) nRow9 sRow9 (paired_take pr9 j) (paired_drop pr9 j) (fun r hr => RW.good r (List.mem_of_mem_take hr)) (fun r hr => RW.good r (List.mem_of_mem_drop hr)) (by rw [List.length_take, List.length_drop]; omega)
    exact (ne_of_none hs nc20).symm
  have B3 : BadLog (Hd [a, so] H9) c3 := by
    have q1 := hd9 eT1 (nof eT1 fun _ _ z => by cases z) qT1
    have q2 := hd9 eT2 (nof eT2 fun _ _ z => by cases z) qT2
    refine bad_rows (rs := rs ++ [rLook (.int (m + 1)), rLook (.int m)]) (hd9 eC3 (ne_of_none hs nc30).symm qC3) (pair_app pr9 (.cons (rw_look q1 (.int _)) (.cons (rw_look q2 (.int _)) .nil))) (bad_fall m) (fun v hv => ?_) (by rw [List.length_append]; show _ + 2 ≤ _; omega)
    rcases List.mem_append.mp hv with hv | hv
    · exact sm_rows pr9 RW.good v hv
    · rcases List.mem_cons.mp hv with rfl | hv
      · exact sm_look q1 (smA_int (by omega))
      · obtain rfl := List.mem_singleton.mp hv; exact sm_look q2 (smA_int (by omega))
  have W1 : WI a R so y xs rs H [c2, c3] H9 := ⟨⟨_, _, s9⟩, r9, so9, fun p hp => by
    rcases List.mem_cons.mp hp with rfl | hp
    · exact ⟨B2, nc20⟩
    · obtain rfl := List.mem_singleton.mp hp; exact ⟨B3, nc30⟩, nso0, frE, nsa⟩
  clear B2 B3 s9 r9 so9 frE eC2 eT1 eT2 eC3 qC2 qT1 qT2 qC3 pr9 hd9 nof sRow9 nRow9 g1 g2 g3 g4 g5 g6 g7 g8 gA
  -- cycle
  obtain ⟨⟨x9, z9, s9⟩, r9, so9, bd9, _, frE, _⟩ := id W1
  have src : ∀ {Ha : Hp} {M : List Addr}, Fr M H9 Ha → a ∉ M → Ha a = some (srcO x9 y z9) := fun fr n => fr.at s9 n
  refine ⟨_, rfl, _, rfl, (by show 1 ≤ sizeLine; decide), fun lc nlc => ?_⟩
  have g1 := Fr.new (M := []) (o := .lst [V.int m]) nlc
  refine ⟨_, _, rfl, rfl, ⟨by decide, by decide, by decide⟩, _, _, rfl, rfl, (by show 6 ≤ sizeLine; decide), fun cl ncl => ?_⟩
  have g2 := Fr.new (M := []) (o := .lst [V.bl true, V.non, V.str "5", V.int (-1), V.ref lc, V.int (0 - 10 ^ (30 : Int).toNat)]) ncl
  have elc := K0 g2 (b := lc) upd_same
  refine ⟨_, rfl, a, x9, y, z9, 6, rfl, src (g1.trans g2) (by simp), by decide, by decide, fun d3 x3 z3 H10 d30 d31 s10 fr10 => ?_⟩
  obtain ⟨j3, rfl⟩ : ∃ j : Nat, d3 = j := ⟨d3.toNat, by omega⟩
  have fr9 : Fr [a] H9 H10 := ((g1.trans g2).mono fun _ h => nomatch h).trans fr10
  have nlca : lc ≠ a := (ne_of_none s9 nlc).symm
  have nlcs : lc ≠ so := (ne_of_none so9 nlc).symm
  have elc10 := fr10.at elc (by simpa using nlca)
  have ecl10 := fr10.at (p := cl) upd_same (by simpa using (ne_of_none (src (g1) (by simp)) ncl).symm)
  have W2 : WI a R so y xs rs H [c2, c3] H10 := ⟨⟨_, _, s10⟩, fr9.at r9 (by simpa using RW.ne), fr9.at so9 (by simpa using nsa), fun p hp => ⟨(bd9 p hp).1.same (fr9.hdIn fun _ h => by simp at h; simp [h]), (bd9 p hp).2⟩, nso0, frE.trans fr9, nsa⟩
  obtain ⟨cyc, cat, t, kc, sc, nc⟩ : ∃ cyc, [V.bl true, V.non, V.str "5", V.int (-1), V.ref lc, V.int (0 - 10 ^ (30 : Int).toNat)][j3]? = some cyc ∧ ∃ t, Kd (Hd [a, so] H10) cyc t ∧ SmA (Hd [a, so] H10) cyc ∧ wholeV cyc (.int 0) = false := by
    have e' : Hd [a, so] H10 lc = some (.lst [V.int m]) := by rw [Hd_of (by simp [nlca, nlcs])]; exact elc10
    match j3, (show j3 < 6 by omega) with
    | 0, _ => exact ⟨_, rfl, _, .bl _, smA_bl, rfl⟩
    | 1, _ => exact ⟨_, rfl, _, .non, smA_non, rfl⟩
    | 2, _ => exact ⟨_, rfl, _, .str _, smA_str (by decide +kernel), rfl⟩
    | 3, _ => exact ⟨_, rfl, _, .int _, smA_int (by decide), by decide⟩
    | 4, _ => exact ⟨_, rfl, _, .lst e', smA_l1 e' (by omega), rfl⟩
    | 5, _ => exact ⟨_, rfl, _, .int _, smA_int (by decide), by decide⟩
  refine ⟨cl, _, _, cyc, rfl, rfl, SqL.of ecl10, atI_nat cat, ?_⟩
  clear W1 s9 r9 so9 bd9 src g1 g2 elc ecl10 fr10 s10
  have nRs : R ≠ so := ne_of_none RW.r nso0
  have hdn : ∀ {Ha : Hp} {b : Addr} {o : HO}, Ha b = some o → b ≠ a → b ≠ so → Hd [a, so] Ha b = some o := fun e n n2 => by rw [Hd_of (by simp [n, n2])]; exact e
  obtain ⟨⟨u2, v2, s2⟩, r2, so2, _, _, _, _⟩ := id W2
  refine ⟨_, rfl, .inl ⟨rfl, _, SqL.of so2⟩, _, rfl, (by show 2 ≤ sizeLine; decide), fun t2a n2a => ?_⟩
  have f2a := Fr.new (M := []) (o := .tup [V.str "look", cyc]) n2a
  refine ⟨(by show 1 ≤ sizeLine; decide), fun l2 n2l => ?_⟩
  have f2l := Fr.new (M := []) (o := .lst [V.ref t2a]) n2l
  refine ⟨_, rfl, l2, R, _, _, rfl, rfl, upd_same, K0 (f2a.trans f2l) r2, (by rw [sizeLine_eq]; show 1 + _ ≤ _; omega), fun c2 n2c => ?_⟩
  have f2c := Fr.new (M := []) (o := .lst ([V.ref t2a] ++ xs)) n2c
  refine ⟨so, _, _, rfl, rfl, K0 (f2a.trans (f2l.trans f2c)) so2, (by simp only [List.length_map, List.length_append, List.length_cons, List.length_nil]; decide), ?_⟩
  have W3 := W2.step (p := c2) nRs RW.ne (f2a.trans (f2l.trans f2c)) ((f2a.trans f2l).none n2c) (by
    have ea := K0 (f2l.trans f2c) (b := t2a) upd_same
    have qa := hdn ea (ne_of_none s2 n2a).symm (ne_of_none so2 n2a).symm
    have fW := (f2a.trans (f2l.trans f2c)).mono (N := [a]) fun _ h => nomatch h
    have pr := L2.Paired.mapP RW.pr fun x y c => c.same (hd_new (W2.fr.trans fW) nso0)
    refine bad_rows (hdn upd_same (ne_of_none (K0 (f2a.trans f2l) s2) n2c).symm (ne_of_none (K0 (f2a.trans f2l) so2) n2c).symm) (pair_app (.cons (rw_look qa (kc.same (fW.hdIn (N := [a, so]) fun _ h => by simp at h; simp [h]))) .nil) pr) (bad_first nc) (fun v hv => ?_) (by rw [List.length_append]; show 1 + _ ≤ _; omega)
    rcases List.mem_append.mp hv with hv | hv
    · obtain rfl := List.mem_singleton.mp hv
      exact (sm_look qa (sc.same (fW.hdIn (N := [a, so]) fun _ h => by simp at h; simp [h])))
    · exact sm_rows pr RW.good v hv)
  clear W2 f2a f2l f2c n2a n2l n2c s2 r2 so2
  generalize upd _ so (.lst (_ ++ [V.ref c2])) = H11 at W3 ⊢
  obtain ⟨⟨u3, v3, s3⟩, r3, so3, _, _, _, _⟩ := id W3
  refine ⟨_, rfl, .inl ⟨rfl, _, SqL.of so3⟩, (by show 2 ≤ sizeLine; decide), fun t3a n3a => ?_⟩
  have f3a := Fr.new (M := []) (o := .tup [V.str "go", V.int 5]) n3a
  refine ⟨(by show 1 ≤ sizeLine; decide), fun l3 n3l => ?_⟩
  have f3l := Fr.new (M := []) (o := .lst [V.ref t3a]) n3l
  refine ⟨_, rfl, l3, R, _, _, rfl, rfl, upd_same, K0 (f3a.trans f3l) r3, (by rw [sizeLine_eq]; show 1 + _ ≤ _; omega), fun c3 n3c => ?_⟩
  have f3c := Fr.new (M := []) (o := .lst ([V.ref t3a] ++ xs)) n3c
  refine ⟨so, _, _, rfl, rfl, K0 (f3a.trans (f3l.trans f3c)) so3, (by simp only [List.length_map, List.length_append, List.length_cons, List.length_nil]; decide), ?_⟩
  have W4 := W3.step (p := c3) nRs RW.ne (f3a.trans (f3l.trans f3c)) ((f3a.trans f3l).none n3c) (by
    have ea := K0 (f3l.trans f3c) (b := t3a) upd_same
    have qa := hdn ea (ne_of_none s3 n3a).symm (ne_of_none so3 n3a).symm
    have fW := (f3a.trans (f3l.trans f3c)).mono (N := [a]) fun _ h => nomatch h
    have pr := L2.Paired.mapP RW.pr fun x y c => c.same (hd_new (W3.fr.trans fW) nso0)
    refine bad_rows (hdn upd_same (ne_of_none (K0 (f3a.trans f3l) s3) n3c).symm (ne_of_none (K0 (f3a.trans f3l) so3) n3c).symm) (pair_app (.cons (rw_go qa) .nil) pr) bad_go (fun v hv => ?_) (by rw [List.length_append]; show 1 + _ ≤ _; omega)
    rcases List.mem_append.mp hv with hv | hv
    · obtain rfl := List.mem_singleton.mp hv
      exact (sm_go qa (by decide))
    · exact sm_rows pr RW.good v hv)
  clear W3 f3a f3l f3c n3a n3l n3c s3 r3 so3
  generalize upd _ so (.lst (_ ++ [V.ref c3])) = H12 at W4 ⊢
  obtain ⟨⟨u4, v4, s4⟩, r4, so4, _, _, _, _⟩ := id W4
  refine ⟨_, rfl, .inl ⟨rfl, _, SqL.of so4⟩, _, rfl, _, rfl, _, _, rfl, rfl, (by show 2 ≤ sizeLine; decide), fun t4a n4a => ?_⟩
  have f4a := Fr.new (M := []) (o := .tup [V.str "look", V.int (m + 1)]) n4a
  refine ⟨(by show 2 ≤ sizeLine; decide), fun t4b n4b => ?_⟩
  have f4b := Fr.new (M := []) (o := .tup [V.str "go", V.int 5]) n4b
  refine ⟨(by show 2 ≤ sizeLine; decide), fun l4 n4l => ?_⟩
  have f4l := Fr.new (M := []) (o := .lst [V.ref t4a, V.ref t4b]) n4l
  refine ⟨R, l4, _, _, rfl, rfl, K0 (f4a.trans (f4b.trans f4l)) r4, upd_same, (by rw [sizeLine_eq]; show _ + 2 ≤ _; omega), fun c4 n4c => ?_⟩
  have f4c := Fr.new (M := []) (o := .lst (xs ++ [V.ref t4a, V.ref t4b])) n4c
  refine ⟨so, _, _, rfl, rfl, K0 (f4a.trans (f4b.trans (f4l.trans f4c))) so4, (by simp only [List.length_map, List.length_append, List.length_cons, List.length_nil]; decide), ?_⟩
  have W5 := W4.step (p := c4) nRs RW.ne (f4a.trans (f4b.trans (f4l.trans f4c))) ((f4a.trans (f4b.trans f4l)).none n4c) (by
    have ea := K0 (f4b.trans (f4l.trans f4c)) (b := t4a) upd_same
    have qa := hdn ea (ne_of_none s4 n4a).symm (ne_of_none so4 n4a).symm
    have eb := K0 (f4l.trans f4c) (b := t4b) upd_same
    have qb := hdn eb (ne_of_none (K0 (f4a) s4) n4b).symm (ne_of_none (K0 (f4a) so4) n4b).symm
    have fW := (f4a.trans (f4b.trans (f4l.trans f4c))).mono (N := [a]) fun _ h => nomatch h
    have pr := L2.Paired.mapP RW.pr fun x y c => c.same (hd_new (W4.fr.trans fW) nso0)
    refine bad_rows (hdn upd_same (ne_of_none (K0 (f4a.trans (f4b.trans f4l)) s4) n4c).symm (ne_of_none (K0 (f4a.trans (f4b.trans f4l)) so4) n4c).symm) (pair_app pr (.cons (rw_look qa (.int _)) (.cons (rw_go qb) .nil))) (bad_look_go _) (fun v hv => ?_) (by rw [List.length_append]; show _ + 2 ≤ _; omega)
    rcases List.mem_append.mp hv with hv | hv
    · exact sm_rows pr RW.good v hv
    · rcases List.mem_cons.mp hv with rfl | hv
      · exact (sm_look qa (smA_int (by omega)))
      obtain rfl := List.mem_singleton.mp hv
      exact (sm_go qb (by decide)))
  clear W4 f4a f4b f4l f4c n4a n4b n4l n4c s4 r4 so4
  generalize upd _ so (.lst (_ ++ [V.ref c4])) = H13 at W5 ⊢
  obtain ⟨⟨u5, v5, s5⟩, r5, so5, _, _, _, _⟩ := id W5
  refine ⟨_, rfl, .inl ⟨rfl, _, SqL.of so5⟩, (by show 3 ≤ sizeLine; decide), fun t5a n5a => ?_⟩
  have f5a := Fr.new (M := []) (o := .tup [V.str "stop", V.int 0, V.int 1]) n5a
  refine ⟨(by show 2 ≤ sizeLine; decide), fun t5b n5b => ?_⟩
  have f5b := Fr.new (M := []) (o := .tup [V.str "look", V.int 0]) n5b
  refine ⟨(by show 2 ≤ sizeLine; decide), fun l5 n5l => ?_⟩
  have f5l := Fr.new (M := []) (o := .lst [V.ref t5a, V.ref t5b]) n5l
  refine ⟨_, rfl, l5, R, _, _, rfl, rfl, upd_same, K0 (f5a.trans (f5b.trans f5l)) r5, (by rw [sizeLine_eq]; show 2 + _ ≤ _; omega), fun c5 n5c => ?_⟩
  have f5c := Fr.new (M := []) (o := .lst ([V.ref t5a, V.ref t5b] ++ xs)) n5c
  refine ⟨so, _, _, rfl, rfl, K0 (f5a.trans (f5b.trans (f5l.trans f5c))) so5, (by simp only [List.length_map, List.length_append, List.length_cons, List.length_nil]; decide), ?_⟩
  have W6 := W5.step (p := c5) nRs RW.ne (f5a.trans (f5b.trans (f5l.trans f5c))) ((f5a.trans (f5b.trans f5l)).none n5c) (by
    have ea := K0 (f5b.trans (f5l.trans f5c)) (b := t5a) upd_same
    have qa := hdn ea (ne_of_none s5 n5a).symm (ne_of_none so5 n5a).symm
    have eb := K0 (f5l.trans f5c) (b := t5b) upd_same
    have qb := hdn eb (ne_of_none (K0 (f5a) s5) n5b).symm (ne_of_none (K0 (f5a) so5) n5b).symm
    have fW := (f5a.trans (f5b.trans (f5l.trans f5c))).mono (N := [a]) fun _ h => nomatch h
    have pr := L2.Paired.mapP RW.pr fun x y c => c.same (hd_new (W5.fr.trans fW) nso0)
    refine bad_rows (hdn upd_same (ne_of_none (K0 (f5a.trans (f5b.trans f5l)) s5) n5c).symm (ne_of_none (K0 (f5a.trans (f5b.trans f5l)) so5) n5c).symm) (pair_app (.cons (rw_stop qa) (.cons (rw_look qb (.int _)) .nil)) pr) bad_stop_look (fun v hv => ?_) (by rw [List.length_append]; show 2 + _ ≤ _; omega)
    rcases List.mem_append.mp hv with hv | hv
    · rcases List.mem_cons.mp hv with rfl | hv
      · exact (sm_stop qa)
      obtain rfl := List.mem_singleton.mp hv
      exact (sm_look qb (smA_int (by decide)))
    · exact sm_rows pr RW.good v hv)
  clear W5 f5a f5b f5l f5c n5a n5b n5l n5c s5 r5 so5
  generalize upd _ so (.lst (_ ++ [V.ref c5])) = H14 at W6 ⊢
  obtain ⟨⟨u6, v6, s6⟩, r6, so6, _, _, _, _⟩ := id W6
  refine ⟨_, rfl, .inl ⟨rfl, _, SqL.of so6⟩, (by show 3 ≤ sizeLine; decide), fun t6a n6a => ?_⟩
  have f6a := Fr.new (M := []) (o := .tup [V.str "stop", V.int 0, V.int 1]) n6a
  refine ⟨(by show 2 ≤ sizeLine; decide), fun t6b n6b => ?_⟩
  have f6b := Fr.new (M := []) (o := .tup [V.str "go", V.int 1]) n6b
  refine ⟨(by show 2 ≤ sizeLine; decide), fun t6d n6d => ?_⟩
  have f6d := Fr.new (M := []) (o := .tup [V.str "go", V.int 1]) n6d
  refine ⟨(by show 3 ≤ sizeLine; decide), fun l6 n6l => ?_⟩
  have f6l := Fr.new (M := []) (o := .lst [V.ref t6a, V.ref t6b, V.ref t6d]) n6l
  refine ⟨_, rfl, l6, R, _, _, rfl, rfl, upd_same, K0 (f6a.trans (f6b.trans (f6d.trans f6l))) r6, (by rw [sizeLine_eq]; show 3 + _ ≤ _; omega), fun c6 n6c => ?_⟩
  have f6c := Fr.new (M := []) (o := .lst ([V.ref t6a, V.ref t6b, V.ref t6d] ++ xs)) n6c
  refine ⟨so, _, _, rfl, rfl, K0 (f6a.trans (f6b.trans (f6d.trans (f6l.trans f6c)))) so6, (by simp only [List.length_map, List.length_append, List.length_cons, List.length_nil]; decide), ?_⟩
  have W7 := W6.step (p := c6) nRs RW.ne (f6a.trans (f6b.trans (f6d.trans (f6l.trans f6c)))) ((f6a.trans (f6b.trans (f6d.trans f6l))).none n6c) (by
    have ea := K0 (f6b.trans (f6d.trans (f6l.trans f6c))) (b := t6a) upd_same
    have qa := hdn ea (ne_of_none s6 n6a).symm (ne_of_none so6 n6a).symm
    have eb := K0 (f6d.trans (f6l.trans f6c)) (b := t6b) upd_same
    have qb := hdn eb (ne_of_none (K0 (f6a) s6) n6b).symm (ne_of_none (K0 (f6a) so6) n6b).symm
    have ed := K0 (f6l.trans f6c) (b := t6d) upd_same
    have qd := hdn ed (ne_of_none (K0 (f6a.trans f6b) s6) n6d).symm (ne_of_none (K0 (f6a.trans f6b) so6) n6d).symm
    have fW := (f6a.trans (f6b.trans (f6d.trans (f6l.trans f6c)))).mono (N := [a]) fun _ h => nomatch h
    have pr := L2.Paired.mapP RW.pr fun x y c => c.same (hd_new (W6.fr.trans fW) nso0)
    refine bad_rows (hdn upd_same (ne_of_none (K0 (f6a.trans (f6b.trans (f6d.trans f6l))) s6) n6c).symm (ne_of_none (K0 (f6a.trans (f6b.trans (f6d.trans f6l))) so6) n6c).symm) (pair_app (.cons (rw_stop qa) (.cons (rw_go qb) (.cons (rw_go qd) .nil))) pr) bad_go_go (fun v hv => ?_) (by rw [List.length_append]; show 3 + _ ≤ _; omega)
    rcases List.mem_append.mp hv with hv | hv
    · rcases List.mem_cons.mp hv with rfl | hv
      · exact (sm_stop qa)
      rcases List.mem_cons.mp hv with rfl | hv
      · exact (sm_go qb (by decide))
      obtain rfl := List.mem_singleton.mp hv
      exact (sm_go qd (by decide))
    · exact sm_rows pr RW.good v hv)
  clear W6 f6a f6b f6d f6l f6c n6a n6b n6d n6l n6c s6 r6 so6
  generalize upd _ so (.lst (_ ++ [V.ref c6])) = H15 at W7 ⊢
  obtain ⟨⟨u7, v7, s7⟩, r7, so7, _, _, _, _⟩ := id W7
  refine ⟨_, rfl, .inl ⟨rfl, _, SqL.of so7⟩, (by show 3 ≤ sizeLine; decide), fun t7a n7a => ?_⟩
  have f7a := Fr.new (M := []) (o := .tup [V.str "stop", V.int 0, V.int 1]) n7a
  refine ⟨(by show 3 ≤ sizeLine; decide), fun t7b n7b => ?_⟩
  have f7b := Fr.new (M := []) (o := .tup [V.str "stop", V.int 0, V.int 1]) n7b
  refine ⟨(by show 2 ≤ sizeLine; decide), fun t7d n7d => ?_⟩
  have f7d := Fr.new (M := []) (o := .tup [V.str "go", V.int 1]) n7d
  refine ⟨(by show 3 ≤ sizeLine; decide), fun l7 n7l => ?_⟩
  have f7l := Fr.new (M := []) (o := .lst [V.ref t7a, V.ref t7b, V.ref t7d]) n7l
  refine ⟨_, rfl, l7, R, _, _, rfl, rfl, upd_same, K0 (f7a.trans (f7b.trans (f7d.trans f7l))) r7, (by rw [sizeLine_eq]; show 3 + _ ≤ _; omega), fun c7 n7c => ?_⟩
  have f7c := Fr.new (M := []) (o := .lst ([V.ref t7a, V.ref t7b, V.ref t7d] ++ xs)) n7c
  refine ⟨so, _, _, rfl, rfl, K0 (f7a.trans (f7b.trans (f7d.trans (f7l.trans f7c)))) so7, (by simp only [List.length_map, List.length_append, List.length_cons, List.length_nil]; decide), ?_⟩
  have W8 := W7.step (p := c7) nRs RW.ne (f7a.trans (f7b.trans (f7d.trans (f7l.trans f7c)))) ((f7a.trans (f7b.trans (f7d.trans f7l))).none n7c) (by
    have ea := K0 (f7b.trans (f7d.trans (f7l.trans f7c))) (b := t7a) upd_same
    have qa := hdn ea (ne_of_none s7 n7a).symm (ne_of_none so7 n7a).symm
    have eb := K0 (f7d.trans (f7l.trans f7c)) (b := t7b) upd_same
    have qb := hdn eb (ne_of_none (K0 (f7a) s7) n7b).symm (ne_of_none (K0 (f7a) so7) n7b).symm
    have ed := K0 (f7l.trans f7c) (b := t7d) upd_same
    have qd := hdn ed (ne_of_none (K0 (f7a.trans f7b) s7) n7d).symm (ne_of_none (K0 (f7a.trans f7b) so7) n7d).symm
    have fW := (f7a.trans (f7b.trans (f7d.trans (f7l.trans f7c)))).mono (N := [a]) fun _ h => nomatch h
    have pr := L2.Paired.mapP RW.pr fun x y c => c.same (hd_new (W7.fr.trans fW) nso0)
    refine bad_rows (hdn upd_same (ne_of_none (K0 (f7a.trans (f7b.trans (f7d.trans f7l))) s7) n7c).symm (ne_of_none (K0 (f7a.trans (f7b.trans (f7d.trans f7l))) so7) n7c).symm) (pair_app (.cons (rw_stop qa) (.cons (rw_stop qb) (.cons (rw_go qd) .nil))) pr) bad_stop_stop (fun v hv => ?_) (by rw [List.length_append]; show 3 + _ ≤ _; omega)
    rcases List.mem_append.mp hv with hv | hv
    · rcases List.mem_cons.mp hv with rfl | hv
      · exact (sm_stop qa)
      rcases List.mem_cons.mp hv with rfl | hv
      · exact (sm_stop qb)
      obtain rfl := List.mem_singleton.mp hv
      exact (sm_go qd (by decide))
    · exact sm_rows pr RW.good v hv)
  clear W7 f7a f7b f7d f7l f7c n7a n7b n7d n7l n7c s7 r7 so7
  generalize upd _ so (.lst (_ ++ [V.ref c7])) = H16 at W8 ⊢
  obtain ⟨ps, W9, lps⟩ : ∃ ps, WI a R so y xs rs H ps H16 ∧ ps.length = 8 := ⟨_, W8, rfl⟩
  obtain ⟨⟨u8, v8, s8⟩, r8, so8, bd8, _, fr8, _⟩ := id W9
  have ll : (((ps.map V.ref).length : Nat) : Int) = 8 := by rw [List.length_map, lps]; rfl
  refine ⟨_, rfl, _, rfl, _, rfl, so, _, rfl, .inl (SqL.of so8), a, u8, y, v8, _, rfl, s8, (by rw [ll]; decide), (by rw [ll]; decide), fun d9 x9 z9 H17 d90 d91 s17 fr17 => ?_⟩
  rw [ll] at d91
  obtain ⟨j9, rfl⟩ : ∃ j : Nat, d9 = j := ⟨d9.toNat, by omega⟩
  have hj : j9 < ps.length := by omega
  have so17 := fr17.at so8 (by simpa using nsa)
  obtain ⟨bw, nw⟩ := bd8 _ (List.getElem_mem hj)
  refine ⟨so, _, _, V.ref ps[j9], rfl, rfl, SqL.of so17, atI_nat (by rw [List.getElem?_map, List.getElem?_eq_getElem hj]; rfl), q _ H17 nw (ne_of_none hs nw).symm ⟨_, _, s17⟩ (fr8.trans fr17) ?_⟩
  refine bw.same fun b o h => ?_
  have h2 := (fr17.hdIn (N := [a, so]) fun _ h => by simp at h; simp [h]) b o h
  exact Hd_mono (fun _ h => by simp at h; simp [h]) b o h2
end
end Tk

set_option Elab.async false
set_option linter.all false
set_option maxRecDepth 100000
set_option maxHeartbeats 4000000
/-! Lambdas: made as values that the tracked heap knows; their calls, with arguments and defaults. -/
namespace Tk
open PySem PySem.Spec PyProof.Rows L2 LamX

/-- the very object stands at f -/
def FunO (f : Addr) (o : Obj) : HO := .ext fun h => h.get? f = some o
theorem funO_ok {P : Program} {w : World} {H : Hp} {h : Heap} {f : Addr} {o : Obj} (e : h.get? f = some o) : ObjOk P w H h f (FunO f o) := ⟨e, ⟨o, e⟩, fun _ _ p k => k _ p⟩
theorem funO_get {P : Program} {w : World} {H : Hp} {h : Heap} {f : Addr} {o : Obj} (x : HOk P w H h) (e : H f = some (FunO f o)) : h.get? f = some o := (x f _ e).1
theorem funO_neTbl {f : Addr} {o : Obj} (ps : Array Value) : FunO f o ≠ .tbl ps := fun z => by
  unfold FunO at z
  cases z
/-- the tuple of the defaults -/
def Dfl (H : Hp) (dvs : List V) (dV : Value) : Prop := (dvs = [] ∧ dV = .none) ∨ (dvs ≠ [] ∧ ∃ t, dV = .ref t ∧ H t = some (.tup dvs))
/-- a lambda's object, made in X -/
abbrev lamO (X : Cx) (params : Arguments) (body : Expr) (scope : Scope) (dV doc pm : Value) (c' : Addr) (ctv : Value) : Obj :=
  PySem.W.kdv_obj "<lambda>" (X.env.qual ++ "<lambda>") params (.expr body) scope (cloFrom X.env.cells scope.names []) dV doc pm c' ctv
section
variable {X : Cx} {pins : List (Addr × Obj)} {σ : L2.St} {H : Hp} {s : Shared}
theorem lam_tail {T : List (Addr × Str)} {c P : Addr} {params : Arguments} {body : Expr} {scope : Scope} {pos : Pos} {dV : Value} {E : Value → Shared → Prop} {Q : Value → Shared → Prop} (I : Inv X pins σ H s) (TB : TabB X.base X.mg c P) (code : X.env.code = .ref c)
    (mT : (P, X.env.qual ++ "<lambda>") ∈ T) (uT : ∀ p ∈ T, p.1 = P → p.2 = X.env.qual ++ "<lambda>") (hT : LamX.Tabs T H) (free : ∀ y ∈ scope.names, y.2 = .free → ∃ c, X.env.cells.lookup y.1 = some c)
    (q : ∀ (f c' : Addr) (pm ctv doc : Value) (H1 : Hp) (s' : Shared), ExtN H H1 → LamX.Tabs T H1 → H1 f = none → H1 c' = some (CodeO c' (X.env.qual ++ "<lambda>")) →
      Inv X pins σ (upd H1 f (FunO f (lamO X params body scope dV doc pm c' ctv))) s' → Q (.ref f) s') :
    wpAny (model X.prog X.w) X.A (makeTail "<lambda>" (X.env.qual ++ "<lambda>") params (.expr body) scope X.env dV .none none pos pos.line) Q E s := by
  obtain ⟨ps, hP, trip, tell⟩ := hT _ mT
  have bP : s.heap.BuiltinsAt X.mg P := TB.bm.keeps I.bk
  have atP : s.heap.get? P = some { cls := .none, data := .fields ps } := I.hok P _ hP
  cases am : codeAmong pos ps.toList with
  | none =>
    refine PySem.W.kdv_makeTail (mg := X.mg) (c := c) (P := P) (ps := ps) (closure_ok free) I.ok.glob (I.mod.glob.keeps I.bk) code (TB.code.keeps I.bk) atP trip am TB.gP bP fun c' ctv doc h' tk keep le lt rec tb => ?_
    obtain ⟨c2, oc, vs, t, e2, hoc, hd, hv⟩ := rec
    cases e2
    have nC : H c' = none := I.hok.fresh le
    have sz : s.heap.objs.size ≤ h'.objs.size := Nat.le_trans le (Nat.le_of_lt lt)
    have I1 := inv_table (t' := tk) (more := #[rawInt pos.line, rawInt pos.col, .ref c']) (h' := h') I hP keep tb le ⟨oc, vs, t, hoc, hd, hv⟩
    have n1 : h'.objs.size ≠ c' := Nat.ne_of_gt lt
    have n2 : h'.objs.size ≠ P := Nat.ne_of_gt (Nat.lt_of_lt_of_le (Heap.lt_size atP) sz)
    have ext : ExtN H (upd (upd H P (.tbl (ps ++ #[rawInt pos.line, rawInt pos.col, .ref c']))) c' (CodeO c' (X.env.qual ++ "<lambda>"))) := fun b o e n => by
      rw [upd_ne (ne_of_none e nC), upd_ne fun z => n ps (Option.some.inj (e.symm.trans (by rw [z]; exact hP)))]
      exact e
    have lst : (ps ++ #[rawInt pos.line, rawInt pos.col, .ref c']).toList = ps.toList ++ [rawInt pos.line, rawInt pos.col, .ref c'] := by simp
    refine q h'.objs.size c' ((X.mg "__name__").getD .none) ctv doc _ { s with heap := h'.push _, toks := tk } ext (fun p hp => ?_) ?_ upd_same (I1.laid (t' := tk) (fun b o e => Heap.get?_push_of_some _ e) (Nat.le_refl _) (funO_ok (Heap.get?_push_size _ rfl)))
    · by_cases hb : p.1 = P
      · rw [uT p hp hb, hb]
        refine ⟨_, by rw [upd_ne (ne_of_none hP nC), upd_same], by rw [lst]; exact PySem.TriplesOk_snoc _ _ _ _ trip, fun p' cv hcv => ?_⟩
        rw [lst] at hcv
        rcases among_app _ trip hcv with z | z
        · obtain ⟨c0, e1, e2⟩ := tell p' cv z
          exact ⟨c0, e1, ext _ _ e2 codeO_ne⟩
        · exact ⟨c', z, upd_same⟩
      · obtain ⟨ps', a1, a2, a3⟩ := hT p hp
        refine ⟨ps', by rw [upd_ne (ne_of_none a1 nC), upd_ne hb]; exact a1, a2, fun p' cv hcv => ?_⟩
        obtain ⟨c0, e1, e2⟩ := a3 p' cv hcv
        exact ⟨c0, e1, ext _ _ e2 codeO_ne⟩
    · rw [upd_ne n1, upd_ne n2]
      exact I.hok.fresh sz
  | some cv =>
    obtain ⟨c', e, hco⟩ := tell pos cv am
    subst e
    refine PySem.W.kdv_makeTailHit (mg := X.mg) (c := c) (P := P) (ps := ps) (closure_ok free) I.ok.glob (I.mod.glob.keeps I.bk) code (TB.code.keeps I.bk) atP trip am bP fun ctv doc h' tk keep sz => ?_
    exact q h'.objs.size c' ((X.mg "__name__").getD .none) ctv doc H { s with heap := h'.push _, toks := tk } (ExtN.refl H) hT (I.hok.fresh sz) hco
      (I.laid (t' := tk) (fun b o e => Heap.get?_push_of_some _ (keep b o e)) sz (funO_ok (Heap.get?_push_size _ rfl)))
end

/-- the defaults' values, told ahead -/
def DflEv (X : Cx) (params : Arguments) (dvs : List V) : Prop := params.kw_defaults = [] ∧ ∀ (pins : List (Addr × Obj)) (σ : L2.St) (H : Hp) (s : Shared) (E : Value → Shared → Prop) (Q : List Value → Shared → Prop), Inv X pins σ H s →
  (∀ us s', Inv X pins σ H s' → Vals dvs us → Q us s') → wpAny (model X.prog X.w) X.A (evalAll (evalEach params.defaults X.env)) Q E s
theorem dflEv_none {X : Cx} {params : Arguments} (h1 : params.kw_defaults = []) (h2 : params.defaults = []) : DflEv X params [] := by
  refine ⟨h1, fun pins σ H s E Q I q => ?_⟩
  rw [h2]
  exact evalAll_nil (q [] s I .nil)
theorem dflEv_int {X : Cx} {params : Arguments} {i : Int} {j pos} (h1 : params.kw_defaults = []) (h2 : params.defaults = [.Constant (.int i) j pos]) : DflEv X params [.int i] := by
  refine ⟨h1, fun pins σ H s E Q I q => ?_⟩
  rw [h2]
  exact evalAll_cons (wpAny_Constant_int (evalAll_nil (q _ _ (I.tok _) (.cons ⟨_, rfl⟩ .nil))))
/-- what making a lambda gives: f the new object -/
def tLamV (X : Cx) (T : List (Addr × Str)) (params : Arguments) (body : Expr) (scope : Scope) (dvs : List V) : TE := fun _ H Q => LamX.Tabs T H ∧ ∀ (f c' : Addr) (pm ctv doc dV : Value) (H1 : Hp), ExtN H H1 → LamX.Tabs T H1 → H1 f = none →
  H1 c' = some (CodeO c' (X.env.qual ++ "<lambda>")) → Dfl H1 dvs dV → Q (.ref f) (upd H1 f (FunO f (lamO X params body scope dV doc pm c' ctv)))
/-- the names of a lambda: parameters, captured ones, globals -/
structure LamD (N : List Str) (sc scope : Scope) (ps : List Str) : Prop where
  kind : scope.kind = .function
  co : scope.isCoroutine = false
  gen : scope.isGenerator = false
  par : ∀ y ∈ ps, scope.names.lookup y = some .local
  nc : ∀ y ∈ scope.names, y.2 ≠ .cell
  own : ∀ y ∈ scope.names, y.2 = .local → y.1 ∉ N
  free : ∀ y ∈ scope.names, y.2 = .free → sc.names.lookup y.1 = some .cell ∨ sc.names.lookup y.1 = some .free
  nd : ps.Nodup
def lamDB (N : List Str) (sc scope : Scope) (ps : List Str) : Bool :=
  decide (scope.kind = .function) && !scope.isCoroutine && !scope.isGenerator && (ps.all fun y => decide (scope.names.lookup y = some .local)) && (scope.names.all fun y => !decide (y.2 = .cell)) &&
    (scope.names.all fun y => !decide (y.2 = .local) || decide (y.1 ∉ N)) && (scope.names.all fun y => !decide (y.2 = .free) || decide (sc.names.lookup y.1 = some .cell) || decide (sc.names.lookup y.1 = some .free)) && decide ps.Nodup
theorem lamD_by {N : List Str} {sc scope : Scope} {ps : List Str} (h : lamDB N sc scope ps = true) : LamD N sc scope ps := by
  unfold lamDB at h
  simp only [Bool.and_eq_true, Bool.or_eq_true, Bool.not_eq_true', decide_eq_true_eq, decide_eq_false_iff_not, List.all_eq_true] at h
  obtain ⟨⟨⟨⟨⟨⟨⟨h1, h2⟩, h3⟩, h4⟩, h5⟩, h6⟩, h7⟩, h8⟩ := h
  refine ⟨h1, h2, h3, h4, h5, fun y hy e => (h6 y hy).resolve_left fun n => n e, fun y hy e => ?_, h8⟩
  rcases h7 y hy with (z | z) | z
  · exact absurd e z
  · exact .inl z
  · exact .inr z
theorem LamD.has {X : Cx} {scope : Scope} {ps : List Str} (L : LamD X.N X.env.scope scope ps) (ok : X.Ok) : ∀ y ∈ scope.names, y.2 = .free → ∃ c, X.env.cells.lookup y.1 = some c := fun y hy e =>
  (L.free y hy e).elim (fun k => ok.has _ (.inl k)) fun k => ok.has _ (.inr k)
section
variable {X : Cx}
/-- lambda ..: body, as a value -/
theorem pe_lam {T : List (Addr × Str)} {c P : Addr} {params : Arguments} {body : Expr} {scope : Scope} {pos : Pos} {ps : List Str} {dvs : List V} (TB : TabB X.base X.mg c P) (code : X.env.code = .ref c) (mT : (P, X.env.qual ++ "<lambda>") ∈ T) (uT : ∀ p ∈ T, p.1 = P → p.2 = X.env.qual ++ "<lambda>")
    (D : DflEv X params dvs) (L : LamD X.N X.env.scope scope ps) (hz : dvs.length ≤ sizeLine := by decide) : PE X (.Lambda params body scope pos) (tLamV X T params body scope dvs) := by
  refine ⟨fun pins s σ H Q I ⟨hT, q⟩ => ?_⟩
  rw [arm_eval_Lambda, defaultsOf_eq, D.1]
  refine wpAny_bind (D.2 pins σ H s _ _ I fun us s1 I1 r => wpAny_bind (wpAny_holding (wpAny_pure ?_)))
  rw [makeFunction_eq]
  simp only [List.zip_nil_right, List.filterMap_nil, List.isEmpty_nil, if_true, pure_bind]
  cases us with
  | nil =>
    cases r
    exact lam_tail I1 TB code mT uT hT (L.has I1.ok) fun f c' pm ctv doc H1 s' ext T1 nf hc I' => ⟨.ref f, _, I', rfl, q f c' pm ctv doc _ H1 ext T1 nf hc (.inl ⟨rfl, rfl⟩)⟩
  | cons u us =>
    simp only [List.isEmpty_cons, Bool.false_eq_true, if_false]
    refine wpAny_bind (wpAny_newTextTuple ?_)
    have nn : H s1.heap.objs.size = none := I1.hok.fresh (Nat.le_refl _)
    have kept : ∀ b o, H b = some o → upd H s1.heap.objs.size (.tup dvs) b = some o := fun b o e => by rw [upd_ne (ne_of_none e nn)]; exact e
    have I2 : Inv X pins σ (upd H s1.heap.objs.size (.tup dvs)) { s1 with heap := s1.heap.push { cls := .type "tuple", data := .seq (u :: us).toArray } } :=
      I1.laid (t' := s1.toks) (fun b o e => Heap.get?_push_of_some _ e) (Nat.le_refl _) ⟨hz, u :: us, r, _, Heap.get?_push_size _ rfl, rfl, _, rfl⟩
    have ne : dvs ≠ [] := fun z => by rw [z] at r; cases r
    refine lam_tail I2 TB code mT uT (hT.ext kept) (L.has I2.ok) fun f c' pm ctv doc H1 s' ext T1 nf hc I' => ⟨.ref f, _, I', rfl, q f c' pm ctv doc _ H1 ((ExtN.of kept).trans ext) T1 nf hc (.inr ⟨ne, _, rfl, ext _ _ upd_same fun _ z => by cases z⟩)⟩
end

/-! ### a lambda's call -/
/-- how n written arguments and the defaults are bound -/
def LamBind (params : Arguments) (body : Expr) (scope : Scope) (ps : List Str) (n : Nat) (dvs : List V) : Prop :=
  (dvs = [] → ∀ (q : Str) (cl : List (Str × Addr)) (doc pm cv ctv : Value) (us : List Value), us.length = n → bindArgs (PySem.W.kdv_fn "<lambda>" q params (.expr body) scope cl .none doc pm cv ctv) ⟨us, []⟩ = pure (ps.zip us)) ∧
  (dvs ≠ [] → ∀ (q : Str) (cl : List (Str × Addr)) (T : Addr) (doc pm cv ctv : Value) (us its : List Value), us.length = n → its.length = dvs.length →
    ∃ k, bindArgs (PySem.W.kdv_fn "<lambda>" q params (.expr body) scope cl (.ref T) doc pm cv ctv) ⟨us, []⟩ = seqItems? (.ref T) >>= k ∧ k (some its.toArray) = pure (ps.zip (us ++ its)))
theorem LamBind.to {P : Program} {w : World} {params : Arguments} {body : Expr} {scope : Scope} {ps : List Str} {n : Nat} {dvs : List V} {H : Hp} {s : Shared} {dV : Value} (B : LamBind params body scope ps n dvs) (ok : HOk P w H s.heap) (D : Dfl H dvs dV)
    (q : Str) (cl : List (Str × Addr)) (doc pm cv ctv : Value) {us : List Value} (hl : us.length = n) : ∃ its, Vals dvs its ∧ BindsTo s (PySem.W.kdv_fn "<lambda>" q params (.expr body) scope cl dV doc pm cv ctv) ⟨us, []⟩ (ps.zip (us ++ its)) := by
  rcases D with ⟨e, rfl⟩ | ⟨ne, t, rfl, ht⟩
  · subst e
    exact ⟨[], .nil, .of_eq (by rw [List.append_nil]; exact B.1 rfl q cl doc pm cv ctv us hl)⟩
  · obtain ⟨_, its, r, ob, e, hc, n, hd⟩ := ok t _ ht
    obtain ⟨k, e1, e2⟩ := B.2 ne q cl t doc pm cv ctv us its hl r.length.symm
    exact ⟨its, r, .of_defaults (T := t) rfl e hd e1 e2⟩
theorem zip_look {y : Str} {u : Value} : ∀ {ps : List Str} {us : List Value} {i : Nat}, ps.Nodup → ps[i]? = some y → us[i]? = some u → (ps.zip us).lookup y = some u
  | [], _, _, _, h, _ => by simp at h
  | _ :: _, [], _, _, _, h => by simp at h
  | p :: ps, w :: us, 0, nd, h1, h2 => by
    simp at h1 h2
    subst h1 h2
    simp [List.lookup_cons]
  | p :: ps, w :: us, i + 1, nd, h1, h2 => by
    obtain ⟨n1, n2⟩ := List.nodup_cons.mp nd
    have h1 : ps[i]? = some y := by simpa using h1
    have ne : (y == p) = false := beq_eq_false_iff_ne.mpr fun e => n1 (e ▸ List.mem_of_getElem? h1)
    rw [List.zip_cons_cons, List.lookup_cons, ne]
    exact zip_look n2 h1 (by simpa using h2)
theorem zip_lookR {y : Str} {u : Value} {ps : List Str} {us : List Value} {i : Nat} (nd : ps.Nodup) (hl : us.length = ps.length) (h1 : ps[i]? = some y) (h2 : us[i]? = some u) : (ps.zip us).reverse.lookup y = some u := by
  rw [PySem.lookup_reverse_of_nodup _ (by rw [List.map_fst_zip (by omega)]; exact nd)]
  exact zip_look nd h1 h2
/-- the context of the body: the maker's names, then the parameters -/
def lamCy (X : Cx) (A : Around) (outer : List Env) (s : Shared) (H : Hp) (E : XK) (scope : Scope) (ps : List Str) (f c' : Addr) : Cx := { LamX.lamCx X A outer s H E scope f c' with N := X.N ++ ps }
section
variable {X : Cx} {pins : List (Addr × Obj)} {σ : L2.St} {H HZ : Hp} {s s1 : Shared}
theorem lam_enter {A : Around} {outer : List Env} {E : XK} {scope : Scope} {ps : List Str} {ex : List Addr} {f c' : Addr} {h₁ : Heap} {tk : Nat} {vs : List V} {us : List Value} (I : Inv X pins σ H s) (L : LamD X.N X.env.scope scope ps)
    (e0 : Env0 X.prog X.w X.K X.mg X.base A outer s1 HZ) (hd : A.handled = none) (un : Un (frs X.stack) ex H HZ s.heap s1.heap) (out : ∀ y c, X.env.cells.lookup y = some c → c ∉ ex) (hl : us.length = ps.length) (r : Vals vs us)
    (hns : h₁.Ns s1.heap.objs.size fun y => (ps.zip us).reverse.lookup y) (kp : ∀ b o, s1.heap.get? b = some o → h₁.get? b = some o) :
    Inv (lamCy X A outer s1 HZ E scope ps f c') [] (σ ++ vs.map some) HZ { s1 with heap := h₁, toks := tk } := by
  have has := L.has I.ok
  have old : ∀ {y c}, (cloFrom X.env.cells scope.names []).lookup y = some c → X.env.cells.lookup y = some c := fun {y c} e => by
    rcases cloFrom_mem (PySem.mem_of_lookup e) with z | ⟨z1, z2⟩
    · cases z
    · obtain ⟨d, hd⟩ := has _ z1 rfl
      have hd : X.env.cells.lookup y = some d := hd
      rw [hd] at z2
      rw [hd, z2]; rfl
  have capt : ∀ {y}, scope.names.lookup y = some .free → ∃ c, (cloFrom X.env.cells scope.names []).lookup y = some c := fun {y} k => mem_lookup (cloFrom_has (cells := X.env.cells) (acc := []) (PySem.mem_of_lookup k))
  have cellK : ∀ {y c : _} {v : Option Value}, X.env.cells.lookup y = some c → s.heap.IsCell c v → h₁.IsCell c v := fun {y c v} e ⟨o, ho, hd⟩ => by
    obtain ⟨sl, q⟩ := un.any ho (I.freeC y c e) (out y c e)
    exact ⟨_, kp _ _ q, hd⟩
  have hlv : vs.length = ps.length := by rw [r.length, hl]
  have none0 : ∀ b : Addr, b ∉ (lamCy X A outer s1 HZ E scope ps f c').ex := fun b z => absurd (show b ∈ ([] : List Addr) from z) (by simp)
  refine ⟨⟨e0.mod, L.kind, rfl, rfl, Nat.le_refl _, fun y z c e1 e2 => I.ok.inj y z c (old e1) (old e2), fun y hy => ?_, fun y c z _ => ?_, fun _ => hd, Around.frames_deeper e0.frames, .inr ⟨rfl, rfl⟩, fun b z => absurd z (none0 b), e0.bs, e0.bsz, fun b _ _ => none0 b,
      fun b z => absurd z (none0 b), e0.funs, e0.frf⟩,
    rfl, e0.bare, Un.kept kp, ⟨_, hns, fun i y v e1 e2 e3 => ?_⟩, fun y c e => ?_, e0.hok.fresh (Nat.le_refl _), fun y c e => ?_, fun q hq => absurd (show q ∈ ([] : List (Addr × Obj)) ++ [] from hq) (by simp), e0.hok.kept kp, ?_⟩
  · rcases (show scope.names.lookup y = some .cell ∨ scope.names.lookup y = some .free from hy) with k | k
    · exact absurd rfl (L.nc _ (PySem.mem_of_lookup k))
    · exact capt k
  · have z : false = true := z
    cases z
  · have e1 : (X.N ++ ps)[i]? = some y := e1
    have e3 : Vis scope y := e3
    by_cases hi : i < X.N.length
    · rw [List.getElem?_append_left hi] at e1
      rw [List.getElem?_append_left (by rw [I.len]; exact hi)] at e2
      rcases e3 with k | k | k
      · exact absurd (List.mem_of_getElem? e1) (L.own _ (PySem.mem_of_lookup k) rfl)
      · exact absurd rfl (L.nc _ (PySem.mem_of_lookup k))
      · obtain ⟨m, hn, hl⟩ := I.loc
        have vis : Vis X.env.scope y := (L.free _ (PySem.mem_of_lookup k) rfl).elim (fun k => .inr (.inl k)) fun k => .inr (.inr k)
        obtain ⟨u, ru, lk⟩ := hl i y v e1 e2 vis
        obtain ⟨c2, h2⟩ := capt k
        have c1 := old h2
        refine ⟨u, ru, .inr ⟨.inr k, c2, h2, ?_⟩⟩
        rcases lk with ⟨k', _⟩ | ⟨_, c3, e', z⟩
        · have k' : X.env.scope.names.lookup y = some .local := k'
          rcases L.free _ (PySem.mem_of_lookup k) rfl with k2 | k2 <;> rw [show X.env.scope.names.lookup y = _ from k2] at k' <;> cases k'
        · rw [c1] at e'
          cases e'
          exact cellK c1 z
    · have hi' : X.N.length ≤ i := Nat.le_of_not_lt hi
      rw [List.getElem?_append_right hi'] at e1
      rw [List.getElem?_append_right (by rw [I.len]; exact hi'), I.len, List.getElem?_map] at e2
      cases hv : vs[i - X.N.length]? with
      | none => rw [hv] at e2; cases e2
      | some x =>
        rw [hv] at e2
        cases e2
        obtain ⟨u, hu, ru⟩ := r.get hv
        exact ⟨u, ru, .inl ⟨L.par y (List.mem_of_getElem? e1), zip_lookR L.nd hl e1 hu⟩⟩
  · obtain ⟨v, z⟩ := I.cell y c (old e)
    exact ⟨v, cellK (old e) z⟩
  · obtain ⟨v, o, ho, hd⟩ := I.cell y c (old e)
    exact un.free c o ho (I.freeC y c (old e)) (out y c (old e))
  · show (σ ++ vs.map some).length = (X.N ++ ps).length
    rw [List.length_append, List.length_append, List.length_map, I.len, hlv]
/-- the very lambda is at f, its code object is known, its defaults stand -/
structure LamAt (X : Cx) (params : Arguments) (body : Expr) (scope : Scope) (dvs : List V) (f c' : Addr) (H : Hp) : Prop where
  ex : ∃ (dV doc pm ctv : Value), H f = some (FunO f (lamO X params body scope dV doc pm c' ctv)) ∧ H c' = some (CodeO c' (X.env.qual ++ "<lambda>")) ∧ Dfl H dvs dV
theorem LamAt.keep {params : Arguments} {body : Expr} {scope : Scope} {dvs : List V} {f c' : Addr} {H H' : Hp} (x : LamAt X params body scope dvs f c' H) (k : ExtN H H') : LamAt X params body scope dvs f c' H' := by
  obtain ⟨dV, doc, pm, ctv, a, b, d⟩ := x.ex
  refine ⟨dV, doc, pm, ctv, k _ _ a funO_neTbl, k _ _ b codeO_ne, ?_⟩
  rcases d with d | ⟨ne, t, e, ht⟩
  · exact .inl d
  · exact .inr ⟨ne, t, e, k _ _ ht fun _ z => by cases z⟩
theorem lam_run {A : Around} {outer : List Env} {E : XK} {k n : Nat} {params : Arguments} {body : Expr} {scope : Scope} {ps : List Str} {dvs : List V} {ex : List Addr} {f c' : Addr} {vs : List V} {us : List Value} {tb : TE} {Q : VK} (I : Inv X pins σ H s) (L : LamD X.N X.env.scope scope ps)
    (B : LamBind params body scope ps n dvs) (hn : n + dvs.length = ps.length) (e0 : Env0 X.prog X.w X.K X.mg X.base A outer s1 HZ) (hr : Room (k + 1) A) (un : Un (frs X.stack) ex H HZ s.heap s1.heap) (out : ∀ y c, X.env.cells.lookup y = some c → c ∉ ex)
    (F : LamAt X params body scope dvs f c' HZ) (hl : vs.length = n) (r : Vals vs us)
    (hb : Room k (A.deeper (lamEnv X scope s1.heap.objs.size f c')) → PE (lamCy X A outer s1 HZ E scope ps f c') body tb) (q : tb (σ ++ (vs ++ dvs).map some) HZ Q) :
    codeAny (model X.prog X.w) A (.call (.ref f) ⟨us, []⟩) (CR (L2.CX X.prog X.w) outer X.prog X.w HZ s1 Q E) s1 := by
  obtain ⟨dV, doc, pm, ctv, hf, hc, hD⟩ := F.ex
  obtain ⟨its, ri, bi⟩ := B.to e0.hok hD (X.env.qual ++ "<lambda>") (cloFrom X.env.cells scope.names []) doc pm (.ref c') ctv (us := us) (by rw [← r.length, hl])
  have li := ri.length
  have lu := r.length
  obtain ⟨oc, fields, t, hoc, hdc, hvc⟩ := (e0.hok c' _ hc).1
  have lim : s1.heap.NoLimit := e0.mod.nolimit.keeps fun b o e => (e0.bs b o e).1
  refine PySem.W.kla_callFunE hr.depth (funO_get e0.hok hf) rfl L.co L.gen rfl ⟨c', oc, fields, t, rfl, hoc, hdc, hvc⟩ (bi _ _ _ _ ?_)
  refine wpAny_newFunctionEnv L.nc (fun y hy => L.par _ (List.of_mem_zip hy).1) (fun h₁ hns hsb => ⟨lim.fresh _ hsb, ?_⟩) L.kind
  have kp : ∀ b o, s1.heap.get? b = some o → h₁.get? b = some o := fun b o e => hsb.extBut b o (Nat.ne_of_lt (Heap.lt_size e)) (Heap.get?_push_of_some _ e)
  have J := lam_enter (E := E) (f := f) (c' := c') (tk := s1.toks + (ps.zip (us ++ its)).length) I L e0 hr.hd un out (vs := vs ++ dvs) (us := us ++ its) (by rw [List.length_append]; omega) (r.append ri) hns kp
  refine PySem.W.kla_codeExpr (wpAny_mono ((hb (hr.deeper _)).run [] _ _ HZ Q J q) (fun v s' h => ?_) fun _ _ h => h)
  obtain ⟨x, H', J', rv, h⟩ := h
  exact ⟨x, H', J'.os, J'.bare, J'.base, J'.hok, rv, h⟩
end
end Tk

set_option Elab.async false
set_option linter.all false
set_option maxRecDepth 100000
set_option maxHeartbeats 4000000
namespace Tk
open PySem PySem.Spec PyProof.Rows L2

/-! ### xs.count(y), flat items -/
section
variable {X : Cx}
def rCntV (K : PySem.W.Frag) : V → List V → Hp → VK → Prop := fun x xs H Q => ∃ (p : Addr) (ys : List V) (y : V), x = .ref p ∧ xs = [y] ∧ SqL K H p ys ∧ flatV y = true ∧ ys.all flatV = true ∧ Q (.int (ys.countP fun z => eqV z y : Nat)) H
theorem count_eqU {y : V} : ∀ {ys : List V} {us : List Value}, Vals ys us → ys.all flatV = true → us.countP (eqU y) = ys.countP fun z => eqV z y
  | _, _, .nil, _ => rfl
  | z :: ys, u :: us, .cons r t, f => by
    rw [List.all_cons, Bool.and_eq_true] at f
    rw [List.countP_cons, List.countP_cons, count_eqU t f.2, eqU_of r f.1]
theorem mt_countV : MtR X "list.count" (rCntV X.K) := by
  intro pins s σ H x xs v us Q I rx rxs h
  obtain ⟨p, ys, y, rfl, rfl, hs, fy, fys, q⟩ := h
  cases rx
  obtain ⟨u, rfl, ru⟩ := rxs.one
  obtain ⟨its, rv, ⟨⟨cls, dd, data, sl⟩, n, ho, hc, hdn, hd⟩, hlen⟩ := I.list hs
  simp only at hc hd
  subst hc hd
  refine call_meets PySem.F.slot_list_count ⟨_, ho, rfl⟩ PySem.F.entry_list_count (PySem.F.args_list_count_2 _ _)
    (SeqAt.list_countAt p its.toArray n dd sl u (eqU y)) ⟨ho, fun z hz => mem_eqAt ru fy rv fys z (by simpa using hz), ?_⟩
  refine ⟨.int _, H, I.tok _, ⟨s.toks, ?_⟩, q⟩
  rw [show its.toArray.toList = its by simp, count_eqU rv fys]
end

/-! ### the caught error's class -/
/-- what an error class of the text says when it is caught as a C0 and asked about -/
structure ErrF (K : PySem.W.Frag) (C0 D : Addr) (cs : List (Addr × Bool)) : Prop where
  exm : PySem.W.exmOne K (.ref D) (.ref C0) = some true
  is : L2.ExcC K D
  kit : ∀ p ∈ cs, PySem.W.kitOne K (.ref D) (.ref p.1) = some p.2
def rIsEx (K : PySem.W.Frag) (cls : Value) (d : Option Addr) (a : Addr) : List V → Hp → VK → Prop := fun xs H Q => ∃ (D C : Addr) (b : Bool), cls = .ref D ∧ d = none ∧ L2.ExcC K D ∧ xs = [.ref a, .ref C] ∧ PySem.W.kitOne K (.ref D) (.ref C) = some b ∧ Q (.bl b) H
theorem call_isEx {X : Cx} {a : Addr} {oe : Obj} {cls : Value} {d : Option Addr} {pn : List (Addr × Obj)} (hz : Zc cls d oe) (hf : ∃ vs, oe.data = .fields vs) : CallR (X.suite a ((a, oe) :: pn)) (.builtin "isinstance") (rIsEx X.K cls d a) := by
  intro pins s σ H xs us Q I r h
  obtain ⟨D, C, b, rfl, rfl, k, rfl, e, q⟩ := h
  exact call_isE k hz hf pins s σ H _ us Q I r ⟨.ref C, .ref C, b, rfl, fun u hu => hu, e, q⟩
theorem pe_isE {X : Cx} {a C : Addr} {oe : Obj} {cls : Value} {d : Option Addr} {pn : List (Addr × Obj)} {e : Expr} {te : TE} {T : Str} {p p2 pos : Pos} (G : NoGl X.mg) (hz : Zc cls d oe) (hf : ∃ vs, oe.data = .fields vs) (hT : X.mg T = some (.ref C)) (he : PE (X.suite a ((a, oe) :: pn)) e te)
    (hg : Gl X "isinstance" := by rfl) (hg2 : Gl X T := by rfl) (hd : (T == ("__debug__" : Str)) = false := by decide)
    (h1 : starEach [e, .Name T p2] X.env = (false, eval e X.env) :: starEach [.Name T p2] X.env := by rfl) (h2 : starEach [.Name T p2] X.env = (false, eval (.Name T p2) X.env) :: starEach [] X.env := by rfl)
    (h3 : (backTo pos (starEach [.Name T p2] X.env)).any (·.1) = false := by rfl) :
    PE (X.suite a ((a, oe) :: pn)) (.Call (.Name "isinstance" p) [e, .Name T p2] [] pos) (tCB (rIsEx X.K cls d a) (tCons te (tCons (tC (.ref C)) tNil))) :=
  pe_callB (X := X.suite a ((a, oe) :: pn)) (call_isEx hz hf) hg G.isinstance (by decide +kernel) (pa_cons he (pa_cons (pe_glob (v := .ref C) hg2 hT rfl hd) pa_nil h2) h1) (by decide) (by decide) h1 h3

/-! ### a def of the text called, told of the very state -/
theorem run_fun {P : Program} {w : World} {K : PySem.W.Frag} {mg : Str → Option Value} {base : Heap} {CX : CXT} {k : Nat} {x qual : Str} {st : Stmt} {f : Addr} {fd : FuncData} {N ps : List Str} (F : Fun K x qual st f fd) (S : FnScope N ps (defScope st))
    {A : Around} {outer : List Env} {s : Shared} {H : Hp} {args : Args} {us : List Value} {vs : List V} {Q : VK} {E : XK} (hr : Room (k + 1) A) (e0 : Env0 P w K mg base A outer s H) (hb : BindsTo s fd args (ps.zip us)) (r : Vals vs us) (hl : vs.length = ps.length)
    (body : ∀ cdv, Room k (A.deeper (envOfC qual (defScope st) s.heap.objs.size f cdv)) → ∃ t, PSs (cxOf CX P w K mg base N qual (defScope st) f cdv A outer s H E) (defBody st) t ∧ t { nx := fun _ H' => Q .non H', rt := Q } (start N vs) H) :
    codeAny (model P w) A (.call (.ref f) args) (CR CX outer P w H s Q E) s := by
  obtain ⟨oc, od, kV, doc, pm, an, cdv, ct, osl, rfl, lk, hcd⟩ := F.ex
  exact LamX.run_ofS lk hcd S hr e0 hb r hl (body cdv)
/-- what a call of f without arguments does from (s, H) on: tl by what is wanted of an exception and of the answer -/
def Acts (P : Program) (w : World) (K : PySem.W.Frag) (mg : Str → Option Value) (base : Heap) (fs : List Addr) (k : Nat) (f : Addr) (s : Shared) (H : Hp) (tl : XK → Hp → VK → Prop) : Prop :=
  ∀ (A : Around) (out : List Env) (s1 : Shared) (H1 : Hp) (E : XK) (Q : VK), Un fs [] H H1 s.heap s1.heap → Env0 P w K mg base A out s1 H1 → Room k A → tl E H1 Q → codeAny (model P w) A (.call (.ref f) ⟨[], []⟩) (CR (L2.CX P w) out P w H1 s1 Q E) s1
section
variable {X : Cx} {CXg : CXT} {Ng : List Str} {qg : Str} {sg : Scope} {g f : Addr} {cdg : Value} {H : Hp} {s : Shared} {Eg : XK} {a : Str} {pn : List (Addr × Obj)} {xe : Value → Shared → Prop} {W : WX} {E : XK} {tl : XK → Hp → VK → Prop} {k i : Nat} {p1 p2 : Pos} {out : List Env} {A : Around}
  {P : Program} {w : World} {K : PySem.W.Frag} {mg : Str → Option Value} {base : Heap}
/-- a(), in a def entered at s, a a lambda known -/
theorem pe_acts (act : Acts P w K mg base (frs out) k f s H tl) (fn : ∀ (s1 : Shared) (H1 : Hp), HOk P w H1 s1.heap → (∃ Q E, tl E H1 Q) → PySem.W.FnAt f s1.heap)
    (tk : Takes ((cxOf CXg P w K mg base Ng qg sg g cdg A out s H Eg).tr pn xe) W) (hr : Room k (A.deeper (envOfC qg sg s.heap.objs.size g cdg)))
    (hN : Ng[i]? = some a) (hv : Vis sg a) (hd : (a == ("__debug__" : Str)) = false := by decide) (hcd : (a == ("__classdict__" : Str)) = false := by decide) :
    PE ((cxOf CXg P w K mg base Ng qg sg g cdg A out s H Eg).tr pn xe) (.Call (.Name a p1) [] [] p2) (fun σ H1 Q => σ[i]? = some (some (.ref f)) ∧ ∃ E : XK, (∀ cls d H', E cls d H' → W cls d σ H') ∧ tl E H1 Q) := by
  refine ⟨fun pins s1 σ H1 Q I ⟨hs, E, hW, ht⟩ => ?_⟩
  refine wpAny_Call_Name_kw (thn ((pe_var (pos := p1) (i := i) hN hv hd hcd).run pins s1 σ H1 (fun v H2 => v = .ref f ∧ H2 = H1) I ⟨.ref f, hs, rfl, rfl⟩) fun u s2 ⟨v, H2, I2, r2, e2⟩ => ?_)
  obtain ⟨rfl, rfl⟩ := e2
  cases r2
  refine PySem.W.callWith_F0 (fn s2 _ I2.hok ⟨Q, E, ht⟩) ?_
  have hx : PassesAt (L2.CX P w) ((cxOf CXg P w K mg base Ng qg sg g cdg A out s H Eg).tr pn xe) σ E := fun _ _ _ e s' I c => tk e s' (XE.of_call I (fun c d h q => hW c d h q) c)
  have un : Un (frs out) [] H _ s.heap s2.heap := I2.base
  refine wpAny_call (codeAny_mono (act _ _ s2 _ E Q un I2.env0 hr ht) fun r s3 hq => ?_)
  match r, hq with
  | .error e, hq => exact hx pins _ s2 e s3 I2 hq
  | .ok (.ret u), hq => exact I2.after hq
end

/-! ### _law_word -/
structure ErrK (K : PySem.W.Frag) (mg : Str → Option Value) (C0 CC CL CW : Addr) : Prop where
  g0 : mg "KernelError" = some (.ref C0)
  gC : mg "NoCall" = some (.ref CC)
  gL : mg "NoLooks" = some (.ref CL)
  gW : mg "NoWidth" = some (.ref CW)
  eC : ErrF K C0 CC [(CC, true), (CL, false), (CW, false)]
  eL : ErrF K C0 CL [(CC, false), (CL, true), (CW, false)]
  eW : ErrF K C0 CW [(CC, false), (CL, false), (CW, true)]
def WordOf (CC CL CW : Addr) (cls : Value) (d : Option Addr) (x : Str) : Prop := d = none ∧ ((cls = .ref CC ∧ x = "call") ∨ (cls = .ref CL ∧ x = "looks") ∨ (cls = .ref CW ∧ x = "width"))
def tWord (CC CL CW : Addr) (tl : XK → Hp → VK → Prop) (H : Hp) (Q : VK) : Prop := tl (fun cls d H' => ∃ x, WordOf CC CL CW cls d x ∧ ∀ H'', Fr [] H' H'' → Q (.str x) H'') H fun _ H' => Q (.str "told") H'
section
variable {P : Program} {w : World} {K : PySem.W.Frag} {mg : Str → Option Value} {base : Heap} {C0 CC CL CW : Addr}
theorem sc_word : FnScope ["ask", "e", "some"] ["ask"] (defScope s__law_word) := ⟨rfl, rfl, rfl, by decide +kernel, rfl, by decide +kernel, by decide +kernel⟩
theorem word_run {k : Nat} {f g : Addr} {fd : FuncData} {A : Around} {out : List Env} {s : Shared} {H : Hp} {Q : VK} {tl : XK → Hp → VK → Prop} (F : Fun K "_law_word" "_law_word" s__law_word g fd) (G : NoGl mg) (EK : ErrK K mg C0 CC CL CW)
    (act : Acts P w K mg base (frs out) k f s H tl) (fn : ∀ (s1 : Shared) (H1 : Hp), HOk P w H1 s1.heap → (∃ Q E, tl E H1 Q) → PySem.W.FnAt f s1.heap) (hr : Room (k + 1) A) (e0 : Env0 P w K mg base A out s H) (h : tWord CC CL CW tl H Q) :
    codeAny (model P w) A (.call (.ref g) ⟨[.ref f], []⟩) (CR CX0 out P w H s Q E0) s := by
  have hb : BindsTo s fd ⟨[.ref f], []⟩ ((["ask"] : List Str).zip [Value.ref f]) := by
    obtain ⟨oc, od, kV, doc, pm, an, cdv, ct, osl, rfl, _, _⟩ := F.ex
    exact .of_eq rfl
  refine run_fun (CX := CX0) F sc_word hr e0 hb (vs := [.ref f]) (.cons rfl .nil) rfl fun cdv hr' => ?_
  have nd := sc_word.nd
  suffices hh : ∃ t, PSs (cxOf CX0 P w K mg base ["ask", "e", "some"] "_law_word" (defScope s__law_word) g cdv A out s H E0).nox (defBody s__law_word) t ∧ t { nx := fun _ H' => Q .non H', rt := Q } (start ["ask", "e", "some"] [.ref f]) H by
    obtain ⟨t, ht, q⟩ := hh
    exact ⟨t, ht.nox, q⟩
  refine' ⟨_, pss_cons (ps_try_as (X := (cxOf CX0 P w K mg base ["ask", "e", "some"] "_law_word" (defScope s__law_word) g cdv A out s H E0).nox) (i := 1) (c := .ref C0) (Wout := fun _ _ _ _ => False)
      (tb := fun W D σ H => σ[0]? = some (some (.ref f)) ∧ ∃ E : XK, (∀ cls d H', E cls d H' → W cls d σ H') ∧ tl E H fun _ H' => D.nx σ H')
      rfl rfl nd rfl rfl ⟨by rfl, by decide, .inl EK.g0⟩ takes0
      (fun W pn xe tk _ => ?body) (fun a oe cls d pn hz hf => ?suite))
    (pss_one (ps_ret pe_str)), ?_⟩
  case suite =>
    exact pss_cons (ps_set (i := 2) nd rfl (.inl rfl) (pe_lst (pa_cons (pe_isE G hz hf EK.gC (pv 1)) (pa_cons (pe_isE G hz hf EK.gL (pv 1)) (pa_cons (pe_isE G hz hf EK.gW (pv 1)) pa_nil)))))
      (pss_one (ps_ret (pe_ifExp (pt_cmpR op_eq (show PE _ _ (tBM K "list" (rCntV K) (tVar 2) (tCons (tC (.bl true)) tNil)) from pe_bm PySem.F.plainAttrs_list PySem.F.slot_list_count PySem.F.type_list_count mt_countV (pv 2) (pa_cons pe_bl pa_nil)) pe_int (nomark _))
        (pe_ix (show IxR _ (rIxL K) from ix_list) (pe_lst (pa_cons pe_str (pa_cons pe_str (pa_cons pe_str pa_nil)))) (show PE _ _ (tBM K "list" (rIndex K) (tVar 2) (tCons (tC (.bl true)) tNil)) from pe_bm PySem.F.plainAttrs_list PySem.F.slot_list_index PySem.F.type_list_index mt_index (pv 2) (pa_cons pe_bl pa_nil)) (fun _ _ => rfl)) pe_str)))
  case body =>
    exact pss_one (ps_expr (pe_acts (CXg := CX0) (Ng := ["ask", "e", "some"]) (qg := "_law_word") (sg := defScope s__law_word) (g := g) (cdg := cdv) (Eg := E0) (a := "ask") (i := 0) (pn := pn) (xe := xe) (W := W) (out := out) (A := A) act fn tk hr' rfl (.inl rfl)))
  · refine ⟨rfl, fun cls d H' => ∃ x, WordOf CC CL CW cls d x ∧ ∀ H'', Fr [] H' H'' → Q (.str x) H'', fun cls d H' hh => ?_, h⟩
    obtain ⟨x, ⟨ed, hw⟩, q⟩ := hh
    subst ed
    have hk : ∃ (D : Addr) (b1 b2 b3 : Bool) (j : Nat), cls = .ref D ∧ L2.ExcC K D ∧ PySem.W.exmOne K (.ref D) (.ref C0) = some true ∧ PySem.W.kitOne K (.ref D) (.ref CC) = some b1 ∧ PySem.W.kitOne K (.ref D) (.ref CL) = some b2 ∧ PySem.W.kitOne K (.ref D) (.ref CW) = some b3 ∧
        (([V.bl b1, V.bl b2, V.bl b3].countP fun z => eqV z (.bl true)) = 1) ∧ [V.bl b1, V.bl b2, V.bl b3][j]? = some (.bl true) ∧ (∀ (m : Nat) (z' : V), m < j → [V.bl b1, V.bl b2, V.bl b3][m]? = some z' → eqV z' (.bl true) = false) ∧ [V.str "call", V.str "looks", V.str "width"][j]? = some (.str x) := by
      rcases hw with ⟨rfl, rfl⟩ | ⟨rfl, rfl⟩ | ⟨rfl, rfl⟩
      · exact ⟨CC, true, false, false, 0, rfl, EK.eC.is, EK.eC.exm, EK.eC.kit _ (.head _), EK.eC.kit _ (.tail _ (.head _)), EK.eC.kit _ (.tail _ (.tail _ (.head _))), rfl, rfl, fun m z h => absurd h (Nat.not_lt_zero _), rfl⟩
      · refine ⟨CL, false, true, false, 1, rfl, EK.eL.is, EK.eL.exm, EK.eL.kit _ (.head _), EK.eL.kit _ (.tail _ (.head _)), EK.eL.kit _ (.tail _ (.tail _ (.head _))), rfl, rfl, fun m z h e => ?_, rfl⟩
        obtain rfl : m = 0 := by omega
        cases e; rfl
      · refine ⟨CW, false, false, true, 2, rfl, EK.eW.is, EK.eW.exm, EK.eW.kit _ (.head _), EK.eW.kit _ (.tail _ (.head _)), EK.eW.kit _ (.tail _ (.tail _ (.head _))), rfl, rfl, fun m z h e => ?_, rfl⟩
        match m, h with
        | 0, _ => cases e; rfl
        | 1, _ => cases e; rfl
    obtain ⟨D, b1, b2, b3, j, rfl, is, exm, k1, k2, k3, cnt, hit, miss, at_⟩ := hk
    refine ⟨true, exm, fun _ a na => ?_, fun z => nomatch z⟩
    refine ⟨_, rfl, D, CC, b1, rfl, rfl, is, rfl, k1, ?_⟩
    refine ⟨_, rfl, D, CL, b2, rfl, rfl, is, rfl, k2, ?_⟩
    refine ⟨_, rfl, D, CW, b3, rfl, rfl, is, rfl, k3, (by show 3 ≤ sizeLine; decide), fun l nl => ?_⟩
    refine ⟨_, rfl, .inl ⟨rfl, _, SqL.of upd_same⟩, l, _, _, rfl, rfl, SqL.of upd_same, rfl, rfl, rfl, _, rfl, ?_⟩
    refine ifT (by rw [cnt]; rfl) ?_
    refine ⟨(by show 3 ≤ sizeLine; decide), fun l2 nl2 => ?_⟩
    refine ⟨_, rfl, .inl ⟨rfl, _, SqL.of (upd_ne (ne_of_none upd_same nl2) |>.trans upd_same)⟩, l, _, _, j, _, rfl, rfl, SqL.of (upd_ne (ne_of_none upd_same nl2) |>.trans upd_same), rfl, rfl, hit, rfl, miss, ?_⟩
    exact ⟨l2, _, _, _, rfl, rfl, SqL.of upd_same, atI_nat at_, q _ ((Fr.new nl).trans (Fr.new nl2))⟩
end
end Tk

set_option Elab.async false
set_option linter.all false
set_option maxRecDepth 100000
set_option maxHeartbeats 4000000
/-! List comprehensions whose element leans on the maker's state, and whose block may let an exception out. -/
namespace Tk
open PySem PySem.Spec PyProof.Rows L2
section
variable {X : Cx}
/-- the block's context with a wish of its own -/
abbrev blkW (X : Cx) (wb : Shared → Hp → Env → List Addr → Value → Shared → Prop) (s : Shared) (H : Hp) (scope : Scope) (ce : Env) (fp : List Addr) : Cx := (X.blk s H scope ce fp).wish (wb s H ce fp)
theorem lcw_core {pins : List (Addr × Obj)} {s : Shared} {σ : L2.St} {H : Hp} {Q : VK} {elt tg iter : Expr} {ifs : List Expr} {scope : Scope} {own : List (Str × Nat)} {pos pos' : Pos} {wi : TI} {g : TG} {tt : TT} {te : TE} {use : Option (Value → Sem Unit)} {Qf : Value → Shared → Prop}
    {wb : Shared → Hp → Env → List Addr → Value → Shared → Prop} (calm : X.calm = true) (nd : X.N.Nodup) (I : Inv X pins σ H s) (it : PI X tg iter wi) (blk : BlkOk X.N X.env.scope scope own)
    (hg : ∀ (s : Shared) (H : Hp) (C : Addr) (cl : List (Str × Addr)) (fp : List Addr), PG (blkW X wb s H scope (compEnvC scope cl C X.env) fp) tg g)
    (ht : ∀ (s : Shared) (H : Hp) (C : Addr) (cl : List (Str × Addr)) (fp : List Addr), Inv X pins σ H s → (∀ b ∈ fp, ∀ x c, X.env.cells.lookup x = some c → c ≠ b) → PTs (blkW X wb s H scope (compEnvC scope cl C X.env) fp) ifs tt)
    (he : ∀ (s : Shared) (H : Hp) (C : Addr) (cl : List (Str × Addr)) (fp : List Addr), Inv X pins σ H s → (∀ b ∈ fp, ∀ x c, X.env.cells.lookup x = some c → c ≠ b) → PE (blkW X wb s H scope (compEnvC scope cl C X.env) fp) elt te) (hs : ∀ x, foldedSetIterable iter X.env x = pure x)
    (h : tLc wi g tt te (own.map (·.2)) σ H Q)
    (hRR : ∀ D C s' m H', Inv X pins σ H' s' → Q (.ref D) H' → s'.heap.Ns C m → FpOk X pins H' C → compPost (model X.prog X.w) X.A X.xe use Qf (.ref D) C (.ok .next) s')
    (hx : ∀ (s : Shared) (H : Hp) (cl : List (Str × Addr)) (fp : List Addr) (D : Addr), Inv X pins σ H s → (∀ b ∈ fp, FpOk X pins H b ∧ b < s.heap.objs.size) → ∀ u s', wb s H (compEnvC scope cl s.heap.objs.size X.env) fp u s' →
      notedBy (model X.prog X.w) X.A (compEnvC scope cl s.heap.objs.size X.env) (fun e s2 => compPost (model X.prog X.w) X.A X.xe use Qf (.ref D) s.heap.objs.size (.error e) s2) u s') :
    wpAny (model X.prog X.w) X.A (comprehension (.ListComp elt [⟨tg, iter, ifs, 0⟩] scope pos) scope X.env pos' (newList []) false (eval iter X.env) use) Qf X.xe s := by
  have free : ∀ y ∈ scope.names, y.2 = .free → ∃ c, X.env.cells.lookup y.1 = some c := fun y hy e => (blk.free y hy e).elim (fun k => I.ok.has _ (.inl k)) fun k => I.ok.has _ (.inr k)
  refine wpAny_comprehension_free (use := use) rfl hs (closure_ok free) blk.kind (fun y hy e => by rw [blk.uniq y hy, e])
    (thn (it.run pins s σ H _ I h) fun xv s1 h1 => thn h1 fun iv s2 h2 => ?_)
  obtain ⟨ia, fp, tn, J, H2, rfl, I2, T, t2, f2, q⟩ := h2
  refine wpAny_newObj_type (newEnv_comp ?_) (by show 0 ≤ sizeLine; decide)
  generalize hD : s2.heap.objs.size = D at *
  have nD : H2 D = none := I2.hok.fresh (Nat.le_of_eq hD)
  obtain ⟨W, ⟨m0, w0⟩, turn⟩ := q D nD
  generalize hs3 : (Shared.mk (s2.heap.push { cls := .type "list", data := .seq ([] : List Value).toArray }) s2.gens s2.drawn s2.toks s2.os) = s3
  have h3 : s3.heap = s2.heap.push { cls := .type "list", data := .seq ([] : List Value).toArray } := by rw [← hs3]
  have I3 : Inv X pins σ (upd H2 D (.lst [])) s3 := by
    rw [← hs3]
    exact I2.laid (t' := s2.toks) (fun b o e => Heap.get?_push_of_some _ e) (Nat.le_of_eq hD) ⟨Nat.zero_le _, [], 0, .nil, by rw [← hD]; exact Heap.get?_push_size _ rfl⟩
  have f3 : ∀ b ∈ fp, FpOk X pins (upd H2 D (.lst [])) b ∧ b < s3.heap.objs.size := fun b hb => by
    obtain ⟨o, eo, _⟩ := T.obj _ _ t2 b hb
    have lt := Heap.lt_size eo
    exact ⟨⟨by rw [upd_ne (by rw [← hD]; exact Nat.ne_of_lt lt)]; exact (f2 b hb).1, (f2 b hb).2⟩, by rw [h3, Heap.size_push]; exact Nat.lt_succ_of_lt lt⟩
  have cf : ∀ b ∈ fp, ∀ x c, X.env.cells.lookup x = some c → c ≠ b := fun b hb => (f3 b hb).1.2.2.2.2.1
  have t3 : tn 0 s3.heap := T.keep _ _ _ t2 fun b _ o e => by rw [h3]; exact Heap.get?_push_of_some _ e
  obtain ⟨cl, hcl⟩ : ∃ cl, cellsFrom (s3.heap.objs.size + 1) scope.names (cloFrom X.env.cells scope.names []) = cl := ⟨_, rfl⟩
  have I4 := (block_start I3 blk nd f3).wish (wb s3 (upd H2 D (.lst [])) (compEnvC scope (cellsFrom (s3.heap.objs.size + 1) scope.names (cloFrom X.env.cells scope.names [])) s3.heap.objs.size X.env) fp)
  have pg := hg s3 (upd H2 D (.lst [])) s3.heap.objs.size cl fp
  have pt := ht s3 (upd H2 D (.lst [])) s3.heap.objs.size cl fp I3 cf
  have pe := he s3 (upd H2 D (.lst [])) s3.heap.objs.size cl fp I3 cf
  have px := hx s3 (upd H2 D (.lst [])) cl fp D I3 f3
  show codeAny _ _ (.compStart (.ListComp elt [⟨tg, iter, ifs, 0⟩] scope pos) 0 (.ref ia) (.ref D) (compEnvC scope (cellsFrom (s3.heap.objs.size + 1) scope.names (cloFrom X.env.cells scope.names [])) s3.heap.objs.size X.env)) (compPost (model X.prog X.w) X.A X.xe use Qf (.ref D) s3.heap.objs.size) { s3 with heap := pushCells (s3.heap.push { cls := .type "dict", data := .dict #[] }) scope.names }
  rw [hcl] at I4 ⊢
  have nfp : ∀ b ∈ fp, (upd H2 D (.lst [])) b = none := fun b hb => (f3 b hb).1.1
  obtain ⟨ce, hce⟩ : ∃ ce, compEnvC scope cl s3.heap.objs.size X.env = ce := ⟨_, rfl⟩
  rw [hce] at I4 pg pt pe px ⊢
  have cL : ce.locals = s3.heap.objs.size := by subst hce; rfl
  obtain ⟨H3, hH3⟩ : ∃ H3, upd H2 D (.lst []) = H3 := ⟨_, rfl⟩
  rw [hH3] at I3 I4 pg pt pe px w0 nfp f3
  obtain ⟨s4, hs4⟩ : ∃ s4 : Shared, { s3 with heap := pushCells (s3.heap.push { cls := .type "dict", data := .dict #[] }) scope.names } = s4 := ⟨_, rfl⟩
  rw [hs4] at I4 ⊢
  have t4 : tn 0 s4.heap := T.keep _ _ _ t3 fun b _ o e => by rw [← hs4]; exact pushCells_keeps _ _ _ _ (Heap.get?_push_of_some _ e)
  have stat : ∀ {σ' : L2.St} {H' : Hp} {s' : Shared}, Inv (blkW X wb s3 H3 scope ce fp) [] σ' H' s' → (∀ b ∈ fp, H' b = none) → ∀ b ∈ fp, FpOk (blkW X wb s3 H3 scope ce fp) [] H' b := fun {σ' H' s'} J' hn b hb =>
    ⟨hn b hb, (J'.ok.exf b hb).1, J'.ok.exfs b hb, .inl hb, fun x c e => (J'.ok.exf b hb).2 x c e, fun p hp => absurd (show p ∈ ([] : List (Addr × Obj)) ++ [] from hp) (by simp)⟩
  have loop : codeAny (model X.prog X.w) X.A (.compLoop (.ListComp elt [⟨tg, iter, ifs, 0⟩] scope pos) 0 (.ref ia) (.ref D) ce) (compPost (model X.prog X.w) X.A X.xe use Qf (.ref D) s3.heap.objs.size) s4 := by
    refine compLoop_any (fun n s' => ∃ i H', Inv (blkW X wb s3 H3 scope ce fp) [] (wipe σ (own.map (·.2))) H' s' ∧ tn i s'.heap ∧ (∀ b ∈ fp, H' b = none) ∧ W i n H') ?_ m0 ⟨0, H3, I4, t4, nfp, w0⟩
    rintro n s5 ⟨i, H5, I5, t5, n5, w5⟩
    rcases turn i n H5 w5 with ⟨stop, qq⟩ | ⟨go, Nx, hNx, step⟩
    · refine thnF (T.done (blkW X wb s3 H3 scope ce fp) rfl rfl rfl calm i [] s5 _ H5 (fun _ _ => False) I5 (stat I5 n5) t5 stop) fun r s6 ⟨hr, I6⟩ => ?_
      subst hr
      have I7 : Inv X pins σ H5 s6 := I3.call' (ch := fp) I6.os I6.base I6.hok I6.bare fun b hb => ⟨(f3 b hb).1.2.2.2.1, (f3 b hb).1.2.1, (f3 b hb).1.2.2.2.2.1, (f3 b hb).1.2.2.2.2.2⟩
      have nC : H5 s3.heap.objs.size = none := by
        have z : H5 ce.locals = none := I6.free
        rwa [cL] at z
      obtain ⟨m, hn, _⟩ := I6.loc
      have hn : s6.heap.Ns ce.locals m := hn
      rw [cL] at hn
      exact hRR D s3.heap.objs.size s6 m H5 I7 qq hn (I3.fpOk (Nat.le_refl _) nC)
    · refine thnF (T.item (blkW X wb s3 H3 scope ce fp) rfl rfl rfl calm i [] s5 _ H5 (fun _ _ => False) I5 (stat I5 n5) t5 go) fun r s6 ⟨u, hr, h6⟩ => ?_
      subst hr
      refine thnF h6 fun _ s7 ⟨x, H7, I7, r7, y7, t7, n7⟩ => ?_
      have I7' := I7.pinned (stat I7 n7) (T.obj _ _ t7)
      refine wpAny_mono (pg.run _ s7 _ H7 x u _ I7' r7 (step x H7 y7)) (fun _ s8 ⟨σ8, H8, I8, e8, q8⟩ => ?_) px
      refine wpAny_mono (pt.run _ s8 σ8 H8 _ I8 q8) (fun b s9 ⟨H9, I9, q9⟩ => ?_) px
      have fin : ∀ {s' : Shared} {H' : Hp}, Inv (blkW X wb s3 H3 scope ce fp) ([] ++ pinsAt fp s7.heap) σ8 H' s' → Nx H' → ∃ m, m < n ∧ ∃ i H', Inv (blkW X wb s3 H3 scope ce fp) [] (wipe σ (own.map (·.2))) H' s' ∧ tn i s'.heap ∧ (∀ b ∈ fp, H' b = none) ∧ W i m H' := fun {s' H'} J' nx => by
        obtain ⟨m', hm, w'⟩ := hNx H' nx
        have pin' : ∀ b ∈ fp, ∀ o, s7.heap.get? b = some o → s'.heap.get? b = some o ∧ H' b = none := fun b hb o e => by
          have z := J'.pin (b, o) (List.mem_append_right _ (List.mem_append_right _ (mem_pinsAt hb e)))
          exact ⟨z.1, z.2.1⟩
        refine ⟨m', hm, i + 1, H', (J'.unpinned (pins := [])).weak (by rw [← e8, wipe_length]) (fun j v e => ?_), T.keep _ _ _ t7 fun b hb o e => (pin' b hb o e).1, fun b hb => ?_, w'⟩
        · rw [← e8] at e
          exact (wipe_some e).1
        · obtain ⟨o, e, _⟩ := T.obj _ _ t7 b hb
          exact (pin' b hb o e).2
      cases b with
      | false =>
        simp only [Bool.false_eq_true, if_false] at q9 ⊢
        exact fin I9 q9
      | true =>
        simp only [if_true] at q9 ⊢
        refine wpAny_mono (pe.run _ s9 σ8 H9 _ I9 q9) (fun z s10 ⟨yv, H10, I10, r10, acc, aD, az, nx⟩ => ?_) px
        exact app_ok (X := blkW X wb s3 H3 scope ce fp) I10 aD az r10 fun s11 I11 => fin I11 nx
  exact codeAny_compStart_list loop (T.self X.A 0 _ _ _ t4 loop)
/-- [e for x in ..] as a value, where e leans on the maker's state -/
theorem pe_lcI {elt tg iter : Expr} {ifs : List Expr} {scope : Scope} {own : List (Str × Nat)} {pos : Pos} {wi : TI} {g : TG} {tt : TT} {te : L2.St → TE} (calm : X.calm = true) (nd : X.N.Nodup) (it : PI X tg iter wi) (blk : BlkOk X.N X.env.scope scope own)
    (hg : ∀ (s : Shared) (H : Hp) (C : Addr) (cl : List (Str × Addr)) (fp : List Addr), PG ((X.blk s H scope (compEnvC scope cl C X.env) fp).wish fun _ _ => False) tg g)
    (ht : ∀ (s : Shared) (H : Hp) (C : Addr) (cl : List (Str × Addr)) (fp : List Addr), PTs ((X.blk s H scope (compEnvC scope cl C X.env) fp).wish fun _ _ => False) ifs tt)
    (he : ∀ (pins : List (Addr × Obj)) (σ : L2.St) (s : Shared) (H : Hp) (C : Addr) (cl : List (Str × Addr)) (fp : List Addr), Inv X pins σ H s → (∀ b ∈ fp, ∀ x c, X.env.cells.lookup x = some c → c ≠ b) →
      PE ((X.blk s H scope (compEnvC scope cl C X.env) fp).wish fun _ _ => False) elt (te σ)) (hs : ∀ x, foldedSetIterable iter X.env x = pure x := by intro _; rfl) :
    PE X (.ListComp elt [⟨tg, iter, ifs, 0⟩] scope pos) (fun σ => tLc wi g tt (te σ) (own.map (·.2)) σ) := by
  refine ⟨fun pins s σ H Q I h => ?_⟩
  rw [eval_ListComp]
  refine lcw_core (wb := fun _ _ _ _ _ _ => False) calm nd I it blk hg (fun s H C cl fp _ _ => ht s H C cl fp) (fun s H C cl fp I' o => he pins σ s H C cl fp I' o) hs h (fun D C s' m H' I' q hn f => ⟨m, hn, fun h'' sb => ?_⟩) fun _ _ _ _ _ _ _ _ _ z => z.elim
  obtain ⟨f0, f1, f2, f3, f4, f5⟩ := f
  exact ⟨.ref D, H', I'.turned (t' := s'.toks) (fun b o hb e => (sb.2 b hb).trans e) f0 f1 f3 f4 f5, rfl, q⟩
end
end Tk

set_option Elab.async false
set_option linter.all false
set_option maxRecDepth 100000
set_option maxHeartbeats 4000000
namespace Tk
open PySem PySem.Spec PyProof.Rows L2 LamX
/-! ### _law_word of lambdas -/
/-- a lambda as it is written: what it is made of, and the reading of its body -/
structure LamF (X : Cx) (k : Nat) (params : Arguments) (body : Expr) (scope : Scope) (ps : List Str) (dvs : List V) (tb : XK → TE) : Prop where
  L : LamD X.N X.env.scope scope ps
  B : LamBind params body scope ps 0 dvs
  n : dvs.length = ps.length
  e : ∀ (A : Around) (out : List Env) (s : Shared) (H : Hp) (E : XK) (f c' : Addr), Room k (A.deeper (lamEnv X scope s.heap.objs.size f c')) → PE (lamCy X A out s H E scope ps f c') body (tb E)
def tlOf (X : Cx) (params : Arguments) (body : Expr) (scope : Scope) (dvs : List V) (tb : XK → TE) (σ : L2.St) (f : Addr) : XK → Hp → VK → Prop := fun E H Q => ∃ c', LamAt X params body scope dvs f c' H ∧ tb E (σ ++ dvs.map some) H Q
section
variable {X : Cx} {pins : List (Addr × Obj)} {σ : L2.St} {H0 H : Hp} {s0 s : Shared} {k : Nat} {params : Arguments} {body : Expr} {scope : Scope} {ps : List Str} {dvs : List V} {tb : XK → TE} {ex : List Addr}
theorem acts_lam (F : LamF X k params body scope ps dvs tb) (I : Inv X pins σ H0 s0) (U : Un (frs X.stack) ex H0 H s0.heap s.heap) (out : ∀ y c, X.env.cells.lookup y = some c → c ∉ ex) (f : Addr) :
    Acts X.prog X.w X.K X.mg X.base (frs X.stack) (k + 1) f s H (tlOf X params body scope dvs tb σ f) := by
  intro A o s1 H1 E Q un e0 hr h
  obtain ⟨c', at_, q⟩ := h
  have U1 : Un (frs X.stack) ex H0 H1 s0.heap s1.heap := U.trans (un.mono (fun _ h => h) fun _ z => absurd z (by simp))
  exact lam_run (n := 0) (vs := []) (us := []) I F.L F.B (by rw [Nat.zero_add]; exact F.n) e0 hr U1 out at_ rfl .nil (fun hr' => F.e A o s1 H1 E f c' hr') q
theorem lam_fnAt {P : Program} {w : World} {f c' : Addr} {s1 : Shared} {H1 : Hp} (ok : HOk P w H1 s1.heap) (h : LamAt X params body scope dvs f c' H1) : PySem.W.FnAt f s1.heap := by
  obtain ⟨dV, doc, pm, ctv, hf, _⟩ := h.ex
  exact ⟨_, _, _, _, funO_get ok hf⟩
end
theorem Acts.or {P : Program} {w : World} {K : PySem.W.Frag} {mg : Str → Option Value} {base : Heap} {fs : List Addr} {k : Nat} {f : Addr} {s : Shared} {H : Hp} {t u : XK → Hp → VK → Prop} (a : Acts P w K mg base fs k f s H t) (b : Acts P w K mg base fs k f s H u) :
    Acts P w K mg base fs k f s H fun E H1 Q => t E H1 Q ∨ u E H1 Q := fun A o s1 H1 E Q un e0 hr h => h.elim (a A o s1 H1 E Q un e0 hr) (b A o s1 H1 E Q un e0 hr)
section
variable {X : Cx} {k : Nat} {params : Arguments} {body : Expr} {scope : Scope} {ps : List Str} {dvs : List V} {tb : XK → TE} {C0 CC CL CW : Addr}
/-- _law_word(lambda: body) -/
def tWordL (T : List (Addr × Str)) (CC CL CW : Addr) (dvs : List V) (tb : XK → TE) : TE := fun σ H Q => LamX.Tabs T H ∧ ∀ H1, ExtN H H1 → LamX.Tabs T H1 → tWord CC CL CW (fun E H2 Q2 => tb E (σ ++ dvs.map some) H2 Q2) H1 Q
theorem pe_wordL {T : List (Addr × Str)} {c P : Addr} {p lpos pos : Pos} (W : FunAt X.K X.mg "_law_word" s__law_word) (G : NoGl X.mg) (EK : ErrK X.K X.mg C0 CC CL CW) (TB : TabB X.base X.mg c P) (code : X.env.code = .ref c) (mT : (P, X.env.qual ++ "<lambda>") ∈ T)
    (uT : ∀ p ∈ T, p.1 = P → p.2 = X.env.qual ++ "<lambda>") (D : DflEv X params dvs) (F : LamF X k params body scope ps dvs tb) (hr : Room (k + 2) X.A) (hg : Gl X "_law_word" := by rfl) (hz : dvs.length ≤ sizeLine := by decide) :
    PE X (.Call (.Name "_law_word" p) [.Lambda params body scope lpos] [] pos) (tWordL T CC CL CW dvs tb) := by
  obtain ⟨g, fd, hm, Fw⟩ := W.ex
  refine ⟨fun pins s σ H Q I ⟨hT, h⟩ => ?_⟩
  refine wpAny_Call_Name_kw (ld_glob I hg hm ?_ (by decide))
  have pl := pe_lam (X := X) (pos := lpos) (body := body) TB code mT uT D F.L hz
  refine PySem.W.callWith_K (h₀ := X.base) I.ok.mod.kin Fw.kp (thn ((pa_cons (X := X) pl pa_nil (by rfl)).run pos pins s σ H (fun vs H1 => ∃ f c', vs = [.ref f] ∧ LamAt X params body scope dvs f c' H1 ∧ ExtN H H1 ∧ LamX.Tabs T H1) I ⟨hT, fun f c' pm ctv doc dV H1 ext T1 nf hc dd => ?_⟩)
    fun us s1 ⟨vs, H1, I1, r, f, c', ev, at_, ext, T1⟩ => ⟨I1.kIn, ?_⟩) (by rfl) (by rfl)
  · have kk : ∀ b o, H1 b = some o → upd H1 f (FunO f (lamO X params body scope dV doc pm c' ctv)) b = some o := fun b o e => by rw [upd_ne (ne_of_none e nf)]; exact e
    refine ⟨f, c', rfl, ⟨dV, doc, pm, ctv, upd_same, kk _ _ hc, ?_⟩, ext.trans (.of kk), T1.ext kk⟩
    rcases dd with d | ⟨ne, t, e, ht⟩
    · exact .inl d
    · exact .inr ⟨ne, t, e, kk _ _ ht⟩
  · subst ev
    obtain ⟨u, rfl, ru⟩ := r.one
    cases ru
    refine wpAny_call (codeAny_mono (word_run (k := k + 1) (A := X.A) (out := X.stack) Fw G EK (acts_lam F I1 (ex := []) Un.refl (fun _ _ _ z => by cases z) f) (fun s2 H2 ok ⟨Q2, E2, c2, a2, _⟩ => lam_fnAt ok a2) hr I1.env0 (Q := Q) ?_) ?_)
    · exact ⟨c', at_, h H1 ext T1⟩
    · rintro (e | (_ | _ | _ | v)) s' hq
      · exact False.elim hq
      all_goals first | exact I1.after hq | exact False.elim hq
/-- _law_word(ask), ask a slot of a comprehension's block -/
theorem pe_wordB {s : Shared} {H : Hp} {scope : Scope} {ce : Env} {fp : List Addr} {i : Nat} {x : Str} {p p1 pos : Pos} {tl : Addr → XK → Hp → VK → Prop} (W : FunAt X.K X.mg "_law_word" s__law_word) (G : NoGl X.mg) (EK : ErrK X.K X.mg C0 CC CL CW)
    (act : ∀ (f : Addr) (s1 : Shared) (H1 : Hp), Un (frs X.stack) fp H H1 s.heap s1.heap → Acts X.prog X.w X.K X.mg X.base (frs X.stack) (k + 1) f s1 H1 (tl f)) (fn : ∀ (f : Addr) (s1 : Shared) (H1 : Hp), HOk X.prog X.w H1 s1.heap → (∃ Q E, tl f E H1 Q) → PySem.W.FnAt f s1.heap)
    (hr : Room (k + 2) X.A) (hN : X.N[i]? = some x) (hv : Vis ce.scope x) (hg : Gl ((X.blk s H scope ce fp).wish fun _ _ => False) "_law_word") (hd : (x == ("__debug__" : Str)) = false := by decide) (hcd : (x == ("__classdict__" : Str)) = false := by decide) :
    PE ((X.blk s H scope ce fp).wish fun _ _ => False) (.Call (.Name "_law_word" p) [.Name x p1] [] pos) (fun σB HB Q => ∃ f, σB[i]? = some (some (.ref f)) ∧ tWord CC CL CW (tl f) HB Q) := by
  obtain ⟨g, fd, hm, Fw⟩ := W.ex
  refine ⟨fun pins1 s1 σB HB Q I ⟨f, hs, h⟩ => ?_⟩
  refine wpAny_Call_Name_kw (ld_glob I hg hm ?_ (by decide))
  refine PySem.W.callWith_K (h₀ := X.base) I.ok.mod.kin Fw.kp (thn ((pa_cons (X := (X.blk s H scope ce fp).wish fun _ _ => False) (pe_var (pos := p1) hN hv hd hcd) pa_nil (by rfl)).run pos pins1 s1 σB HB (fun vs H1 => vs = [.ref f] ∧ H1 = HB) I ⟨_, hs, rfl, rfl⟩)
    fun us s2 ⟨vs, H1, I1, r, ev, eH⟩ => ⟨I1.kIn, ?_⟩) (by rfl) (by rfl)
  subst ev eH
  obtain ⟨u, rfl, ru⟩ := r.one
  cases ru
  refine wpAny_call (codeAny_mono (word_run (k := k + 1) (A := X.A) (out := X.stack) Fw G EK (act f s2 _ I1.base) (fn f) hr I1.env0 (Q := Q) h) ?_)
  rintro (e | (_ | _ | _ | v)) s' hq
  · exact False.elim hq
  all_goals first | exact I1.after hq | exact False.elim hq
end
end Tk

set_option Elab.async false
set_option linter.all false
set_option maxRecDepth 100000
set_option maxHeartbeats 4000000
namespace Tk
open PySem PySem.Spec PyProof.Rows L2 LamX

/-! ### what stays where code objects' tables grow -/
section
variable {H H' : Hp}
theorem Kd.ext {x : V} {t : String} (e : ExtN H H') (k : Kd H x t) : Kd H' x t := by
  cases k with
  | non => exact .non
  | bl b => exact .bl b
  | int i => exact .int i
  | str x => exact .str x
  | lst h => exact .lst (e _ _ h (fun _ z => by cases z))
  | tup h => exact .tup (e _ _ h (fun _ z => by cases z))
  | dK h => exact .dK (e _ _ h (fun _ z => by cases z))
mutual
theorem Dd.ext (e : ExtN H H') : ∀ {v : V} {d : PyData}, Dd H v d → Dd H' v d
  | _, _, .non => .non
  | _, _, .bl b => .bl b
  | _, _, .int i => .int i
  | _, _, .str x => .str x
  | _, _, .lst s h => .lst (e _ _ s (fun _ z => by cases z)) (DdAll.ext e h)
  | _, _, .tup s h => .tup (e _ _ s (fun _ z => by cases z)) (DdAll.ext e h)
theorem DdAll.ext (e : ExtN H H') : ∀ {vs : List V} {ds : List PyData}, DdAll H vs ds → DdAll H' vs ds
  | _, _, .nil => .nil
  | _, _, .cons a b => .cons (Dd.ext e a) (DdAll.ext e b)
end
theorem RowIs.ext {x : V} {b : Bool} (e : ExtN H H') (r : RowIs H x b) : RowIs H' x b := by
  cases r with
  | no k h => exact .no (k.ext e) h
  | tup e1 h k z => exact .tup e1 (e _ _ h (fun _ z => by cases z)) (fun y hy => let ⟨t, kt⟩ := k y hy; ⟨t, kt.ext e⟩) z
theorem RwAt.ext {x : V} {r : Rw} (e : ExtN H H') (a : RwAt H x r) : RwAt H' x r := by
  obtain ⟨⟨p, h1, h2⟩, h3, h4⟩ := a
  exact ⟨⟨p, h1, e _ _ h2 (fun _ z => by cases z)⟩, fun y hy => let ⟨t, k⟩ := h3 y hy; ⟨t, k.ext e⟩, h4⟩
theorem logRs_ext {x : V} {o : Option (List Rw)} (e : ExtN H H') (l : LogRs H x o) : LogRs H' x o := by
  cases l with
  | bad h =>
    refine .bad ?_
    generalize hb : false = b at h
    cases h with
    | no k n => exact hb ▸ .no (k.ext e) n
    | lst f e1 h r z => exact .lst f e1 (e _ _ h (fun _ z => by cases z)) (fun y hy => (r y hy).ext e) z
  | ok e1 h z r => exact .ok e1 (e _ _ h (fun _ z => by cases z)) z (L2.Paired.mapP r fun _ _ c => c.ext e)
theorem BadLog.ext {w : Addr} (e : ExtN H H') (b : BadLog H w) : BadLog H' w := by
  obtain ⟨xs, o, h, l, k, s, z⟩ := b.ex
  exact ⟨xs, o, e _ _ h (fun _ z => by cases z), logRs_ext e l, k, fun y hy => let ⟨d, q, r⟩ := s y hy; ⟨d, q.ext e, r⟩, z⟩
end
/-- a step of the law: all but the draws stays, the tables may grow -/
structure LX (T : List (Addr × Str)) (a : Addr) (y : Int) (H H' : Hp) : Prop where
  ext : ExtN (Hd [a] H) (Hd [a] H')
  src : (∃ x z, H a = some (srcO x y z)) → ∃ x z, H' a = some (srcO x y z)
  tabs : (∃ x z, H a = some (srcO x y z)) → LamX.Tabs T H → LamX.Tabs T H'
section
variable {T : List (Addr × Str)} {a : Addr} {y : Int} {H H1 H2 H' : Hp}
theorem LX.refl (H : Hp) : LX T a y H H := ⟨ExtN.refl _, fun h => h, fun _ h => h⟩
theorem LX.trans (p : LX T a y H H1) (q : LX T a y H1 H2) : LX T a y H H2 := ⟨p.ext.trans q.ext, fun h => q.src (p.src h), fun s h => q.tabs (p.src s) (p.tabs s h)⟩
theorem LX.fr (f : Fr [] H H') : LX T a y H H' := ⟨.of ((f.mono fun _ h => nomatch h).hd), fun ⟨x, z, h⟩ => ⟨x, z, f.same _ _ h⟩, fun _ h => h.ext f.same⟩
theorem LX.draw (f : Fr [a] H H') (s : ∃ x z, H' a = some (srcO x y z)) : LX T a y H H' := by
  refine ⟨.of f.hd, fun _ => s, fun ⟨x, z, h⟩ t p hp => ?_⟩
  have na : ∀ {b : Addr} {o : HO}, H b = some o → (∀ l, o ≠ .lst l) → b ≠ a := fun e n z => by
    rw [z, h] at e
    exact n _ (Option.some.inj e).symm
  obtain ⟨ps, h1, h2, h3⟩ := t p hp
  refine ⟨ps, f.at h1 (by simpa using na h1 (fun _ z => by cases z)), h2, fun pos cv hc => ?_⟩
  obtain ⟨c, e1, e2⟩ := h3 pos cv hc
  exact ⟨c, e1, f.at e2 (by simpa using na e2 fun _ z => by unfold CodeO at z; cases z)⟩
theorem LX.made (e : ExtN H H1) (t : LamX.Tabs T H1) : LX T a y H H1 := by
  refine ⟨fun b o h n => ?_, fun ⟨x, z, h⟩ => ⟨x, z, e _ _ h (fun _ z => by cases z)⟩, fun _ _ => t⟩
  obtain ⟨m, h⟩ := of_Hd h
  rw [Hd_of m]
  exact e _ _ h n
end
/-- rows of the law, from the law's side -/
structure RowsL (a R : Addr) (xs : List V) (rs : List Rw) (H : Hp) : Prop where
  r : Hd [a] H R = some (.lst xs)
  pr : Paired (RwAt (Hd [a] H)) xs rs
theorem RowsL.lx {T : List (Addr × Str)} {a R : Addr} {y : Int} {xs : List V} {rs : List Rw} {H H' : Hp} (x : RowsL a R xs rs H) (l : LX T a y H H') : RowsL a R xs rs H' :=
  ⟨l.ext _ _ x.r (fun _ z => by cases z), L2.Paired.mapP x.pr fun _ _ c => c.ext l.ext⟩
theorem RowsL.at {a R : Addr} {xs : List V} {rs : List Rw} {H : Hp} (x : RowsL a R xs rs H) (g : ∀ r, r ∈ rs → GoodRw r) (l : rs.length ≤ 40) : RowsAt a R xs rs H := by
  obtain ⟨m, h⟩ := of_Hd x.r
  exact ⟨h, by simpa using m, x.pr, g, l⟩
theorem codeO_neL {c : Addr} {q : Str} (xs : List V) : CodeO c q ≠ .lst xs := fun z => by
  unfold CodeO at z
  cases z
theorem funO_neLst {f : Addr} {o : Obj} (xs : List V) : FunO f o ≠ .lst xs := fun z => by
  unfold FunO at z
  cases z
/-- a list is written: the tables stay -/
theorem tabs_upd {T : List (Addr × Str)} {H : Hp} {la : Addr} {xs ys : List V} (t : LamX.Tabs T H) (h : H la = some (.lst xs)) : LamX.Tabs T (upd H la (.lst ys)) := fun p hp => by
  obtain ⟨ps, h1, h2, h3⟩ := t p hp
  have n : ∀ {b : Addr} {o : HO}, H b = some o → (∀ l, o ≠ .lst l) → b ≠ la := fun e n z => by
    rw [z, h] at e
    exact n _ (Option.some.inj e).symm
  refine ⟨ps, by rw [upd_ne (n h1 fun _ z => by cases z)]; exact h1, h2, fun pos cv hc => ?_⟩
  obtain ⟨c, e1, e2⟩ := h3 pos cv hc
  exact ⟨c, e1, by rw [upd_ne (n e2 fun _ => codeO_neL _)]; exact e2⟩
section
variable {X : Cx} {T : List (Addr × Str)} {params : Arguments} {body : Expr} {scope : Scope} {dvs : List V} {f c' : Addr} {pm ctv doc dV : Value} {H H1 : Hp}
theorem lam_made (e : ExtN H H1) (t : LamX.Tabs T H1) (n : H1 f = none) (hc : H1 c' = some (CodeO c' (X.env.qual ++ "<lambda>"))) (d : Dfl H1 dvs dV) :
    ExtN H (upd H1 f (FunO f (lamO X params body scope dV doc pm c' ctv))) ∧ LamX.Tabs T (upd H1 f (FunO f (lamO X params body scope dV doc pm c' ctv))) ∧ LamAt X params body scope dvs f c' (upd H1 f (FunO f (lamO X params body scope dV doc pm c' ctv))) := by
  have kk : ∀ b o, H1 b = some o → upd H1 f (FunO f (lamO X params body scope dV doc pm c' ctv)) b = some o := fun b o e => by rw [upd_ne (ne_of_none e n)]; exact e
  refine ⟨e.trans (.of kk), t.ext kk, ⟨dV, doc, pm, ctv, upd_same, kk _ _ hc, ?_⟩⟩
  rcases d with d | ⟨ne, t, e, ht⟩
  · exact .inl d
  · exact .inr ⟨ne, t, e, kk _ _ ht⟩
theorem LamAt.set {la : Addr} {xs ys : List V} (x : LamAt X params body scope dvs f c' H) (h : H la = some (.lst xs)) : LamAt X params body scope dvs f c' (upd H la (.lst ys)) := by
  have n : ∀ {b : Addr} {o : HO}, H b = some o → (∀ l, o ≠ .lst l) → upd H la (.lst ys) b = some o := fun {b o} e n => by
    rw [upd_ne fun z => n _ (Option.some.inj (e.symm.trans (by rw [z]; exact h)))]
    exact e
  obtain ⟨dV, doc, pm, ctv, a, b, d⟩ := x.ex
  refine ⟨dV, doc, pm, ctv, n a fun _ => funO_neLst _, n b fun _ => codeO_neL _, ?_⟩
  rcases d with d | ⟨ne, t, e, ht⟩
  · exact .inl d
  · exact .inr ⟨ne, t, e, n ht fun _ z => by cases z⟩
end
theorem pe_weak {X : Cx} {e : Expr} {t u : TE} (h : PE X e t) (w : ∀ σ H Q, u σ H Q → t σ H Q) : PE X e u := ⟨fun pins s σ H Q I q => h.run pins s σ H Q I (w σ H Q q)⟩
/-- what making a lambda gives, told shortly -/
def tLamW (X : Cx) (T : List (Addr × Str)) (params : Arguments) (body : Expr) (scope : Scope) (dvs : List V) : TE := fun _ H Q => LamX.Tabs T H ∧ ∀ (f c' : Addr) (H2 : Hp), ExtN H H2 → LamX.Tabs T H2 → LamAt X params body scope dvs f c' H2 → Q (.ref f) H2
theorem pe_lamW {X : Cx} {T : List (Addr × Str)} {c P : Addr} {params : Arguments} {body : Expr} {scope : Scope} {pos : Pos} {ps : List Str} {dvs : List V} (TB : TabB X.base X.mg c P) (code : X.env.code = .ref c) (mT : (P, X.env.qual ++ "<lambda>") ∈ T) (uT : ∀ p ∈ T, p.1 = P → p.2 = X.env.qual ++ "<lambda>")
    (D : DflEv X params dvs) (L : LamD X.N X.env.scope scope ps) (hz : dvs.length ≤ sizeLine := by decide) : PE X (.Lambda params body scope pos) (tLamW X T params body scope dvs) :=
  pe_weak (pe_lam TB code mT uT D L hz) fun σ H Q ⟨t, q⟩ => ⟨t, fun f c' pm ctv doc dV H1 e t1 n hc d => let ⟨a, b, l⟩ := lam_made e t1 n hc d; q f c' _ a b l⟩
theorem looksRs_ext {H H' : Hp} {x : V} {o : Option (List Int)} (e : ExtN H H') (l : LooksRs H x o) : LooksRs H' x o := by
  cases l with
  | no k n => exact .no (k.ext e) n
  | bad e1 h k z c => exact .bad e1 (e _ _ h (fun _ z => by cases z)) (fun y hy => let ⟨u, q⟩ := k y hy; ⟨u, q.ext e⟩) z c
  | ok e1 h z c => exact .ok e1 (e _ _ h (fun _ z => by cases z)) z c
theorem looksRs_same {H H' : Hp} {x : V} {o : Option (List Int)} (e : Same H H') (l : LooksRs H x o) : LooksRs H' x o := looksRs_ext (.of e) l
theorem RowsL.log {a R : Addr} {xs : List V} {rs : List Rw} {H : Hp} (x : RowsL a R xs rs H) (l : rs.length ≤ 40) : LogRs H (.ref R) (some rs) := by
  have e := PySem.Paired.length x.pr
  exact .ok rfl (Hd_same _ _ x.r) (by omega) (L2.Paired.mapP x.pr fun _ _ c => c.same Hd_same)
end Tk

set_option Elab.async false
set_option linter.all false
set_option maxRecDepth 100000
set_option maxHeartbeats 4000000
/-! A def of the text called by names alone. -/
namespace Tk
open PySem PySem.Spec PyProof.Rows L2
/-- two values in the other order -/
def sw {α : Type} : List α → List α
  | [a, b] => [b, a]
  | l => l
theorem sw_vals : ∀ {zs : List V} {ws : List Value}, Vals zs ws → Vals (sw zs) (sw ws)
  | _, _, .nil => .nil
  | _, _, .cons r .nil => .cons r .nil
  | _, _, .cons r (.cons q .nil) => .cons q (.cons r .nil)
  | _, _, .cons r (.cons q (.cons p t)) => .cons r (.cons q (.cons p t))
def idL {α : Type} (l : List α) : List α := l
def tCallN (sp : Sp) (g : List V → List V) (E : XK) (tk : TA) : TE := fun σ H Q => tk σ H fun zs H1 => sp (g zs) H1 Q E
theorem pe_cN {X : Cx} {CX : CXT} {k : Nat} {x : Str} {st : Stmt} {ps ks : List Str} {sp : Sp} {dvs : List V} {E : XK} {kws : List Keyword} {tk : TA} {p pos : Pos} {g : List Value → List Value} {gV : List V → List V} (C : Cal X.prog X.w X.K X.mg X.base CX k x ps dvs sp) (F : FunAt X.K X.mg x st)
    (rel : ∀ {zs : List V} {ws : List Value}, Vals zs ws → Vals (gV zs) (g ws))
    (hb : ∀ (kV doc pm : Value) (an : Option Addr) (cdv ct : Value) (ws : List Value), (g ws).length = ps.length → bindArgs (PySem.W.fnOf x x (defArgs st) (defBody st) (defScope st) .none kV doc pm an cdv ct) ⟨[], ks.zip ws⟩ = pure (ps.zip (g ws)))
    (hr : Room k X.A) (hg : Gl X x) (hx : Passes CX X E) (hkw : PK X kws tk) (hall : (backToKw pos (keywordEach kws X.env)).all (·.1.isSome) = true := by rfl) (hks : (backToKw pos (keywordEach kws X.env)).filterMap (·.1) = ks := by rfl)
    (hdb : (x == ("__debug__" : Str)) = false := by decide) (hpl : ((backTo pos (starEach [] X.env)).any (·.1) || (backToKw pos (keywordEach kws X.env)).any (·.1.isNone)) = false := by rfl) :
    PE X (.Call (.Name x p) [] kws pos) (tCallN sp gV E tk) := by
  obtain ⟨f, fd, ds, hm, hk, Fn, _, _, oc, od, osl, lk⟩ := C.ex
  obtain ⟨f', fd', hm', F⟩ := F.ex
  cases hm.symm.trans hm'
  obtain ⟨oc', od', kV, doc, pm, an, cdv, ct, osl', rfl, lk', _⟩ := F.ex
  cases lk.symm.trans lk'
  refine ⟨fun pins s σ H Q I h => ?_⟩
  refine wpAny_Call_Name_kw (ld_glob I hg hm ?_ hdb)
  refine PySem.W.callWith_KW0 (h₀ := X.base) I.ok.mod.kin hk hall (thn (hkw.run pos pins s σ H _ I h) fun ws s2 ⟨zs, H2, I2, rz, q2⟩ => ⟨I2.kIn, ?_⟩) hpl
  rw [hks]
  have r2 := rel rz
  have hl : (g ws).length = ps.length := by rw [← r2.length]; exact Fn.len _ _ _ _ q2
  refine wpAny_call (codeAny_mono (Fn.run X.A X.stack s2 H2 ⟨[], ks.zip ws⟩ (g ws) (gV zs) Q E hr I2.env0 (.of_eq (hb kV doc pm an cdv ct ws hl)) r2 q2) ?_)
  rintro (e | (_ | _ | _ | u)) s' hq
  · exact hx pins σ H2 s2 e s' I2 hq
  all_goals first | exact I2.after hq | exact False.elim hq
end Tk

set_option Elab.async false
set_option linter.all false
set_option maxRecDepth 100000
set_option maxHeartbeats 4000000
namespace Tk
open PySem PySem.Spec PyProof.Rows L2

/-! ### the law's lambdas -/
def fBody : Stmt → List Stmt
  | .For _ _ b _ _ => b
  | _ => []
def sVal : Stmt → Expr
  | .Assign _ v _ => v
  | .Expr v _ => v
  | _ => .Constant .none 0 ⟨0, 0, 0, 0⟩
def eParts : Expr → List Expr
  | .List l _ => l
  | .Call _ l _ _ => l
  | _ => []
def lamP : Expr → Arguments
  | .Lambda p _ _ _ => p
  | _ => ⟨[], [], none, [], [], none, []⟩
def lamE : Expr → Expr
  | .Lambda _ e _ _ => e
  | e => e
def lamS : Expr → Scope
  | .Lambda _ _ s _ => s
  | _ => ⟨.function, [], false, false, []⟩
abbrev eNo : Expr := .Constant .none 0 ⟨0, 0, 0, 0⟩
abbrev stNo : Stmt := .Pass ⟨0, 0, 0, 0⟩
abbrev bTop : List Stmt := fBody ((defBody s_law).getD 0 stNo)
abbrev bTurn : List Stmt := fBody (bTop.getD 2 stNo)
abbrev bOdd : List Stmt := fBody (bTop.getD 3 stNo)
abbrev lamX1 : Expr := (eParts (sVal (bTurn.getD 2 stNo))).getD 0 eNo
abbrev lamX2 : Expr := (eParts (sVal (bTurn.getD 2 stNo))).getD 1 eNo
abbrev lamX3 : Expr := (eParts (sVal (bTurn.getD 3 stNo))).getD 0 eNo
abbrev lamX4 : Expr := (eParts (sVal (bOdd.getD 0 stNo))).getD 0 eNo
abbrev lamX5 : Expr := (eParts (sVal (bOdd.getD 0 stNo))).getD 1 eNo
section
variable {P : Program} {w : World} {K : PySem.W.Frag} {mg : Str → Option Value} {base : Heap} {C0 CC CL CW : Addr}
abbrev nLaw : List Str := ["script", "index", "source", "rows", "turn", "odd", "worse", "kept", "asks", "ask"]
theorem sc_law : FnScope nLaw ["script"] (defScope s_law) := ⟨rfl, rfl, rfl, by decide +kernel, rfl, by decide +kernel, by decide +kernel⟩
theorem lamB_0_0 {q : Arguments} {b : Expr} {sc : Scope} (h : ∀ (q' : Str) (cl : List (Str × Addr)) (doc pm cv ctv : Value), bindArgs (PySem.W.kdv_fn "<lambda>" q' q (.expr b) sc cl .none doc pm cv ctv) ⟨[], []⟩ = pure [] := by intros; rfl) : LamBind q b sc [] 0 [] :=
  ⟨fun _ q' cl doc pm cv ctv us hl => by rw [List.length_eq_zero_iff.mp hl]; exact h q' cl doc pm cv ctv, fun h => absurd rfl h⟩
theorem lamB_1_1 {x : Str} {d : V} {q : Arguments} {b : Expr} {sc : Scope} (h : ∀ (q' : Str) (cl : List (Str × Addr)) (T : Addr) (doc pm cv ctv u : Value), ∃ k, bindArgs (PySem.W.kdv_fn "<lambda>" q' q (.expr b) sc cl (.ref T) doc pm cv ctv) ⟨[], []⟩ = seqItems? (.ref T) >>= k ∧ k (some [u].toArray) = pure [(x, u)] := by intros; exact ⟨_, rfl, rfl⟩) :
    LamBind q b sc [x] 0 [d] := by
  refine ⟨(fun h => nomatch h), fun _ q' cl T doc pm cv ctv us its hl hi => ?_⟩
  obtain rfl := List.length_eq_zero_iff.mp hl
  match its, hi with
  | [u], _ => exact h q' cl T doc pm cv ctv u
def tb1 (CC CL : Addr) : XK → TE := fun E => tCall (spWithLooks CC CL) [] E (tCons (tVar 6) (tCons (tC .non) tNil))
def tb2 (CW CC : Addr) : XK → TE := fun E => tCall (spShort CW CC) [] E (tCons (tC (.int 9)) (tCons (tVar 6) tNil))
def tb3 (CC CL : Addr) : XK → TE := fun E => tCallN (spWithLooks CC CL) sw E (tCons (tLst (tCons (tC (.int 5)) (tCons (tC (.int 3)) tNil))) (tCons (tVar 6) tNil))
def tb4 (CC CL : Addr) : XK → TE := fun E => tCall (spWithLooks CC CL) [] E (tCons (tVar 5) (tCons (tLst (tCons (tC (.int 3)) (tCons (tC (.int 1)) tNil))) tNil))
def tb5 (CW CC : Addr) : XK → TE := fun E => tCall (spShort CW CC) [] E (tCons (tC (.int 64)) (tCons (tVar 5) tNil))
def tlAll (X : Cx) (CC CL CW : Addr) (σ : L2.St) (f : Addr) : XK → Hp → VK → Prop := fun E H Q =>
  (((tlOf X (lamP lamX1) (lamE lamX1) (lamS lamX1) [] (tb1 CC CL) σ f E H Q ∨ tlOf X (lamP lamX2) (lamE lamX2) (lamS lamX2) [.int 0] (tb2 CW CC) σ f E H Q) ∨ tlOf X (lamP lamX3) (lamE lamX3) (lamS lamX3) [] (tb3 CC CL) σ f E H Q) ∨
    tlOf X (lamP lamX4) (lamE lamX4) (lamS lamX4) [] (tb4 CC CL) σ f E H Q) ∨ tlOf X (lamP lamX5) (lamE lamX5) (lamS lamX5) [.int 0] (tb5 CW CC) σ f E H Q
theorem tlAll_at {X : Cx} {σ : L2.St} {f : Addr} {s1 : Shared} {H1 : Hp} (ok : HOk P w H1 s1.heap) (h : ∃ Q E, tlAll X CC CL CW σ f E H1 Q) : PySem.W.FnAt f s1.heap := by
  obtain ⟨Q, E, h⟩ := h
  rcases h with (((⟨_, a, _⟩ | ⟨_, a, _⟩) | ⟨_, a, _⟩) | ⟨_, a, _⟩) | ⟨_, a, _⟩ <;> exact lam_fnAt ok a

/-! ### what the words are -/
theorem sqL_ext {H H' : Hp} {a : Addr} {xs : List V} (e : LamX.ExtN H H') (h : SqL K H a xs) : SqL K H' a xs := by
  rcases h with (h | ⟨o, h⟩) | h
  · exact .inl (.inl (e _ _ h fun _ z => by cases z))
  · exact .inl (.inr ⟨o, e _ _ h fun _ z => by cases z⟩)
  · exact .inr h
theorem word_mk {tl : XK → Hp → VK → Prop} {H : Hp} {Q : VK} {C : Addr} {x : Str} (hw : WordOf CC CL CW (.ref C) none x) (q : ∀ H'', Fr [] H H'' → Q (.str x) H'') (H' : Hp) (fr : Fr [] H H') : ∃ x, WordOf CC CL CW (.ref C) none x ∧ ∀ H'', Fr [] H' H'' → Q (.str x) H'' :=
  ⟨x, hw, fun H'' fr' => q _ (fr.trans fr')⟩
section
variable {X : Cx} {σ : L2.St} {f c' : Addr} {H : Hp} {Q : VK}
theorem at_app {l : List (Option V)} {i : Nat} {v : V} (h : σ[i]? = some (some v)) : (σ ++ l)[i]? = some (some v) := by
  obtain ⟨hi, _⟩ := List.getElem?_eq_some_iff.mp h
  rw [List.getElem?_append_left hi]
  exact h
theorem wd1 {wa : Addr} (at_ : LamAt X (lamP lamX1) (lamE lamX1) (lamS lamX1) [] f c' H) (h6 : σ[6]? = some (some (.ref wa))) (b : BadLog H wa) (q : ∀ H'', Fr [] H H'' → Q (.str "call") H'') : tWord CC CL CW (tlAll X CC CL CW σ f) H Q := by
  obtain ⟨xs, o, _, lr, bo, _⟩ := b.ex
  refine .inl (.inl (.inl (.inl ⟨c', at_, _, at_app h6, _, _, o, none, rfl, lr, .no .non (by decide), fun _ H' fr => ⟨"call", ⟨rfl, .inl ⟨rfl, rfl⟩⟩, fun H'' fr' => q _ (fr.trans fr')⟩, fun rs e ok => ?_⟩)))
  subst e
  rw [show okO (some rs) = logOk rs from rfl, ok] at bo
  cases bo
theorem wd2 {wa : Addr} (at_ : LamAt X (lamP lamX2) (lamE lamX2) (lamS lamX2) [.int 0] f c' H) (h6 : σ[6]? = some (some (.ref wa))) (b : BadLog H wa) (q : ∀ H'', Fr [] H H'' → Q (.str "call") H'') : tWord CC CL CW (tlAll X CC CL CW σ f) H Q := by
  obtain ⟨xs, o, _, lr, bo, _⟩ := b.ex
  refine .inl (.inl (.inl (.inr ⟨c', at_, _, at_app h6, .int 9, "int", _, o, rfl, .int 9, lr, (fun z => nomatch z), fun _ => ⟨fun _ H' fr => ⟨"call", ⟨rfl, .inl ⟨rfl, rfl⟩⟩, fun H'' fr' => q _ (fr.trans fr')⟩, fun n rs _ e ok => ?_⟩⟩)))
  subst e
  rw [show okO (some rs) = logOk rs from rfl, ok] at bo
  cases bo
theorem wd3 {wa : Addr} (at_ : LamAt X (lamP lamX3) (lamE lamX3) (lamS lamX3) [] f c' H) (h6 : σ[6]? = some (some (.ref wa))) (b : BadLog H wa) (q : ∀ H'', Fr [] H H'' → Q (.str "call") H'') : tWord CC CL CW (tlAll X CC CL CW σ f) H Q := by
  refine .inl (.inl (.inr ⟨c', at_, (by show 2 ≤ sizeLine; decide), fun p np => ⟨_, at_app h6, ?_⟩⟩))
  have fr0 := Fr.new (M := []) (o := .lst [V.int 5, V.int 3]) np
  obtain ⟨xs, o, _, lr, bo, _⟩ := (b.same fr0.same).ex
  refine ⟨.ref wa, .ref p, o, none, rfl, lr, .bad rfl upd_same (fun z hz => ?_) (by show 2 < sizeLine; decide) (by decide), fun _ H' fr => ⟨"call", ⟨rfl, .inl ⟨rfl, rfl⟩⟩, fun H'' fr' => q _ (fr0.trans (fr.trans fr'))⟩, fun rs e ok => ?_⟩
  · rcases List.mem_cons.mp hz with rfl | hz
    · exact ⟨_, .int _⟩
    · obtain rfl := List.mem_singleton.mp hz; exact ⟨_, .int _⟩
  · subst e
    rw [show okO (some rs) = logOk rs from rfl, ok] at bo
    cases bo
theorem wd4 {v : V} {t : String} (at_ : LamAt X (lamP lamX4) (lamE lamX4) (lamS lamX4) [] f c' H) (h5 : σ[5]? = some (some v)) (k : Kd H v t) (nt : t ≠ "list") (q : ∀ H'', Fr [] H H'' → Q (.str "call") H'') : tWord CC CL CW (tlAll X CC CL CW σ f) H Q := by
  refine .inl (.inr ⟨c', at_, _, at_app h5, (by show 2 ≤ sizeLine; decide), fun p np => ?_⟩)
  have fr0 := Fr.new (M := []) (o := .lst [V.int 3, V.int 1]) np
  refine ⟨v, .ref p, none, none, rfl, .bad (.no (k.same fr0.same) nt), .bad rfl upd_same (fun z hz => ?_) (by show 2 < sizeLine; decide) (by decide), fun _ H' fr => ⟨"call", ⟨rfl, .inl ⟨rfl, rfl⟩⟩, fun H'' fr' => q _ (fr0.trans (fr.trans fr'))⟩, fun rs e ok => nomatch e⟩
  rcases List.mem_cons.mp hz with rfl | hz
  · exact ⟨_, .int _⟩
  · obtain rfl := List.mem_singleton.mp hz; exact ⟨_, .int _⟩
theorem wd5 {v : V} {t : String} (at_ : LamAt X (lamP lamX5) (lamE lamX5) (lamS lamX5) [.int 0] f c' H) (h5 : σ[5]? = some (some v)) (k : Kd H v t) (nt : t ≠ "list") (q : ∀ H'', Fr [] H H'' → Q (.str "call") H'') : tWord CC CL CW (tlAll X CC CL CW σ f) H Q :=
  .inr ⟨c', at_, _, at_app h5, .int 64, "int", v, none, rfl, .int 64, .bad (.no k nt), (fun z => nomatch z), fun _ => ⟨fun _ H' fr => ⟨"call", ⟨rfl, .inl ⟨rfl, rfl⟩⟩, fun H'' fr' => q _ (fr.trans fr')⟩, fun n rs _ e ok => nomatch e⟩⟩
theorem rep_map : ∀ fs : List Addr, (fs.map V.ref).map (fun _ => V.str "call") = List.replicate fs.length (.str "call")
  | [] => rfl
  | f :: fs => by rw [List.map_cons, List.map_cons, rep_map fs]; rfl
/-- [_law_word(ask) for ask in asks] where each is "call" -/
theorem ev_asks {la : Addr} {fs : List Addr} (h8 : σ[8]? = some (some (.ref la))) (h9 : 9 < σ.length) (h : H la = some (.lst (fs.map V.ref))) (hz : fs.length ≤ 10)
    (wd : ∀ f, f ∈ fs → ∀ H', Fr [] H H' → ∀ Q' : VK, (∀ H'', Fr [] H' H'' → Q' (.str "call") H'') → tWord CC CL CW (tlAll X CC CL CW σ f) H' Q')
    (q : ∀ D H', H D = none → H' D = some (.lst (List.replicate fs.length (.str "call"))) → Fr [] H H' → Q (.ref D) H') :
    tLc (iList K (tVar 8)) (gName 9) tYes (fun σB HB Q => ∃ f1, σB[9]? = some (some (.ref f1)) ∧ tWord CC CL CW (tlAll X CC CL CW σ f1) HB Q) [9] σ H Q := by
  refine ⟨_, h8, la, rfl, ⟨_, SqL.of h⟩, fun D hD => ?_⟩
  refine lc_listR (K := K) (σ := σ) (j := 9) (vs := [9]) (tt := tYes) (te := fun σB HB Q => ∃ f1, σB[9]? = some (some (.ref f1)) ∧ tWord CC CL CW (tlAll X CC CL CW σ f1) HB Q) (fun _ => true) (fun _ y _ => y = .str "call") (fun _ _ _ _ _ h => h) hD (by rw [List.length_map, sizeLine_eq]; omega) (fun _ => wipe1) ?_ ?_ ?_ (SqL.of h)
  · intro x H' Q' hx fr _ hq
    exact hq _ (Fr.refl _ _)
  · intro x H' Q' hx _ fr _ hq
    obtain ⟨g, hg, rfl⟩ := List.mem_map.mp hx
    exact ⟨g, slot1 h9, wd g hg H' fr _ fun H'' fr2 => hq _ H'' fr2 rfl⟩
  · intro H2 ys hD2 fr2 md
    have e := md.pure (f := fun _ => .str "call") (fun _ _ _ h => h)
    refine q D H2 hD (by rw [hD2, e, List.filter_eq_self.mpr fun _ _ => rfl, rep_map]) fr2
end
end
end Tk

set_option Elab.async false
set_option linter.all false
set_option maxRecDepth 100000
set_option maxHeartbeats 4000000
namespace Tk
open PySem PySem.Spec PyProof.Rows L2
section
variable {P : Program} {w : World} {K : PySem.W.Frag} {mg : Str → Option Value} {base : Heap} {C0 CC CL CW : Addr}
abbrev qLam : Str := ("law" ++ ".<locals>." : Str) ++ "<lambda>"
abbrev TT (Pt : Addr) : List (Addr × Str) := [(Pt, qLam)]
def spLaw (K : PySem.W.Frag) (Pt : Addr) : Sp := fun vs H Q _ => ∃ (a : Addr) (ns : List Int), vs = [.ref a] ∧ SqL K H a (ns.map V.int) ∧ ns.length ≤ 63 ∧ H Pt = some (.tbl #[]) ∧ ∀ H', Q (.bl true) H'
theorem ok_law {f cl0 Pt : Addr} {kV doc pm ct oc : Value} {an od : Option Addr} {osl : Array (Option Value)} (lk : K.lookup f = some ⟨oc, od, .func (PySem.W.fnOf "law" "law" (defArgs s_law) (defBody s_law) (defScope s_law) .none kV doc pm an (.ref cl0) ct), osl⟩)
    (hcd : PySem.W.codeIn K (.ref cl0) "law" = true) (G : NoGl mg) (W : FunAt K mg "_law_word" s__law_word) (EK : ErrK K mg C0 CC CL CW) (TB : LamX.TabB base mg cl0 Pt)
    (C__law_source : Cal P w K mg base CX0 2 "_law_source" ["script", "k"] [] (spSource K)) (C__law_next : Cal P w K mg base CX0 2 "_law_next" ["source", "many"] [] spDraw)
    (C__law_rows : Cal P w K mg base CX0 3 "_law_rows" ["source", "span", "many"] [] spRows) (C__law_worse : Cal P w K mg base CX0 3 "_law_worse" ["source", "rows"] [] spWorse)
    (C_with_looks : Cal P w K mg base (L2.CX P w) 5 "with_looks" ["log", "looks"] [] (spWithLooks CC CL)) (C_shortest : Cal P w K mg base (L2.CX P w) 5 "shortest" ["width", "log"] [] (spShort CW CC))
    (F_with_looks : FunAt K mg "with_looks" s_with_looks) (F_shortest : FunAt K mg "shortest" s_shortest) :
    FnG P w K mg base CX0 8 f (PySem.W.fnOf "law" "law" (defArgs s_law) (defBody s_law) (defScope s_law) .none kV doc pm an (.ref cl0) ct) ["script"] (spLaw K Pt) := by
  refine fnG_mk lk hcd sc_law (by rintro _ _ _ _ ⟨_, _, rfl, _⟩; rfl) fun A outer s H vs Q E hf hr h => ?_
  obtain ⟨a, ns, rfl, hs, ln, hP, q⟩ := h
  have nd := sc_law.nd
  have hu := hr.units
  suffices hh : ∃ t, PSs (cxOf CX0 P w K mg base nLaw "law" (defScope s_law) f (.ref cl0) A outer s H E).nox (defBody s_law) t ∧
      t { nx := fun _ H' => Q .non H', rt := Q } (start nLaw [.ref a]) H by
    obtain ⟨t, ht, z⟩ := hh
    exact ⟨t, ht.nox, z⟩
  have mT : (Pt, qLam) ∈ TT Pt := List.mem_singleton.mpr rfl
  have uT : ∀ p ∈ TT Pt, p.1 = Pt → p.2 = qLam := fun p hp _ => by rw [List.mem_singleton.mp hp]
  have F1 : LamF (cxOf CX0 P w K mg base nLaw "law" (defScope s_law) f (.ref cl0) A outer s H E).nox 5 (lamP lamX1) (lamE lamX1) (lamS lamX1) [] [] (tb1 CC CL) :=
    ⟨lamD_by (N := nLaw) (sc := defScope s_law) (ps := []) (by decide +kernel), lamB_0_0, rfl, fun A1 o1 s1 H1 E1 f1 c1 hq => pe_c C_with_looks (hq.mono (by decide)) (by rfl) (passes_call (takes_of rfl rfl rfl rfl) (fun _ _ _ _ h => h)) (pa_cons (pv 6) (pa_cons pe_non pa_nil))⟩
  have F2 : LamF (cxOf CX0 P w K mg base nLaw "law" (defScope s_law) f (.ref cl0) A outer s H E).nox 5 (lamP lamX2) (lamE lamX2) (lamS lamX2) ["of"] [.int 0] (tb2 CW CC) :=
    ⟨lamD_by (N := nLaw) (sc := defScope s_law) (ps := ["of"]) (by decide +kernel), lamB_1_1, rfl, fun A1 o1 s1 H1 E1 f1 c1 hq => pe_c C_shortest (hq.mono (by decide)) (by rfl) (passes_call (takes_of rfl rfl rfl rfl) (fun _ _ _ _ h => h)) (pa_cons pe_int (pa_cons (pv 6) pa_nil))⟩
  have F3 : LamF (cxOf CX0 P w K mg base nLaw "law" (defScope s_law) f (.ref cl0) A outer s H E).nox 5 (lamP lamX3) (lamE lamX3) (lamS lamX3) [] [] (tb3 CC CL) :=
    ⟨lamD_by (N := nLaw) (sc := defScope s_law) (ps := []) (by decide +kernel), lamB_0_0, rfl, fun A1 o1 s1 H1 E1 f1 c1 hq => pe_cN (g := sw) (gV := sw) (ks := ["looks", "log"]) C_with_looks F_with_looks sw_vals (fun _ _ _ _ _ _ ws hl => match ws, hl with | [_, _], _ => rfl) (hq.mono (by decide)) (by rfl) (passes_call (takes_of rfl rfl rfl rfl) (fun _ _ _ _ h => h)) (pk_cons (pe_lst (pa_cons pe_int (pa_cons pe_int pa_nil))) (pk_cons (pv 6) pk_nil))⟩
  have F4 : LamF (cxOf CX0 P w K mg base nLaw "law" (defScope s_law) f (.ref cl0) A outer s H E).nox 5 (lamP lamX4) (lamE lamX4) (lamS lamX4) [] [] (tb4 CC CL) :=
    ⟨lamD_by (N := nLaw) (sc := defScope s_law) (ps := []) (by decide +kernel), lamB_0_0, rfl, fun A1 o1 s1 H1 E1 f1 c1 hq => pe_c C_with_looks (hq.mono (by decide)) (by rfl) (passes_call (takes_of rfl rfl rfl rfl) (fun _ _ _ _ h => h)) (pa_cons (pv 5) (pa_cons (pe_lst (pa_cons pe_int (pa_cons pe_int pa_nil))) pa_nil))⟩
  have F5 : LamF (cxOf CX0 P w K mg base nLaw "law" (defScope s_law) f (.ref cl0) A outer s H E).nox 5 (lamP lamX5) (lamE lamX5) (lamS lamX5) ["of"] [.int 0] (tb5 CW CC) :=
    ⟨lamD_by (N := nLaw) (sc := defScope s_law) (ps := ["of"]) (by decide +kernel), lamB_1_1, rfl, fun A1 o1 s1 H1 E1 f1 c1 hq => pe_c C_shortest (hq.mono (by decide)) (by rfl) (passes_call (takes_of rfl rfl rfl rfl) (fun _ _ _ _ h => h)) (pa_cons pe_int (pa_cons (pv 5) pa_nil))⟩
  refine ⟨_, (pss_cons (ps_for PassesOwn.never rfl (pi_range1 (by rfl) G.range (pa_cons (pe_callB (call_max2 rfl) (by rfl) G.max (by decide +kernel) (pa_cons pe_int (pa_cons (pe_callB (call_min2 rfl) (by rfl) G.min (by decide +kernel) (pa_cons pe_int (pa_cons (pe_callB call_len_seq (by rfl) G.len (by decide +kernel) (pa_cons (pv 0) pa_nil)) pa_nil))) pa_nil))) pa_nil)) (pg_name (i := 1) nd rfl (.inl rfl))
      (pss_cons (ps_set (i := 2) nd rfl (.inl rfl) (pe_c C__law_source (hr.mono (by decide)) (by rfl) pass0 (pa_cons (pv 0) (pa_cons (pv 1) pa_nil))))
      (pss_cons (ps_set (i := 3) nd rfl (.inr rfl) (pe_c C__law_rows (hr.mono (by decide)) (by rfl) pass0 (pa_cons (pv 2) (pa_cons pe_int (pa_cons (pe_c C__law_next (hr.mono (by decide)) (by rfl) pass0 (pa_cons (pv 2) (pa_cons pe_int pa_nil))) pa_nil)))))
      (pss_cons (ps_for PassesOwn.never rfl (pi_range1 (by rfl) G.range (pa_cons pe_int pa_nil)) (pg_name (i := 4) nd rfl (.inl rfl))
        (pss_cons (ps_set (i := 6) nd rfl (.inr rfl) (pe_c C__law_worse (hr.mono (by decide)) (by rfl) pass0 (pa_cons (pv 2) (pa_cons (pv 3) pa_nil))))
        (pss_cons (ps_set (i := 7) nd rfl (.inl rfl) (pe_callB (call_repr hf hu) (by rfl) G.repr (by decide +kernel) (pa_cons (pv 6) pa_nil)))
        (pss_cons (ps_set (i := 8) nd rfl (.inl rfl) (pe_lst (pa_cons (pe_lamW TB rfl mT uT (dflEv_none rfl rfl) (lamD_by (N := ["script", "index", "source", "rows", "turn", "odd", "worse", "kept", "asks", "ask"]) (sc := defScope s_law) (ps := []) (by decide +kernel))) (pa_cons (pe_lamW TB rfl mT uT (dflEv_int rfl rfl) (lamD_by (N := ["script", "index", "source", "rows", "turn", "odd", "worse", "kept", "asks", "ask"]) (sc := defScope s_law) (ps := ["of"]) (by decide +kernel))) pa_nil))))
        (pss_cons (ps_expr (pe_bm PySem.F.plainAttrs_list PySem.F.slot_list_append PySem.F.type_list_append mt_append (pv 8) (pa_cons (pe_lamW TB rfl mT uT (dflEv_none rfl rfl) (lamD_by (N := ["script", "index", "source", "rows", "turn", "odd", "worse", "kept", "asks", "ask"]) (sc := defScope s_law) (ps := []) (by decide +kernel))) pa_nil)))
        (pss_cons (ps_if (PW.pt (pw_or (pt_cmpR (op_neD hu) (pe_lcI (g := gName 9) (tt := tYes) (te := fun σ σB HB Q => ∃ f1, σB[9]? = some (some (.ref f1)) ∧ tWord CC CL CW (tlAll (cxOf CX0 P w K mg base nLaw "law" (defScope s_law) f (.ref cl0) A outer s H E).nox CC CL CW σ f1) HB Q) rfl nd (pi_list (pv 8)) (blkOk_by (own := [("ask", 9)]) (N := nLaw) (sc := defScope s_law) (by decide +kernel)) (fun _ _ _ _ _ => pg_name (i := 9) nd rfl (.inl rfl) (Or.inr rfl)) (fun _ _ _ _ _ => pts_nil) (fun pins σ s1 H1 C cl fp I out => pe_wordB (tl := fun f1 => tlAll _ CC CL CW σ f1) W G EK (fun f1 s2 H2 U => have o' := fun y c e m => out c m y c e rfl; ((((acts_lam F1 I U o' f1).or (acts_lam F2 I U o' f1)).or (acts_lam F3 I U o' f1)).or (acts_lam F4 I U o' f1)).or (acts_lam F5 I U o' f1)) (fun f1 s2 H2 ok h => tlAll_at ok h) (hr.mono (by decide)) rfl (.inl rfl) (by rfl))) (pe_op op_rep (pe_lst (pa_cons pe_str pa_nil)) pe_int) (nomark _)) (pw_or1 (pt_cmpR op_ne (pe_callB (call_repr hf hu) (by rfl) G.repr (by decide +kernel) (pa_cons (pv 6) pa_nil)) (pv 7) (nomark _)))))
          (pss_one (ps_ret pe_bl))
          pss_nil)
        (pss_one (ps_if (pt_cmpR op_ne (pe_wordL (k := 5) W G EK TB rfl mT uT (dflEv_none rfl rfl) ⟨(lamD_by (N := ["script", "index", "source", "rows", "turn", "odd", "worse", "kept", "asks", "ask"]) (sc := defScope s_law) (ps := []) (by decide +kernel)), lamB_0_0, rfl, fun A o s H E f c' hq => (pe_c C_shortest (hq.mono (by decide)) (by rfl) (passes_call (takes_of rfl rfl rfl rfl) (fun _ _ _ _ h => h)) (pa_cons pe_int (pa_cons (pv 6) pa_nil)))⟩ (hr.mono (by decide))) pe_str (nomark _))
          (pss_one (ps_ret pe_bl))
          pss_nil))))))))
      (pss_cons (ps_for PassesOwn.never rfl (pi_list (pe_lst (pa_cons pe_non (pa_cons (pe_callTy (T := "tuple") call_tuple_of (by rfl) G.tuple (by decide +kernel) (pa_cons (pv 3) pa_nil)) (pa_cons pe_dnewK (pa_cons pe_str (pa_cons pe_int (pa_cons pe_bl pa_nil)))))))) (pg_name (i := 5) nd rfl (.inr rfl))
        (pss_cons (ps_set (i := 8) nd rfl (.inl rfl) (pe_lst (pa_cons (pe_lamW TB rfl mT uT (dflEv_none rfl rfl) (lamD_by (N := ["script", "index", "source", "rows", "turn", "odd", "worse", "kept", "asks", "ask"]) (sc := defScope s_law) (ps := []) (by decide +kernel))) (pa_cons (pe_lamW TB rfl mT uT (dflEv_int rfl rfl) (lamD_by (N := ["script", "index", "source", "rows", "turn", "odd", "worse", "kept", "asks", "ask"]) (sc := defScope s_law) (ps := ["of"]) (by decide +kernel))) pa_nil))))
        (pss_one (ps_if (pt_cmpR (op_neD hu) (pe_lcI (g := gName 9) (tt := tYes) (te := fun σ σB HB Q => ∃ f1, σB[9]? = some (some (.ref f1)) ∧ tWord CC CL CW (tlAll (cxOf CX0 P w K mg base nLaw "law" (defScope s_law) f (.ref cl0) A outer s H E).nox CC CL CW σ f1) HB Q) rfl nd (pi_list (pv 8)) (blkOk_by (own := [("ask", 9)]) (N := nLaw) (sc := defScope s_law) (by decide +kernel)) (fun _ _ _ _ _ => pg_name (i := 9) nd rfl (.inl rfl) (Or.inr rfl)) (fun _ _ _ _ _ => pts_nil) (fun pins σ s1 H1 C cl fp I out => pe_wordB (tl := fun f1 => tlAll _ CC CL CW σ f1) W G EK (fun f1 s2 H2 U => have o' := fun y c e m => out c m y c e rfl; ((((acts_lam F1 I U o' f1).or (acts_lam F2 I U o' f1)).or (acts_lam F3 I U o' f1)).or (acts_lam F4 I U o' f1)).or (acts_lam F5 I U o' f1)) (fun f1 s2 H2 ok h => tlAll_at ok h) (hr.mono (by decide)) rfl (.inl rfl) (by rfl))) (pe_op op_rep (pe_lst (pa_cons pe_str pa_nil)) pe_int) (nomark _))
          (pss_one (ps_ret pe_bl))
          pss_nil))))
      (pss_cons (ps_for PassesOwn.never rfl (pi_list (pe_lst (pa_cons pe_non (pa_cons (pe_tup (pa_cons pe_int (pa_cons pe_int pa_nil))) (pa_cons pe_dnewK (pa_cons pe_int (pa_cons (pe_lst (pa_cons pe_bl pa_nil)) (pa_cons (pe_lst (pa_cons pe_int (pa_cons pe_int pa_nil))) (pa_cons (pe_lst (pa_cons (pe_un un_neg pe_int) pa_nil)) (pa_cons (pe_lst (pa_cons pe_str pa_nil)) (pa_cons (pe_lst (pa_cons pe_non pa_nil)) (pa_cons (pe_lst (pa_cons (pe_lst pa_nil) pa_nil)) (pa_cons (pe_lst (pa_cons pe_int (pa_cons pe_int (pa_cons pe_int pa_nil)))) pa_nil))))))))))))) (pg_name (i := 5) nd rfl (.inr rfl))
        (pss_one (ps_if (pt_cmpR op_ne (pe_wordL (k := 5) W G EK TB rfl mT uT (dflEv_none rfl rfl) ⟨(lamD_by (N := ["script", "index", "source", "rows", "turn", "odd", "worse", "kept", "asks", "ask"]) (sc := defScope s_law) (ps := []) (by decide +kernel)), lamB_0_0, rfl, fun A o s H E f c' hq => (pe_c C_with_looks (hq.mono (by decide)) (by rfl) (passes_call (takes_of rfl rfl rfl rfl) (fun _ _ _ _ h => h)) (pa_cons (pv 3) (pa_cons (pv 5) pa_nil)))⟩ (hr.mono (by decide))) pe_str (nomark _))
          (pss_one (ps_ret pe_bl))
          pss_nil)))
      (pss_cons (ps_for PassesOwn.never rfl (pi_list (pe_lst (pa_cons pe_int (pa_cons pe_int (pa_cons (pe_un un_neg pe_int) (pa_cons pe_bl (pa_cons pe_non (pa_cons pe_str (pa_cons (pe_lst (pa_cons pe_int pa_nil)) (pa_cons pe_dnewK (pa_cons (pe_op op_pow pe_int pe_int) pa_nil))))))))))) (pg_name (i := 5) nd rfl (.inr rfl))
        (pss_cons (ps_if (pt_cmpR op_ne (pe_wordL (k := 5) W G EK TB rfl mT uT (dflEv_none rfl rfl) ⟨(lamD_by (N := ["script", "index", "source", "rows", "turn", "odd", "worse", "kept", "asks", "ask"]) (sc := defScope s_law) (ps := []) (by decide +kernel)), lamB_0_0, rfl, fun A o s H E f c' hq => (pe_c C_shortest (hq.mono (by decide)) (by rfl) (passes_call (takes_of rfl rfl rfl rfl) (fun _ _ _ _ h => h)) (pa_cons (pv 5) (pa_cons pe_non pa_nil)))⟩ (hr.mono (by decide))) pe_str (nomark _))
          (pss_one (ps_ret pe_bl))
          pss_nil)
        (pss_one (ps_if (pt_cmpR op_ne (pe_wordL (k := 5) W G EK TB rfl mT uT (dflEv_none rfl rfl) ⟨(lamD_by (N := ["script", "index", "source", "rows", "turn", "odd", "worse", "kept", "asks", "ask"]) (sc := defScope s_law) (ps := []) (by decide +kernel)), lamB_0_0, rfl, fun A o s H E f c' hq => (pe_cN (g := sw) (gV := sw) (ks := ["log", "width"]) C_shortest F_shortest sw_vals (fun _ _ _ _ _ _ ws hl => match ws, hl with | [_, _], _ => rfl) (hq.mono (by decide)) (by rfl) (passes_call (takes_of rfl rfl rfl rfl) (fun _ _ _ _ h => h)) (pk_cons (pv 3) (pk_cons (pv 5) pk_nil)))⟩ (hr.mono (by decide))) pe_str (nomark _))
          (pss_one (ps_ret pe_bl))
          pss_nil))))
      (pss_cons (ps_if (pt_cmpR op_ne (pe_wordL (k := 5) W G EK TB rfl mT uT (dflEv_none rfl rfl) ⟨(lamD_by (N := ["script", "index", "source", "rows", "turn", "odd", "worse", "kept", "asks", "ask"]) (sc := defScope s_law) (ps := []) (by decide +kernel)), lamB_0_0, rfl, fun A o s H E f c' hq => (pe_cN (g := idL) (gV := idL) (ks := ["width", "log"]) C_shortest F_shortest (fun h => h) (fun _ _ _ _ _ _ ws hl => match ws, hl with | [_, _], _ => rfl) (hq.mono (by decide)) (by rfl) (passes_call (takes_of rfl rfl rfl rfl) (fun _ _ _ _ h => h)) (pk_cons pe_int (pk_cons (pv 3) pk_nil)))⟩ (hr.mono (by decide))) pe_str (nomark _))
        (pss_one (ps_ret pe_bl))
        pss_nil)
      (pss_one (ps_if (pt_cmpR op_ne (pe_wordL (k := 5) W G EK TB rfl mT uT (dflEv_none rfl rfl) ⟨(lamD_by (N := ["script", "index", "source", "rows", "turn", "odd", "worse", "kept", "asks", "ask"]) (sc := defScope s_law) (ps := []) (by decide +kernel)), lamB_0_0, rfl, fun A o s H E f c' hq => (pe_c C_with_looks (hq.mono (by decide)) (by rfl) (passes_call (takes_of rfl rfl rfl rfl) (fun _ _ _ _ h => h)) (pa_cons (pv 3) (pa_cons (pe_lst pa_nil) pa_nil)))⟩ (hr.mono (by decide))) pe_str (nomark _))
        (pss_one (ps_ret pe_bl))
        pss_nil))))))))))
    (pss_one (ps_ret pe_bl))), ?_⟩
  obtain ⟨m, em, m0, m1⟩ : ∃ m : Nat, (if (if ((ns.map V.int).length : Int) < 4 then ((ns.map V.int).length : Int) else 4) > 1 then (if ((ns.map V.int).length : Int) < 4 then ((ns.map V.int).length : Int) else 4) else 1) = (m : Int) ∧ 1 ≤ m ∧ m ≤ 4 := by
    refine ⟨(if (if ((ns.map V.int).length : Int) < 4 then ((ns.map V.int).length : Int) else 4) > 1 then (if ((ns.map V.int).length : Int) < 4 then ((ns.map V.int).length : Int) else 4) else 1).toNat, ?_, ?_, ?_⟩ <;> (split <;> split <;> omega)
  refine ⟨_, rfl, a, _, rfl, .inl hs, _, _, rfl, _, _, rfl, _, rfl, ?_⟩
  rw [em]
  refine ⟨by omega, by omega, ?_⟩
  refine for_range (lo := 0) (n := m) (fun i σ H' => ∃ s1 s2 s3 s4 s5 s6 s7 s8 s9, σ = [some (V.ref a), s1, s2, s3, s4, s5, s6, s7, s8, s9] ∧ LamX.ExtN H H' ∧ LamX.Tabs (TT Pt) H') ⟨_, _, _, _, _, _, _, _, _, rfl, LamX.ExtN.refl _, fun p hp => by rw [List.mem_singleton.mp hp]; exact LamX.TabS.nil hP⟩ ?_ ?_
  · rintro i σ Ha hi ⟨s1, s2, s3, s4, s5, s6, s7, s8, s9, rfl, exa, tba⟩
    refine ⟨_, rfl, _, rfl, a, i, ns, by simp, sqL_ext exa hs, fun S Hb ns0 hsb frb => ?_⟩
    have tbb := tba.ext frb.same
    refine ⟨_, rfl, _, rfl, S, _, _, _, 9, rfl, hsb, by decide, by decide, fun d1 x1 z1 Hc d10 d11 src1 frc => ?_⟩
    obtain ⟨j1, rfl⟩ : ∃ j : Nat, d1 = j := ⟨d1.toNat, by omega⟩
    refine ⟨S, x1, _, z1, 9, j1, rfl, src1, by decide, by decide, by omega, fun R xs rs Hd1 nR neR hR ⟨x2, z2, src2⟩ frd pr good mk len => ?_⟩
    have lx1 : LX (TT Pt) S (srcOf ns i) Hb Hd1 := (LX.draw frc ⟨_, _, src1⟩).trans (LX.draw frd ⟨_, _, src2⟩)
    have RL1 : RowsL S R xs rs Hd1 := ⟨by rw [Hd_of (by simpa using neR)]; exact hR, pr⟩
    have srcB : ∃ x z, Hb S = some (srcO x (srcOf ns i) z) := ⟨_, _, hsb⟩
    clear src2 src1 frc frd hR pr nR neR
    -- for turn in range(8)
    refine ⟨8, rfl, by decide, by decide, ?_⟩
    refine for_range (lo := 0) (n := 8) (fun _ σ H' => ∃ s4 s5 s6 s7 s8 s9, σ = [some (V.ref a), some (V.int (0 + (i : Int))), some (V.ref S), some (V.ref R), s4, s5, s6, s7, s8, s9] ∧ LX (TT Pt) S (srcOf ns i) Hb H' ∧ RowsL S R xs rs H') ⟨_, _, _, _, _, _, rfl, lx1, RL1⟩ ?_ ?_
    · rintro turn σ He _ ⟨s4, s5, s6, s7, s8, s9, rfl, lxe, RLe⟩
      obtain ⟨x3, z3, src3⟩ := lxe.src srcB
      refine ⟨_, rfl, _, rfl, S, R, x3, _, z3, xs, rs, rfl, src3, RLe.at good len, fun wa Hf nw nws srcF frf bad => ?_⟩
      have lxf := lxe.trans (LX.draw frf srcF)
      have RLf := RLe.lx (LX.draw (T := TT Pt) frf srcF)
      obtain ⟨dw, ddw, smw⟩ := bad.data
      refine ⟨_, rfl, ?_⟩
      dsimp only [L2.tNil]
      refine rep_at (ddw.same Hd_same) smw ?_
      -- asks
      have tbf := lxf.tabs srcB tbb
      refine ⟨tbf, fun g1 c1 H1 x1' T1 M1 => ⟨T1, fun g2 c2 H2 x2' T2 M2 => ⟨(by show 2 ≤ sizeLine; decide), fun la nla => ?_⟩⟩⟩
      have M1 := M1.keep x2'
      have x12 := x1'.trans x2'
      have f3 := Fr.new (M := []) (o := .lst [V.ref g1, V.ref g2]) nla
      refine ⟨_, rfl, .inl ⟨rfl, _, SqL.of upd_same⟩, T2.ext f3.same, fun g3 c3 H3 x3' T3 M3 => ?_⟩
      have hla3 := x3' _ _ (upd_same (H := H2) (a := la) (o := .lst [V.ref g1, V.ref g2])) (fun _ z => by cases z)
      have M1 := ((M1.keep (.of f3.same)).keep x3').set (ys := [V.ref g1, V.ref g2, V.ref g3]) hla3
      have M2 := ((M2.keep (.of f3.same)).keep x3').set (ys := [V.ref g1, V.ref g2, V.ref g3]) hla3
      have M3 := M3.set (ys := [V.ref g1, V.ref g2, V.ref g3]) hla3
      have T4 := tabs_upd (ys := [V.ref g1, V.ref g2, V.ref g3]) T3 hla3
      have x4 : LamX.ExtN Hf (upd H3 la (.lst [V.ref g1, V.ref g2, V.ref g3])) := fun b o e n => by
        have e2 := x12 b o e n
        rw [upd_ne (ne_of_none e2 nla)]
        exact x3' _ _ (f3.same _ _ e2) n
      refine ⟨la, _, _, rfl, rfl, hla3, (by show 2 < sizeLine; decide), ?_⟩
      have hla4 : upd H3 la (.lst [V.ref g1, V.ref g2, V.ref g3]) la = some (.lst [V.ref g1, V.ref g2, V.ref g3]) := upd_same
      have es : ([V.ref g1, V.ref g2] ++ [V.ref g3]) = [V.ref g1, V.ref g2, V.ref g3] := rfl
      rw [es]
      clear x1' x2' x3' T1 T2 T3 f3 hla3 nla x12
      generalize upd H3 la (.lst [V.ref g1, V.ref g2, V.ref g3]) = H4 at M1 M2 M3 T4 x4 hla4 ⊢
      dsimp only [L2.tSeq, L2.tIfS, L2.tOr, L2.tTest]
      unfold L2.tOp
      have lx4 : LX (TT Pt) S (srcOf ns i) Hf H4 := .made x4 T4
      refine ev_asks (fs := [g1, g2, g3]) rfl (by show 9 < 10; decide) hla4 (by show 3 ≤ 10; decide) (fun g hg H5 fr5 Q' q' => ?_) fun D H5 nD hD5 fr5 => ?_
      · have b5 := ((bad.ext lx4.ext).same Hd_same).same fr5.same
        rcases List.mem_cons.mp hg with rfl | hg
        · exact wd1 (M1.keep (.of fr5.same)) rfl b5 q'
        · rcases List.mem_cons.mp hg with rfl | hg
          · exact wd2 (M2.keep (.of fr5.same)) rfl b5 q'
          · obtain rfl := List.mem_singleton.mp hg
            exact wd3 (M3.keep (.of fr5.same)) rfl b5 q'
      · refine ⟨(by show 1 ≤ sizeLine; decide), fun p1 np1 => ⟨p1, 3, _, rfl, rfl, upd_same, by decide, by decide, (by show 3 ≤ sizeLine; decide), fun p2 np2 => ?_⟩⟩
        have fr6 := Fr.new (M := []) (o := .lst [V.str "call"]) np1
        have fr7 := Fr.new (M := []) (o := .lst (List.replicate (3 : Int).toNat [V.str "call"]).flatten) np2
        have fr57 := fr5.trans (fr6.trans fr7)
        have dD := (fr6.trans fr7).same _ _ hD5
        have lx7 := lxf.trans (lx4.trans (LX.fr fr57))
        have ddw7 := (((ddw.ext lx4.ext).same Hd_same).same fr57.same)
        have RL7 := (RLf.lx lx4).lx (LX.fr (T := TT Pt) (a := S) (y := srcOf ns i) fr57)
        have bad7 := ((bad.ext lx4.ext).same Hd_same).same fr57.same
        have d2 : upd (upd H5 p1 (.lst [V.str "call"])) p2 (.lst (List.replicate (3 : Int).toNat [V.str "call"]).flatten) p2 = _ := upd_same
        refine ⟨.list [.str "call", .str "call", .str "call"], .list [.str "call", .str "call", .str "call"], (Dd.lst dD (DdAll.strs ["call", "call", "call"])).dp, (Dd.lst d2 (DdAll.strs ["call", "call", "call"])).dp, by decide +kernel, by decide +kernel, _, rfl, ifF (by decide +kernel) ?_⟩
        generalize upd (upd H5 p1 (.lst [V.str "call"])) p2 (.lst (List.replicate (3 : Int).toNat [V.str "call"]).flatten) = H7 at lx7 ddw7 RL7 bad7 ⊢
        clear d2 dD fr5 fr6 fr7 fr57 lx4 M1 M2 M3 T4 x4 hla4
        refine ⟨_, rfl, ?_⟩
        dsimp only [L2.tNil]
        refine rep_at ddw7 smw ⟨_, rfl, rfl, _, rfl, ifF (by simp) ?_⟩
        -- the width goes first
        refine ⟨lx7.tabs srcB tbb, fun H8 e8 T8 => ?_⟩
        have lx8 := lx7.trans (.made e8 T8)
        have bad8 := bad7.ext e8
        have RL8 := RL7.lx (.made (T := TT Pt) (a := S) (y := srcOf ns i) e8 T8)
        obtain ⟨_, o8, _, lr8, _⟩ := bad8.ex
        refine ⟨_, rfl, .int 0, "int", .ref wa, o8, rfl, .int 0, lr8, fun _ H9 fr9 => ⟨"width", ⟨rfl, .inr (.inr ⟨rfl, rfl⟩)⟩, fun H10 fr10 => ⟨rfl, _, rfl, ifF (by decide) ?_⟩⟩, fun z => nomatch z⟩
        exact ⟨_, _, _, _, _, _, rfl, lx8.trans (.fr (fr9.trans fr10)), RL8.lx (.fr (T := TT Pt) (a := S) (y := srcOf ns i) (fr9.trans fr10))⟩
    · rintro σ He ⟨s4, s5, s6, s7, s8, s9, rfl, lxe, RLe⟩
      clear RL1 lx1
      obtain ⟨mR, hR⟩ := of_Hd RLe.r
      refine ⟨_, rfl, R, _, rfl, .inl ⟨SqL.of hR, fun tp ntp => ?_⟩⟩
      obtain ⟨x3, z3, src3⟩ := lxe.src srcB
      have ft := Fr.new (M := []) (o := .tup xs) ntp
      refine fun dp ndp => ⟨(by show 6 ≤ sizeLine; decide), fun op nop => ?_⟩
      have fd2 := Fr.new (M := []) (o := .dK []) ndp
      have fo := Fr.new (M := []) (o := .lst [V.non, V.ref tp, V.ref dp, V.str "look 5", V.int 5, V.bl true]) nop
      have ftA := ft.trans (fd2.trans fo)
      have ntS : tp ≠ S := (ne_of_none src3 ntp).symm
      have ndS : dp ≠ S := (ne_of_none (ft.same _ _ src3) ndp).symm
      have noS : op ≠ S := (ne_of_none ((ft.trans fd2).same _ _ src3) nop).symm
      have et := (fd2.trans fo).same tp _ upd_same
      have ed := fo.same dp _ upd_same
      have eo : upd (upd (upd He tp (.tup xs)) dp (.dK [])) op (.lst [V.non, V.ref tp, V.ref dp, V.str "look 5", V.int 5, V.bl true]) op = _ := upd_same
      have lxz := lxe.trans (LX.fr ftA)
      have RLz := RLe.lx (.fr (T := TT Pt) (a := S) (y := srcOf ns i) ftA)
      generalize upd (upd (upd He tp (.tup xs)) dp (.dK [])) op (.lst [V.non, V.ref tp, V.ref dp, V.str "look 5", V.int 5, V.bl true]) = Hz at et ed eo lxz RLz ⊢
      clear ft fd2 fo ftA ntp ndp nop src3 hR mR RLe lxe
      have hdz : ∀ {b : Addr} {o : HO}, Hz b = some o → b ≠ S → Hd [S] Hz b = some o := fun e n => by rw [Hd_of (by simpa using n)]; exact e
      have kinds : ∀ (k : Nat) (v : V), [V.non, V.ref tp, V.ref dp, V.str "look 5", V.int 5, V.bl true][k]? = some v → ∃ t, Kd (Hd [S] Hz) v t ∧ t ≠ "list" := by
        intro k v hv
        match k, hv with
        | 0, hv => cases hv; exact ⟨_, .non, by decide⟩
        | 1, hv => cases hv; exact ⟨_, .tup (hdz et ntS), by decide⟩
        | 2, hv => cases hv; exact ⟨_, .dK (hdz ed ndS), by decide⟩
        | 3, hv => cases hv; exact ⟨_, .str _, by decide⟩
        | 4, hv => cases hv; exact ⟨_, .int _, by decide⟩
        | 5, hv => cases hv; exact ⟨_, .bl _, by decide⟩
        | _ + 6, hv => cases hv
      have eoz := hdz eo noS
      refine ⟨op, rfl, ⟨_, SqL.of eo⟩, ?_⟩
      refine for_list (K := K) (a := op) (xs := [V.non, V.ref tp, V.ref dp, V.str "look 5", V.int 5, V.bl true]) (fun _ σ H' => ∃ s4 s5 s6 s7 s8 s9, σ = [some (V.ref a), some (V.int (0 + (i : Int))), some (V.ref S), some (V.ref R), s4, s5, s6, s7, s8, s9] ∧ LX (TT Pt) S (srcOf ns i) Hb H' ∧ RowsL S R xs rs H' ∧ LX (TT Pt) S (srcOf ns i) Hz H')
        ⟨_, _, _, _, _, _, rfl, lxz, RLz, LX.refl _⟩ (fun k σ H' _ ⟨_, _, _, _, _, _, _, _, _, l⟩ => SqL.of ((Hd_same (M := [S])) _ _ (l.ext _ _ eoz fun _ z => by cases z))) ?_ ?_
      · rintro k v σ H' hv ⟨s4, s5, s6, s7, s8, s9, rfl, lxp, RLp, lzp⟩
        obtain ⟨tv, kv, ntv⟩ := kinds k v hv
        have kvp := kv.ext lzp.ext
        refine ⟨lxp.tabs srcB tbb, fun g1 c1 H1 x1' T1 M1 => ⟨T1, fun g2 c2 H2 x2' T2 M2 => ⟨(by show 2 ≤ sizeLine; decide), fun la nla => ?_⟩⟩⟩
        have f3 := Fr.new (M := []) (o := .lst [V.ref g1, V.ref g2]) nla
        have M1 := (M1.keep x2').keep (.of f3.same)
        have M2 := M2.keep (.of f3.same)
        have x4 := (x1'.trans x2').trans (.of f3.same)
        have T4 := T2.ext f3.same
        have hla4 : upd H2 la (.lst [V.ref g1, V.ref g2]) la = some (.lst [V.ref g1, V.ref g2]) := upd_same
        generalize upd H2 la (.lst [V.ref g1, V.ref g2]) = H4 at M1 M2 T4 x4 hla4 ⊢
        clear f3 T1 T2 x1' x2' nla
        dsimp only [L2.tSeq, L2.tIfS, L2.tOr, L2.tTest, L2.gName, L2.tAsg]
        unfold L2.tOp
        have lx4 : LX (TT Pt) S (srcOf ns i) H' H4 := .made x4 T4
        refine ev_asks (fs := [g1, g2]) rfl (by show 9 < 10; decide) hla4 (by show 2 ≤ 10; decide) (fun g hg H5 fr5 Q' q' => ?_) fun D H5 nD hD5 fr5 => ?_
        · have kv5 := ((kvp.ext lx4.ext).same Hd_same).same fr5.same
          rcases List.mem_cons.mp hg with rfl | hg
          · exact wd4 (M1.keep (.of fr5.same)) rfl kv5 ntv q'
          · obtain rfl := List.mem_singleton.mp hg
            exact wd5 (M2.keep (.of fr5.same)) rfl kv5 ntv q'
        · refine ⟨(by show 1 ≤ sizeLine; decide), fun p1 np1 => ⟨p1, 2, _, rfl, rfl, upd_same, by decide, by decide, (by show 2 ≤ sizeLine; decide), fun p2 np2 => ?_⟩⟩
          have fr6 := Fr.new (M := []) (o := .lst [V.str "call"]) np1
          have fr7 := Fr.new (M := []) (o := .lst (List.replicate (2 : Int).toNat [V.str "call"]).flatten) np2
          have fr57 := fr5.trans (fr6.trans fr7)
          have dD := (fr6.trans fr7).same _ _ hD5
          have d2 : upd (upd H5 p1 (.lst [V.str "call"])) p2 (.lst (List.replicate (2 : Int).toNat [V.str "call"]).flatten) p2 = _ := upd_same
          refine ⟨.list [.str "call", .str "call"], .list [.str "call", .str "call"], (Dd.lst dD (DdAll.strs ["call", "call"])).dp, (Dd.lst d2 (DdAll.strs ["call", "call"])).dp, by decide +kernel, by decide +kernel, _, rfl, ifF (by decide +kernel) ?_⟩
          exact ⟨_, _, _, _, _, _, rfl, (lxp.trans lx4).trans (.fr fr57), (RLp.lx lx4).lx (.fr (T := TT Pt) (a := S) (y := srcOf ns i) fr57), (lzp.trans lx4).trans (.fr fr57)⟩
      · clear kinds eoz hdz et ed eo lxz RLz
        rintro σ He ⟨s4, s5, s6, s7, s8, s9, rfl, lxe, RLe, _⟩
        obtain ⟨x3, z3, src3⟩ := lxe.src srcB
        refine ⟨(by show 2 ≤ sizeLine; decide), fun u1 nu1 => ?_⟩
        have fu1 := Fr.new (M := []) (o := .tup [V.int 0, V.int 1]) nu1
        refine fun u2 nu2 => ?_
        have fu2 := Fr.new (M := []) (o := .dK []) nu2
        refine ⟨(by show 1 ≤ sizeLine; decide), fun u3 nu3 => ?_⟩
        have fu3 := Fr.new (M := []) (o := .lst [V.bl true]) nu3
        refine ⟨(by show 2 ≤ sizeLine; decide), fun u4 nu4 => ?_⟩
        have fu4 := Fr.new (M := []) (o := .lst [V.int 1, V.int 0]) nu4
        refine ⟨_, rfl, (by show 1 ≤ sizeLine; decide), fun u5 nu5 => ?_⟩
        have fu5 := Fr.new (M := []) (o := .lst [V.int (-1)]) nu5
        refine ⟨(by show 1 ≤ sizeLine; decide), fun u6 nu6 => ?_⟩
        have fu6 := Fr.new (M := []) (o := .lst [V.str "1"]) nu6
        refine ⟨(by show 1 ≤ sizeLine; decide), fun u7 nu7 => ?_⟩
        have fu7 := Fr.new (M := []) (o := .lst [V.non]) nu7
        refine ⟨(by show 0 ≤ sizeLine; decide), fun u8 nu8 => ?_⟩
        have fu8 := Fr.new (M := []) (o := .lst []) nu8
        refine ⟨(by show 1 ≤ sizeLine; decide), fun u9 nu9 => ?_⟩
        have fu9 := Fr.new (M := []) (o := .lst [V.ref u8]) nu9
        refine ⟨(by show 3 ≤ sizeLine; decide), fun u10 nu10 => ?_⟩
        have fu10 := Fr.new (M := []) (o := .lst [V.int 0, V.int 2, V.int 1]) nu10
        refine ⟨(by show 11 ≤ sizeLine; decide), fun u11 nu11 => ?_⟩
        have fu11 := Fr.new (M := []) (o := .lst [V.non, V.ref u1, V.ref u2, V.int 5, V.ref u3, V.ref u4, V.ref u5, V.ref u6, V.ref u7, V.ref u9, V.ref u10]) nu11
        have ftA := fu1.trans (fu2.trans (fu3.trans (fu4.trans (fu5.trans (fu6.trans (fu7.trans (fu8.trans (fu9.trans (fu10.trans fu11)))))))))
        have su1 : u1 ≠ S := (ne_of_none src3 nu1).symm
        have su2 : u2 ≠ S := (ne_of_none ((fu1).same _ _ src3) nu2).symm
        have su3 : u3 ≠ S := (ne_of_none ((fu1.trans fu2).same _ _ src3) nu3).symm
        have su4 : u4 ≠ S := (ne_of_none ((fu1.trans (fu2.trans fu3)).same _ _ src3) nu4).symm
        have su5 : u5 ≠ S := (ne_of_none ((fu1.trans (fu2.trans (fu3.trans fu4))).same _ _ src3) nu5).symm
        have su6 : u6 ≠ S := (ne_of_none ((fu1.trans (fu2.trans (fu3.trans (fu4.trans fu5)))).same _ _ src3) nu6).symm
        have su7 : u7 ≠ S := (ne_of_none ((fu1.trans (fu2.trans (fu3.trans (fu4.trans (fu5.trans fu6))))).same _ _ src3) nu7).symm
        have su8 : u8 ≠ S := (ne_of_none ((fu1.trans (fu2.trans (fu3.trans (fu4.trans (fu5.trans (fu6.trans fu7)))))).same _ _ src3) nu8).symm
        have su9 : u9 ≠ S := (ne_of_none ((fu1.trans (fu2.trans (fu3.trans (fu4.trans (fu5.trans (fu6.trans (fu7.trans fu8))))))).same _ _ src3) nu9).symm
        have su10 : u10 ≠ S := (ne_of_none ((fu1.trans (fu2.trans (fu3.trans (fu4.trans (fu5.trans (fu6.trans (fu7.trans (fu8.trans fu9)))))))).same _ _ src3) nu10).symm
        have su11 : u11 ≠ S := (ne_of_none ((fu1.trans (fu2.trans (fu3.trans (fu4.trans (fu5.trans (fu6.trans (fu7.trans (fu8.trans (fu9.trans fu10))))))))).same _ _ src3) nu11).symm
        have eu1 := (fu2.trans (fu3.trans (fu4.trans (fu5.trans (fu6.trans (fu7.trans (fu8.trans (fu9.trans (fu10.trans fu11))))))))).same u1 _ upd_same
        have eu2 := (fu3.trans (fu4.trans (fu5.trans (fu6.trans (fu7.trans (fu8.trans (fu9.trans (fu10.trans fu11)))))))).same u2 _ upd_same
        have eu3 := (fu4.trans (fu5.trans (fu6.trans (fu7.trans (fu8.trans (fu9.trans (fu10.trans fu11))))))).same u3 _ upd_same
        have eu4 := (fu5.trans (fu6.trans (fu7.trans (fu8.trans (fu9.trans (fu10.trans fu11)))))).same u4 _ upd_same
        have eu5 := (fu6.trans (fu7.trans (fu8.trans (fu9.trans (fu10.trans fu11))))).same u5 _ upd_same
        have eu6 := (fu7.trans (fu8.trans (fu9.trans (fu10.trans fu11)))).same u6 _ upd_same
        have eu7 := (fu8.trans (fu9.trans (fu10.trans fu11))).same u7 _ upd_same
        have eu8 := (fu9.trans (fu10.trans fu11)).same u8 _ upd_same
        have eu9 := (fu10.trans fu11).same u9 _ upd_same
        have eu10 := (fu11).same u10 _ upd_same
        have eu11 : upd (upd (upd (upd (upd (upd (upd (upd (upd (upd (upd He u1 (.tup [V.int 0, V.int 1])) u2 (.dK [])) u3 (.lst [V.bl true])) u4 (.lst [V.int 1, V.int 0])) u5 (.lst [V.int (-1)])) u6 (.lst [V.str "1"])) u7 (.lst [V.non])) u8 (.lst [])) u9 (.lst [V.ref u8])) u10 (.lst [V.int 0, V.int 2, V.int 1])) u11 (.lst [V.non, V.ref u1, V.ref u2, V.int 5, V.ref u3, V.ref u4, V.ref u5, V.ref u6, V.ref u7, V.ref u9, V.ref u10]) u11 = _ := upd_same
        have lxz := lxe.trans (LX.fr ftA)
        have RLz := RLe.lx (.fr (T := TT Pt) (a := S) (y := srcOf ns i) ftA)
        generalize upd (upd (upd (upd (upd (upd (upd (upd (upd (upd (upd He u1 (.tup [V.int 0, V.int 1])) u2 (.dK [])) u3 (.lst [V.bl true])) u4 (.lst [V.int 1, V.int 0])) u5 (.lst [V.int (-1)])) u6 (.lst [V.str "1"])) u7 (.lst [V.non])) u8 (.lst [])) u9 (.lst [V.ref u8])) u10 (.lst [V.int 0, V.int 2, V.int 1])) u11 (.lst [V.non, V.ref u1, V.ref u2, V.int 5, V.ref u3, V.ref u4, V.ref u5, V.ref u6, V.ref u7, V.ref u9, V.ref u10]) = Hz at eu1 eu2 eu3 eu4 eu5 eu6 eu7 eu8 eu9 eu10 eu11 lxz RLz ⊢
        clear fu1 fu2 fu3 fu4 fu5 fu6 fu7 fu8 fu9 fu10 fu11 ftA nu1 nu2 nu3 nu4 nu5 nu6 nu7 nu8 nu9 nu10 nu11 src3 RLe lxe
        have hdz : ∀ {b : Addr} {o : HO}, Hz b = some o → b ≠ S → Hd [S] Hz b = some o := fun e n => by rw [Hd_of (by simpa using n)]; exact e
        have m1 : ∀ (v : V) {t : String}, Kd (Hd [S] Hz) v t → ∀ z, z ∈ [v] → ∃ u, Kd (Hd [S] Hz) z u := fun v t k z hz => by obtain rfl := List.mem_singleton.mp hz; exact ⟨t, k⟩
        have kinds : ∀ (k : Nat) (v : V), [V.non, V.ref u1, V.ref u2, V.int 5, V.ref u3, V.ref u4, V.ref u5, V.ref u6, V.ref u7, V.ref u9, V.ref u10][k]? = some v → LooksRs (Hd [S] Hz) v none := by
          intro k v hv
          match k, hv with
          | 0, hv => cases hv; exact .no .non (by decide)
          | 1, hv => cases hv; exact .no (.tup (hdz eu1 su1)) (by decide)
          | 2, hv => cases hv; exact .no (.dK (hdz eu2 su2)) (by decide)
          | 3, hv => cases hv; exact .no (.int _) (by decide)
          | 4, hv => cases hv; exact .bad rfl (hdz eu3 su3) (m1 _ (.bl _)) (by show 1 < sizeLine; decide) rfl
          | 5, hv => cases hv; exact .bad rfl (hdz eu4 su4) (fun z hz => (List.mem_cons.mp hz).elim (fun e => e ▸ ⟨_, .int _⟩) (m1 _ (.int _) z)) (by show 2 < sizeLine; decide) (by decide)
          | 6, hv => cases hv; exact .bad rfl (hdz eu5 su5) (m1 _ (.int _)) (by show 1 < sizeLine; decide) (by decide)
          | 7, hv => cases hv; exact .bad rfl (hdz eu6 su6) (m1 _ (.str _)) (by show 1 < sizeLine; decide) rfl
          | 8, hv => cases hv; exact .bad rfl (hdz eu7 su7) (m1 _ .non) (by show 1 < sizeLine; decide) rfl
          | 9, hv => cases hv; exact .bad rfl (hdz eu9 su9) (m1 _ (.lst (hdz eu8 su8))) (by show 1 < sizeLine; decide) rfl
          | 10, hv => cases hv; exact .bad rfl (hdz eu10 su10) (fun z hz => (List.mem_cons.mp hz).elim (fun e => e ▸ ⟨_, .int _⟩) fun hz => (List.mem_cons.mp hz).elim (fun e => e ▸ ⟨_, .int _⟩) (m1 _ (.int _) z)) (by show 3 < sizeLine; decide) (by decide)
          | _ + 11, hv => cases hv
        have eoz := hdz eu11 su11
        refine ⟨u11, rfl, ⟨_, SqL.of eu11⟩, ?_⟩
        refine for_list (K := K) (a := u11) (xs := [V.non, V.ref u1, V.ref u2, V.int 5, V.ref u3, V.ref u4, V.ref u5, V.ref u6, V.ref u7, V.ref u9, V.ref u10]) (fun _ σ H' => ∃ s4 s5 s6 s7 s8 s9, σ = [some (V.ref a), some (V.int (0 + (i : Int))), some (V.ref S), some (V.ref R), s4, s5, s6, s7, s8, s9] ∧ LX (TT Pt) S (srcOf ns i) Hb H' ∧ RowsL S R xs rs H' ∧ LX (TT Pt) S (srcOf ns i) Hz H')
          ⟨_, _, _, _, _, _, rfl, lxz, RLz, LX.refl _⟩ (fun k σ H' _ ⟨_, _, _, _, _, _, _, _, _, l⟩ => SqL.of ((Hd_same (M := [S])) _ _ (l.ext _ _ eoz fun _ z => by cases z))) ?_ ?_
        · rintro k v σ H' hv ⟨s4, s5, s6, s7, s8, s9, rfl, lxp, RLp, lzp⟩
          have kvp := looksRs_ext lzp.ext (kinds k v hv)
          refine ⟨lxp.tabs srcB tbb, fun H8 e8 T8 => ?_⟩
          have lx8 : LX (TT Pt) S (srcOf ns i) H' H8 := .made e8 T8
          have RL8 := RLp.lx lx8
          refine ⟨_, rfl, _, rfl, .ref R, v, some rs, none, rfl, RL8.log len, looksRs_same Hd_same (looksRs_ext lx8.ext kvp), fun z => (by rw [show okO (some rs) = logOk rs from rfl, mk.ok] at z; cases z), fun rs' e ok => ⟨fun _ H9 fr9 => ⟨"looks", ⟨rfl, .inr (.inl ⟨rfl, rfl⟩)⟩, fun H10 fr10 => ⟨rfl, _, rfl, ifF (by decide) ?_⟩⟩, fun ls e => nomatch e⟩⟩
          exact ⟨_, _, _, _, _, _, rfl, (lxp.trans lx8).trans (.fr (fr9.trans fr10)), RL8.lx (.fr (T := TT Pt) (a := S) (y := srcOf ns i) (fr9.trans fr10)), (lzp.trans lx8).trans (.fr (fr9.trans fr10))⟩
        · clear kinds eoz hdz m1 eu1 eu2 eu3 eu4 eu5 eu6 eu7 eu8 eu9 eu10 eu11 su1 su2 su3 su4 su5 su6 su7 su8 su9 su10 su11 lxz RLz
          rintro σ He ⟨s4, s5, s6, s7, s8, s9, rfl, lxe, RLe, _⟩
          obtain ⟨x3, z3, src3⟩ := lxe.src srcB
          refine ⟨_, rfl, (by show 1 ≤ sizeLine; decide), fun u1 nu1 => ?_⟩
          have fu1 := Fr.new (M := []) (o := .lst [V.int 9]) nu1
          refine fun u2 nu2 => ?_
          have fu2 := Fr.new (M := []) (o := .dK []) nu2
          refine ⟨_, _, rfl, rfl, ⟨by decide, by decide, by decide⟩, (by show 9 ≤ sizeLine; decide), fun u3 nu3 => ?_⟩
          have fu3 := Fr.new (M := []) (o := .lst [V.int 0, V.int 65, V.int (-1), V.bl true, V.non, V.str "9", V.ref u1, V.ref u2, V.int (10 ^ (20 : Int).toNat)]) nu3
          have ftA := fu1.trans (fu2.trans fu3)
          have su1 : u1 ≠ S := (ne_of_none src3 nu1).symm
          have su2 : u2 ≠ S := (ne_of_none ((fu1).same _ _ src3) nu2).symm
          have su3 : u3 ≠ S := (ne_of_none ((fu1.trans fu2).same _ _ src3) nu3).symm
          have eu1 := (fu2.trans fu3).same u1 _ upd_same
          have eu2 := (fu3).same u2 _ upd_same
          have eu3 : upd (upd (upd He u1 (.lst [V.int 9])) u2 (.dK [])) u3 (.lst [V.int 0, V.int 65, V.int (-1), V.bl true, V.non, V.str "9", V.ref u1, V.ref u2, V.int (10 ^ (20 : Int).toNat)]) u3 = _ := upd_same
          have lxz := lxe.trans (LX.fr ftA)
          have RLz := RLe.lx (.fr (T := TT Pt) (a := S) (y := srcOf ns i) ftA)
          generalize upd (upd (upd He u1 (.lst [V.int 9])) u2 (.dK [])) u3 (.lst [V.int 0, V.int 65, V.int (-1), V.bl true, V.non, V.str "9", V.ref u1, V.ref u2, V.int (10 ^ (20 : Int).toNat)]) = Hz at eu1 eu2 eu3 lxz RLz ⊢
          clear fu1 fu2 fu3 ftA nu1 nu2 nu3 src3 RLe lxe
          have hdz : ∀ {b : Addr} {o : HO}, Hz b = some o → b ≠ S → Hd [S] Hz b = some o := fun e n => by rw [Hd_of (by simpa using n)]; exact e
          have kinds : ∀ (k : Nat) (v : V), [V.int 0, V.int 65, V.int (-1), V.bl true, V.non, V.str "9", V.ref u1, V.ref u2, V.int (10 ^ (20 : Int).toNat)][k]? = some v → okW v = false ∧ ∃ t, Kd (Hd [S] Hz) v t := by
            intro k v hv
            match k, hv with
            | 0, hv => cases hv; exact ⟨by decide, _, .int _⟩
            | 1, hv => cases hv; exact ⟨by decide, _, .int _⟩
            | 2, hv => cases hv; exact ⟨by decide, _, .int _⟩
            | 3, hv => cases hv; exact ⟨rfl, _, .bl _⟩
            | 4, hv => cases hv; exact ⟨rfl, _, .non⟩
            | 5, hv => cases hv; exact ⟨rfl, _, .str _⟩
            | 6, hv => cases hv; exact ⟨rfl, _, .lst (hdz eu1 su1)⟩
            | 7, hv => cases hv; exact ⟨rfl, _, .dK (hdz eu2 su2)⟩
            | 8, hv => cases hv; exact ⟨by decide, _, .int _⟩
            | _ + 9, hv => cases hv
          have eoz := hdz eu3 su3
          refine ⟨u3, rfl, ⟨_, SqL.of eu3⟩, ?_⟩
          refine for_list (K := K) (a := u3) (xs := [V.int 0, V.int 65, V.int (-1), V.bl true, V.non, V.str "9", V.ref u1, V.ref u2, V.int (10 ^ (20 : Int).toNat)]) (fun _ σ H' => ∃ s4 s5 s6 s7 s8 s9, σ = [some (V.ref a), some (V.int (0 + (i : Int))), some (V.ref S), some (V.ref R), s4, s5, s6, s7, s8, s9] ∧ LX (TT Pt) S (srcOf ns i) Hb H' ∧ RowsL S R xs rs H' ∧ LX (TT Pt) S (srcOf ns i) Hz H')
            ⟨_, _, _, _, _, _, rfl, lxz, RLz, LX.refl _⟩ (fun k σ H' _ ⟨_, _, _, _, _, _, _, _, _, l⟩ => SqL.of ((Hd_same (M := [S])) _ _ (l.ext _ _ eoz fun _ z => by cases z))) ?_ ?_
          · rintro k v σ H' hv ⟨s4, s5, s6, s7, s8, s9, rfl, lxp, RLp, lzp⟩
            obtain ⟨nw, tv, kv⟩ := kinds k v hv
            have kvp := kv.ext lzp.ext
            refine ⟨lxp.tabs srcB tbb, fun H8 e8 T8 => ?_⟩
            have lx8 : LX (TT Pt) S (srcOf ns i) H' H8 := .made e8 T8
            refine ⟨_, rfl, v, tv, .non, none, rfl, (kvp.ext lx8.ext).same Hd_same, .bad (.no .non (by decide)), fun _ H9 fr9 => ⟨"width", ⟨rfl, .inr (.inr ⟨rfl, rfl⟩)⟩, fun H10 fr10 => ⟨rfl, _, rfl, ifF (by decide) ?_⟩⟩, fun z => (by rw [nw] at z; cases z)⟩
            have lx10 := (lxp.trans lx8).trans (.fr (fr9.trans fr10))
            have lz10 := (lzp.trans lx8).trans (.fr (fr9.trans fr10))
            have RL10 := (RLp.lx lx8).lx (.fr (T := TT Pt) (a := S) (y := srcOf ns i) (fr9.trans fr10))
            clear lx8 e8 T8 fr9 fr10
            refine ⟨lx10.tabs srcB tbb, fun H11 e11 T11 => ?_⟩
            have lx11 : LX (TT Pt) S (srcOf ns i) H10 H11 := .made e11 T11
            refine ⟨_, rfl, _, rfl, v, tv, .ref R, some rs, rfl, (kv.ext (lz10.trans lx11).ext).same Hd_same, (RL10.lx lx11).log len, fun _ H9 fr9 => ⟨"width", ⟨rfl, .inr (.inr ⟨rfl, rfl⟩)⟩, fun H12 fr12 => ⟨rfl, _, rfl, ifF (by decide) ?_⟩⟩, fun z => (by rw [nw] at z; cases z)⟩
            exact ⟨_, _, _, _, _, _, rfl, (lx10.trans lx11).trans (.fr (fr9.trans fr12)), (RL10.lx lx11).lx (.fr (T := TT Pt) (a := S) (y := srcOf ns i) (fr9.trans fr12)), (lz10.trans lx11).trans (.fr (fr9.trans fr12))⟩
          · clear kinds eoz hdz eu1 eu2 eu3 su1 su2 su3 lxz RLz
            rintro σ He ⟨s4, s5, s6, s7, s8, s9, rfl, lxe, RLe, _⟩
            -- the right ones
            refine ⟨lxe.tabs srcB tbb, fun H8 e8 T8 => ?_⟩
            have lx8 := lxe.trans (.made e8 T8)
            have RL8 := RLe.lx (.made (T := TT Pt) (a := S) (y := srcOf ns i) e8 T8)
            refine ⟨_, rfl, .int 64, "int", .ref R, some rs, rfl, .int 64, RL8.log len, (fun z => nomatch z), fun _ => ⟨fun z => (by rw [show okLg (some rs) = logOk rs from rfl, mk.ok] at z; cases z), fun n rs' e1 e2 _ => ⟨(by cases e2; omega), fun p ys H9 np hp fr9 po ln' => ⟨rfl, _, rfl, ifF (by decide) ?_⟩⟩⟩⟩
            have lx9 := lx8.trans (.fr fr9)
            have RL9 := RL8.lx (.fr (T := TT Pt) (a := S) (y := srcOf ns i) fr9)
            refine ⟨lx9.tabs srcB tbb, fun H10 e10 T10 => ?_⟩
            have lx10 := lx9.trans (.made e10 T10)
            have RL10 := RL9.lx (.made (T := TT Pt) (a := S) (y := srcOf ns i) e10 T10)
            refine ⟨_, rfl, (by show 0 ≤ sizeLine; decide), fun p0 np0 => ?_⟩
            have f0 := Fr.new (M := []) (o := .lst []) np0
            refine ⟨.ref R, .ref p0, some rs, some [], rfl, (RL10.lx (.fr (T := TT Pt) (a := S) (y := srcOf ns i) f0)).log len, .ok (ls := []) rfl upd_same (by decide) rfl, fun z => (by rw [show okO (some rs) = logOk rs from rfl, mk.ok] at z; cases z), fun rs' e ok => ⟨(fun z => nomatch z), fun ls e2 => ⟨fun z => ?_, fun _ p2 ys2 H11 np2 hp2 fr11 po2 => ⟨rfl, _, rfl, ifF (by decide) ?_⟩⟩⟩⟩
            · cases e2
              have e0 : late rs' [] = false := by
                unfold late
                cases rs'.getLast? <;> rfl
              rw [e0] at z
              cases z
            · have lx11 := lx10.trans (.fr (f0.trans fr11))
              refine ⟨_, _, _, _, _, _, _, _, _, rfl, fun b o h n => ?_, lx11.tabs srcB tbb⟩
              have h2 := frb.same _ _ (exa _ _ h n)
              have nb : b ≠ S := ne_of_none (exa _ _ h n) ns0
              have h3 : Hd [S] Hb b = some o := by rw [Hd_of (by simpa using nb)]; exact h2
              exact Hd_same _ _ (lx11.ext _ _ h3 n)
  · rintro σ H' ⟨s1, s2, s3, s4, s5, s6, s7, s8, s9, rfl, _, _⟩
    exact q H'
end
end Tk

set_option Elab.async false
set_option linter.all false
set_option maxRecDepth 100000
set_option maxHeartbeats 4000000
namespace Tk
open PySem PySem.Spec PyProof.Rows L2

/-! ### what the top has written -/
section
variable {K : PySem.W.Frag} {h : Heap} {mg : Str → Option Value} {w : World}
theorem funAt_mk {x : Str} {st : Stmt} {f : Addr} {oc : Value} {od an : Option Addr} {osl : Array (Option Value)} {kV doc pm cdv ct : Value} (X : K.In h) (G : h.Ns mainGlobals mg)
    (a : PySem.W.nsIn K mainGlobals x = some (some (.ref f))) (l : K.lookup f = some ⟨oc, od, .func (PySem.W.fnOf x x (defArgs st) (defBody st) (defScope st) .none kV doc pm an cdv ct), osl⟩)
    (c : PySem.W.codeIn K cdv x = true) (k : PySem.W.keepIn K (.ref f) = true) : FunAt K mg x st := ⟨_, _, PySem.W.mg_of X G a, fun_mk l c k⟩
theorem defAt_mk {x : Str} {st : Stmt} {f T : Addr} {oc o1 : Value} {od an o2 : Option Addr} {osl o3 : Array (Option Value)} {kV doc pm cdv ct : Value} {its : Array Value} {n : Nat} {dvs : List V} (X : K.In h) (G : h.Ns mainGlobals mg)
    (a : PySem.W.nsIn K mainGlobals x = some (some (.ref f))) (l : K.lookup f = some ⟨oc, od, .func (PySem.W.fnOf x x (defArgs st) (defBody st) (defScope st) (.ref T) kV doc pm an cdv ct), osl⟩)
    (c : PySem.W.codeIn K cdv x = true) (k : PySem.W.keepIn K (.ref f) = true) (lT : K.lookup T = some ⟨o1, o2, .seq its n, o3⟩) (rv : Vals dvs its.toList) (ne : dvs ≠ []) : DefAt K mg x st dvs :=
  ⟨_, _, PySem.W.mg_of X G a, ⟨⟨oc, od, _, kV, doc, pm, an, cdv, ct, osl, rfl, l, c, .inr ⟨ne, T, _, its.toList, n, rfl, lT, by simp, rv⟩, .inl rfl⟩, k⟩⟩
theorem ktab_mk {d : Addr} {tab : List (Str × Int)} {es : Array DictEntry} {n : Nat} (l : K.lookup d = some ⟨.type "dict", none, .dict es n, #[]⟩) (e : EntsAre w.params es.toList tab) (z : (d == sysModules) = false) : KTab K w d tab := ⟨⟨es, n, l, e⟩, z⟩
theorem tabs_mk {a b c : Addr} (X : K.In h) (G : h.Ns mainGlobals mg) (ga : PySem.W.nsIn K mainGlobals "SIZES" = some (some (.ref a))) (gb : PySem.W.nsIn K mainGlobals "MORE_SIZES" = some (some (.ref b))) (gc : PySem.W.nsIn K mainGlobals "LAST_SIZES" = some (some (.ref c)))
    (ta : KTab K w a tabA) (tb : KTab K w b tabB) (tc : KTab K w c tabC)   : Tk.Tabs K w mg := ⟨a, b, c, PySem.W.mg_of X G ga, PySem.W.mg_of X G gb, PySem.W.mg_of X G gc, ta, tb, tc⟩
theorem excC_mk {x : Str} {C : Addr} (X : K.In h) (G : h.Ns mainGlobals mg) (g : PySem.W.nsIn K mainGlobals x = some (some (.ref C))) (ex : PySem.W.excIn K C [.type "ValueError", .type "Exception", .type "BaseException", .type "object"] "ValueError.__new__" = true)
    (kp : PySem.W.keepIn K (.ref C) = true) (sub : PySem.W.subIn K (.ref C) (.type "BaseException") = some true) (ty : PySem.W.typeIn K (.ref C) = some (.type "type")) : ∃ C, ExcC K mg x C := ⟨C, PySem.W.mg_of X G g, ex, kp, sub, ty⟩
theorem noGl_mk (X : K.In h) (G : h.Ns mainGlobals mg) (a1 : PySem.W.nsIn K mainGlobals "len" = some none) (a2 : PySem.W.nsIn K mainGlobals "int" = some none) (a3 : PySem.W.nsIn K mainGlobals "range" = some none) (a4 : PySem.W.nsIn K mainGlobals "isinstance" = some none) (a5 : PySem.W.nsIn K mainGlobals "bool" = some none) (a6 : PySem.W.nsIn K mainGlobals "list" = some none) (a7 : PySem.W.nsIn K mainGlobals "tuple" = some none) (a8 : PySem.W.nsIn K mainGlobals "str" = some none) (a9 : PySem.W.nsIn K mainGlobals "all" = some none) (a10 : PySem.W.nsIn K mainGlobals "zip" = some none) (a11 : PySem.W.nsIn K mainGlobals "sorted" = some none)
    (a12 : PySem.W.nsIn K mainGlobals "max" = some none) (a13 : PySem.W.nsIn K mainGlobals "min" = some none) (a14 : PySem.W.nsIn K mainGlobals "repr" = some none) : NoGl mg :=
  ⟨PySem.W.mg_none_of X G a1, PySem.W.mg_none_of X G a2, PySem.W.mg_none_of X G a3, PySem.W.mg_none_of X G a4, PySem.W.mg_none_of X G a5, PySem.W.mg_none_of X G a6, PySem.W.mg_none_of X G a7, PySem.W.mg_none_of X G a8, PySem.W.mg_none_of X G a9,
    PySem.W.mg_none_of X G a10, PySem.W.mg_none_of X G a11, PySem.W.mg_none_of X G a12, PySem.W.mg_none_of X G a13, PySem.W.mg_none_of X G a14⟩
theorem only_mk {ol : Addr} {oc : Option Addr} {its : Array Value} {n : Nat} {sl : Array (Option Value)} (l : K.lookup ol = some ⟨.type "tuple", oc, .seq its n, sl⟩) (z : its.size ≤ sizeLine) (rv : Vals onlyV its.toList) : ∀ H, SqT K H ol onlyV :=
  fun H => .inr ⟨_, its, n, l, rfl, rfl, z, rv⟩
theorem excG_mk {x : Str} {C : Addr} (X : K.In h) (G : h.Ns mainGlobals mg) (g : PySem.W.nsIn K mainGlobals x = some (some (.ref C))) (ex : PySem.W.excIn K C [.type "ValueError", .type "Exception", .type "BaseException", .type "object"] "ValueError.__new__" = true)
    (kp : PySem.W.keepIn K (.ref C) = true) (sub : PySem.W.subIn K (.ref C) (.type "BaseException") = some true) (ty : PySem.W.typeIn K (.ref C) = some (.type "type")) : ExcC K mg x C := ⟨PySem.W.mg_of X G g, ex, kp, sub, ty⟩
theorem errF_mk {C0 D : Addr} {cs : List (Addr × Bool)} (b0 : PySem.W.subIn K (.ref C0) (.type "BaseException") = some true) (d0 : PySem.W.hasDictIn K C0 = true) (t0 : PySem.W.typeIn K (.ref C0) = some (.type "type")) (s0 : PySem.W.subIn K (.ref D) (.ref C0) = some true)
    (h1 : PySem.W.findIn K (.ref D) "__getattribute__" = some (some (.builtin "BaseException.__getattribute__"))) (h2 : PySem.W.findIn K (.ref D) "__getattr__" = some none) (h3 : PySem.W.subIn K (.ref D) (.type "BaseException") = some true) (h4 : PySem.W.hasDictIn K D = true)
    (h5 : PySem.W.findIn K (.ref D) "__class__" = some (some (.builtin "object.__class__"))) (h6 : PySem.W.specialIn K (.builtin "object.__class__") "__get__" = some (some (.builtin "getset_descriptor.__get__"))) (h7 : PySem.W.takesIn K (.builtin "object.__class__") = some true)
    (h8 : PySem.W.mroIn K D (.type "object") = some true) (kit : ∀ p ∈ cs, PySem.W.kitOne K (.ref D) (.ref p.1) = some p.2) : ErrF K C0 D cs := ⟨PySem.W.exm_ref b0 d0 t0 s0, ⟨h1, h2, h3, h4, h5, h6, h7, h8⟩, kit⟩
theorem kit_self {D : Addr} : PySem.W.kitOne K (.ref D) (.ref D) = some true := by
  unfold PySem.W.kitOne
  rw [if_pos (by simp)]
theorem kit_no {D C : Addr} (n : D ≠ C) (c : PySem.W.isClsIn K C = true) (ty : PySem.W.typeIn K (.ref C) = some (.type "type")) (s : PySem.W.subIn K (.ref D) (.ref C) = some false) : PySem.W.kitOne K (.ref D) (.ref C) = some false := by
  have e : ((PySem.W.clsIn K C).isSome && PySem.W.typeIn K (.ref C) == some (.type "type")) = true := by
    have c' : (PySem.W.clsIn K C).isSome = true := c
    rw [c', ty] <;> rfl
  unfold PySem.W.kitOne PySem.W.kitCls
  rw [if_neg (by simpa using n)]
  show (if ((PySem.W.clsIn K C).isSome && PySem.W.typeIn K (.ref C) == some (.type "type")) = true then PySem.W.subIn K (.ref D) (.ref C) else none) = some false
  rw [if_pos e]
  exact s
theorem tab_mk {x : Str} {f c T : Addr} {oc o1 : Value} {od o2 : Option Addr} {osl o3 : Array (Option Value)} {fd : FuncData} {vs : Array Value} (gf : PySem.W.nsIn K mainGlobals x = some (some (.ref f))) (lk : K.lookup f = some ⟨oc, od, .func fd, osl⟩) (cd : fd.code = .ref c)
    (lc : K.lookup c = some ⟨o1, o2, .fields vs, o3⟩) (ht : (vs[11]? : Option Value) = some (.ref T)) : PySem.W.tabIn K x = some (c, T) := by
  unfold PySem.W.tabIn
  rw [gf]
  simp only [lk, cd, lc, ht]
theorem kit3 {D a b c : Addr} {x y z : Bool} (h1 : PySem.W.kitOne K (.ref D) (.ref a) = some x) (h2 : PySem.W.kitOne K (.ref D) (.ref b) = some y) (h3 : PySem.W.kitOne K (.ref D) (.ref c) = some z) : ∀ p ∈ [(a, x), (b, y), (c, z)], PySem.W.kitOne K (.ref D) (.ref p.1) = some p.2 := by
  intro p hp
  rcases List.mem_cons.mp hp with rfl | hp
  · exact h1
  · rcases List.mem_cons.mp hp with rfl | hp
    · exact h2
    · obtain rfl := List.mem_singleton.mp hp; exact h3
theorem law_fd {P : Program} {fa f c0 T0 ol C0 CC CL CW : Addr} {tk : Tok} {kV doc pm ct oc : Value} {an od : Option Addr} {osl : Array (Option Value)} (X : K.In h) (G : h.Ns mainGlobals mg) (hfa : mg "law" = some (.ref fa))
    (gf : PySem.W.nsIn K mainGlobals "law" = some (some (.ref f))) (lk : K.lookup f = some ⟨oc, od, .func (PySem.W.fnOf "law" "law" (defArgs s_law) (defBody s_law) (defScope s_law) .none kV doc pm an (.ref c0) ct), osl⟩) (hcd : PySem.W.codeIn K (.ref c0) "law" = true)
    {vs : Array Value} {o1 : Value} {o2 : Option Addr} {o3 : Array (Option Value)} (lc : K.lookup c0 = some ⟨o1, o2, .fields vs, o3⟩) (hv : (vs[11]? : Option Value) = some (.ref T0)) (nT : K.lookup T0 = none) (N : NoGl mg) (T : Tk.Tabs K w mg)
    (g0 : PySem.W.nsIn K mainGlobals "KernelError" = some (some (.ref C0))) (E1 : ExcC K mg "NoCall" CC) (E2 : ExcC K mg "NoLooks" CL) (E3 : ExcC K mg "NoWidth" CW)
    (r1 : ErrF K C0 CC [(CC, true), (CL, false), (CW, false)]) (r2 : ErrF K C0 CL [(CC, false), (CL, true), (CW, false)]) (r3 : ErrF K C0 CW [(CC, false), (CL, false), (CW, true)])
    (gM : PySem.W.nsIn K mainGlobals "MOST_WIDTH" = some (some (.int 64 tk))) (gO : PySem.W.nsIn K mainGlobals "ONLY_LOOKS" = some (some (.ref ol))) (hO : ∀ H, SqT K H ol onlyV)
    (D1 : DefAt K mg "is_whole" s_is_whole [.non]) (D2 : DefAt K mg "is_cycles" s_is_cycles [.int 0]) (F1 : FunAt K mg "size_of" s_size_of) (F2 : FunAt K mg "is_row" s_is_row) (F3 : FunAt K mg "check_log" s_check_log) (F4 : FunAt K mg "check_cycles" s_check_cycles)
    (F5 : FunAt K mg "check_width" s_check_width) (F6 : FunAt K mg "copied" s_copied) (F7 : FunAt K mg "_law_cell_at" s__law_cell_at) (F8 : FunAt K mg "_law_mixed" s__law_mixed) (F9 : FunAt K mg "_law_source" s__law_source) (F10 : FunAt K mg "_law_next" s__law_next)
    (F11 : FunAt K mg "_law_sizes" s__law_sizes) (F12 : FunAt K mg "_law_rows" s__law_rows) (F13 : FunAt K mg "power" s_power) (F14 : FunAt K mg "looks_between" s_looks_between) (F15 : FunAt K mg "shortest" s_shortest) (F16 : FunAt K mg "with_looks" s_with_looks)
    (F17 : FunAt K mg "_law_worse" s__law_worse) (F18 : FunAt K mg "_law_word" s__law_word) :
    ∃ (c T : Addr) (fd : FuncData), PySem.W.tabIn K "law" = some (c, T) ∧ K.lookup T = none ∧ (∀ (s : Shared) (u : Value), BindsTo s fd ⟨[u], []⟩ [("script", u)]) ∧
      (∀ (H : Hp) (a : Addr) (ns : List Int), ns.length ≤ 63 → H T = some (.tbl #[]) → SqL K H a (ns.map V.int) → spLaw K T [.ref a] H (fun v _ => v = .bl true) fun _ _ _ => False) ∧
      ∀ base : Heap, K.In base → base.Ns mainGlobals mg → LamX.TabB base mg c T → FnG P w K mg base CX0 8 fa fd ["script"] (spLaw K T) := by
  have gM := PySem.W.mg_of X G gM
  have gO := PySem.W.mg_of X G gO
  have gL := PySem.W.mg_of X G gf
  cases hfa.symm.trans gL
  refine ⟨c0, T0, _, tab_mk gf lk rfl lc hv, nT, fun s v => ?_, fun H a ns hl hT hS => ⟨a, ns, rfl, hS, hl, hT, fun _ => rfl⟩, fun base _ _ TB => ok_law lk hcd N F18 ⟨PySem.W.mg_of X G g0, E1.g, E2.g, E3.g, r1, r2, r3⟩ TB ?_ ?_ ?_ ?_ ?_ ?_ F16 F15⟩
  · exact .of_eq rfl
  all_goals
    have c1 : Cal P w K mg base CX0 1 "is_whole" ["thing", "least"] [] spWhole := ok_whole D1 N
    have c2 := ok_cycles D2 N c1
    have c3 : Cal P w K mg base CX0 1 "size_of" ["name"] [] spSizeOf := ok_sizeOf F1 T
    have c4 := ok_isRow F2 N c3
    have c5 := ok_checkLog F3 N E1 c4
    have c6 := ok_checkCycles F4 N E1 c5 c2
    have c7 : Cal P w K mg base CX0 1 "copied" ["row"] [] spCopied := ok_copied F6 N
    have c8 := ok_width F5 E3 gM c1
    have c9 : Cal P w K mg base CX0 1 "_law_cell_at" ["script", "k"] [] (spCellAt K) := ok_cellAt F7 N
    have c10 : Cal P w K mg base CX0 1 "_law_mixed" ["cell", "k"] [] spMixed := ok_mixed F8 N
    have c11 := ok_source F9 N c9 c10
    have c12 := draw_of (ok_next F10 N c10)
    have c13 : Cal P w K mg base CX0 1 "_law_sizes" [] [] spSizes := ok_sizes F11
    have c14 := ok_rows F12 N c13 c12
    have c15 : Cal P w K mg base CX0 1 "power" ["number"] [] spPower := ok_power F13
    have c16 := ok_lb F14 N c15
    have c17 := ok_short F15 N gO hO c8 c6 c15 c16 c7
    have c18 := ok_withLooks F16 N E2 c6 c2 c7
    have c19 := ok_worse F17 N c12
    first | exact c11 | exact c12 | exact c14 | exact c19 | exact c18 | exact c17
end
end Tk

set_option Elab.async false
set_option linter.all false
set_option maxRecDepth 100000
set_option maxHeartbeats 4000000
namespace Tk
open PySem PySem.Spec PyProof.Rows L2

section
variable {P : Program} {w : World} {K : PySem.W.Frag} {mg mb : Str → Option Value} {CX : CXT} {k : Nat} {fa a : Addr} {fd : FuncData} {x : Str} {sp : Sp} {s₁ : Shared} {vs : List Value} {ns : List Int}
/-- what a law's call must come to -/
abbrev LawEnd (s₁ : Shared) : Result → Shared → Prop := fun r s' => r = .ok (.ret (.bool true)) ∧ OldK s₁.heap s'.heap ∧ s'.os = s₁.os ∧ AllBare s'.gens

theorem lawG_at (H : Hp) (KX : K.In s₁.heap) (hns : s₁.heap.Ns mainGlobals mg) (hb : s₁.heap.Ns builtinsNs mb) (hbb : ∀ x : Str, x ≠ "__name__" → mb x = bootBuiltins x) (hlim : s₁.heap.NoLimit) (hg : s₁.gens = #[])
    (hobj : s₁.heap.get? a = some { cls := .type "list", data := .seq vs.toArray }) (hr : Room k callerA)
    (F : ∀ base : Heap, K.In base → base.Ns mainGlobals mg → FnG P w K mg base CX k fa fd [x] sp) (hbind : ∀ (s : Shared) (u : Value), BindsTo s fd ⟨[u], []⟩ [(x, u)])
    (hO : Only H) (hok : HOk P w H s₁.heap) (hA : ∀ b, H b ≠ none → b = a ∧ K.lookup a = none)
    (hsp : sp [.ref a] H (fun v _ => v = .bl true) fun _ _ _ => False) (hCX : ∀ e s', CX [] H s₁ (fun _ _ _ => False) e s' → False) :
    codeAny (model P w) callerA (.call (.ref fa) ⟨[.ref a], []⟩) (LawEnd s₁) s₁ := by
  have free : ∀ b, b ≠ a → H b = none := fun b hb => Classical.byContradiction fun z => hb (hA b z).1
  have dictFree : ∀ {b : Addr} {o : Obj} {es : Array DictEntry} {ep : Nat}, s₁.heap.get? b = some o → o.data = .dict es ep → H b = none := by
    intro b o es ep e d
    refine free b fun z => ?_
    subst z
    cases hobj.symm.trans e
    cases d
  have toBase : ∀ {b : Addr} {m : Str → Option Value}, s₁.heap.Ns b m → (hidT s₁.heap H).Ns b m := by
    rintro b m ⟨o, es, ep, e, d, r⟩
    exact ⟨o, es, ep, hidT_get e (dictFree e d), d, r⟩
  have kin : K.In (hidT s₁.heap H) := by
    intro b o e
    refine hidT_get (KX b o e) (Classical.byContradiction fun z => ?_)
    obtain ⟨rfl, n⟩ := hA b z
    exact nomatch n.symm.trans e
  have nolim : (hidT s₁.heap H).NoLimit := by
    obtain ⟨mc, h1, h2⟩ := hlim
    exact ⟨mc, toBase h1, h2⟩
  have env : Env0 P w K mg (hidT s₁.heap H) callerA [] s₁ H := {
    frames := rfl
    mod := ⟨kin, toBase hns, ⟨mb, toBase hb, hbb⟩, nolim⟩
    bs := fun b o e => of_hidT e
    bsz := Nat.le_of_eq (hidT_size _ _)
    funs := trivial
    frf := fun b hb => nomatch hb
    hok := hok
    bare := .of_eq hg }
  refine codeAny_mono ((F _ kin (toBase hns)).run callerA [] s₁ H _ [.ref a] [.ref a] _ _ rfl hr env (hbind s₁ (.ref a)) (.cons rfl .nil) hsp) ?_
  intro r s' h
  match r, h with
  | .error e, h => exact (hCX e s' h).elim
  | .ok (.ret u), ⟨v, H', os, bare, un, hok', rv, hv⟩ =>
    have hv' : v = .bl true := hv
    subst hv'
    have hu : u = Value.bool true := rv
    subst hu
    refine ⟨rfl, .of_keep fun b o e => ?_, os, bare⟩
    rcases hO b with n | ⟨ob, xs, z⟩
    · exact un.keep b o e n (fun q => nomatch q) (fun q => nomatch q)
    · have p1 := (hok b _ z).1
      have p2 := (hok' b _ (un.frzs b ob _ z)).1
      cases e.symm.trans p1
      exact p2

theorem lawG_call (KX : K.In s₁.heap) (hns : s₁.heap.Ns mainGlobals mg) (hb : s₁.heap.Ns builtinsNs mb) (hbb : ∀ x : Str, x ≠ "__name__" → mb x = bootBuiltins x) (hlim : s₁.heap.NoLimit) (hg : s₁.gens = #[])
    (hobj : s₁.heap.get? a = some { cls := .type "list", data := .seq vs.toArray }) (hi : IntsAre vs ns) (hl : ns.length ≤ sizeLine) (hr : Room k callerA)
    (F : ∀ base : Heap, K.In base → base.Ns mainGlobals mg → FnG P w K mg base CX k fa fd [x] sp) (hbind : ∀ (s : Shared) (u : Value), BindsTo s fd ⟨[u], []⟩ [(x, u)])
    (hsp : ∀ H : Hp, Only H → SqL K H a (ns.map V.int) → sp [.ref a] H (fun v _ => v = .bl true) fun _ _ _ => False)
    (hCX : ∀ H e s', CX [] H s₁ (fun _ _ _ => False) e s' → False) :
    codeAny (model P w) callerA (.call (.ref fa) ⟨[.ref a], []⟩) (LawEnd s₁) s₁ := by
  have rv := vals_ints hi
  have lenV := hi.length
  cases hk : K.lookup a with
  | some o =>
    cases hobj.symm.trans (KX a o hk)
    have hO : Only fun _ => none := fun _ => .inl rfl
    refine lawG_at (fun _ => none) KX hns hb hbb hlim hg hobj hr F hbind hO (fun b u z => nomatch z) (fun b z => absurd rfl z) (hsp _ hO ?_) (hCX _)
    exact .inr ⟨_, vs.toArray, _, hk, rfl, rfl, rfl, by rw [List.size_toArray, lenV]; exact hl, by simpa using rv⟩
  | none =>
    let ob : Obj := { cls := .type "list", data := .seq vs.toArray }
    let H : Hp := fun b => if b = a then some (.frz ob (.lst (ns.map V.int))) else none
    have at_ : H a = some (.frz ob (.lst (ns.map V.int))) := if_pos rfl
    have off : ∀ b, b ≠ a → H b = none := fun b h => if_neg h
    have hO : Only H := fun b => by
      by_cases h : b = a
      · subst h; exact .inr ⟨_, _, at_⟩
      · exact .inl (off b h)
    refine lawG_at H KX hns hb hbb hlim hg hobj hr F hbind hO ?_ ?_ (hsp H hO (.inl (.inr ⟨ob, at_⟩))) (hCX H)
    · intro b u z
      by_cases h : b = a
      · subst h
        cases at_.symm.trans z
        exact ⟨hobj, by rw [List.length_map]; exact hl, vs, _, rv, hobj⟩
      · exact nomatch (off b h).symm.trans z
    · intro b z
      exact ⟨Classical.byContradiction fun h => z (off b h), hk⟩
end

/-- the end of a law's row, with the script's bits, where the law's promise knows that no repr is around -/
theorem walk_G {l : PySem.W.OpenLaw} {k : Nat} {q : Program} {loose : List Str} {XP : (Str → Option Value) → Heap → Prop} {YP : World → Heap → Prop} {d : DefRec} {K : Params → PySem.W.Frag} {CX : World → CXT} {sp : World → Sp}
    (hn : l.most = some 63) (hdf : d.params.defaults = []) (hr : Room k callerA) (hY : ∀ (w : World) (h : Heap), YP w h → (K w.params).In h)
    (F : ∀ (w : World) (mg : Str → Option Value) (fa : Addr) (h : Heap), (K w.params).In h → h.Ns mainGlobals mg → mg d.name = some (.ref fa) →
      ∃ fd : FuncData, (∀ (s : Shared) (u : Value), BindsTo s fd ⟨[u], []⟩ [("script", u)]) ∧
        ∀ base : Heap, (K w.params).In base → base.Ns mainGlobals mg → FnG l.prog w (K w.params) mg base (CX w) k fa fd ["script"] (sp w))
    (hsp : ∀ (w : World) (H : Hp) (a : Addr) (ns : List Int), ns.length ≤ 63 → (∀ z ∈ ns, Builtin.Int.intBits z ≤ 1048576) → Only H → SqL (K w.params) H a (ns.map V.int) →
      sp w [.ref a] H (fun v _ => v = .bl true) fun _ _ _ => False)
    (hCX : ∀ (w : World) (H : Hp) (s : Shared) (e : Value) (s' : Shared), CX w [] H s (fun _ _ _ => False) e s' → False) :
    PySem.W.WalkO q loose XP YP l.row.toRowW d [] (fun f vs => PySem.call f vs) := by
  refine Att.attach_callB hn hdf ?_
  intro w s₀ s₁ mg mb fa o pm cd doc a vs ns G Y ho hd hcd hmg hobj hints hlen hbits hg
  obtain ⟨fd, hb, hF⟩ := F w mg fa _ (hY w _ Y) G.T.g hmg
  exact lawG_call (hY w _ Y) G.T.g G.T.b G.T.builtins G.T.nolimit hg hobj hints (Nat.le_trans hlen (by decide)) hr hF hb (fun H hO hS => hsp w H a ns hlen hbits hO hS) fun H e s' => hCX w H s₁ e s'
end Tk

set_option Elab.async false
set_option linter.all false
set_option maxRecDepth 100000
set_option maxHeartbeats 4000000
namespace Tk
open PySem PySem.Spec PyProof.Rows L2

/-! ### the end of a law that makes lambdas: its code object's table is tracked -/
abbrev tab0 : Obj := { cls := .none, data := .fields #[] }
section
variable {P : Program} {w : World} {K : PySem.W.Frag} {mg mb : Str → Option Value} {CX : CXT} {k : Nat} {fa a c T : Addr} {fd : FuncData} {x : Str} {sp : Sp} {s₁ : Shared} {vs : List Value} {ns : List Int}
/-- nothing is tracked but the script and the table -/
def OnlyT (T : Addr) (H : Hp) : Prop := ∀ b, b ≠ T → H b = none ∨ ∃ o xs, H b = some (.frz o (.lst xs))
theorem lawT_at (H : Hp) (KX : K.In s₁.heap) (hns : s₁.heap.Ns mainGlobals mg) (hb : s₁.heap.Ns builtinsNs mb) (hbb : ∀ x : Str, x ≠ "__name__" → mb x = bootBuiltins x) (hlim : s₁.heap.NoLimit) (hg : s₁.gens = #[])
    (hobj : s₁.heap.get? a = some { cls := .type "list", data := .seq vs.toArray }) (tab : s₁.heap.get? T = some tab0) (nT : K.lookup T = none) (code : PySem.W.CodeHd s₁.heap c T)
    (bm : ∃ (m : Addr) (ob : Obj), mg "__builtins__" = some (.ref m) ∧ m ≠ builtinsNs ∧ s₁.heap.get? m = some ob ∧ ob.cls = .type "module" ∧ ob.dict = some builtinsNs ∧ ob.data = .plain) (hr : Room k callerA)
    (F : ∀ base : Heap, K.In base → base.Ns mainGlobals mg → LamX.TabB base mg c T → FnG P w K mg base CX k fa fd [x] sp) (hbind : ∀ (s : Shared) (u : Value), BindsTo s fd ⟨[u], []⟩ [(x, u)])
    (hO : OnlyT T H) (hok : HOk P w H s₁.heap) (hT : H T = some (.tbl #[])) (hA : ∀ b, H b ≠ none → b ≠ T → b = a ∧ K.lookup a = none)
    (hsp : sp [.ref a] H (fun v _ => v = .bl true) fun _ _ _ => False) (hCX : ∀ e s', CX [] H s₁ (fun _ _ _ => False) e s' → False) :
    codeAny (model P w) callerA (.call (.ref fa) ⟨[.ref a], []⟩) (LawEnd s₁) s₁ := by
  have aT : a ≠ T := fun z => by
    rw [z, tab] at hobj
    cases hobj
  have hid : ∀ {b : Addr} {o : Obj}, s₁.heap.get? b = some o → (∀ vs n, o.data ≠ .seq vs n) → b ≠ T → (hidT s₁.heap H).get? b = some o := by
    intro b o e h1 nT
    refine hidT_get e (Classical.byContradiction fun z => ?_)
    obtain ⟨rfl, _⟩ := hA b z nT
    cases hobj.symm.trans e
    exact h1 _ _ rfl
  have neT : ∀ {b : Addr} {o : Obj}, s₁.heap.get? b = some o → o.data ≠ .fields #[] → b ≠ T := by
    intro b o e h1 z
    subst z
    cases tab.symm.trans e
    exact h1 rfl
  have toBase : ∀ {b : Addr} {m : Str → Option Value}, s₁.heap.Ns b m → (hidT s₁.heap H).Ns b m := by
    rintro b m ⟨o, es, ep, e, d, r⟩
    exact ⟨o, es, ep, hid e (fun vs n z => by rw [d] at z; cases z) (neT e fun z => by rw [d] at z; cases z), d, r⟩
  have kin : K.In (hidT s₁.heap H) := by
    intro b o e
    refine hidT_get (KX b o e) (Classical.byContradiction fun z => ?_)
    by_cases q : b = T
    · subst q
      exact nomatch nT.symm.trans e
    · obtain ⟨rfl, n⟩ := hA b z q
      exact nomatch n.symm.trans e
  have nolim : (hidT s₁.heap H).NoLimit := by
    obtain ⟨mc, h1, h2⟩ := hlim
    exact ⟨mc, toBase h1, h2⟩
  have TB : LamX.TabB (hidT s₁.heap H) mg c T := by
    refine ⟨?_, ?_, fun z => ?_⟩
    · obtain ⟨o, us, file, tf, flags, tg, inF, text, tt, e1, r1, r2, r3, r⟩ := code
      refine ⟨o, us, file, tf, flags, tg, inF, text, tt, hid e1 (fun vs n z => by rw [r2] at z; cases z) (neT e1 fun z => ?_), r1, r2, r3, r⟩
      rw [r2] at z
      cases z
      simp at r3
    · obtain ⟨m, ob, b1, b2, b3, b4, b5, b6⟩ := bm
      have nG : m ≠ mainGlobals := by
        rintro rfl
        obtain ⟨o, es, ep, e, d, _⟩ := hns
        cases e.symm.trans b3
        cases d.symm.trans b6
      have nP : m ≠ T := neT b3 fun z => by rw [b6] at z; cases z
      exact ⟨m, ob, b1, b2, nG, nP, hid b3 (fun vs n z => by rw [b6] at z; cases z) nP, b4, b5, b6⟩
    · obtain ⟨o, es, ep, e, d, _⟩ := hns
      rw [z, tab] at e
      cases e
      cases d
  have env : Env0 P w K mg (hidT s₁.heap H) callerA [] s₁ H := {
    frames := rfl
    mod := ⟨kin, toBase hns, ⟨mb, toBase hb, hbb⟩, nolim⟩
    bs := fun b o e => of_hidT e
    bsz := Nat.le_of_eq (hidT_size _ _)
    funs := trivial
    frf := fun b hb => nomatch hb
    hok := hok
    bare := .of_eq hg }
  refine codeAny_mono ((F _ kin (toBase hns) TB).run callerA [] s₁ H _ [.ref a] [.ref a] _ _ rfl hr env (hbind s₁ (.ref a)) (.cons rfl .nil) hsp) ?_
  intro r s' h
  match r, h with
  | .error e, h => exact (hCX e s' h).elim
  | .ok (.ret u), ⟨v, H', os, bare, un, hok', rv, hv⟩ =>
    obtain rfl : v = .bl true := hv
    obtain rfl : u = Value.bool true := rv
    obtain ⟨more, hm⟩ := un.tbls T #[] hT
    have gT : s'.heap.get? T = some { cls := .none, data := .fields (#[] ++ more) } := hok' T _ hm
    have key : ∀ b o, b ≠ T → s₁.heap.get? b = some o → s'.heap.get? b = some o := by
      intro b o n e
      rcases hO b n with q | ⟨ob, xs, z⟩
      · exact un.keep b o e q (fun q => nomatch q) (fun q => nomatch q)
      · have p1 := (hok b _ z).1
        have p2 := (hok' b _ (un.frzs b ob _ z)).1
        cases e.symm.trans p1
        exact p2
    refine ⟨rfl, ⟨fun b o e => ?_, fun b o e => ?_⟩, os, bare⟩
    · by_cases q : b = T
      · subst q
        cases tab.symm.trans e
        exact .inr (.inl ⟨(code.tab tab).isCodeTable, rfl, #[], more, rfl, gT⟩)
      · exact .inl (key b o q e)
    · by_cases q : b = T
      · subst q
        exact ⟨_, gT⟩
      · exact ⟨o, key b o q e⟩
theorem lawT_call (KX : K.In s₁.heap) (hns : s₁.heap.Ns mainGlobals mg) (hb : s₁.heap.Ns builtinsNs mb) (hbb : ∀ x : Str, x ≠ "__name__" → mb x = bootBuiltins x) (hlim : s₁.heap.NoLimit) (hg : s₁.gens = #[])
    (hobj : s₁.heap.get? a = some { cls := .type "list", data := .seq vs.toArray }) (tab : s₁.heap.get? T = some tab0) (nT : K.lookup T = none) (code : PySem.W.CodeHd s₁.heap c T)
    (bm : ∃ (m : Addr) (ob : Obj), mg "__builtins__" = some (.ref m) ∧ m ≠ builtinsNs ∧ s₁.heap.get? m = some ob ∧ ob.cls = .type "module" ∧ ob.dict = some builtinsNs ∧ ob.data = .plain) (hi : IntsAre vs ns) (hl : ns.length ≤ sizeLine) (hr : Room k callerA)
    (F : ∀ base : Heap, K.In base → base.Ns mainGlobals mg → LamX.TabB base mg c T → FnG P w K mg base CX k fa fd [x] sp) (hbind : ∀ (s : Shared) (u : Value), BindsTo s fd ⟨[u], []⟩ [(x, u)])
    (hsp : ∀ H : Hp, H T = some (.tbl #[]) → SqL K H a (ns.map V.int) → sp [.ref a] H (fun v _ => v = .bl true) fun _ _ _ => False)
    (hCX : ∀ H e s', CX [] H s₁ (fun _ _ _ => False) e s' → False) :
    codeAny (model P w) callerA (.call (.ref fa) ⟨[.ref a], []⟩) (LawEnd s₁) s₁ := by
  have rv := vals_ints hi
  have lenV := hi.length
  have aT : a ≠ T := fun z => by
    rw [z, tab] at hobj
    cases hobj
  cases hk : K.lookup a with
  | some o =>
    cases hobj.symm.trans (KX a o hk)
    let H : Hp := fun b => if b = T then some (.tbl #[]) else none
    have hT : H T = some (.tbl #[]) := if_pos rfl
    have off : ∀ b, b ≠ T → H b = none := fun b h => if_neg h
    refine lawT_at H KX hns hb hbb hlim hg hobj tab nT code bm hr F hbind (fun b h => .inl (off b h)) (fun b u z => ?_) hT (fun b z h => absurd (off b h) z) (hsp _ hT ?_) (hCX _)
    · by_cases h : b = T
      · subst h
        cases hT.symm.trans z
        exact tab
      · exact nomatch (off b h).symm.trans z
    · exact .inr ⟨_, vs.toArray, _, hk, rfl, rfl, rfl, by rw [List.size_toArray, lenV]; exact hl, by simpa using rv⟩
  | none =>
    let ob : Obj := { cls := .type "list", data := .seq vs.toArray }
    let H : Hp := fun b => if b = a then some (.frz ob (.lst (ns.map V.int))) else if b = T then some (.tbl #[]) else none
    have hS : H a = some (.frz ob (.lst (ns.map V.int))) := if_pos rfl
    have hT : H T = some (.tbl #[]) := (if_neg (Ne.symm aT)).trans (if_pos rfl)
    have off : ∀ b, b ≠ a → b ≠ T → H b = none := fun b h h2 => (if_neg h).trans (if_neg h2)
    refine lawT_at H KX hns hb hbb hlim hg hobj tab nT code bm hr F hbind (fun b h => ?_) (fun b u z => ?_) hT (fun b z h => ?_) (hsp _ hT (.inl (.inr ⟨ob, hS⟩))) (hCX _)
    · by_cases q : b = a
      · subst q
        exact .inr ⟨_, _, hS⟩
      · exact .inl (off b q h)
    · by_cases h : b = a
      · subst h
        cases hS.symm.trans z
        exact ⟨hobj, by rw [List.length_map]; exact hl, vs, _, rv, hobj⟩
      · by_cases h2 : b = T
        · subst h2
          cases hT.symm.trans z
          exact tab
        · exact nomatch (off b h h2).symm.trans z
    · exact ⟨Classical.byContradiction fun q => z (off b q h), hk⟩
end
theorem walk_GT {l : PySem.W.OpenLaw} {k : Nat} {q : Program} {loose : List Str} {XP : (Str → Option Value) → Heap → Prop} {YP : World → Heap → Prop} {d : DefRec} {K : Params → PySem.W.Frag} {CX : World → CXT} {sp : World → PySem.W.Frag → Addr → Sp}
    (hn : l.most = some 63) (hdf : d.params.defaults = []) (hr : Room k callerA) (hY : ∀ (w : World) (h : Heap), YP w h → (K w.params).In h) (rec : (recsOf q).find? (fun e => e.name == ("law" : Str)) = some d)
    (F : ∀ (w : World) (mg : Str → Option Value) (fa : Addr) (h : Heap), (K w.params).In h → h.Ns mainGlobals mg → mg d.name = some (.ref fa) →
      ∃ (c T : Addr) (fd : FuncData), PySem.W.tabIn (K w.params) "law" = some (c, T) ∧ (K w.params).lookup T = none ∧ (∀ (s : Shared) (u : Value), BindsTo s fd ⟨[u], []⟩ [("script", u)]) ∧
        (∀ (H : Hp) (a : Addr) (ns : List Int), ns.length ≤ 63 → H T = some (.tbl #[]) → SqL (K w.params) H a (ns.map V.int) → sp w (K w.params) T [.ref a] H (fun v _ => v = .bl true) fun _ _ _ => False) ∧
        ∀ base : Heap, (K w.params).In base → base.Ns mainGlobals mg → LamX.TabB base mg c T → FnG l.prog w (K w.params) mg base (CX w) k fa fd ["script"] (sp w (K w.params) T))
    (hCX : ∀ (w : World) (H : Hp) (s : Shared) (e : Value) (s' : Shared), CX w [] H s (fun _ _ _ => False) e s' → False) :
    PySem.W.WalkO q loose XP YP l.row.toRowW d [] (fun f vs => PySem.call f vs) := by
  refine Att.attach_callB hn hdf ?_
  intro w s₀ s₁ mg mb fa o pm cd doc a vs ns G Y ho hd hcd hmg hobj hints hlen hbits hg
  have KX := hY w _ Y
  obtain ⟨c, T, fd, ht, nT, hb, hsp, hF⟩ := F w mg fa _ KX G.T.g hmg
  obtain ⟨code, tab⟩ := PySem.W.tab_of G.T KX rec ht
  exact lawT_call KX G.T.g G.T.b G.T.builtins G.T.nolimit hg hobj tab nT code G.T.bmain hints (Nat.le_trans hlen (by decide)) hr hF hb (fun H hT hS => hsp H a ns hlen hT hS) fun H e s' => hCX w H s₁ e s'
end Tk

set_option Elab.async false
set_option maxRecDepth 100000
open PySem PySem.W PyProof.Rows
set_option maxRecDepth 100000 in
set_option maxHeartbeats 0 in
theorem PySem.Challenge.cw_timekernel_k84_logs_refused_holds : PySem.Challenge.rw_timekernel_k84_logs_refused.Holds := by
  w_on; o_law; k_head; (case hw => w_witness2)
  k_fill
  refine Tk.walk_GT (l := PySem.Challenge.rw_timekernel_k84_logs_refused) (k := 8) (CX := fun _ => L2.CX0) (sp := fun _ K T => Tk.spLaw K T) rfl rfl ⟨rfl, by decide, by decide⟩ (fun w h Y => PySem.W.km_in_of Y) (by rfl) ?F fun _ _ _ _ _ z => z
  case F =>
    intro w mg fa h KX G hmg
    refine' Tk.law_fd KX G hmg ?xgf ?xlk ?xcd ?xlc ?xhv ?xnT ?xN ?xT ?xg0 ?xE1 ?xE2 ?xE3 ?xr1 ?xr2 ?xr3 ?xM ?xO ?xH ?xD1 ?xD2 ?xF1 ?xF2 ?xF3 ?xF4 ?xF5 ?xF6 ?xF7 ?xF8 ?xF9 ?xF10 ?xF11 ?xF12 ?xF13 ?xF14 ?xF15 ?xF16 ?xF17 ?xF18
    case xgf => k_is
    case xlk => k_is
    case xcd => k_is
    case xlc => k_is
    case xg0 => k_is
    case xM => k_is
    case xO => k_is
    case xhv => rfl
    case xnT => rfl
    case xN => refine' Tk.noGl_mk KX G ?ya1 ?ya2 ?ya3 ?ya4 ?ya5 ?ya6 ?ya7 ?ya8 ?ya9 ?ya10 ?ya11 ?ya12 ?ya13 ?ya14 <;> k_is
    case xH => refine' Tk.only_mk ?yl ?yz ?yr; (case yl => k_is); (case yz => decide); (case yr => exact .cons ⟨_, rfl⟩ (.cons ⟨_, rfl⟩ (.cons ⟨_, rfl⟩ (.cons ⟨_, rfl⟩ (.cons ⟨_, rfl⟩ (.cons ⟨_, rfl⟩ .nil))))))
    case xE1 => refine' Tk.excG_mk KX G ?yg ?yex ?ykp ?ysub ?yty; (case yg => k_is); (case yex => k_exc); (case ykp => k_is); (case ysub => k_is); (case yty => k_is)
    case xE2 => refine' Tk.excG_mk KX G ?yg ?yex ?ykp ?ysub ?yty; (case yg => k_is); (case yex => k_exc); (case ykp => k_is); (case ysub => k_is); (case yty => k_is)
    case xE3 => refine' Tk.excG_mk KX G ?yg ?yex ?ykp ?ysub ?yty; (case yg => k_is); (case yex => k_exc); (case ykp => k_is); (case ysub => k_is); (case yty => k_is)
    case xr1 => refine' Tk.errF_mk ?w1 ?w2 ?w3 ?w4 ?w5 ?w6 ?w7 ?w8 ?w9 ?w10 ?w11 ?w12 (Tk.kit3 Tk.kit_self (Tk.kit_no ?n1 ?c1 ?t1 ?s1) (Tk.kit_no ?n2 ?c2 ?t2 ?s2)); (case w1 => k_is); (case w2 => k_is); (case w3 => k_is); (case w4 => k_is); (case w5 => k_is); (case w6 => k_is); (case w7 => k_is); (case w8 => k_is); (case w9 => k_is); (case w10 => k_is); (case w11 => k_is); (case w12 => k_is); (case n1 => decide); (case c1 => k_is); (case t1 => k_is); (case s1 => k_is); (case n2 => decide); (case c2 => k_is); (case t2 => k_is); (case s2 => k_is)
    case xr2 => refine' Tk.errF_mk ?w1 ?w2 ?w3 ?w4 ?w5 ?w6 ?w7 ?w8 ?w9 ?w10 ?w11 ?w12 (Tk.kit3 (Tk.kit_no ?n0 ?c0 ?t0 ?s0) Tk.kit_self (Tk.kit_no ?n2 ?c2 ?t2 ?s2)); (case w1 => k_is); (case w2 => k_is); (case w3 => k_is); (case w4 => k_is); (case w5 => k_is); (case w6 => k_is); (case w7 => k_is); (case w8 => k_is); (case w9 => k_is); (case w10 => k_is); (case w11 => k_is); (case w12 => k_is); (case n0 => decide); (case c0 => k_is); (case t0 => k_is); (case s0 => k_is); (case n2 => decide); (case c2 => k_is); (case t2 => k_is); (case s2 => k_is)
    case xr3 => refine' Tk.errF_mk ?w1 ?w2 ?w3 ?w4 ?w5 ?w6 ?w7 ?w8 ?w9 ?w10 ?w11 ?w12 (Tk.kit3 (Tk.kit_no ?n0 ?c0 ?t0 ?s0) (Tk.kit_no ?n1 ?c1 ?t1 ?s1) Tk.kit_self); (case w1 => k_is); (case w2 => k_is); (case w3 => k_is); (case w4 => k_is); (case w5 => k_is); (case w6 => k_is); (case w7 => k_is); (case w8 => k_is); (case w9 => k_is); (case w10 => k_is); (case w11 => k_is); (case w12 => k_is); (case n0 => decide); (case c0 => k_is); (case t0 => k_is); (case s0 => k_is); (case n1 => decide); (case c1 => k_is); (case t1 => k_is); (case s1 => k_is)
    case xT => refine' Tk.tabs_mk KX G ?yga ?ygb ?ygc ?yta ?ytb ?ytc; (case yga => k_is); (case ygb => k_is); (case ygc => k_is); (case yta => (refine' Tk.ktab_mk ?yl ?ye ?yz; (case yl => k_is); (case ye => exact ⟨⟨⟨_, rfl⟩, rfl, _, rfl⟩, ⟨⟨_, rfl⟩, rfl, _, rfl⟩, ⟨⟨_, rfl⟩, rfl, _, rfl⟩, ⟨⟨_, rfl⟩, rfl, _, rfl⟩, ⟨⟨_, rfl⟩, rfl, _, rfl⟩, ⟨⟨_, rfl⟩, rfl, _, rfl⟩, ⟨⟨_, rfl⟩, rfl, _, rfl⟩, ⟨⟨_, rfl⟩, rfl, _, rfl⟩, ⟨⟨_, rfl⟩, rfl, _, rfl⟩, trivial⟩); (case yz => rfl))); (case ytb => (refine' Tk.ktab_mk ?yl ?ye ?yz; (case yl => k_is); (case ye => exact ⟨⟨⟨_, rfl⟩, rfl, _, rfl⟩, ⟨⟨_, rfl⟩, rfl, _, rfl⟩, ⟨⟨_, rfl⟩, rfl, _, rfl⟩, ⟨⟨_, rfl⟩, rfl, _, rfl⟩, ⟨⟨_, rfl⟩, rfl, _, rfl⟩, ⟨⟨_, rfl⟩, rfl, _, rfl⟩, ⟨⟨_, rfl⟩, rfl, _, rfl⟩, ⟨⟨_, rfl⟩, rfl, _, rfl⟩, trivial⟩); (case yz => rfl))); (case ytc => (refine' Tk.ktab_mk ?yl ?ye ?yz; (case yl => k_is); (case ye => exact ⟨⟨⟨_, rfl⟩, rfl, _, rfl⟩, ⟨⟨_, rfl⟩, rfl, _, rfl⟩, ⟨⟨_, rfl⟩, rfl, _, rfl⟩, ⟨⟨_, rfl⟩, rfl, _, rfl⟩, ⟨⟨_, rfl⟩, rfl, _, rfl⟩, ⟨⟨_, rfl⟩, rfl, _, rfl⟩, trivial⟩); (case yz => rfl)))
    case xD1 => refine' Tk.defAt_mk KX G ?ya ?yl ?yc ?yk ?ylT ?yrv ?yne; (case ya => k_is); (case yl => k_is); (case yc => k_is); (case yk => k_is); (case ylT => k_is); (case yrv => exact .cons rfl .nil); (case yne => exact fun z => nomatch z)
    case xD2 => refine' Tk.defAt_mk KX G ?ya ?yl ?yc ?yk ?ylT ?yrv ?yne; (case ya => k_is); (case yl => k_is); (case yc => k_is); (case yk => k_is); (case ylT => k_is); (case yrv => exact .cons ⟨_, rfl⟩ .nil); (case yne => exact fun z => nomatch z)
    case xF1 => refine' Tk.funAt_mk KX G ?ya ?yl ?yc ?yk; (case ya => k_is); (case yl => k_is); (case yc => k_is); (case yk => k_is)
    case xF2 => refine' Tk.funAt_mk KX G ?ya ?yl ?yc ?yk; (case ya => k_is); (case yl => k_is); (case yc => k_is); (case yk => k_is)
    case xF3 => refine' Tk.funAt_mk KX G ?ya ?yl ?yc ?yk; (case ya => k_is); (case yl => k_is); (case yc => k_is); (case yk => k_is)
    case xF4 => refine' Tk.funAt_mk KX G ?ya ?yl ?yc ?yk; (case ya => k_is); (case yl => k_is); (case yc => k_is); (case yk => k_is)
    case xF5 => refine' Tk.funAt_mk KX G ?ya ?yl ?yc ?yk; (case ya => k_is); (case yl => k_is); (case yc => k_is); (case yk => k_is)
    case xF6 => refine' Tk.funAt_mk KX G ?ya ?yl ?yc ?yk; (case ya => k_is); (case yl => k_is); (case yc => k_is); (case yk => k_is)
    case xF7 => refine' Tk.funAt_mk KX G ?ya ?yl ?yc ?yk; (case ya => k_is); (case yl => k_is); (case yc => k_is); (case yk => k_is)
    case xF8 => refine' Tk.funAt_mk KX G ?ya ?yl ?yc ?yk; (case ya => k_is); (case yl => k_is); (case yc => k_is); (case yk => k_is)
    case xF9 => refine' Tk.funAt_mk KX G ?ya ?yl ?yc ?yk; (case ya => k_is); (case yl => k_is); (case yc => k_is); (case yk => k_is)
    case xF10 => refine' Tk.funAt_mk KX G ?ya ?yl ?yc ?yk; (case ya => k_is); (case yl => k_is); (case yc => k_is); (case yk => k_is)
    case xF11 => refine' Tk.funAt_mk KX G ?ya ?yl ?yc ?yk; (case ya => k_is); (case yl => k_is); (case yc => k_is); (case yk => k_is)
    case xF12 => refine' Tk.funAt_mk KX G ?ya ?yl ?yc ?yk; (case ya => k_is); (case yl => k_is); (case yc => k_is); (case yk => k_is)
    case xF13 => refine' Tk.funAt_mk KX G ?ya ?yl ?yc ?yk; (case ya => k_is); (case yl => k_is); (case yc => k_is); (case yk => k_is)
    case xF14 => refine' Tk.funAt_mk KX G ?ya ?yl ?yc ?yk; (case ya => k_is); (case yl => k_is); (case yc => k_is); (case yk => k_is)
    case xF15 => refine' Tk.funAt_mk KX G ?ya ?yl ?yc ?yk; (case ya => k_is); (case yl => k_is); (case yc => k_is); (case yk => k_is)
    case xF16 => refine' Tk.funAt_mk KX G ?ya ?yl ?yc ?yk; (case ya => k_is); (case yl => k_is); (case yc => k_is); (case yk => k_is)
    case xF17 => refine' Tk.funAt_mk KX G ?ya ?yl ?yc ?yk; (case ya => k_is); (case yl => k_is); (case yc => k_is); (case yk => k_is)
    case xF18 => refine' Tk.funAt_mk KX G ?ya ?yl ?yc ?yk; (case ya => k_is); (case yl => k_is); (case yc => k_is); (case yk => k_is)
