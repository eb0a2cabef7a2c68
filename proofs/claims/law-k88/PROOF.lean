import PyProof.Rows.All
import Wide.All
import OpenK.AllK
import Wide.FinOn
import HandS.ForMost
import HandS.EndBits
import HandS.Exc
import HandS.ExcOwn
import HandS.WordsExc
import HandS.TryOnly
import PyProof.ReprRoads
import HandS.More
import HandS.IsInst
import HandS.Zip
import PyProof.DictUpdate
import HandS.Defaults
import HandS.Lambda
import KE.KDflt
import PyProof.NeKinds
import HandS.ExcIs
import HandS.Codes
import HandS.Text
import KE.KIntText
import PyProof.Rows.StrOr
import HandS.Wide
import PyProof.ReprLen
import HandS.WideBits
import HandS.Iter
import HandS.ExcInit
import KE.KExcSuper
import HandS.RaiseMore
import HandS.Call
import PyProof.StrOps2
import HandS.ExcField
import KE.KExcIs
import PySem.Challenge.RW_timekernel_k88_texts_that_are_no_logs
set_option Elab.async false
set_option linter.all false
set_option maxRecDepth 100000
set_option maxHeartbeats 4000000
/-! Promises that also know that no repr is running around them. -/
namespace Tk
open PySem PySem.Spec PyProof.Rows L2

/-- no container's repr is under way around -/
abbrev Free (A : Around) : Prop := A.guards = some []

section
variable (P : Program) (w : World) (K : PySem.W.Frag) (mg : Str → Option Value) (base : Heap) (CX : CXT)
structure FnG (k : Nat) (f : Addr) (fd : FuncData) (ps : List Str) (sp : Sp) : Prop where
  len : ∀ vs H Q E, sp vs H Q E → vs.length = ps.length
  run : ∀ (A : Around) (outer : List Env) (s : Shared) (H : Hp) (args : Args) (us : List Value) (vs : List V) (Q : VK) (E : XK),
    Free A → Room k A → Env0 P w K mg base A outer s H → BindsTo s fd args (ps.zip us) → Vals vs us → sp vs H Q E →
    codeAny (model P w) A (.call (.ref f) args) (CR CX outer P w H s Q E) s
end

section
variable {P : Program} {w : World} {K : PySem.W.Frag} {mg : Str → Option Value} {base : Heap} {CX : CXT} {k : Nat} {f : Addr} {fd : FuncData} {ps : List Str} {sp : Sp}
theorem FnG.of (F : FnOk P w K mg base CX k f fd ps sp) : FnG P w K mg base CX k f fd ps sp :=
  ⟨F.len, fun A outer s H args us vs Q E _ => F.run A outer s H args us vs Q E⟩

theorem fnG_mk {name qual : Str} {params : Arguments} {body : List Stmt} {scope : Scope} {dV kV doc pm cdv ct oc : Value} {an od : Option Addr} {osl : Array (Option Value)} {N : List Str}
    (lk : K.lookup f = some ⟨oc, od, .func (PySem.W.fnOf name qual params body scope dV kV doc pm an cdv ct), osl⟩)
    (hcd : PySem.W.codeIn K cdv qual = true) (S : FnScope N ps scope) (len : ∀ vs H Q E, sp vs H Q E → vs.length = ps.length)
    (hb : ∀ (A : Around) (outer : List Env) (s : Shared) (H : Hp) (vs : List V) (Q : VK) (E : XK),
      Free (A.deeper (envOfC qual scope s.heap.objs.size f cdv)) → Room k (A.deeper (envOfC qual scope s.heap.objs.size f cdv)) → sp vs H Q E →
      ∃ t, PSs (cxOf CX P w K mg base N qual scope f cdv A outer s H E) body t ∧ t { nx := fun _ H' => Q .non H', rt := Q } (start N vs) H) :
    FnG P w K mg base CX (k + 1) f (PySem.W.fnOf name qual params body scope dV kV doc pm an cdv ct) ps sp := by
  constructor
  · exact len
  intro A outer s H args us vs Q E hg hr e0 hbd rv hsp
  have hlv := len _ _ _ _ hsp
  have hin : ∀ b o, base.get? b = some o → s.heap.get? b = some o := fun b o e => (e0.bs b o e).1
  have KX : K.In s.heap := e0.mod.kin.keeps hin
  have nl : s.heap.NoLimit := e0.mod.nolimit.keeps hin
  have hkd : ∀ y ∈ ps.zip us, scope.names.lookup y.1 = some .local ∨
      (scope.names.lookup y.1 = some .cell ∧ ((cellsFrom (s.heap.objs.size + 1) scope.names []).lookup y.1).isSome = true) := by
    rintro ⟨n, v⟩ hy
    have hp := S.par n (List.of_mem_zip hy).1
    exact hp.elim .inl fun q => .inr ⟨q, PySem.W.cellsFrom_some _ _ _ (.inl q)⟩
  refine codeAny_call_function hr.depth (KX _ _ lk) rfl S.co S.gen rfl (PySem.W.codeRec_of KX hcd) (hbd _ _ _ _ ?_)
  refine wpAny_newFunctionEnv_cells S.kind hkd ?_
  rintro env rfl s1 x
  refine ⟨nl.keeps x.toInCall.keep, codeAny_func ?_⟩
  obtain ⟨t, ht, hq⟩ := hb A outer s H vs Q E hg (hr.deeper _) hsp
  have J0 := inv_start (CX := CX) (N := N) (E := E) S hr.hd e0 hlv rv x
  refine wpAny_mono (ht.run [] s1 (start N vs) H _ J0 hq) ?_ (fun _ _ z => z)
  intro fl s' hs
  match fl, hs with
  | .ret u, ⟨v, σ', H', J, rv', q⟩ => exact ⟨v, H', J.os, J.bare, J.base, J.hok, rv', q⟩
  | .next, ⟨σ', H', J, q⟩ => exact ⟨V.non, H', J.os, J.bare, J.base, J.hok, rfl, q⟩
  | .brk, ⟨_, _, _, q⟩ => exact q.elim
  | .cont, ⟨_, _, _, q⟩ => exact q.elim

/-- a def of the text, nothing leaves it -/
theorem funG {x qual : Str} {st : Stmt} {N : List Str} (F : Fun K x qual st f fd) (S : FnScope N ps (defScope st)) (len : ∀ vs H Q E, sp vs H Q E → vs.length = ps.length)
    (hb : ∀ (cdv : Value) (A : Around) (outer : List Env) (s : Shared) (H : Hp) (vs : List V) (Q : VK) (E : XK),
      Free (A.deeper (envOfC qual (defScope st) s.heap.objs.size f cdv)) → Room k (A.deeper (envOfC qual (defScope st) s.heap.objs.size f cdv)) → sp vs H Q E →
      ∃ t, PSs (cxOf CX P w K mg base N qual (defScope st) f cdv A outer s H E) (defBody st) t ∧ t { nx := fun _ H' => Q .non H', rt := Q } (start N vs) H) :
    FnG P w K mg base CX (k + 1) f fd ps sp := by
  obtain ⟨oc, od, kV, doc, pm, an, cdv, ct, osl, rfl, lk, hcd⟩ := F.ex
  exact fnG_mk lk hcd S len fun A outer s H vs Q E hg hr hsp => hb cdv A outer s H vs Q E hg hr hsp
end

section
variable {X : Cx} {CX : CXT} {k : Nat} {f : Addr} {fd : FuncData} {ps : List Str} {sp : Sp} {dvs : List V} {ds : List Value} {E : XK} {x : Str} {p pos : Pos} {e : Expr} {es : List Expr} {t : TA}
theorem run_G {pins : List (Addr × Obj)} {σ : L2.St} {H : Hp} {s : Shared} {Q : VK} {us : List Value} {vs : List V}
    (F : FnG X.prog X.w X.K X.mg X.base CX k f fd ps sp) (hg : Free X.A) (hr : Room k X.A) (hb : Binds X.K fd ps ds) (hd : Vals dvs ds) (hx : Passes CX X E)
    (I : Inv X pins σ H s) (r : Vals vs us) (h : sp (vs ++ dvs) H Q E) : wpAny (model X.prog X.w) X.A (call (.ref f) us) (EP X pins σ Q) X.xe s := by
  have rr := r.append hd
  have hl : (us ++ ds).length = ps.length := rr.length ▸ F.len _ _ _ _ h
  refine wpAny_call (codeAny_mono (F.run X.A X.stack s H ⟨us, []⟩ _ _ Q E hg hr I.env0 (hb s us I.kIn hl) rr h) ?_)
  rintro (e | (_ | _ | _ | u)) s' hq
  · exact hx pins σ H s e s' I hq
  all_goals first | exact I.after hq | exact False.elim hq
theorem pe_callG (F : FnG X.prog X.w X.K X.mg X.base CX k f fd ps sp) (hfr : Free X.A) (hr : Room k X.A) (hg : Gl X x) (hm : X.mg x = some (.ref f)) (hk : PySem.W.keepIn X.K (.ref f) = true)
    (hb : Binds X.K fd ps ds) (hd : Vals dvs ds) (hx : Passes CX X E) (ha : PA X (e :: es) t) (hdb : (x == ("__debug__" : Str)) = false := by decide)
    (he : starEach (e :: es) X.env = (false, eval e X.env) :: starEach es X.env := by rfl) (hpl : (backTo pos (starEach es X.env)).any (·.1) = false := by rfl) :
    PE X (.Call (.Name x p) (e :: es) [] pos) (tCall sp dvs E t) := by
  constructor
  intro pins s σ H Q I h
  refine wpAny_Call_Name_kw (ld_glob I hg hm ?_ hdb)
  refine PySem.W.callWith_K (h₀ := X.base) I.ok.mod.kin hk (thn (ha.run pos pins s σ H _ I h) ?_) he hpl
  rintro us s1 ⟨vs, H1, I1, r, q⟩
  exact ⟨I1.kIn, run_G F hfr hr hb hd hx I1 r q⟩
end
end Tk

set_option Elab.async false
set_option linter.all false
set_option maxRecDepth 100000
set_option maxHeartbeats 4000000
namespace Tk
open PySem PySem.Spec PyProof.Rows L2

/-! ### data -/
section
variable {K : PySem.W.Frag} {H H' : Hp}
mutual
theorem Dp.noDict : ∀ {v : V} {d : PyData}, Dp K H v d → d.hasDict = false
  | _, _, .non => by simp only [PyData.hasDict]
  | _, _, .bl b => by simp only [PyData.hasDict]
  | _, _, .int i => by simp only [PyData.hasDict]
  | _, _, .str x => by simp only [PyData.hasDict]
  | _, _, .lst _ h => by simp only [PyData.hasDict]; exact DpAll.noDict h
  | _, _, .tup _ h => by simp only [PyData.hasDict]; exact DpAll.noDict h
theorem DpAll.noDict : ∀ {vs : List V} {ds : List PyData}, DpAll K H vs ds → PyData.hasDictAll ds = false
  | _, _, .nil => by simp only [PyData.hasDictAll]
  | _, _, .cons a b => by simp only [PyData.hasDictAll, Dp.noDict a, DpAll.noDict b, Bool.or_self]
end
theorem Same.sq {a : Addr} {xs : List V} (e : Same H H') (h : SqT K H a xs) : SqT K H' a xs := by
  rcases h with (h | ⟨o, h⟩) | h
  · exact .inl (.inl (e _ _ h))
  · exact .inl (.inr ⟨o, e _ _ h⟩)
  · exact .inr h
mutual
theorem Dp.same (e : Same H H') : ∀ {v : V} {d : PyData}, Dp K H v d → Dp K H' v d
  | _, _, .non => .non
  | _, _, .bl b => .bl b
  | _, _, .int i => .int i
  | _, _, .str x => .str x
  | _, _, .lst s h => .lst (e.seq s) (DpAll.same e h)
  | _, _, .tup s h => .tup (Same.sq e s) (DpAll.same e h)
theorem DpAll.same (e : Same H H') : ∀ {vs : List V} {ds : List PyData}, DpAll K H vs ds → DpAll K H' vs ds
  | _, _, .nil => .nil
  | _, _, .cons a b => .cons (Dp.same e a) (DpAll.same e b)
end
end

/-! ### repr -/
def rRepr (K : PySem.W.Frag) : List V → Hp → VK → Prop := fun xs H Q =>
  ∃ v d, xs = [v] ∧ Dp K H v d ∧ d.showable = true ∧ d.depth ≤ 60 ∧ d.shown.length ≤ sizeLine ∧ Q (.str d.shown) H
section
variable {X : Cx}
theorem call_repr (hf : Free X.A) (hu : X.A.units + 64 < cLine) : CallR X (.builtin "repr") (rRepr X.K) := by
  rintro pins s σ H xs us Q I r ⟨v, d, rfl, hd, hs, hdp, hz, q⟩
  obtain ⟨u, rfl, rv⟩ := Vals.one r
  obtain ⟨as, rd⟩ := Dp.reads I d v u hd rv
  cases rd with
  | none => exact P.repr_of_none ⟨.str _, H, I.tok _, ⟨_, rfl⟩, q⟩
  | bool b => exact P.repr_of_bool ⟨.str _, H, I.tok _, ⟨_, rfl⟩, q⟩
  | int i t => exact P.repr_of_int (by simpa [PyData.showable] using hs) ⟨.str _, H, I.tok _, ⟨_, rfl⟩, q⟩
  | str x t => exact P.repr_of_str ⟨.str _, H, I.tok _, ⟨_, rfl⟩, q⟩ (by simpa only [PyData.shown] using hz)
  | list h1 h2 h3 h4 =>
    exact repr_of_reads' (h₀ := s.heap) (.list h1 h2 h3 h4) hs (PyData.noDict_hsm (Dp.noDict hd)) hf (by omega) (fun _ _ z => z) (fun h' u tk k => ⟨.str _, H, I.kept k, ⟨_, rfl⟩, q⟩) hz
  | tuple h1 h2 h3 h4 =>
    exact repr_of_reads' (h₀ := s.heap) (.tuple h1 h2 h3 h4) hs (PyData.noDict_hsm (Dp.noDict hd)) hf (by omega) (fun _ _ z => z) (fun h' u tk k => ⟨.str _, H, I.kept k, ⟨_, rfl⟩, q⟩) hz
  | dict => cases hd

/-! ### d.update(e), both dicts of int and text keys -/
def rUpdate : V → List V → Hp → VK → Prop := fun x vs H Q => ∃ (d o : Addr) (kvs more : List (Key × V)), x = .ref d ∧ vs = [.ref o] ∧ d ≠ o ∧ H d = some (.dK kvs) ∧ H o = some (.dK more) ∧
  kvs.length + more.length ≤ sizeLine ∧ Q .non (upd H d (.dK (mergeK kvs more)))
theorem mt_update : MtR X "dict.update" rUpdate := by
  rintro pins s σ H x xs v us Q I rx r ⟨d, o, kvs, more, rfl, rfl, ne, hd, ho, hz, q⟩
  obtain rfl : v = Value.ref d := rx
  obtain ⟨u, rfl, ru⟩ := Vals.one r
  obtain rfl : u = Value.ref o := ru
  obtain ⟨z1, l1, vs1, r1, d1⟩ := dk_of I.hok hd
  obtain ⟨z2, l2, vs2, r2, d2⟩ := dk_of I.hok ho
  have e1 : kvs.length = vs1.length := Paired.length r1
  have e2 : more.length = vs2.length := Paired.length r2
  refine call_meetsIn PySem.F.slot_dict_update d1.typeIs PySem.F.entry_dict_update (PySem.F.args_dict_update_2 _ _) (meets_dict_update (mixKind X.prog X.w) d o ne l2)
    ⟨vs1, vs2, d1, d2, by omega, fun h' m1 _ sb => ?_⟩
  have hlen := length_mergeK more kvs
  have he : ∃ q, h'.get? d = some q := let ⟨q, _, _, hq, _⟩ := m1; ⟨q, hq⟩
  exact ⟨.non, _, d_write I (by rw [hd]; exact True.intro) sb he (dk_new (by omega) l1 (r2.merge r1) m1), rfl, q⟩
end
end Tk

set_option Elab.async false
set_option linter.all false
set_option maxRecDepth 100000
set_option maxHeartbeats 4000000
namespace Tk
open PySem PySem.Spec PyProof.Rows L2

/-! ### frames: what may have changed, and what not -/
def Hd (M : List Addr) (H : Hp) : Hp := fun b => if b ∈ M then none else H b
theorem Hd_of {M : List Addr} {H : Hp} {b : Addr} (n : b ∉ M) : Hd M H b = H b := if_neg n
theorem of_Hd {M : List Addr} {H : Hp} {b : Addr} {o : HO} (h : Hd M H b = some o) : b ∉ M ∧ H b = some o := by
  unfold Hd at h
  split at h
  · cases h
  · rename_i n; exact ⟨n, h⟩
structure Fr (M : List Addr) (H H' : Hp) : Prop where
  keep : ∀ b o, b ∉ M → H b = some o → H' b = some o
  live : ∀ b, H' b = none → H b = none
section
variable {M N : List Addr} {H H1 H2 : Hp} {a p : Addr} {o : HO} {K : PySem.W.Frag}
theorem Fr.refl (M : List Addr) (H : Hp) : Fr M H H := ⟨fun _ _ _ h => h, fun _ h => h⟩
theorem Fr.trans (x : Fr M H H1) (y : Fr M H1 H2) : Fr M H H2 := ⟨fun b o n h => y.keep b o n (x.keep b o n h), fun b h => x.live b (y.live b h)⟩
theorem Fr.mono (x : Fr M H H1) (s : ∀ b, b ∈ M → b ∈ N) : Fr N H H1 := ⟨fun b o n h => x.keep b o (fun z => n (s b z)) h, x.live⟩
theorem Fr.new (n : H p = none) : Fr M H (upd H p o) := by
  refine ⟨fun b u _ h => ?_, fun b h => ?_⟩
  · rw [upd_ne (ne_of_none h n)]; exact h
  · by_cases e : b = p
    · subst e; exact n
    · rw [upd_ne e] at h; exact h
theorem Fr.set (m : a ∈ M) : Fr M H (upd H a o) := by
  refine ⟨fun b u n h => ?_, fun b h => ?_⟩
  · have ne : b ≠ a := fun z => n (by rw [z]; exact m)
    rw [upd_ne ne]; exact h
  · by_cases e : b = a
    · subst e; rw [upd_same] at h; cases h
    · rw [upd_ne e] at h; exact h
/-- what was not there before need not be named -/
theorem Fr.drop (x : Fr (p :: M) H H1) (n : H p = none) : Fr M H H1 := by
  refine ⟨fun b u m h => x.keep b u ?_ h, x.live⟩
  intro z
  rcases List.mem_cons.mp z with e | e
  · exact ne_of_none h n e
  · exact m e
theorem Fr.weak (x : Fr M H H1) : Fr (p :: M) H H1 := x.mono fun _ h => List.mem_cons_of_mem _ h
theorem Fr.same (x : Fr [] H H1) : Same H H1 := fun b o h => x.keep b o List.not_mem_nil h
theorem Fr.of (x : Same H H1) (l : ∀ b, H1 b = none → H b = none) : Fr M H H1 := ⟨fun b o _ h => x b o h, l⟩
theorem Fr.hd (x : Fr M H H1) : Same (Hd M H) (Hd M H1) := fun b o h => by
  obtain ⟨n, h⟩ := of_Hd h
  rw [Hd_of n]; exact x.keep b o n h
theorem Fr.hdIn (x : Fr M H H1) (s : ∀ b, b ∈ M → b ∈ N) : Same (Hd N H) (Hd N H1) := (x.mono s).hd
theorem Hd_same : Same (Hd M H) H := fun _ _ h => (of_Hd h).2
theorem Hd_mono (s : ∀ b, b ∈ M → b ∈ N) : Same (Hd N H) (Hd M H) := fun b o h => by
  obtain ⟨n, h⟩ := of_Hd h
  rw [Hd_of fun z => n (s b z)]; exact h
theorem Fr.none (x : Fr M H H1) (n : H1 p = none) : H p = none := x.live p n
theorem Fr.at (x : Fr M H H1) (h : H p = some o) (n : p ∉ M) : H1 p = some o := x.keep p o n h
end

theorem negT {A B : Prop} (b : B) : if (!true) = true then A else B := by rw [if_neg (show ¬ ((!true) = true) by decide)]; exact b
theorem negF {A B : Prop} (a : A) : if (!false) = true then A else B := by rw [if_pos (show (!false) = true by decide)]; exact a
theorem nxt {D : Ends} {σ : L2.St} {H : Hp} (h : D.nx σ H) : tNext D σ H := h
theorem ifT {c : Bool} {A B : Prop} (h : c = true) (a : A) : if c = true then A else B := by rw [if_pos h]; exact a
theorem ifF {c : Bool} {A B : Prop} (h : c = false) (b : B) : if c = true then A else B := by rw [h, if_neg Bool.false_ne_true]; exact b
/-! ### defs of the text -/
structure FunAt (K : PySem.W.Frag) (mg : Str → Option Value) (x : Str) (st : Stmt) : Prop where
  ex : ∃ f fd, mg x = some (.ref f) ∧ Fun K x x st f fd
structure DefAt (K : PySem.W.Frag) (mg : Str → Option Value) (x : Str) (st : Stmt) (dvs : List V) : Prop where
  ex : ∃ f fd, mg x = some (.ref f) ∧ FunD K x x (defArgs st) (defBody st) (defScope st) dvs [] f fd
/-- the def's object is written -/
def LkF (K : PySem.W.Frag) (f : Addr) (fd : FuncData) : Prop := ∃ (oc : Value) (od : Option Addr) (osl : Array (Option Value)), K.lookup f = some ⟨oc, od, .func fd, osl⟩
theorem lkF_fun {K : PySem.W.Frag} {x qual : Str} {st : Stmt} {f : Addr} {fd : FuncData} (F : Fun K x qual st f fd) : LkF K f fd := by
  obtain ⟨oc, od, kV, doc, pm, an, cdv, ct, osl, rfl, lk, hcd⟩ := F.ex
  exact ⟨_, _, _, lk⟩
theorem lkF_funD {K : PySem.W.Frag} {x qual : Str} {params : Arguments} {body : List Stmt} {scope : Scope} {dvs : List V} {kws : List (Str × V)} {f : Addr} {fd : FuncData} (F : FunD K x qual params body scope dvs kws f fd) : LkF K f fd := by
  obtain ⟨oc, od, dV, kV, doc, pm, an, cdv, ct, osl, rfl, lk, _⟩ := F.ex
  exact ⟨_, _, _, lk⟩
structure Cal (P : Program) (w : World) (K : PySem.W.Frag) (mg : Str → Option Value) (base : Heap) (CX : CXT) (k : Nat) (x : Str) (ps : List Str) (dvs : List V) (sp : Sp) : Prop where
  ex : ∃ f fd ds, mg x = some (.ref f) ∧ PySem.W.keepIn K (.ref f) = true ∧ FnOk P w K mg base CX k f fd ps sp ∧ Binds K fd ps ds ∧ Vals dvs ds ∧ LkF K f fd
structure CalG (P : Program) (w : World) (K : PySem.W.Frag) (mg : Str → Option Value) (base : Heap) (CX : CXT) (k : Nat) (x : Str) (ps : List Str) (dvs : List V) (sp : Sp) : Prop where
  ex : ∃ f fd ds, mg x = some (.ref f) ∧ PySem.W.keepIn K (.ref f) = true ∧ FnG P w K mg base CX k f fd ps sp ∧ Binds K fd ps ds ∧ Vals dvs ds
section
variable {P : Program} {w : World} {K : PySem.W.Frag} {mg : Str → Option Value} {base : Heap} {CX : CXT} {k j : Nat} {x : Str} {ps N : List Str} {dvs : List V} {sp sp' : Sp} {st : Stmt}
theorem Cal.mono (c : Cal P w K mg base CX j x ps dvs sp) (h : j ≤ k) : Cal P w K mg base CX k x ps dvs sp := by
  obtain ⟨f, fd, ds, a, b, F, d, e⟩ := c.ex
  exact ⟨f, fd, ds, a, b, F.mono h, d, e⟩
theorem Cal.imp (c : Cal P w K mg base CX k x ps dvs sp) (h : ∀ vs H Q E, sp' vs H Q E → sp vs H Q E) : Cal P w K mg base CX k x ps dvs sp' := by
  obtain ⟨f, fd, ds, a, b, F, d, e⟩ := c.ex
  exact ⟨f, fd, ds, a, b, F.imp h, d, e⟩
theorem Cal.mk' (F : FunAt K mg x st)
    (hb : ∀ (kV doc pm : Value) (an : Option Addr) (cdv ct : Value) (us : List Value), us.length = ps.length → bindArgs (PySem.W.fnOf x x (defArgs st) (defBody st) (defScope st) .none kV doc pm an cdv ct) ⟨us, []⟩ = pure (ps.zip us))
    (ok : ∀ f fd, mg x = some (.ref f) → Fun K x x st f fd → FnOk P w K mg base CX k f fd ps sp) : Cal P w K mg base CX k x ps [] sp := by
  obtain ⟨f, fd, hm, F⟩ := F.ex
  exact ⟨f, fd, [], hm, F.kp, ok f fd hm F, F.binds hb, .nil, lkF_fun F⟩
/-- a def that lets nothing out -/
theorem Cal.mk0 (F : FunAt K mg x st) (S : FnScope N ps (defScope st)) (len : ∀ vs H Q E, sp vs H Q E → vs.length = ps.length)
    (hb : ∀ (kV doc pm : Value) (an : Option Addr) (cdv ct : Value) (us : List Value), us.length = ps.length → bindArgs (PySem.W.fnOf x x (defArgs st) (defBody st) (defScope st) .none kV doc pm an cdv ct) ⟨us, []⟩ = pure (ps.zip us))
    (body : ∀ (f : Addr) (cdv : Value) (A : Around) (outer : List Env) (s : Shared) (H : Hp) (vs : List V) (Q : VK) (E : XK), Room k (A.deeper (envOfC x (defScope st) s.heap.objs.size f cdv)) → sp vs H Q E →
      ∃ t, PSs (cxOf CX0 P w K mg base N x (defScope st) f cdv A outer s H E).nox (defBody st) t ∧ t { nx := fun _ H' => Q .non H', rt := Q } (start N vs) H) : Cal P w K mg base CX0 (k + 1) x ps [] sp :=
  Cal.mk' F hb fun f fd _ F => F.ok S len (body f)
/-- one that may raise -/
theorem Cal.mkX (F : FunAt K mg x st) (S : FnScope N ps (defScope st)) (len : ∀ vs H Q E, sp vs H Q E → vs.length = ps.length)
    (hb : ∀ (kV doc pm : Value) (an : Option Addr) (cdv ct : Value) (us : List Value), us.length = ps.length → bindArgs (PySem.W.fnOf x x (defArgs st) (defBody st) (defScope st) .none kV doc pm an cdv ct) ⟨us, []⟩ = pure (ps.zip us))
    (body : ∀ (f : Addr) (cdv : Value) (A : Around) (outer : List Env) (s : Shared) (H : Hp) (vs : List V) (Q : VK) (E : XK), Room k (A.deeper (envOfC x (defScope st) s.heap.objs.size f cdv)) → sp vs H Q E →
      ∃ t, PSs (cxOf (L2.CX P w) P w K mg base N x (defScope st) f cdv A outer s H E) (defBody st) t ∧ t { nx := fun _ H' => Q .non H', rt := Q } (start N vs) H) : Cal P w K mg base (L2.CX P w) (k + 1) x ps [] sp :=
  Cal.mk' F hb fun f fd _ F => F.okX S len (body f)
/-- one that lets nothing out, where no repr is around -/
theorem CalG.mk0 (F : FunAt K mg x st) (S : FnScope N ps (defScope st)) (len : ∀ vs H Q E, sp vs H Q E → vs.length = ps.length)
    (hb : ∀ (kV doc pm : Value) (an : Option Addr) (cdv ct : Value) (us : List Value), us.length = ps.length → bindArgs (PySem.W.fnOf x x (defArgs st) (defBody st) (defScope st) .none kV doc pm an cdv ct) ⟨us, []⟩ = pure (ps.zip us))
    (body : ∀ (f : Addr) (cdv : Value) (A : Around) (outer : List Env) (s : Shared) (H : Hp) (vs : List V) (Q : VK) (E : XK), Free (A.deeper (envOfC x (defScope st) s.heap.objs.size f cdv)) → Room k (A.deeper (envOfC x (defScope st) s.heap.objs.size f cdv)) → sp vs H Q E →
      ∃ t, PSs (cxOf CX0 P w K mg base N x (defScope st) f cdv A outer s H E).nox (defBody st) t ∧ t { nx := fun _ H' => Q .non H', rt := Q } (start N vs) H) : CalG P w K mg base CX0 (k + 1) x ps [] sp := by
  obtain ⟨f, fd, hm, F⟩ := F.ex
  refine ⟨f, fd, [], hm, F.kp, funG F S len fun cdv A outer s H vs Q E hg hr h => ?_, F.binds hb, .nil⟩
  obtain ⟨t, ht, q⟩ := body f cdv A outer s H vs Q E hg hr h
  exact ⟨t, ht.nox, q⟩
end
section
variable {X : Cx} {CX : CXT} {k : Nat} {ps : List Str} {sp : Sp} {dvs : List V} {E : XK} {x : Str} {p pos : Pos} {e : Expr} {es : List Expr} {t : TA}
/-- f(e, ..), f a def of the text -/
theorem pe_c (C : Cal X.prog X.w X.K X.mg X.base CX k x ps dvs sp) (hr : Room k X.A) (hg : Gl X x) (hx : Passes CX X E) (ha : PA X (e :: es) t) (hdb : (x == ("__debug__" : Str)) = false := by decide)
    (he : starEach (e :: es) X.env = (false, eval e X.env) :: starEach es X.env := by rfl) (hpl : (backTo pos (starEach es X.env)).any (·.1) = false := by rfl) :
    PE X (.Call (.Name x p) (e :: es) [] pos) (tCall sp dvs E t) := by
  obtain ⟨f, fd, ds, hm, hk, F, hb, hd, _⟩ := C.ex
  exact pe_call F hr hg hm hk hb hd hx ha hdb he hpl
theorem pe_c0 (C : Cal X.prog X.w X.K X.mg X.base CX k x ps dvs sp) (hr : Room k X.A) (hg : Gl X x) (hx : Passes CX X E) (hdb : (x == ("__debug__" : Str)) = false := by decide) :
    PE X (.Call (.Name x p) [] [] pos) (tCall sp dvs E tNil) := by
  obtain ⟨f, fd, ds, hm, hk, F, hb, hd, _⟩ := C.ex
  exact pe_call0 F hr hg hm hk hb hd hx hdb
theorem pe_cG (C : CalG X.prog X.w X.K X.mg X.base CX k x ps dvs sp) (hf : Free X.A) (hr : Room k X.A) (hg : Gl X x) (hx : Passes CX X E) (ha : PA X (e :: es) t) (hdb : (x == ("__debug__" : Str)) = false := by decide)
    (he : starEach (e :: es) X.env = (false, eval e X.env) :: starEach es X.env := by rfl) (hpl : (backTo pos (starEach es X.env)).any (·.1) = false := by rfl) :
    PE X (.Call (.Name x p) (e :: es) [] pos) (tCall sp dvs E t) := by
  obtain ⟨f, fd, ds, hm, hk, F, hb, hd⟩ := C.ex
  exact pe_callG F hf hr hg hm hk hb hd hx ha hdb he hpl
end
/-- the built-in names are not taken by the module -/
structure NoGl (mg : Str → Option Value) : Prop where
  len : mg "len" = none
  int : mg "int" = none
  range : mg "range" = none
  isinstance : mg "isinstance" = none
  bool : mg "bool" = none
  list : mg "list" = none
  tuple : mg "tuple" = none
  str : mg "str" = none
  all : mg "all" = none
  zip : mg "zip" = none
  sorted : mg "sorted" = none
  max : mg "max" = none
  min : mg "min" = none
  repr : mg "repr" = none
end Tk

set_option Elab.async false
set_option linter.all false
set_option maxRecDepth 100000
set_option maxHeartbeats 4000000
/-! Lambdas: made as values that the tracked heap knows; their calls, with arguments and defaults. -/
namespace Tk
open PySem PySem.Spec PyProof.Rows L2 LamX

/-- the very object stands at f -/
def FunO (f : Addr) (o : Obj) : HO := .ext fun h => h.get? f = some o
theorem funO_ok {P : Program} {w : World} {H : Hp} {h : Heap} {f : Addr} {o : Obj} (e : h.get? f = some o) : ObjOk P w H h f (FunO f o) := ⟨e, ⟨o, e⟩, fun _ _ p k => k _ p⟩
theorem funO_get {P : Program} {w : World} {H : Hp} {h : Heap} {f : Addr} {o : Obj} (x : HOk P w H h) (e : H f = some (FunO f o)) : h.get? f = some o := (x f _ e).1
theorem funO_neTbl {f : Addr} {o : Obj} (ps : Array Value) : FunO f o ≠ .tbl ps := fun z => by
  unfold FunO at z
  cases z
/-- the tuple of the defaults -/
def Dfl (H : Hp) (dvs : List V) (dV : Value) : Prop := (dvs = [] ∧ dV = .none) ∨ (dvs ≠ [] ∧ ∃ t, dV = .ref t ∧ H t = some (.tup dvs))
/-- a lambda's object, made in X -/
abbrev lamO (X : Cx) (params : Arguments) (body : Expr) (scope : Scope) (dV doc pm : Value) (c' : Addr) (ctv : Value) : Obj :=
  PySem.W.kdv_obj "<lambda>" (X.env.qual ++ "<lambda>") params (.expr body) scope (cloFrom X.env.cells scope.names []) dV doc pm c' ctv
section
variable {X : Cx} {pins : List (Addr × Obj)} {σ : L2.St} {H : Hp} {s : Shared}
theorem lam_tail {T : List (Addr × Str)} {c P : Addr} {params : Arguments} {body : Expr} {scope : Scope} {pos : Pos} {dV : Value} {E : Value → Shared → Prop} {Q : Value → Shared → Prop} (I : Inv X pins σ H s) (TB : TabB X.base X.mg c P) (code : X.env.code = .ref c)
    (mT : (P, X.env.qual ++ "<lambda>") ∈ T) (uT : ∀ p ∈ T, p.1 = P → p.2 = X.env.qual ++ "<lambda>") (hT : LamX.Tabs T H) (free : ∀ y ∈ scope.names, y.2 = .free → ∃ c, X.env.cells.lookup y.1 = some c)
    (q : ∀ (f c' : Addr) (pm ctv doc : Value) (H1 : Hp) (s' : Shared), ExtN H H1 → LamX.Tabs T H1 → H1 f = none → H1 c' = some (CodeO c' (X.env.qual ++ "<lambda>")) →
      Inv X pins σ (upd H1 f (FunO f (lamO X params body scope dV doc pm c' ctv))) s' → Q (.ref f) s') :
    wpAny (model X.prog X.w) X.A (makeTail "<lambda>" (X.env.qual ++ "<lambda>") params (.expr body) scope X.env dV .none none pos pos.line) Q E s := by
  obtain ⟨ps, hP, trip, tell⟩ := hT _ mT
  have bP : s.heap.BuiltinsAt X.mg P := TB.bm.keeps I.bk
  have atP : s.heap.get? P = some { cls := .none, data := .fields ps } := I.hok P _ hP
  cases am : codeAmong pos ps.toList with
  | none =>
    refine PySem.W.kdv_makeTail (mg := X.mg) (c := c) (P := P) (ps := ps) (closure_ok free) I.ok.glob (I.mod.glob.keeps I.bk) code (TB.code.keeps I.bk) atP trip am TB.gP bP fun c' ctv doc h' tk keep le lt rec tb => ?_
    obtain ⟨c2, oc, vs, t, e2, hoc, hd, hv⟩ := rec
    cases e2
    have nC : H c' = none := I.hok.fresh le
    have sz : s.heap.objs.size ≤ h'.objs.size := Nat.le_trans le (Nat.le_of_lt lt)
    have I1 := inv_table (t' := tk) (more := #[rawInt pos.line, rawInt pos.col, .ref c']) (h' := h') I hP keep tb le ⟨oc, vs, t, hoc, hd, hv⟩
    have n1 : h'.objs.size ≠ c' := Nat.ne_of_gt lt
    have n2 : h'.objs.size ≠ P := Nat.ne_of_gt (Nat.lt_of_lt_of_le (Heap.lt_size atP) sz)
    have ext : ExtN H (upd (upd H P (.tbl (ps ++ #[rawInt pos.line, rawInt pos.col, .ref c']))) c' (CodeO c' (X.env.qual ++ "<lambda>"))) := fun b o e n => by
      rw [upd_ne (ne_of_none e nC), upd_ne fun z => n ps (Option.some.inj (e.symm.trans (by rw [z]; exact hP)))]
      exact e
    have lst : (ps ++ #[rawInt pos.line, rawInt pos.col, .ref c']).toList = ps.toList ++ [rawInt pos.line, rawInt pos.col, .ref c'] := by simp
    refine q h'.objs.size c' ((X.mg "__name__").getD .none) ctv doc _ { s with heap := h'.push _, toks := tk } ext (fun p hp => ?_) ?_ upd_same (I1.laid (t' := tk) (fun b o e => Heap.get?_push_of_some _ e) (Nat.le_refl _) (funO_ok (Heap.get?_push_size _ rfl)))
    · by_cases hb : p.1 = P
      · rw [uT p hp hb, hb]
        refine ⟨_, by rw [upd_ne (ne_of_none hP nC), upd_same], by rw [lst]; exact PySem.TriplesOk_snoc _ _ _ _ trip, fun p' cv hcv => ?_⟩
        rw [lst] at hcv
        rcases among_app _ trip hcv with z | z
        · obtain ⟨c0, e1, e2⟩ := tell p' cv z
          exact ⟨c0, e1, ext _ _ e2 codeO_ne⟩
        · exact ⟨c', z, upd_same⟩
      · obtain ⟨ps', a1, a2, a3⟩ := hT p hp
        refine ⟨ps', by rw [upd_ne (ne_of_none a1 nC), upd_ne hb]; exact a1, a2, fun p' cv hcv => ?_⟩
        obtain ⟨c0, e1, e2⟩ := a3 p' cv hcv
        exact ⟨c0, e1, ext _ _ e2 codeO_ne⟩
    · rw [upd_ne n1, upd_ne n2]
      exact I.hok.fresh sz
  | some cv =>
    obtain ⟨c', e, hco⟩ := tell pos cv am
    subst e
    refine PySem.W.kdv_makeTailHit (mg := X.mg) (c := c) (P := P) (ps := ps) (closure_ok free) I.ok.glob (I.mod.glob.keeps I.bk) code (TB.code.keeps I.bk) atP trip am bP fun ctv doc h' tk keep sz => ?_
    exact q h'.objs.size c' ((X.mg "__name__").getD .none) ctv doc H { s with heap := h'.push _, toks := tk } (ExtN.refl H) hT (I.hok.fresh sz) hco
      (I.laid (t' := tk) (fun b o e => Heap.get?_push_of_some _ (keep b o e)) sz (funO_ok (Heap.get?_push_size _ rfl)))
end

/-- the defaults' values, told ahead -/
def DflEv (X : Cx) (params : Arguments) (dvs : List V) : Prop := params.kw_defaults = [] ∧ ∀ (pins : List (Addr × Obj)) (σ : L2.St) (H : Hp) (s : Shared) (E : Value → Shared → Prop) (Q : List Value → Shared → Prop), Inv X pins σ H s →
  (∀ us s', Inv X pins σ H s' → Vals dvs us → Q us s') → wpAny (model X.prog X.w) X.A (evalAll (evalEach params.defaults X.env)) Q E s
theorem dflEv_none {X : Cx} {params : Arguments} (h1 : params.kw_defaults = []) (h2 : params.defaults = []) : DflEv X params [] := by
  refine ⟨h1, fun pins σ H s E Q I q => ?_⟩
  rw [h2]
  exact evalAll_nil (q [] s I .nil)
theorem dflEv_int {X : Cx} {params : Arguments} {i : Int} {j pos} (h1 : params.kw_defaults = []) (h2 : params.defaults = [.Constant (.int i) j pos]) : DflEv X params [.int i] := by
  refine ⟨h1, fun pins σ H s E Q I q => ?_⟩
  rw [h2]
  exact evalAll_cons (wpAny_Constant_int (evalAll_nil (q _ _ (I.tok _) (.cons ⟨_, rfl⟩ .nil))))
/-- what making a lambda gives: f the new object -/
def tLamV (X : Cx) (T : List (Addr × Str)) (params : Arguments) (body : Expr) (scope : Scope) (dvs : List V) : TE := fun _ H Q => LamX.Tabs T H ∧ ∀ (f c' : Addr) (pm ctv doc dV : Value) (H1 : Hp), ExtN H H1 → LamX.Tabs T H1 → H1 f = none →
  H1 c' = some (CodeO c' (X.env.qual ++ "<lambda>")) → Dfl H1 dvs dV → Q (.ref f) (upd H1 f (FunO f (lamO X params body scope dV doc pm c' ctv)))
/-- the names of a lambda: parameters, captured ones, globals -/
structure LamD (N : List Str) (sc scope : Scope) (ps : List Str) : Prop where
  kind : scope.kind = .function
  co : scope.isCoroutine = false
  gen : scope.isGenerator = false
  par : ∀ y ∈ ps, scope.names.lookup y = some .local
  nc : ∀ y ∈ scope.names, y.2 ≠ .cell
  own : ∀ y ∈ scope.names, y.2 = .local → y.1 ∉ N
  free : ∀ y ∈ scope.names, y.2 = .free → sc.names.lookup y.1 = some .cell ∨ sc.names.lookup y.1 = some .free
  nd : ps.Nodup
def lamDB (N : List Str) (sc scope : Scope) (ps : List Str) : Bool :=
  decide (scope.kind = .function) && !scope.isCoroutine && !scope.isGenerator && (ps.all fun y => decide (scope.names.lookup y = some .local)) && (scope.names.all fun y => !decide (y.2 = .cell)) &&
    (scope.names.all fun y => !decide (y.2 = .local) || decide (y.1 ∉ N)) && (scope.names.all fun y => !decide (y.2 = .free) || decide (sc.names.lookup y.1 = some .cell) || decide (sc.names.lookup y.1 = some .free)) && decide ps.Nodup
theorem lamD_by {N : List Str} {sc scope : Scope} {ps : List Str} (h : lamDB N sc scope ps = true) : LamD N sc scope ps := by
  unfold lamDB at h
  simp only [Bool.and_eq_true, Bool.or_eq_true, Bool.not_eq_true', decide_eq_true_eq, decide_eq_false_iff_not, List.all_eq_true] at h
  obtain ⟨⟨⟨⟨⟨⟨⟨h1, h2⟩, h3⟩, h4⟩, h5⟩, h6⟩, h7⟩, h8⟩ := h
  refine ⟨h1, h2, h3, h4, h5, fun y hy e => (h6 y hy).resolve_left fun n => n e, fun y hy e => ?_, h8⟩
  rcases h7 y hy with (z | z) | z
  · exact absurd e z
  · exact .inl z
  · exact .inr z
theorem LamD.has {X : Cx} {scope : Scope} {ps : List Str} (L : LamD X.N X.env.scope scope ps) (ok : X.Ok) : ∀ y ∈ scope.names, y.2 = .free → ∃ c, X.env.cells.lookup y.1 = some c := fun y hy e =>
  (L.free y hy e).elim (fun k => ok.has _ (.inl k)) fun k => ok.has _ (.inr k)
section
variable {X : Cx}
/-- lambda ..: body, as a value -/
theorem pe_lam {T : List (Addr × Str)} {c P : Addr} {params : Arguments} {body : Expr} {scope : Scope} {pos : Pos} {ps : List Str} {dvs : List V} (TB : TabB X.base X.mg c P) (code : X.env.code = .ref c) (mT : (P, X.env.qual ++ "<lambda>") ∈ T) (uT : ∀ p ∈ T, p.1 = P → p.2 = X.env.qual ++ "<lambda>")
    (D : DflEv X params dvs) (L : LamD X.N X.env.scope scope ps) (hz : dvs.length ≤ sizeLine := by decide) : PE X (.Lambda params body scope pos) (tLamV X T params body scope dvs) := by
  refine ⟨fun pins s σ H Q I ⟨hT, q⟩ => ?_⟩
  rw [arm_eval_Lambda, defaultsOf_eq, D.1]
  refine wpAny_bind (D.2 pins σ H s _ _ I fun us s1 I1 r => wpAny_bind (wpAny_holding (wpAny_pure ?_)))
  rw [makeFunction_eq]
  simp only [List.zip_nil_right, List.filterMap_nil, List.isEmpty_nil, if_true, pure_bind]
  cases us with
  | nil =>
    cases r
    exact lam_tail I1 TB code mT uT hT (L.has I1.ok) fun f c' pm ctv doc H1 s' ext T1 nf hc I' => ⟨.ref f, _, I', rfl, q f c' pm ctv doc _ H1 ext T1 nf hc (.inl ⟨rfl, rfl⟩)⟩
  | cons u us =>
    simp only [List.isEmpty_cons, Bool.false_eq_true, if_false]
    refine wpAny_bind (wpAny_newTextTuple ?_)
    have nn : H s1.heap.objs.size = none := I1.hok.fresh (Nat.le_refl _)
    have kept : ∀ b o, H b = some o → upd H s1.heap.objs.size (.tup dvs) b = some o := fun b o e => by rw [upd_ne (ne_of_none e nn)]; exact e
    have I2 : Inv X pins σ (upd H s1.heap.objs.size (.tup dvs)) { s1 with heap := s1.heap.push { cls := .type "tuple", data := .seq (u :: us).toArray } } :=
      I1.laid (t' := s1.toks) (fun b o e => Heap.get?_push_of_some _ e) (Nat.le_refl _) ⟨hz, u :: us, r, _, Heap.get?_push_size _ rfl, rfl, _, rfl⟩
    have ne : dvs ≠ [] := fun z => by rw [z] at r; cases r
    refine lam_tail I2 TB code mT uT (hT.ext kept) (L.has I2.ok) fun f c' pm ctv doc H1 s' ext T1 nf hc I' => ⟨.ref f, _, I', rfl, q f c' pm ctv doc _ H1 ((ExtN.of kept).trans ext) T1 nf hc (.inr ⟨ne, _, rfl, ext _ _ upd_same fun _ z => by cases z⟩)⟩
end

/-! ### a lambda's call -/
/-- how n written arguments and the defaults are bound -/
def LamBind (params : Arguments) (body : Expr) (scope : Scope) (ps : List Str) (n : Nat) (dvs : List V) : Prop :=
  (dvs = [] → ∀ (q : Str) (cl : List (Str × Addr)) (doc pm cv ctv : Value) (us : List Value), us.length = n → bindArgs (PySem.W.kdv_fn "<lambda>" q params (.expr body) scope cl .none doc pm cv ctv) ⟨us, []⟩ = pure (ps.zip us)) ∧
  (dvs ≠ [] → ∀ (q : Str) (cl : List (Str × Addr)) (T : Addr) (doc pm cv ctv : Value) (us its : List Value), us.length = n → its.length = dvs.length →
    ∃ k, bindArgs (PySem.W.kdv_fn "<lambda>" q params (.expr body) scope cl (.ref T) doc pm cv ctv) ⟨us, []⟩ = seqItems? (.ref T) >>= k ∧ k (some its.toArray) = pure (ps.zip (us ++ its)))
theorem LamBind.to {P : Program} {w : World} {params : Arguments} {body : Expr} {scope : Scope} {ps : List Str} {n : Nat} {dvs : List V} {H : Hp} {s : Shared} {dV : Value} (B : LamBind params body scope ps n dvs) (ok : HOk P w H s.heap) (D : Dfl H dvs dV)
    (q : Str) (cl : List (Str × Addr)) (doc pm cv ctv : Value) {us : List Value} (hl : us.length = n) : ∃ its, Vals dvs its ∧ BindsTo s (PySem.W.kdv_fn "<lambda>" q params (.expr body) scope cl dV doc pm cv ctv) ⟨us, []⟩ (ps.zip (us ++ its)) := by
  rcases D with ⟨e, rfl⟩ | ⟨ne, t, rfl, ht⟩
  · subst e
    exact ⟨[], .nil, .of_eq (by rw [List.append_nil]; exact B.1 rfl q cl doc pm cv ctv us hl)⟩
  · obtain ⟨_, its, r, ob, e, hc, n, hd⟩ := ok t _ ht
    obtain ⟨k, e1, e2⟩ := B.2 ne q cl t doc pm cv ctv us its hl r.length.symm
    exact ⟨its, r, .of_defaults (T := t) rfl e hd e1 e2⟩
theorem zip_look {y : Str} {u : Value} : ∀ {ps : List Str} {us : List Value} {i : Nat}, ps.Nodup → ps[i]? = some y → us[i]? = some u → (ps.zip us).lookup y = some u
  | [], _, _, _, h, _ => by simp at h
  | _ :: _, [], _, _, _, h => by simp at h
  | p :: ps, w :: us, 0, nd, h1, h2 => by
    simp at h1 h2
    subst h1 h2
    simp [List.lookup_cons]
  | p :: ps, w :: us, i + 1, nd, h1, h2 => by
    obtain ⟨n1, n2⟩ := List.nodup_cons.mp nd
    have h1 : ps[i]? = some y := by simpa using h1
    have ne : (y == p) = false := beq_eq_false_iff_ne.mpr fun e => n1 (e ▸ List.mem_of_getElem? h1)
    rw [List.zip_cons_cons, List.lookup_cons, ne]
    exact zip_look n2 h1 (by simpa using h2)
theorem zip_lookR {y : Str} {u : Value} {ps : List Str} {us : List Value} {i : Nat} (nd : ps.Nodup) (hl : us.length = ps.length) (h1 : ps[i]? = some y) (h2 : us[i]? = some u) : (ps.zip us).reverse.lookup y = some u := by
  rw [PySem.lookup_reverse_of_nodup _ (by rw [List.map_fst_zip (by omega)]; exact nd)]
  exact zip_look nd h1 h2
/-- the context of the body: the maker's names, then the parameters -/
def lamCy (X : Cx) (A : Around) (outer : List Env) (s : Shared) (H : Hp) (E : XK) (scope : Scope) (ps : List Str) (f c' : Addr) : Cx := { LamX.lamCx X A outer s H E scope f c' with N := X.N ++ ps }
section
variable {X : Cx} {pins : List (Addr × Obj)} {σ : L2.St} {H HZ : Hp} {s s1 : Shared}
theorem lam_enter {A : Around} {outer : List Env} {E : XK} {scope : Scope} {ps : List Str} {ex : List Addr} {f c' : Addr} {h₁ : Heap} {tk : Nat} {vs : List V} {us : List Value} (I : Inv X pins σ H s) (L : LamD X.N X.env.scope scope ps)
    (e0 : Env0 X.prog X.w X.K X.mg X.base A outer s1 HZ) (hd : A.handled = none) (un : Un (frs X.stack) ex H HZ s.heap s1.heap) (out : ∀ y c, X.env.cells.lookup y = some c → c ∉ ex) (hl : us.length = ps.length) (r : Vals vs us)
    (hns : h₁.Ns s1.heap.objs.size fun y => (ps.zip us).reverse.lookup y) (kp : ∀ b o, s1.heap.get? b = some o → h₁.get? b = some o) :
    Inv (lamCy X A outer s1 HZ E scope ps f c') [] (σ ++ vs.map some) HZ { s1 with heap := h₁, toks := tk } := by
  have has := L.has I.ok
  have old : ∀ {y c}, (cloFrom X.env.cells scope.names []).lookup y = some c → X.env.cells.lookup y = some c := fun {y c} e => by
    rcases cloFrom_mem (PySem.mem_of_lookup e) with z | ⟨z1, z2⟩
    · cases z
    · obtain ⟨d, hd⟩ := has _ z1 rfl
      have hd : X.env.cells.lookup y = some d := hd
      rw [hd] at z2
      rw [hd, z2]; rfl
  have capt : ∀ {y}, scope.names.lookup y = some .free → ∃ c, (cloFrom X.env.cells scope.names []).lookup y = some c := fun {y} k => mem_lookup (cloFrom_has (cells := X.env.cells) (acc := []) (PySem.mem_of_lookup k))
  have cellK : ∀ {y c : _} {v : Option Value}, X.env.cells.lookup y = some c → s.heap.IsCell c v → h₁.IsCell c v := fun {y c v} e ⟨o, ho, hd⟩ => by
    obtain ⟨sl, q⟩ := un.any ho (I.freeC y c e) (out y c e)
    exact ⟨_, kp _ _ q, hd⟩
  have hlv : vs.length = ps.length := by rw [r.length, hl]
  have none0 : ∀ b : Addr, b ∉ (lamCy X A outer s1 HZ E scope ps f c').ex := fun b z => absurd (show b ∈ ([] : List Addr) from z) (by simp)
  refine ⟨⟨e0.mod, L.kind, rfl, rfl, Nat.le_refl _, fun y z c e1 e2 => I.ok.inj y z c (old e1) (old e2), fun y hy => ?_, fun y c z _ => ?_, fun _ => hd, Around.frames_deeper e0.frames, .inr ⟨rfl, rfl⟩, fun b z => absurd z (none0 b), e0.bs, e0.bsz, fun b _ _ => none0 b,
      fun b z => absurd z (none0 b), e0.funs, e0.frf⟩,
    rfl, e0.bare, Un.kept kp, ⟨_, hns, fun i y v e1 e2 e3 => ?_⟩, fun y c e => ?_, e0.hok.fresh (Nat.le_refl _), fun y c e => ?_, fun q hq => absurd (show q ∈ ([] : List (Addr × Obj)) ++ [] from hq) (by simp), e0.hok.kept kp, ?_⟩
  · rcases (show scope.names.lookup y = some .cell ∨ scope.names.lookup y = some .free from hy) with k | k
    · exact absurd rfl (L.nc _ (PySem.mem_of_lookup k))
    · exact capt k
  · have z : false = true := z
    cases z
  · have e1 : (X.N ++ ps)[i]? = some y := e1
    have e3 : Vis scope y := e3
    by_cases hi : i < X.N.length
    · rw [List.getElem?_append_left hi] at e1
      rw [List.getElem?_append_left (by rw [I.len]; exact hi)] at e2
      rcases e3 with k | k | k
      · exact absurd (List.mem_of_getElem? e1) (L.own _ (PySem.mem_of_lookup k) rfl)
      · exact absurd rfl (L.nc _ (PySem.mem_of_lookup k))
      · obtain ⟨m, hn, hl⟩ := I.loc
        have vis : Vis X.env.scope y := (L.free _ (PySem.mem_of_lookup k) rfl).elim (fun k => .inr (.inl k)) fun k => .inr (.inr k)
        obtain ⟨u, ru, lk⟩ := hl i y v e1 e2 vis
        obtain ⟨c2, h2⟩ := capt k
        have c1 := old h2
        refine ⟨u, ru, .inr ⟨.inr k, c2, h2, ?_⟩⟩
        rcases lk with ⟨k', _⟩ | ⟨_, c3, e', z⟩
        · have k' : X.env.scope.names.lookup y = some .local := k'
          rcases L.free _ (PySem.mem_of_lookup k) rfl with k2 | k2 <;> rw [show X.env.scope.names.lookup y = _ from k2] at k' <;> cases k'
        · rw [c1] at e'
          cases e'
          exact cellK c1 z
    · have hi' : X.N.length ≤ i := Nat.le_of_not_lt hi
      rw [List.getElem?_append_right hi'] at e1
      rw [List.getElem?_append_right (by rw [I.len]; exact hi'), I.len, List.getElem?_map] at e2
      cases hv : vs[i - X.N.length]? with
      | none => rw [hv] at e2; cases e2
      | some x =>
        rw [hv] at e2
        cases e2
        obtain ⟨u, hu, ru⟩ := r.get hv
        exact ⟨u, ru, .inl ⟨L.par y (List.mem_of_getElem? e1), zip_lookR L.nd hl e1 hu⟩⟩
  · obtain ⟨v, z⟩ := I.cell y c (old e)
    exact ⟨v, cellK (old e) z⟩
  · obtain ⟨v, o, ho, hd⟩ := I.cell y c (old e)
    exact un.free c o ho (I.freeC y c (old e)) (out y c (old e))
  · show (σ ++ vs.map some).length = (X.N ++ ps).length
    rw [List.length_append, List.length_append, List.length_map, I.len, hlv]
/-- the very lambda is at f, its code object is known, its defaults stand -/
structure LamAt (X : Cx) (params : Arguments) (body : Expr) (scope : Scope) (dvs : List V) (f c' : Addr) (H : Hp) : Prop where
  ex : ∃ (dV doc pm ctv : Value), H f = some (FunO f (lamO X params body scope dV doc pm c' ctv)) ∧ H c' = some (CodeO c' (X.env.qual ++ "<lambda>")) ∧ Dfl H dvs dV
theorem LamAt.keep {params : Arguments} {body : Expr} {scope : Scope} {dvs : List V} {f c' : Addr} {H H' : Hp} (x : LamAt X params body scope dvs f c' H) (k : ExtN H H') : LamAt X params body scope dvs f c' H' := by
  obtain ⟨dV, doc, pm, ctv, a, b, d⟩ := x.ex
  refine ⟨dV, doc, pm, ctv, k _ _ a funO_neTbl, k _ _ b codeO_ne, ?_⟩
  rcases d with d | ⟨ne, t, e, ht⟩
  · exact .inl d
  · exact .inr ⟨ne, t, e, k _ _ ht fun _ z => by cases z⟩
theorem lam_run {A : Around} {outer : List Env} {E : XK} {k n : Nat} {params : Arguments} {body : Expr} {scope : Scope} {ps : List Str} {dvs : List V} {ex : List Addr} {f c' : Addr} {vs : List V} {us : List Value} {tb : TE} {Q : VK} (I : Inv X pins σ H s) (L : LamD X.N X.env.scope scope ps)
    (B : LamBind params body scope ps n dvs) (hn : n + dvs.length = ps.length) (e0 : Env0 X.prog X.w X.K X.mg X.base A outer s1 HZ) (hr : Room (k + 1) A) (un : Un (frs X.stack) ex H HZ s.heap s1.heap) (out : ∀ y c, X.env.cells.lookup y = some c → c ∉ ex)
    (F : LamAt X params body scope dvs f c' HZ) (hl : vs.length = n) (r : Vals vs us)
    (hb : Room k (A.deeper (lamEnv X scope s1.heap.objs.size f c')) → PE (lamCy X A outer s1 HZ E scope ps f c') body tb) (q : tb (σ ++ (vs ++ dvs).map some) HZ Q) :
    codeAny (model X.prog X.w) A (.call (.ref f) ⟨us, []⟩) (CR (L2.CX X.prog X.w) outer X.prog X.w HZ s1 Q E) s1 := by
  obtain ⟨dV, doc, pm, ctv, hf, hc, hD⟩ := F.ex
  obtain ⟨its, ri, bi⟩ := B.to e0.hok hD (X.env.qual ++ "<lambda>") (cloFrom X.env.cells scope.names []) doc pm (.ref c') ctv (us := us) (by rw [← r.length, hl])
  have li := ri.length
  have lu := r.length
  obtain ⟨oc, fields, t, hoc, hdc, hvc⟩ := (e0.hok c' _ hc).1
  have lim : s1.heap.NoLimit := e0.mod.nolimit.keeps fun b o e => (e0.bs b o e).1
  refine PySem.W.kla_callFunE hr.depth (funO_get e0.hok hf) rfl L.co L.gen rfl ⟨c', oc, fields, t, rfl, hoc, hdc, hvc⟩ (bi _ _ _ _ ?_)
  refine wpAny_newFunctionEnv L.nc (fun y hy => L.par _ (List.of_mem_zip hy).1) (fun h₁ hns hsb => ⟨lim.fresh _ hsb, ?_⟩) L.kind
  have kp : ∀ b o, s1.heap.get? b = some o → h₁.get? b = some o := fun b o e => hsb.extBut b o (Nat.ne_of_lt (Heap.lt_size e)) (Heap.get?_push_of_some _ e)
  have J := lam_enter (E := E) (f := f) (c' := c') (tk := s1.toks + (ps.zip (us ++ its)).length) I L e0 hr.hd un out (vs := vs ++ dvs) (us := us ++ its) (by rw [List.length_append]; omega) (r.append ri) hns kp
  refine PySem.W.kla_codeExpr (wpAny_mono ((hb (hr.deeper _)).run [] _ _ HZ Q J q) (fun v s' h => ?_) fun _ _ h => h)
  obtain ⟨x, H', J', rv, h⟩ := h
  exact ⟨x, H', J'.os, J'.bare, J'.base, J'.hok, rv, h⟩
end
end Tk

set_option Elab.async false
set_option linter.all false
set_option maxRecDepth 100000
set_option maxHeartbeats 4000000
namespace Tk
open PySem PySem.Spec PyProof.Rows L2

/-! ### comprehensions whose parts only make new objects -/
/-- ys are made of the xs that are taken -/
inductive Made (p : V → Bool) (R : V → V → Hp → Prop) (H : Hp) : List V → List V → Prop where
  | nil : Made p R H [] []
  | take {x y : V} {xs ys : List V} : p x = true → R x y H → Made p R H xs ys → Made p R H (x :: xs) (y :: ys)
  | skip {x : V} {xs ys : List V} : p x = false → Made p R H xs ys → Made p R H (x :: xs) ys
section
variable {p : V → Bool} {R : V → V → Hp → Prop} {H H' : Hp}
theorem Made.same (mono : ∀ x y H H', Same H H' → R x y H → R x y H') (e : Same H H') : ∀ {xs ys : List V}, Made p R H xs ys → Made p R H' xs ys
  | _, _, .nil => .nil
  | _, _, .take a b c => .take a (mono _ _ _ _ e b) (Made.same mono e c)
  | _, _, .skip a c => .skip a (Made.same mono e c)
theorem Made.snoc {x y : V} (hp : p x = true) (r : R x y H) : ∀ {xs ys : List V}, Made p R H xs ys → Made p R H (xs ++ [x]) (ys ++ [y])
  | _, _, .nil => .take hp r .nil
  | _, _, .take a b c => .take a b (Made.snoc hp r c)
  | _, _, .skip a c => .skip a (Made.snoc hp r c)
theorem Made.out {x : V} (hp : p x = false) : ∀ {xs ys : List V}, Made p R H xs ys → Made p R H (xs ++ [x]) ys
  | _, _, .nil => .skip hp .nil
  | _, _, .take a b c => .take a b (Made.out hp c)
  | _, _, .skip a c => .skip a (Made.out hp c)
theorem Made.len : ∀ {xs ys : List V}, Made p R H xs ys → ys.length ≤ xs.length
  | _, _, .nil => Nat.le_refl _
  | _, _, .take a b c => Nat.succ_le_succ (Made.len c)
  | _, _, .skip a c => Nat.le_succ_of_le (Made.len c)
/-- R tells the value: the list is a filter and a map -/
theorem Made.pure {f : V → V} (h : ∀ x y H, R x y H → y = f x) : ∀ {xs ys : List V}, Made p R H xs ys → ys = (xs.filter p).map f
  | _, _, .nil => rfl
  | _, _, .take a b c => by rw [List.filter_cons_of_pos a, List.map_cons, ← Made.pure h c, ← h _ _ _ b]
  | _, _, .skip a c => by rw [List.filter_cons_of_neg (by rw [a]; exact Bool.false_ne_true), ← Made.pure h c]
end
theorem take_snoc {xs : List V} {i : Nat} {x : V} (h : xs[i]? = some x) : xs.take (i + 1) = xs.take i ++ [x] := by
  rw [List.take_add_one, h]; rfl

/-- one turn of a comprehension -/
abbrev LcTurn (g : TG) (tt : TT) (te : TE) (vs : List Nat) (σ : L2.St) (D : Addr) (H : Hp) (x : V) (Nx : Hp → Prop) : Prop :=
  g x (wipe σ vs) H fun σ2 H2 => wipe σ2 vs = wipe σ vs ∧ tt σ2 H2 fun b H3 =>
    if b = true then te σ2 H3 fun y H4 => ∃ acc, H4 D = some (.lst acc) ∧ acc.length < sizeLine ∧ Nx (upd H4 D (.lst (acc ++ [y]))) else Nx H3
section
variable {K : PySem.W.Frag} {a : Addr} {xs : List V} {tt : TT} {te : TE} {vs : List Nat} {σ : L2.St} {H1 : Hp} {D : Addr} {j : Nat} {Qd : Hp → Prop}
  (p : V → Bool) (R : V → V → Hp → Prop) (mono : ∀ x y H H', Same H H' → R x y H → R x y H')
  (nD : H1 D = none) (hl : xs.length < sizeLine) (hw : ∀ x, wipe ((wipe σ vs).set j (some x)) vs = wipe σ vs)
  (ht : ∀ x H Q', x ∈ xs → Fr [] H1 H → (∃ acc, H D = some (.lst acc)) → (∀ H', Fr [] H H' → Q' (p x) H') → tt ((wipe σ vs).set j (some x)) H Q')
  (he : ∀ x H Q', x ∈ xs → p x = true → Fr [] H1 H → (∃ acc, H D = some (.lst acc)) → (∀ y H', Fr [] H H' → R x y (Hd [D] H') → Q' y H') → te ((wipe σ vs).set j (some x)) H Q')
  (hd : ∀ H ys, H D = some (.lst ys) → Fr [] H1 H → Made p R (Hd [D] H) xs ys → Qd H)
def LcInv (p : V → Bool) (R : V → V → Hp → Prop) (xs : List V) (H1 : Hp) (D : Addr) (i : Nat) (H : Hp) : Prop := ∃ ys, H D = some (.lst ys) ∧ Fr [] H1 H ∧ Made p R (Hd [D] H) (xs.take i) ys
include nD in
theorem lcInv_0 : LcInv p R xs H1 D 0 (upd H1 D (.lst [])) := ⟨[], upd_same, Fr.new nD, by rw [List.take_zero]; exact .nil⟩
include mono nD hl hw ht he in
theorem lcInv_s {i : Nat} {x : V} {H : Hp} (hx : xs[i]? = some x) (I : LcInv p R xs H1 D i H) : LcTurn (gName j) tt te vs σ D H x (LcInv p R xs H1 D (i + 1)) := by
  obtain ⟨ys, hD, fr, md⟩ := I
  have hm : x ∈ xs := List.mem_of_getElem? hx
  refine ⟨hw x, ht x H _ hm fr ⟨_, hD⟩ fun H2 fr2 => ?_⟩
  have hD2 : H2 D = some (.lst ys) := fr2.same _ _ hD
  have md2 := Made.same mono (fr2.hdIn (N := [D]) (fun _ z => nomatch z)) md
  by_cases hp : p x = true
  · rw [if_pos hp]
    refine he x H2 _ hm hp (fr.trans fr2) ⟨_, hD2⟩ fun y H4 fr4 r => ?_
    have hD4 : H4 D = some (.lst ys) := fr4.same _ _ hD2
    have hz : ys.length < sizeLine := by
      have h1 := md.len
      have h2 : (xs.take i).length ≤ xs.length := by rw [List.length_take]; omega
      omega
    have fr5 : Fr [D] H4 (upd H4 D (.lst (ys ++ [y]))) := Fr.set (List.mem_singleton.mpr rfl)
    refine ⟨ys, hD4, hz, ys ++ [y], upd_same, Fr.drop (((fr.trans (fr2.trans fr4)).weak).trans fr5) nD, ?_⟩
    rw [take_snoc hx]
    exact Made.snoc hp (mono _ _ _ _ fr5.hd r) (Made.same mono (((fr4.hdIn (N := [D]) (fun _ z => nomatch z))).trans fr5.hd) md2)
  · have hp' : p x = false := by simpa using hp
    rw [if_neg hp]
    refine ⟨ys, hD2, fr.trans fr2, ?_⟩
    rw [take_snoc hx]
    exact Made.out hp' md2
include mono nD hl hw ht he hd in
theorem lc_listR (h1 : SqL K H1 a xs) : ∃ W : Nat → Nat → Hp → Prop, (∃ m, W 0 m (upd H1 D (.lst []))) ∧ ∀ i m H, W i m H →
      ((Itl K a).stop i H ∧ Qd H) ∨ ((Itl K a).go i H ∧ ∃ Nx : Hp → Prop, (∀ H', Nx H' → ∃ m', m' < m ∧ W (i + 1) m' H') ∧ ∀ x H', (Itl K a).yld i H x H' → LcTurn (gName j) tt te vs σ D H' x Nx) := by
  refine lc_list (K := K) (a := a) (xs := xs) (LcInv p R xs H1 D) (lcInv_0 p R nD) (fun i H hi I => ?_) (fun i x H hx I => lcInv_s p R mono nD hl hw ht he hx I) (fun H I => ?_)
  · obtain ⟨_, _, fr, _⟩ := I
    exact fr.same.seq h1
  · obtain ⟨ys, hD, fr, md⟩ := I
    rw [List.take_length] at md
    exact hd H ys hD fr md
include mono nD hl hw ht he hd in
theorem lc_tupR (h1 : SqT K H1 a xs) : ∃ W : Nat → Nat → Hp → Prop, (∃ m, W 0 m (upd H1 D (.lst []))) ∧ ∀ i m H, W i m H →
      ((Itt K a).stop i H ∧ Qd H) ∨ ((Itt K a).go i H ∧ ∃ Nx : Hp → Prop, (∀ H', Nx H' → ∃ m', m' < m ∧ W (i + 1) m' H') ∧ ∀ x H', (Itt K a).yld i H x H' → LcTurn (gName j) tt te vs σ D H' x Nx) := by
  refine lc_tup (K := K) (a := a) (xs := xs) (LcInv p R xs H1 D) (lcInv_0 p R nD) (fun i H hi I => ?_) (fun i x H hx I => lcInv_s p R mono nD hl hw ht he hx I) (fun H I => ?_)
  · obtain ⟨_, _, fr, _⟩ := I
    exact Same.sq fr.same h1
  · obtain ⟨ys, hD, fr, md⟩ := I
    rw [List.take_length] at md
    exact hd H ys hD fr md
end

/-! ### zip of two lists in a comprehension, a pure element -/
section
variable {K : PySem.W.Frag} {a b : Addr} {xs ys : List V} {te : TE} {vs : List Nat} {σ : L2.St} {H1 : Hp} {D : Addr} {i1 i2 : Nat} {Qd : Hp → Prop}
theorem zip_get {α β : Type} {xs : List α} {ys : List β} {i : Nat} {x : α} {y : β} (hx : xs[i]? = some x) (hy : ys[i]? = some y) : (xs.zip ys)[i]? = some (x, y) := by
  rw [List.getElem?_zip_eq_some]; exact ⟨hx, hy⟩
theorem zip_take_snoc {α β : Type} {xs : List α} {ys : List β} {i : Nat} {x : α} {y : β} (hx : xs[i]? = some x) (hy : ys[i]? = some y) : (xs.zip ys).take (i + 1) = (xs.zip ys).take i ++ [(x, y)] := by
  rw [List.take_add_one, zip_get hx hy]; rfl
theorem lc_zipP (f : V → V → V) (nD : H1 D = none) (hl : xs.length < sizeLine) (sx : SqL K H1 a xs) (sy : SqL K H1 b ys)
    (hw : ∀ x y, wipe (((wipe σ vs).set i1 (some x)).set i2 (some y)) vs = wipe σ vs)
    (he : ∀ x y H Q', (x, y) ∈ xs.zip ys → Fr [] H1 H → (∀ H', Fr [] H H' → Q' (f x y) H') → te (((wipe σ vs).set i1 (some x)).set i2 (some y)) H Q')
    (hd : ∀ H, H D = some (.lst ((xs.zip ys).map fun q => f q.1 q.2)) → Fr [] H1 H → Qd H) :
    ∃ W : Nat → Nat → Hp → Prop, (∃ m, W 0 m (upd H1 D (.lst []))) ∧ ∀ i m H, W i m H →
      ((Itz K a b).stop i H ∧ Qd H) ∨ ((Itz K a b).go i H ∧ ∃ Nx : Hp → Prop, (∀ H', Nx H' → ∃ m', m' < m ∧ W (i + 1) m' H') ∧ ∀ x H', (Itz K a b).yld i H x H' → LcTurn (gTup K 2 (gCons (gName i1) (gCons (gName i2) gNil))) tYes te vs σ D H' x Nx) := by
  let Pv : Nat → Hp → Prop := fun i H => H D = some (.lst (((xs.zip ys).take i).map fun q => f q.1 q.2)) ∧ Fr [] H1 H
  refine ⟨fun i m H => m = (xs.zip ys).length - i ∧ i ≤ (xs.zip ys).length ∧ Pv i H, ⟨_, rfl, Nat.zero_le _, upd_same, Fr.new nD⟩, ?_⟩
  rintro i m H ⟨rfl, hi, hD, fr⟩
  have qx := fr.same.seq sx
  have qy := fr.same.seq sy
  rw [List.length_zip] at hi ⊢
  by_cases hlt : i < xs.length ∧ i < ys.length
  · have hx : xs[i]? = some xs[i] := List.getElem?_eq_getElem hlt.1
    have hy : ys[i]? = some ys[i] := List.getElem?_eq_getElem hlt.2
    refine .inr ⟨⟨xs, ys, _, _, qx, qy, hx, hy⟩, Pv (i + 1), fun H' p' => ⟨min xs.length ys.length - (i + 1), by omega, rfl, by omega, p'⟩, fun v H' yl => ?_⟩
    obtain ⟨T, x', y', rfl, hT, rfl, f1, f2⟩ := yl
    have ex := f1 xs qx
    have ey := f2 ys qy
    refine ⟨T, [x', y'], rfl, SqT.of upd_same, rfl, x', [y'], rfl, y', [], rfl, rfl, hw x' y', ?_⟩
    dsimp only [tYes]
    rw [if_pos rfl]
    have fr1 : Fr [] H (upd H T (.tup [x', y'])) := Fr.new hT
    refine he x' y' _ _ (List.mem_of_getElem? (zip_get ex ey)) (fr.trans fr1) fun H4 fr4 => ?_
    have hD4 := fr4.same _ _ (fr1.same _ _ hD)
    refine ⟨_, hD4, ?_, ?_, Fr.drop ((fr.trans (fr1.trans fr4)).weak.trans (Fr.set (List.mem_singleton.mpr rfl))) nD⟩
    · rw [List.length_map, List.length_take, List.length_zip]; omega
    · rw [zip_take_snoc ex ey, List.map_append]; exact upd_same
  · refine .inl ⟨⟨xs, ys, qx, qy, by omega⟩, hd H ?_ fr⟩
    have e : i = (xs.zip ys).length := by rw [List.length_zip]; omega
    rw [e, List.take_length] at hD
    exact hD
end
end Tk

set_option Elab.async false
set_option linter.all false
set_option maxRecDepth 100000
namespace Tk
open PySem L2
def topS (i : Nat) : Stmt := PySem.Challenge.pw_timekernel_k88_texts_that_are_no_logs.main.body.getD i (.Pass ⟨0, 0, 0, 0⟩)
abbrev s_NoRow___init__ : Stmt := inClass (topS 3) 0
abbrev s_is_whole : Stmt := topS 5
abbrev s_power : Stmt := topS 6
abbrev s_size_of : Stmt := topS 12
abbrev s_is_row : Stmt := topS 13
abbrev s_check_log : Stmt := topS 14
abbrev s_is_short : Stmt := topS 15
abbrev s_is_clock_pair : Stmt := topS 16
abbrev s_word_of : Stmt := topS 17
abbrev s_show_log : Stmt := topS 18
abbrev s_number_of : Stmt := topS 19
abbrev s_thing_of : Stmt := topS 20
abbrev s_read_log : Stmt := topS 21
abbrev s__law_cell_at : Stmt := topS 23
abbrev s__law_mixed : Stmt := topS 24
abbrev s__law_source : Stmt := topS 25
abbrev s__law_next : Stmt := topS 26
abbrev s__law_sizes : Stmt := topS 27
abbrev s__law_thing : Stmt := topS 28
abbrev s__law_word : Stmt := topS 29
abbrev s__law_any_rows : Stmt := topS 30
abbrev s__law_text : Stmt := topS 31
abbrev s__law_is_number : Stmt := topS 32
abbrev s__law_is_thing : Stmt := topS 33
abbrev s__law_wrong : Stmt := topS 34
abbrev s__law_spoilt : Stmt := topS 35
abbrev s__law_said : Stmt := topS 36
abbrev s__law_long_right : Stmt := topS 37
abbrev s__law_refused : Stmt := topS 38
abbrev s_law : Stmt := topS 39
end Tk

set_option Elab.async false
set_option linter.all false
set_option maxRecDepth 100000
set_option maxHeartbeats 4000000
namespace Tk
open PySem PySem.Spec PyProof.Rows L2

/-! ### kinds -/
/-- what kind of thing a value is -/
inductive Kd (H : Hp) : V → String → Prop where
  | non : Kd H .non "NoneType"
  | bl (b : Bool) : Kd H (.bl b) "bool"
  | int (i : Int) : Kd H (.int i) "int"
  | str (x : Str) : Kd H (.str x) "str"
  | lst {a : Addr} {xs : List V} (e : H a = some (.lst xs)) : Kd H (.ref a) "list"
  | tup {a : Addr} {xs : List V} (e : H a = some (.tup xs)) : Kd H (.ref a) "tuple"
  | dK {a : Addr} {kvs : List (Key × V)} (e : H a = some (.dK kvs)) : Kd H (.ref a) "dict"
section
variable {K : PySem.W.Frag} {H H' : Hp} {x : V} {t : String}
theorem Kd.same (e : Same H H') (k : Kd H x t) : Kd H' x t := by
  cases k with
  | non => exact .non
  | bl b => exact .bl b
  | int i => exact .int i
  | str y => exact .str y
  | lst h => exact .lst (e _ _ h)
  | tup h => exact .tup (e _ _ h)
  | dK h => exact .dK (e _ _ h)
theorem Kd.ty (k : Kd H x t) : TyX K H x (.type t) := by
  cases k with
  | non => exact .base .non
  | bl b => exact .base (.bl b)
  | int i => exact .base (.int i)
  | str y => exact .base (.str y)
  | lst h => exact .base (.lst h)
  | tup h => exact .base (.tup h)
  | dK h => exact .base (.dK h)
def isIntV : V → Bool | .int _ => true | .bl _ => true | _ => false
def isBlV : V → Bool | .bl _ => true | _ => false
def isStrV : V → Bool | .str _ => true | _ => false
theorem Kd.int' (k : Kd H x t) : PySem.W.kitOne K (.type t) (.type "int") = some (isIntV x) := by
  cases k <;> (refine kit_ty ?_; first | (show kitB _ _ = some true; decide +kernel) | (show kitB _ _ = some false; decide +kernel))
theorem Kd.bool' (k : Kd H x t) : PySem.W.kitOne K (.type t) (.type "bool") = some (isBlV x) := by
  cases k <;> (refine kit_ty ?_; first | (show kitB _ _ = some true; decide +kernel) | (show kitB _ _ = some false; decide +kernel))
theorem Kd.str' (k : Kd H x t) : PySem.W.kitOne K (.type t) (.type "str") = some (isStrV x) := by
  cases k <;> (refine kit_ty ?_; first | (show kitB _ _ = some true; decide +kernel) | (show kitB _ _ = some false; decide +kernel))
theorem Kd.list' (k : Kd H x t) : PySem.W.kitOne K (.type t) (.type "list") = some (decide (t = "list")) := by
  cases k <;> (refine kit_ty ?_; first | (show kitB _ _ = some true; decide +kernel) | (show kitB _ _ = some false; decide +kernel))
theorem Kd.tuple' (k : Kd H x t) : PySem.W.kitOne K (.type t) (.type "tuple") = some (decide (t = "tuple")) := by
  cases k <;> (refine kit_ty ?_; first | (show kitB _ _ = some true; decide +kernel) | (show kitB _ _ = some false; decide +kernel))
end
/-- isinstance(x, T), T one of the five -/
inductive IsA (H : Hp) (x : V) (t : String) : String → Bool → Prop where
  | int : IsA H x t "int" (isIntV x)
  | bool : IsA H x t "bool" (isBlV x)
  | str : IsA H x t "str" (isStrV x)
  | list : IsA H x t "list" (decide (t = "list"))
  | tuple : IsA H x t "tuple" (decide (t = "tuple"))
def rIs : List V → Hp → VK → Prop := fun vs H Q => ∃ x t T b, vs = [x, .ty T] ∧ Kd H x t ∧ IsA H x t T b ∧ Q (.bl b) H
theorem call_is {X : Cx} : CallR X (.builtin "isinstance") rIs := by
  rintro pins s σ H xs us Q I r ⟨x, t, T, b, rfl, k, i, q⟩
  refine call_isi pins s σ H [x, .ty T] us Q I r ⟨x, .ty T, .type t, .type T, b, rfl, .ty T, k.ty, ?_, q⟩
  cases i
  · exact k.int'
  · exact k.bool'
  · exact k.str'
  · exact k.list'
  · exact k.tuple'
/-- isinstance(e, T) -/
theorem pe_is {X : Cx} {e : Expr} {te : TE} {T : Str} {n : String} {p p2 pos : Pos} (G : NoGl X.mg) (hT : X.mg T = none) (he : PE X e te) (hg : Gl X "isinstance" := by rfl) (hg2 : Gl X T := by rfl)
    (hb : bootBuiltins T = some (.type n) := by decide +kernel) (hn : T ≠ "__name__" := by decide) (hd : (T == ("__debug__" : Str)) = false := by decide)
    (h1 : starEach [e, .Name T p2] X.env = (false, eval e X.env) :: starEach [.Name T p2] X.env := by rfl) (h2 : starEach [.Name T p2] X.env = (false, eval (.Name T p2) X.env) :: starEach [] X.env := by rfl)
    (h3 : (backTo pos (starEach [.Name T p2] X.env)).any (·.1) = false := by rfl) :
    PE X (.Call (.Name "isinstance" p) [e, .Name T p2] [] pos) (tCB rIs (tCons te (tCons (tC (.ty n)) tNil))) :=
  pe_callB call_is hg G.isinstance (by decide +kernel) (pa_cons he (pa_cons (pe_bltn hg2 hT hb rfl hn hd) pa_nil h2) h1) (by decide) (by decide) h1 h3

/-! ### is_whole, is_cycles -/
def wholeV : V → V → Bool
  | .int i, .int n => decide (n ≤ i)
  | .int _, .non => true
  | _, _ => false
section
variable {P : Program} {w : World} {K : PySem.W.Frag} {mg : Str → Option Value} {base : Heap}
def spWhole : Sp := fun vs H Q _ => ∃ (x l : V) (t : String), vs = [x, l] ∧ Kd H x t ∧ (l = .non ∨ ∃ n, l = .int n) ∧ Q (.bl (wholeV x l)) H
theorem sc_whole : FnScope ["thing", "least"] ["thing", "least"] (defScope s_is_whole) := ⟨rfl, rfl, rfl, by decide +kernel, rfl, by decide +kernel, by decide +kernel⟩
theorem fn_whole {f : Addr} {fd : FuncData} (F : FunD K "is_whole" "is_whole" (defArgs s_is_whole) (defBody s_is_whole) (defScope s_is_whole) [.non] [] f fd) (G : NoGl mg) : FnOk P w K mg base CX0 1 f fd ["thing", "least"] spWhole := by
  refine F.ok sc_whole (by rintro _ _ _ _ ⟨_, _, _, rfl, _⟩; rfl) ?_
  rintro cdv A outer s H vs Q E hr ⟨x, l, t, rfl, k, hl, q⟩
  refine ⟨_, PSs.nox (pss_one (ps_ret (pe_and (pe_is (n := "int") G G.int (pv 0)) (pe_and (pe_not (pe_is (n := "bool") G G.bool (pv 0))) (pe_one (pe_or (pe_cmp (pc_isN (pv 1)) rfl) (pe_one (pe_cmp (pc_ge (pv 0) (pv 1)) rfl)))))))), ?_⟩
  refine ⟨_, rfl, x, t, "int", _, rfl, k, .int, _, rfl, ?_⟩
  cases x with
  | int i =>
    refine ⟨_, rfl, _, t, "bool", _, rfl, k, .bool, _, rfl, _, rfl, _, rfl, ?_⟩
    rcases hl with rfl | ⟨n, rfl⟩
    · exact ⟨_, rfl, q⟩
    · exact ⟨_, rfl, _, rfl, _, rfl, _, _, rfl, rfl, q⟩
  | bl b => exact ⟨_, rfl, _, t, "bool", _, rfl, k, .bool, _, rfl, _, rfl, q⟩
  | _ => exact q
theorem ok_whole (F : DefAt K mg "is_whole" s_is_whole [.non]) (G : NoGl mg) : Cal P w K mg base CX0 1 "is_whole" ["thing", "least"] [] spWhole := by
  obtain ⟨f, fd, hm, F⟩ := F.ex
  obtain ⟨ds, hv, hb⟩ := F.binds1 (ps := ["thing", "least"]) 2 1 (by simp) rfl fun T kV doc pm an cdv ct us its h1 h2 => match us, its, h1, h2 with | [_, _], [_], _, _ => ⟨_, rfl, rfl⟩
  exact ⟨f, fd, ds, hm, F.kp, fn_whole F G, hb, hv, lkF_funD F⟩
theorem ok_whole1 (F : DefAt K mg "is_whole" s_is_whole [.non]) (G : NoGl mg) : Cal P w K mg base CX0 1 "is_whole" ["thing", "least"] [.non] spWhole := by
  obtain ⟨f, fd, hm, F⟩ := F.ex
  obtain ⟨ds, hv, hb⟩ := F.binds1 (ps := ["thing", "least"]) 1 0 (by simp) rfl fun T kV doc pm an cdv ct us its h1 h2 => match us, its, h1, h2 with | [_], [_], _, _ => ⟨_, rfl, rfl⟩
  exact ⟨f, fd, ds, hm, F.kp, fn_whole F G, hb, hv, lkF_funD F⟩
end
end Tk

set_option Elab.async false
set_option linter.all false
set_option maxRecDepth 100000
set_option maxHeartbeats 4000000
namespace Tk
open PySem PySem.Spec PyProof.Rows L2

theorem cut_from (xs : List V) (k : Nat) : cutV xs (some (k : Int)) none = xs.drop k := by
  unfold cutV
  rw [HT.sIx_nat, HT.sIx_none]
  by_cases h : k ≤ xs.length
  · rw [Nat.min_eq_left h]
    exact List.take_of_length_le (by rw [List.length_drop]; omega)
  · rw [Nat.min_eq_right (by omega), List.drop_eq_nil_of_le (Nat.le_refl _), List.drop_eq_nil_of_le (by omega), List.take_nil]

theorem map_bl {α : Type} (xs : List α) (f : α → Bool) : (xs.map fun x => V.bl (f x)) = (xs.map f).map V.bl := by rw [List.map_map]; rfl
theorem all_map {α : Type} (xs : List α) (f : α → Bool) : (xs.map f).all id = xs.all f := by rw [List.all_map]; rfl
end Tk

set_option Elab.async false
set_option linter.all false
set_option maxRecDepth 100000
set_option maxHeartbeats 4000000
namespace Tk
open PySem PySem.Spec PyProof.Rows L2

/-! ### a table of the module: texts to ints, asked by .get -/
def EntsAre (P : Params) : List DictEntry → List (Str × Int) → Prop
  | [], [] => True
  | e :: es, q :: qs => ((∃ t, e.key = .str q.1 t) ∧ e.hash = PyData.keyHash P q.1 ∧ ∃ t, e.val = .int q.2 t) ∧ EntsAre P es qs
  | _, _ => False
structure KTab (K : PySem.W.Frag) (w : World) (d : Addr) (tab : List (Str × Int)) : Prop where
  at_ : ∃ es n, K.lookup d = some ⟨.type "dict", none, .dict es n, #[]⟩ ∧ EntsAre w.params es.toList tab
  low : (d == sysModules) = false
theorem EntsAre.lit {P : Params} : ∀ {es : List DictEntry} {tab : List (Str × Int)}, EntsAre P es tab → PySem.W.KeysLit P es
  | [], [], _ => trivial
  | e :: es, q :: qs, ⟨⟨⟨t, h1⟩, h2, _⟩, r⟩ => ⟨⟨q.1, t, h1, h2⟩, EntsAre.lit r⟩
  | [], _ :: _, h => h.elim
  | _ :: _, [], h => h.elim
theorem EntsAre.find {P : Params} (z : Str) : ∀ {es : List DictEntry} {tab : List (Str × Int)}, EntsAre P es tab →
    (match tab.lookup z with
    | some i => ∃ t, (es.find? fun e => Value.isStrOf z e.key).map (·.val) = some (Value.int i t)
    | none => (es.find? fun e => Value.isStrOf z e.key).map (·.val) = none)
  | [], [], _ => rfl
  | e :: es, q :: qs, ⟨⟨⟨t, h1⟩, h2, t', h3⟩, r⟩ => by
    have ih := EntsAre.find z r
    rw [List.find?_cons, List.lookup_cons]
    by_cases h : z = q.1
    · have e1 : (z == q.1) = true := beq_iff_eq.mpr h
      have e2 : Value.isStrOf z e.key = true := by rw [h1, h]; simp [Value.isStrOf]
      rw [e1, e2]
      exact ⟨t', by rw [Option.map_some, h3]⟩
    · have e1 : (z == q.1) = false := beq_eq_false_iff_ne.mpr h
      have e2 : Value.isStrOf z e.key = false := by
        rw [h1]
        cases hb : Value.isStrOf z (.str q.1 t) with
        | false => rfl
        | true =>
          obtain ⟨t2, e3⟩ := Value.isStrOf_shape (x := z) (v := .str q.1 t) hb
          injection e3 with e4 _
          exact absurd e4.symm h
      rw [e1, e2]
      exact ih
  | [], _ :: _, h => h.elim
  | _ :: _, [], h => h.elim
def ofOpt (y : V) : Option Int → V
  | some i => .int i
  | none => y
section
variable {X : Cx} {d : Addr} {tab : List (Str × Int)}
theorem ktab_map {pins : List (Addr × Obj)} {σ : L2.St} {H : Hp} {s : Shared} (D : KTab X.K X.w d tab) (I : Inv X pins σ H s) :
    ∃ f, s.heap.MapOf (strKind X.prog X.w) d f ∧ (∀ z, match tab.lookup z with | some i => ∃ t, f z = some (Value.int i t) | none => f z = none) ∧ s.TypeIs (.ref d) "dict" ∧
      (∀ a, Value.ref d = .ref a → ∃ ob, s.heap.get? a = some ob ∧ ob.dict = none) := by
  obtain ⟨es, n, hl, he⟩ := D.at_
  have m := PySem.W.mapOf_K (prog := X.prog) (w := X.w) I.kIn hl he.lit
  refine ⟨_, m, fun z => ?_, m.typeIs, fun a e => ?_⟩
  · have q := he.find z
    obtain ⟨l⟩ := es
    simp only [findBy, List.find?_toArray]
    exact q
  · cases e
    exact ⟨_, I.kIn _ _ hl, rfl⟩
def rKGet (d : Addr) (tab : List (Str × Int)) : List V → Hp → VK → Prop := fun vs H Q => ∃ z, (vs = [.str z] ∧ Q (ofOpt .non (tab.lookup z)) H) ∨ ∃ y, vs = [.str z, y] ∧ Q (ofOpt y (tab.lookup z)) H
def tKGet (d : Addr) (tab : List (Str × Int)) (t : TA) : TE := fun σ H Q => t σ H fun vs H1 => rKGet d tab vs H1 Q
theorem pe_kget {x : Str} {u : Value} {e : Expr} {es : List Expr} {t : TA} {p apos cpos : Pos} (D : KTab X.K X.w d tab) (hm : X.mg x = some (.ref d)) (ha : PA X (e :: es) t) (hg : Gl X x := by rfl)
    (hd : (x == ("__debug__" : Str)) = false := by decide)
    (hbase : attributeBase (.Name x p) "get" X.env (eval (.Name x p) X.env) = eval (.Name x p) X.env := by rfl)
    (hfew : ((backTo cpos (starEach (e :: es) X.env)).all (fun x => !x.1) && (backToKw cpos (keywordEach [] X.env)).all (fun x => x.1.isSome)
      && decide ((e :: es).length + ([] : List Keyword).length + (if ([] : List Keyword).isEmpty then 0 else 1) < 30)) = true := by rfl)
    (hline : (apos.endLine == cpos.line) = true := by rfl) (hs : starEach (e :: es) X.env = (false, eval e X.env) :: starEach es X.env := by rfl) (hplain : (backTo cpos (starEach es X.env)).any (·.1) = false := by rfl) :
    PE X (.Call (.Attribute (.Name x p) "get" apos) (e :: es) [] cpos) (tKGet d tab t) := by
  constructor
  intro pins s σ H Q I h
  refine wpAny_Call_method_late hbase hfew hline rfl (thn ((pe_glob (v := .ref d) hg hm rfl hd).run pins s σ H (fun v H1 => v = .ref d ∧ H1 = H) I ⟨rfl, rfl⟩) ?_)
  rintro v s1 ⟨y, H1, I1, r1, rfl, rfl⟩
  obtain rfl : v = Value.ref d := r1
  obtain ⟨f, m, hf, h1, h2⟩ := ktab_map D I1
  refine ⟨"dict", "dict.get", PySem.F.plainAttrs_dict, PySem.F.slot_dict_get, PySem.F.type_dict_get, h1, h2, ?_⟩
  have hA := ha.run cpos pins s1 σ H1 _ I1 h
  rw [hs] at hA ⊢
  refine Calls.callWith_builtin (by show (false || (backTo cpos (starEach es X.env)).any (·.1)) = false; rw [hplain]; rfl) (Calls.evalArgs_plain ?_)
  refine thn hA ?_
  rintro us s2 ⟨vs, H2, I2, r2, z, q⟩
  obtain ⟨f, m, hf, h1, h2⟩ := ktab_map D I2
  have hz := hf z
  rcases q with ⟨rfl, q⟩ | ⟨y, rfl, q⟩
  · obtain ⟨u1, rfl, t1, rfl⟩ := Vals.one r2
    refine call_meetsIn PySem.F.slot_dict_get h1 PySem.F.entry_dict_get (PySem.F.args_dict_get_2 _ _) (meets_dict_get (strKind X.prog X.w) d (strKind_is X.prog X.w z t1) D.low) ⟨f, m, _, _, I2.tok _, ?_, q⟩
    cases e : tab.lookup z with
    | none => rw [e] at hz; rw [hz]; rfl
    | some i => rw [e] at hz; obtain ⟨t, hz⟩ := hz; rw [hz]; exact ⟨t, rfl⟩
  · obtain ⟨u1, u2, rfl, ⟨t1, rfl⟩, ry⟩ := Vals.two r2
    refine call_meetsIn PySem.F.slot_dict_get h1 PySem.F.entry_dict_get (PySem.F.args_dict_get_3 _ _ _) (meets_dict_get_default (strKind X.prog X.w) d (strKind_is X.prog X.w z t1) D.low u2) ⟨f, m, _, _, I2.tok _, ?_, q⟩
    cases e : tab.lookup z with
    | none => rw [e] at hz; rw [hz]; exact ry
    | some i => rw [e] at hz; obtain ⟨t, hz⟩ := hz; rw [hz]; exact ⟨t, rfl⟩
end
end Tk

set_option Elab.async false
set_option linter.all false
set_option maxRecDepth 100000
set_option maxHeartbeats 4000000
namespace Tk
open PySem PySem.Spec PyProof.Rows L2

/-! ### compared with the empty list, the empty tuple: whatever the items are -/
theorem vals_size {xs : List V} {its : List Value} (r : Vals xs its) : its.toArray.size = xs.length := by rw [List.size_toArray, r.length]
section
variable {X : Cx}
def rNil (sq : PySem.W.Frag → Hp → Addr → List V → Prop) (K : PySem.W.Frag) (neg : Bool) : R2 := fun x y H Q =>
  ∃ a b xs, x = .ref a ∧ y = .ref b ∧ sq K H a xs ∧ sq K H b [] ∧ Q (.bl (if neg then !xs.isEmpty else xs.isEmpty)) H
theorem op_eqNilL (hu : X.A.units < cLine) : OpR X (compareOp .Eq) (rNil SqL X.K false) := by
  rintro pins s σ H x y v u Q I rx ry ⟨a, b, xs, rfl, rfl, ha, hb, q⟩
  obtain rfl : v = Value.ref a := rx
  obtain rfl : u = Value.ref b := ry
  obtain ⟨its, r1, p1, _⟩ := I.list ha
  obtain ⟨its2, r2, p2, _⟩ := I.list hb
  cases r2
  have z1 := vals_size r1
  cases xs with
  | nil =>
    refine SeqAt.eq_listAt (e := fun _ => true) p1.isList p2.isList z1 hu (fun j h1 h2 => absurd h2 (by simp)) ?_
    exact ⟨.bl true, H, I, by simp [z1, L2.RelV], q⟩
  | cons x xs =>
    exact SeqAt.eq_list_lengthsAt p1.isList p2.isList (by rw [z1]; rfl) hu ⟨.bl false, H, I, rfl, q⟩
theorem op_neNilL (hu : X.A.units < cLine) : OpR X (compareOp .NotEq) (rNil SqL X.K true) := by
  rintro pins s σ H x y v u Q I rx ry ⟨a, b, xs, rfl, rfl, ha, hb, q⟩
  obtain rfl : v = Value.ref a := rx
  obtain rfl : u = Value.ref b := ry
  obtain ⟨its, r1, p1, _⟩ := I.list ha
  obtain ⟨its2, r2, p2, _⟩ := I.list hb
  cases r2
  have z1 := vals_size r1
  cases xs with
  | nil =>
    refine SeqAt.RcNeAt.lists (e := fun _ => true) p1.isList p2.isList z1 hu (fun j h1 h2 => absurd h2 (by simp)) _ _ _ _ ?_
    exact ⟨.bl false, H, I, by simp [z1, L2.RelV], q⟩
  | cons x xs =>
    exact SeqAt.RcNeAt.lists_lengths p1.isList p2.isList (by rw [z1]; rfl) hu _ _ _ _ ⟨.bl true, H, I, rfl, q⟩
theorem op_eqNilT (hu : X.A.units < cLine) : OpR X (compareOp .Eq) (rNil SqT X.K false) := by
  rintro pins s σ H x y v u Q I rx ry ⟨a, b, xs, rfl, rfl, ha, hb, q⟩
  obtain rfl : v = Value.ref a := rx
  obtain rfl : u = Value.ref b := ry
  obtain ⟨its, r1, p1, _⟩ := I.tuple ha
  obtain ⟨its2, r2, p2, _⟩ := I.tuple hb
  cases r2
  have z1 := vals_size r1
  refine SeqAt.eq_tupleAt (e := fun _ => true) p1 p2 hu (fun j h1 h2 => absurd h2 (by simp)) ?_
  refine ⟨.bl xs.isEmpty, H, I, ?_, q⟩
  have e : ((List.range (min its.toArray.size (#[] : Array Value).size)).all (fun _ => true) && its.toArray.size == (#[] : Array Value).size) = xs.isEmpty := by
    rw [z1]
    cases xs <;> simp
  exact congrArg Value.bool e
end
end Tk

set_option Elab.async false
set_option linter.all false
set_option maxRecDepth 100000
set_option maxHeartbeats 4000000
namespace Tk
open PySem PySem.Spec PyProof.Rows L2

/-! ### rows -/
def tabA : List (Str × Int) := [("look", 2), ("read", 3), ("set_rate", 3), ("set_real", 3), ("slew", 4), ("stop", 3), ("go", 2), ("put", 7),
  ("drop", 3)]
def tabB : List (Str × Int) := [("expired", 3), ("take", 2), ("put_tick", 4), ("hand_over", 4), ("process", 2), ("thread", 3), ("run", 5),
  ("join", 4)]
def tabC : List (Str × Int) := [("leave", 3), ("sleep", 4), ("limit", 4), ("waiting", 3), ("running", 3), ("sampled", 3)]
def sizeV (z : Str) : V := ofOpt (ofOpt (ofOpt .non (tabC.lookup z)) (tabB.lookup z)) (tabA.lookup z)
structure Tabs (K : PySem.W.Frag) (w : World) (mg : Str → Option Value) : Prop where
  ex : ∃ a b c, mg "SIZES" = some (.ref a) ∧ mg "MORE_SIZES" = some (.ref b) ∧ mg "LAST_SIZES" = some (.ref c) ∧ KTab K w a tabA ∧ KTab K w b tabB ∧ KTab K w c tabC
section
variable {P : Program} {w : World} {K : PySem.W.Frag} {mg : Str → Option Value} {base : Heap}
def spSizeOf : Sp := fun vs H Q _ => ∃ z, vs = [.str z] ∧ Q (sizeV z) H
theorem sc_sizeOf : FnScope ["name"] ["name"] (defScope s_size_of) := ⟨rfl, rfl, rfl, by decide +kernel, rfl, by decide +kernel, by decide +kernel⟩
theorem ok_sizeOf (F : FunAt K mg "size_of" s_size_of) (T : Tabs K w mg) : Cal P w K mg base CX0 1 "size_of" ["name"] [] spSizeOf := by
  refine Cal.mk0 F sc_sizeOf (by rintro _ _ _ _ ⟨_, rfl, _⟩; rfl) (fun _ _ _ _ _ _ us hl => match us, hl with | [_], _ => rfl) ?_
  rintro f cdv A outer s H vs Q E hr ⟨z, rfl, q⟩
  obtain ⟨a, b, c, ma, mb, mc, Ta, Tb, Tc⟩ := T.ex
  refine ⟨_, pss_one (ps_ret (pe_kget (u := .none) Ta ma (pa_cons (pv 0) (pa_cons (pe_kget (u := .none) Tb mb (pa_cons (pv 0) (pa_cons (pe_kget (u := .none) Tc mc (pa_cons (pv 0) pa_nil)) pa_nil))) pa_nil)))), ?_⟩
  exact ⟨_, rfl, _, rfl, _, rfl, z, .inl ⟨rfl, z, .inr ⟨_, rfl, z, .inr ⟨_, rfl, q⟩⟩⟩⟩

/-- is what stands in a tuple a row -/
def isRowL : List V → Bool
  | .str z :: r => decide (V.int ((r.length + 1 : Nat) : Int) = sizeV z)
  | _ => false
theorem size_scal (n : Int) (z : Str) : scal (.int n) (sizeV z) = true := by
  unfold sizeV
  cases tabA.lookup z with
  | some i => rfl
  | none =>
    cases tabB.lookup z with
    | some i => rfl
    | none =>
      cases tabC.lookup z with
      | some i => rfl
      | none => rfl
/-- is x a row: what is_row tells of it -/
inductive RowIs (H : Hp) (x : V) : Bool → Prop where
  | no {t : String} (k : Kd H x t) (h : t ≠ "tuple") : RowIs H x false
  | tup {a : Addr} {xs : List V} (e : x = .ref a) (h : H a = some (.tup xs)) (k : ∀ y, xs[0]? = some y → ∃ t, Kd H y t) (z : xs.length < 2 ^ 62) : RowIs H x (isRowL xs)
theorem RowIs.same {H H' : Hp} {x : V} {b : Bool} (e : Same H H') (r : RowIs H x b) : RowIs H' x b := by
  cases r with
  | no k h => exact .no (k.same e) h
  | tup e1 h k z => exact .tup e1 (e _ _ h) (fun y hy => let ⟨t, kt⟩ := k y hy; ⟨t, kt.same e⟩) z
def spIsRow : Sp := fun vs H Q _ => ∃ x b, vs = [x] ∧ RowIs H x b ∧ ∀ H', Fr [] H H' → Q (.bl b) H'
theorem sc_isRow : FnScope ["thing"] ["thing"] (defScope s_is_row) := ⟨rfl, rfl, rfl, by decide +kernel, rfl, by decide +kernel, by decide +kernel⟩
theorem ok_isRow (F : FunAt K mg "is_row" s_is_row) (G : NoGl mg) (Cs : Cal P w K mg base CX0 1 "size_of" ["name"] [] spSizeOf) : Cal P w K mg base CX0 2 "is_row" ["thing"] [] spIsRow := by
  refine Cal.mk0 F sc_isRow (by rintro _ _ _ _ ⟨_, _, rfl, _⟩; rfl) (fun _ _ _ _ _ _ us hl => match us, hl with | [_], _ => rfl) ?_
  rintro f cdv A outer s H vs Q E hr ⟨x, b, rfl, r, q⟩
  refine ⟨_, pss_cons (ps_if (PW.pt (pw_or (pt_not (pt_val (pe_is (n := "tuple") G G.tuple (pv 0)))) (pw_or (pt_cmpR (op_eqNilT hr.units0) (pv 0) (pe_tup pa_nil) (nomark _))
      (pw_or1 (pt_not (pt_val (pe_is (n := "str") G G.str (pe_ix ix_tup (pv 0) pe_int (fun _ _ => rfl))))))))) (pss_one (ps_ret pe_bl)) pss_nil)
    (pss_one (ps_ret (pe_cmpR op_eq (pe_callB call_len_seq (by rfl) G.len PySem.boot_len (pa_cons (pv 0) pa_nil)) (pe_c Cs hr (by rfl) pass0 (pa_cons (pe_ix ix_tup (pv 0) pe_int (fun _ _ => rfl)) pa_nil)) (nomark _)))), ?_⟩
  cases r with
  | @no t k h =>
    refine ⟨_, rfl, x, t, "tuple", _, rfl, k, .tuple, _, rfl, ?_⟩
    rw [decide_eq_false h]
    exact q H (Fr.refl _ _)
  | @tup a xs e h k z =>
    subst e
    refine ⟨_, rfl, _, _, "tuple", _, rfl, .tup h, .tuple, _, rfl, ?_⟩
    refine ⟨_, rfl, (by show 0 ≤ sizeLine; decide), fun p hp => ?_⟩
    have fr : Fr [] H (upd H p (.tup [])) := Fr.new hp
    have h1 := fr.same _ _ h
    refine ⟨a, p, xs, rfl, rfl, SqT.of h1, SqT.of upd_same, _, rfl, ?_⟩
    cases xs with
    | nil => exact q _ fr
    | cons y r =>
      obtain ⟨t, ky⟩ := k y rfl
      refine ⟨_, rfl, a, _, _, y, rfl, rfl, SqT.of h1, atI_nat (j := 0) rfl, y, t, "str", _, rfl, ky.same fr.same, .str, _, rfl, ?_⟩
      cases y with
      | str n =>
        refine ⟨_, rfl, a, _, rfl, .inr (SqT.of h1), _, rfl, a, _, _, _, rfl, rfl, SqT.of h1, atI_nat (j := 0) rfl, n, rfl, size_scal _ n, ?_⟩
        exact q _ fr
      | _ => exact q _ fr
end
end Tk

set_option Elab.async false
set_option linter.all false
set_option maxRecDepth 100000
set_option maxHeartbeats 4000000
namespace Tk
open PySem PySem.Spec PyProof.Rows L2

/-! ### errors -/
/-- an own error class over ValueError (directly or not), without an __init__ of its own -/
structure ExcC (K : PySem.W.Frag) (mg : Str → Option Value) (x : Str) (C : Addr) : Prop where
  g : mg x = some (.ref C)
  ex : PySem.W.excIn K C [.type "ValueError", .type "Exception", .type "BaseException", .type "object"] "ValueError.__new__" = true
  kp : PySem.W.keepIn K (.ref C) = true
  sub : PySem.W.subIn K (.ref C) (.type "BaseException") = some true
  ty : PySem.W.typeIn K (.ref C) = some (.type "type")
section
variable {X : Cx} {x m : Str} {C : Addr} {W : WX} {j : Nat} {p p2 pos pos2 : Pos}
theorem ps_rs (T : ExcC X.K X.mg x C) (hc : X.calm = true) (tk : Takes X W) (hg : Gl X x := by rfl) (hdb : (x == ("__debug__" : Str)) = false := by decide) :
    PS X (.Raise (some (.Call (.Name x p) [.Constant (.str m) j p2] [] pos)) none pos2) (fun _ σ H => W (.ref C) none σ H) :=
  ps_raise hc tk (pmk_own PySem.F.excBase_ValueError T.ex T.g T.kp (raises_own T.sub T.ty) hg hdb)
end

/-! ### check_log -/
/-- what check_log finds -/
inductive LogIs (H : Hp) (x : V) : Bool → Prop where
  | no {t : String} (k : Kd H x t) (h : t ≠ "list") : LogIs H x false
  | lst {a : Addr} {xs : List V} (f : V → Bool) (e : x = .ref a) (h : H a = some (.lst xs)) (r : ∀ y, y ∈ xs → RowIs H y (f y)) (z : xs.length < sizeLine) : LogIs H x (xs.all f)
section
variable {P : Program} {w : World} {K : PySem.W.Frag} {mg : Str → Option Value} {base : Heap} {C : Addr}
def spCheckLog (C : Addr) : Sp := fun vs H Q E => ∃ x b, vs = [x] ∧ LogIs H x b ∧ ∀ H', Fr [] H H' → if b = true then Q .non H' else E (.ref C) none H'
theorem sc_checkLog : FnScope ["log", "row"] ["log"] (defScope s_check_log) := ⟨rfl, rfl, rfl, by decide +kernel, rfl, by decide +kernel, by decide +kernel⟩
theorem ok_checkLog (F : FunAt K mg "check_log" s_check_log) (G : NoGl mg) (T : ExcC K mg "NoCall" C) (Cr : Cal P w K mg base CX0 2 "is_row" ["thing"] [] spIsRow) :
    Cal P w K mg base (L2.CX P w) 3 "check_log" ["log"] [] (spCheckLog C) := by
  refine Cal.mkX F sc_checkLog (by rintro _ _ _ _ ⟨_, _, rfl, _⟩; rfl) (fun _ _ _ _ _ _ us hl => match us, hl with | [_], _ => rfl) ?_
  rintro f cdv A outer s H vs Q E hr ⟨x, b, rfl, r, q⟩
  have nd := sc_checkLog.nd
  refine ⟨_, pss_one (ps_if (PW.pt (pw_or (pt_not (pt_val (pe_is (n := "list") G G.list (pv 0)))) (pw_or1 (pt_not (pt_val (pe_callB (cr_all rfl) (by rfl) G.all (by decide +kernel) (pa_cons
      (pe_lc (own := [("row", 1)]) (g := gName 1) (tt := tYes) rfl nd (pi_list (pv 0)) (blkOk_by (own := [("row", 1)]) (N := ["log", "row"]) (sc := defScope s_check_log) (by decide +kernel))
        (fun _ _ _ _ _ => pg_name (i := 1) nd rfl (Or.inl rfl)) (fun _ _ _ _ _ => pts_nil) (fun _ _ _ _ _ => pe_c Cr hr (by rfl) pass0 (pa_cons (pv 1) pa_nil))) pa_nil)))))))
      (pss_one (ps_rs T rfl (takes_of rfl rfl rfl rfl))) pss_nil), ?_⟩
  cases r with
  | @no t k h =>
    refine ⟨_, rfl, x, t, "list", _, rfl, k, .list, _, rfl, ?_⟩
    rw [decide_eq_false h]
    exact q H (Fr.refl _ _)
  | @lst a xs g e h r z =>
    subst e
    refine ⟨_, rfl, _, _, "list", _, rfl, .lst h, .list, _, rfl, ?_⟩
    refine ⟨_, rfl, a, rfl, ⟨xs, SqL.of h⟩, fun D hD => ?_⟩
    refine lc_listR (K := K) (fun _ => true) (fun x y _ => y = .bl (g x)) (fun _ _ _ _ _ h => h) hD z (fun _ => rfl) (fun x H' Q' _ _ _ h => h H' (Fr.refl _ _)) ?_ ?_ (SqL.of h)
    · intro x H' Q' hx _ fr _ hq
      exact ⟨_, rfl, x, g x, rfl, (r x hx).same fr.same, fun H2 fr2 => hq _ _ fr2 rfl⟩
    · intro H2 ys hD2 fr2 md
      have e : ys = (xs.map g).map V.bl := by
        have e := md.pure (f := fun x => V.bl (g x)) (fun _ _ _ h => h)
        rw [List.filter_eq_self.mpr (fun _ _ => rfl), map_bl] at e
        exact e
      subst e
      refine ⟨D, _, rfl, SqL.of hD2, _, rfl, ?_⟩
      rw [all_map]
      have q := q H2 fr2
      cases c : xs.all g with
      | true => rw [c] at q; exact q
      | false => rw [c] at q; exact q
end

/-! ### copied -/
def rListOf (K : PySem.W.Frag) : List V → Hp → VK → Prop := fun xs H Q => ∃ p ys, xs = [.ref p] ∧ (SqL K H p ys ∨ SqT K H p ys) ∧ ∀ l, H l = none → Q (.ref l) (upd H l (.lst ys))
theorem call_listOf {X : Cx} : CallR X (.type "list") (rListOf X.K) := call_list_of
theorem Made.paired {R : V → V → Hp → Prop} {H : Hp} : ∀ {xs ys : List V}, Made (fun _ => true) R H xs ys → Paired (fun x y => R x y H) xs ys
  | _, _, .nil => .nil
  | _, _, .take _ b c => .cons b (Made.paired c)
  | _, _, .skip a _ => nomatch a
end Tk

set_option Elab.async false
set_option linter.all false
set_option maxRecDepth 100000
set_option maxHeartbeats 4000000
namespace Tk
open PySem PySem.Spec PyProof.Rows L2

/-! ### xs.count(y), flat items -/
section
variable {X : Cx}
def rCntV (K : PySem.W.Frag) : V → List V → Hp → VK → Prop := fun x xs H Q => ∃ (p : Addr) (ys : List V) (y : V), x = .ref p ∧ xs = [y] ∧ SqL K H p ys ∧ flatV y = true ∧ ys.all flatV = true ∧ Q (.int (ys.countP fun z => eqV z y : Nat)) H
theorem count_eqU {y : V} : ∀ {ys : List V} {us : List Value}, Vals ys us → ys.all flatV = true → us.countP (eqU y) = ys.countP fun z => eqV z y
  | _, _, .nil, _ => rfl
  | z :: ys, u :: us, .cons r t, f => by
    rw [List.all_cons, Bool.and_eq_true] at f
    rw [List.countP_cons, List.countP_cons, count_eqU t f.2, eqU_of r f.1]
theorem mt_countV : MtR X "list.count" (rCntV X.K) := by
  intro pins s σ H x xs v us Q I rx rxs h
  obtain ⟨p, ys, y, rfl, rfl, hs, fy, fys, q⟩ := h
  cases rx
  obtain ⟨u, rfl, ru⟩ := rxs.one
  obtain ⟨its, rv, ⟨⟨cls, dd, data, sl⟩, n, ho, hc, hdn, hd⟩, hlen⟩ := I.list hs
  simp only at hc hd
  subst hc hd
  refine call_meets PySem.F.slot_list_count ⟨_, ho, rfl⟩ PySem.F.entry_list_count (PySem.F.args_list_count_2 _ _)
    (SeqAt.list_countAt p its.toArray n dd sl u (eqU y)) ⟨ho, fun z hz => mem_eqAt ru fy rv fys z (by simpa using hz), ?_⟩
  refine ⟨.int _, H, I.tok _, ⟨s.toks, ?_⟩, q⟩
  rw [show its.toArray.toList = its by simp, count_eqU rv fys]
end

/-! ### the caught error's class -/
/-- what an error class of the text says when it is caught as a C0 and asked about -/
structure ErrF (K : PySem.W.Frag) (C0 D : Addr) (cs : List (Addr × Bool)) : Prop where
  exm : PySem.W.exmOne K (.ref D) (.ref C0) = some true
  is : L2.ExcC K D
  kit : ∀ p ∈ cs, PySem.W.kitOne K (.ref D) (.ref p.1) = some p.2
def rIsEx (K : PySem.W.Frag) (cls : Value) (d : Option Addr) (a : Addr) : List V → Hp → VK → Prop := fun xs H Q => ∃ (D C : Addr) (b : Bool), cls = .ref D ∧ d = none ∧ L2.ExcC K D ∧ xs = [.ref a, .ref C] ∧ PySem.W.kitOne K (.ref D) (.ref C) = some b ∧ Q (.bl b) H
theorem call_isEx {X : Cx} {a : Addr} {oe : Obj} {cls : Value} {d : Option Addr} {pn : List (Addr × Obj)} (hz : Zc cls d oe) (hf : ∃ vs, oe.data = .fields vs) : CallR (X.suite a ((a, oe) :: pn)) (.builtin "isinstance") (rIsEx X.K cls d a) := by
  intro pins s σ H xs us Q I r h
  obtain ⟨D, C, b, rfl, rfl, k, rfl, e, q⟩ := h
  exact call_isE k hz hf pins s σ H _ us Q I r ⟨.ref C, .ref C, b, rfl, fun u hu => hu, e, q⟩
theorem pe_isE {X : Cx} {a C : Addr} {oe : Obj} {cls : Value} {d : Option Addr} {pn : List (Addr × Obj)} {e : Expr} {te : TE} {T : Str} {p p2 pos : Pos} (G : NoGl X.mg) (hz : Zc cls d oe) (hf : ∃ vs, oe.data = .fields vs) (hT : X.mg T = some (.ref C)) (he : PE (X.suite a ((a, oe) :: pn)) e te)
    (hg : Gl X "isinstance" := by rfl) (hg2 : Gl X T := by rfl) (hd : (T == ("__debug__" : Str)) = false := by decide)
    (h1 : starEach [e, .Name T p2] X.env = (false, eval e X.env) :: starEach [.Name T p2] X.env := by rfl) (h2 : starEach [.Name T p2] X.env = (false, eval (.Name T p2) X.env) :: starEach [] X.env := by rfl)
    (h3 : (backTo pos (starEach [.Name T p2] X.env)).any (·.1) = false := by rfl) :
    PE (X.suite a ((a, oe) :: pn)) (.Call (.Name "isinstance" p) [e, .Name T p2] [] pos) (tCB (rIsEx X.K cls d a) (tCons te (tCons (tC (.ref C)) tNil))) :=
  pe_callB (X := X.suite a ((a, oe) :: pn)) (call_isEx hz hf) hg G.isinstance (by decide +kernel) (pa_cons he (pa_cons (pe_glob (v := .ref C) hg2 hT rfl hd) pa_nil h2) h1) (by decide) (by decide) h1 h3

end Tk

set_option Elab.async false
set_option linter.all false
set_option maxRecDepth 100000
set_option maxHeartbeats 4000000
/-! str(int) and int(text) of up to 4300 digits -/
namespace Tk
open PySem PySem.Spec PyProof.Rows L2 PySem.W PySem.NumText

/-- the limit of digits stands as at the start -/
def NoDig (K : PySem.W.Frag) : Prop := PySem.W.nsIn K cStatics "sys.int_max_str_digits" = some none
theorem noDig_at {X : Cx} {pins : List (Addr × Obj)} {σ : L2.St} {H : Hp} {s : Shared} (D : NoDig X.K) (I : Inv X pins σ H s) : s.heap.NoDigits := by
  obtain ⟨mc, hns, _⟩ := I.nolimit
  exact ⟨mc, hns, PySem.W.ns_none_of I.kIn hns D⟩
section
variable {X : Cx}
def rStrN : List V → Hp → VK → Prop := fun xs H Q => ∃ i : Int, xs = [.int i] ∧ i.natAbs < 10 ^ 4300 ∧ Q (.str (toString i)) H
theorem call_strN (hc : X.calm = true) (D : NoDig X.K) : CallR X (.type "str") rStrN := by
  intro pins s σ H xs us Q I r h
  obtain ⟨i, rfl, hz, q⟩ := h
  obtain ⟨u, rfl, t, rfl⟩ := vals1 r
  exact str_of_int_or (I.ok.hd hc) (noDig_at D I) (fun _ => ⟨.str _, H, I.tok _, ⟨_, rfl⟩, q⟩) fun h2 => absurd hz (Nat.not_lt.mpr h2)
end
theorem wp_textN {M : Model} {A : Around} {E : Value → Shared → Prop} {s : Shared} {Q : Value → Shared → Prop} {v : Value} {text : List Nat} {n : Int} (nd : s.heap.NoDigits)
    (hs : ¬ (text.takeWhile (· != 0)).length ≤ 640) (hr : (int_private% "readNumeral") 4300 10 (text.takeWhile (· != 0)) = (int_private% "Numeral.value") n)
    (ha : ((text.takeWhile (· != 0)).length == text.length) = true) (h : Q (.int n s.toks) { s with toks := s.toks + 1 }) :
    wpAny M A ((int_private% "intFromText") v text 10) Q E s := by
  obtain ⟨mc, hns, hnone⟩ := nd
  have hl : wpAny M A (PySem.Builtin.intMaxStrDigits) (fun r s' => r = 4300 ∧ s' = s) E s := by
    unfold Builtin.intMaxStrDigits
    refine wpAny_bind (wpAny_nsGet hns ?_)
    rw [hnone]
    exact wpAny_pure ⟨rfl, rfl⟩
  clear hns hnone
  obtain ⟨hp, g, d, tk, os⟩ := s
  have hd : (decide ((text.takeWhile (· != 0)).length ≤ 640)) = false := decide_eq_false hs
  repeat (any_goals (first
    | assumption
    | (with_reducible refine wpAny_ite_false hd ?_)
    | (with_reducible refine wpAny_ite_true (decide_eq_true ha) ?_)
    | ((with_reducible show wpAny _ _ PySem.Builtin.intMaxStrDigits _ _ _); refine wpAny_mono hl (fun r s' hh => ?_) (fun _ _ x => x); obtain ⟨rfl, rfl⟩ := hh; (try dsimp only); rw [hr]; (try dsimp only))
    | wp_step))
set_option maxHeartbeats 8000000 in
theorem meets_textN {x : PySem.Str} {u : Tok} {n : Int} (hx : x.length ≤ 4000) (hn : PySem.intText? x = some n) :
    Meets (Builtin.«int.__new__» ⟨[.type "int", .str x u], []⟩) fun _ R s => s.heap.NoDigits ∧ R (.ok (.ret (.int n s.toks))) { s with toks := s.toks + 1 } := by
  by_cases hs : (numSeenOf x).length ≤ 640
  · have hr : (int_private% "readNumeral") 0 10 (numSeenOf x) = (int_private% "Numeral.value") n ∧ ((numSeenOf x).length == (numTextOf x).length) = true := by
      rcases read0 x hs with ⟨m, h1, h2, h3⟩ | ⟨h1, _⟩
      · rw [hn] at h1
        injection h1 with h1
        subst h1
        exact ⟨h3, h2⟩
      · rw [hn] at h1
        cases h1
    intro prog w A R s hq
    obtain ⟨nd, h⟩ := hq
    generalize A.in1 = A1
    suffices hh : wpAny (model prog w) A1 (Builtin.«int.__new__» ⟨[.type "int", .str x u], []⟩) (fun fin s' => ∃ v, fin = .done (.ret v) ∧ R (.ok (.ret v)) s') (fun e s' => R (.error e) s') s from
      wpAny_mono hh (fun fin s' ⟨v, e, q⟩ => by subst e; exact q) fun _ _ x => x
    obtain ⟨hp, g, d, tk, os⟩ := s
    have f1 := F.conv_sub_int
    have f2 := F.madeHere_int
    have f3 := KIN.str_int
    have f4 := KIN.str_idx
    have f5 := KIN.str_trunc
    have f6 : typeOf (.str x u) = pure (.type "str") := rfl
    have hk := KIN.Hid.mk (And.intro hs hr)
    clear hs hr hn hx
    repeat (any_goals (first
      | assumption
      | ((with_reducible show wpAny _ _ ((int_private% "intFromText") _ _ _) _ _ _); refine KIN.wp_text hk.out.1 hk.out.2.1 hk.out.2.2 ?_)
      | wp_step))
    all_goals first | exact ⟨_, rfl, h⟩ | skip
  · have hr : (int_private% "readNumeral") 4300 10 (numSeenOf x) = (int_private% "Numeral.value") n ∧ ((numSeenOf x).length == (numTextOf x).length) = true := by
      rcases read4300 x (Nat.le_trans hx (by decide)) with ⟨m, h1, h2, h3⟩ | ⟨h1, _⟩
      · rw [hn] at h1
        injection h1 with h1
        subst h1
        exact ⟨h3, h2⟩
      · rw [hn] at h1
        cases h1
    intro prog w A R s hq
    obtain ⟨nd, h⟩ := hq
    generalize A.in1 = A1
    suffices hh : wpAny (model prog w) A1 (Builtin.«int.__new__» ⟨[.type "int", .str x u], []⟩) (fun fin s' => ∃ v, fin = .done (.ret v) ∧ R (.ok (.ret v)) s') (fun e s' => R (.error e) s') s from
      wpAny_mono hh (fun fin s' ⟨v, e, q⟩ => by subst e; exact q) fun _ _ x => x
    obtain ⟨hp, g, d, tk, os⟩ := s
    have f1 := F.conv_sub_int
    have f2 := F.madeHere_int
    have f3 := KIN.str_int
    have f4 := KIN.str_idx
    have f5 := KIN.str_trunc
    have f6 : typeOf (.str x u) = pure (.type "str") := rfl
    have hk := KIN.Hid.mk (And.intro hs (And.intro nd hr))
    clear hs hr hn hx nd
    repeat (any_goals (first
      | assumption
      | ((with_reducible show wpAny _ _ ((int_private% "intFromText") _ _ _) _ _ _); refine wp_textN hk.out.2.1 hk.out.1 hk.out.2.2.1 hk.out.2.2.2 ?_)
      | wp_step))
    all_goals first | exact ⟨_, rfl, h⟩ | skip
section
variable {X : Cx}
def rIntN : List V → Hp → VK → Prop := fun xs H Q => ∃ a n, xs = [.str a] ∧ PySem.intText? a = some n ∧ a.length ≤ 4000 ∧ Q (.int n) H
theorem call_intN (D : NoDig X.K) : CallR X (.type "int") rIntN := by
  intro pins s σ H xs us Q I rs h
  obtain ⟨a, n, rfl, hn, hl, h⟩ := h
  cases rs with
  | cons r1 rs =>
    cases rs
    obtain ⟨t, rfl⟩ := r1
    exact call_int_1 (meets_textN hl hn) ⟨noDig_at D I, typeIs_int _ _ _, .int n, H, I.tok _, ⟨_, rfl⟩, h⟩
end
end Tk

set_option Elab.async false
set_option linter.all false
set_option maxRecDepth 100000
set_option maxHeartbeats 4000000
/-! Texts of logs, as lists of signs: what is read, what is shown. -/
namespace Tk
open PySem SX TL PySem.NumText

/-! ### numbers -/
def digs (l : List Nat) : List Nat := if l.take 1 = [45] then l.drop 1 else l
def isDg (c : Nat) : Bool := decide (c ∈ ("0123456789" : Str).cps.toList)
theorem isDg_iff {c : Nat} : isDg c = true ↔ 48 ≤ c ∧ c ≤ 57 := by
  unfold isDg
  rw [decide_eq_true_iff, show ("0123456789" : Str).cps.toList = [48, 49, 50, 51, 52, 53, 54, 55, 56, 57] from rfl]
  simp only [List.mem_cons, List.not_mem_nil, or_false]
  omega
def isNum (l : List Nat) : Bool := decide (1 ≤ (digs l).length) && decide ((digs l).length ≤ 1000) && (digs l).all isDg && (!decide ((digs l).take 1 = [48]) || decide (l = [48]))
def numV (l : List Nat) : Int := if l.take 1 = [45] then -((digitsVal (l.drop 1) : Nat) : Int) else ((digitsVal l : Nat) : Int)
def numOf (l : List Nat) : Option Int := if isNum l = true then some (numV l) else none
def lim : Nat := 10 ^ 1000
def shortI (i : Int) : Bool := decide (i.natAbs < lim)
def showI (i : Int) : List Nat := (Str.ofString (toString i)).cps.toList
theorem showI_nat (n : Nat) : showI (n : Int) = numL n := tl_num n
theorem toString_neg {n : Nat} (h : 0 < n) : toString (-(n : Int)) = "-" ++ toString (n : Int) := by
  cases n with
  | zero => omega
  | succ m => rfl
theorem showI_neg {n : Nat} (h : 0 < n) : showI (-(n : Int)) = 45 :: numL n := by
  unfold showI
  rw [toString_neg h, show (Str.ofString ("-" ++ toString (n : Int))).cps.toList = (("-" ++ toString (n : Int)).toList.map Char.toNat) from tl_ofString _, String.toList_append, List.map_append]
  have e := tl_num n
  rw [tl_ofString] at e
  rw [e]
  rfl
theorem numL_len_iff {n k : Nat} (hk : 0 < k) : (numL n).length ≤ k ↔ n < 10 ^ k := by
  have e : (numL n).length = (Nat.repr n).length := by
    unfold numL
    rw [List.length_map, ← Nat.toList_repr, String.length_toList]
  rw [e]
  exact Nat.length_repr_le_iff hk
theorem lim_len {n : Nat} : (numL n).length ≤ 1000 ↔ n < lim := numL_len_iff (k := 1000) (by decide)
theorem lim_of {n k : Nat} (h : n < 10 ^ k) (hk : k ≤ 1000) : n < lim := Nat.lt_of_lt_of_le h (Nat.pow_le_pow_right (by decide) hk)
theorem showI_len {i : Int} (h : shortI i = true) : (showI i).length ≤ 1001 := by
  have h : i.natAbs < lim := of_decide_eq_true h
  by_cases hi : 0 ≤ i
  · obtain ⟨n, rfl⟩ := Int.eq_ofNat_of_zero_le hi
    rw [showI_nat]
    exact Nat.le_succ_of_le (lim_len.mpr (by simpa using h))
  · obtain ⟨n, hn⟩ : ∃ n : Nat, i = -(n : Int) := ⟨i.natAbs, by omega⟩
    subst hn
    rw [showI_neg (by omega), List.length_cons]
    exact Nat.succ_le_succ (lim_len.mpr (by simpa using h))
theorem digits_lt : ∀ (cs : List Nat), AllDigits cs → digitsVal cs < 10 ^ cs.length := by
  have key : ∀ (cs : List Nat) (a : Nat), AllDigits cs → cs.foldl (fun acc c => acc * 10 + (c - 48)) a < (a + 1) * 10 ^ cs.length := by
    intro cs
    induction cs with
    | nil => intro a _; simp
    | cons c cs ih =>
      intro a h
      have h1 := h.head
      have := ih (a * 10 + (c - 48)) h.tail
      rw [List.foldl_cons, List.length_cons, Nat.pow_succ]
      refine Nat.lt_of_lt_of_le this ?_
      have e : (a + 1) * (10 ^ cs.length * 10) = (a * 10 + 10) * 10 ^ cs.length := by rw [Nat.mul_comm (10 ^ cs.length) 10, ← Nat.mul_assoc]; congr 1; omega
      rw [e]
      exact Nat.mul_le_mul_right _ (by omega)
  intro cs h
  have h2 := key cs 0 h
  rw [Nat.zero_add, Nat.one_mul] at h2
  exact h2
/-- written digits without a zero ahead are what is shown -/
theorem numL_back {cs : List Nat} (h : AllDigits cs) (ne : cs ≠ []) (hz : cs.take 1 ≠ [48] ∨ cs = [48]) : numL (digitsVal cs) = cs := by
  have ch : ∀ c, 48 ≤ c ∧ c ≤ 57 → (Char.ofNat c).toNat = c := by
    intro c hc
    have : ∀ d : Nat, d < 10 → (Char.ofNat (48 + d)).toNat = 48 + d := by decide
    have := this (c - 48) (by omega)
    rw [show 48 + (c - 48) = c by omega] at this
    exact this
  unfold numL
  rw [toDigits_digitsVal (cs.length - 1) cs (by have := List.length_pos_iff.mpr ne; omega) h ?_, List.map_map]
  · conv => rhs; rw [← List.map_id cs]
    exact List.map_congr_left fun c hc => ch c (h c hc)
  · rcases hz with hz | hz
    · cases cs with
      | nil => exact absurd rfl ne
      | cons c r =>
        refine .inr ⟨c, r, rfl, ?_⟩
        have := h.head
        have : c ≠ 48 := fun e => hz (by rw [e]; rfl)
        omega
    · exact .inl (by rw [hz]; rfl)
/-- a number's signs, told apart -/
theorem num_cases {l : List Nat} (h : isNum l = true) : (AllDigits l ∧ l ≠ [] ∧ (l.take 1 ≠ [48] ∨ l = [48]) ∧ l.length ≤ 1000 ∧ l.take 1 ≠ [45]) ∨ ∃ r, l = 45 :: r ∧ AllDigits r ∧ r ≠ [] ∧ r.take 1 ≠ [48] ∧ r.length ≤ 1000 := by
  unfold isNum at h
  simp only [Bool.and_eq_true, Bool.or_eq_true, Bool.not_eq_true', decide_eq_true_eq, decide_eq_false_iff_not, List.all_eq_true] at h
  obtain ⟨⟨⟨h1, h2⟩, h3⟩, h4⟩ := h
  by_cases c : l.take 1 = [45]
  · have e : digs l = l.drop 1 := if_pos c
    rw [e] at h1 h2 h3 h4
    cases l with
    | nil => cases c
    | cons a r =>
      have ea : a = 45 := by simpa using c
      subst ea
      refine .inr ⟨r, rfl, fun d hd => isDg_iff.mp (h3 d hd), fun z => ?_, ?_, h2⟩
      · rw [z] at h1; simp at h1
      · rcases h4 with h4 | h4
        · exact h4
        · cases h4
  · have e : digs l = l := if_neg c
    rw [e] at h1 h2 h3 h4
    exact .inl ⟨fun d hd => isDg_iff.mp (h3 d hd), fun z => (by rw [z] at h1; simp at h1), h4, h2, c⟩
theorem numOf_text {l : List Nat} (h : isNum l = true) : intText? (S l) = some (numV l) ∧ (S l).length ≤ 4000 := by
  rcases num_cases h with ⟨a, b, c, d, e⟩ | ⟨r, rfl, a, b, c, d⟩
  · refine ⟨?_, by rw [S_len]; omega⟩
    rw [intText_digits (x := S l) a b (by rw [S_len]; omega)]
    unfold numV
    rw [if_neg e]
  · refine ⟨?_, by rw [S_len, List.length_cons]; omega⟩
    rw [intText_neg (x := S (45 :: r)) (cs := r) rfl a b (by rw [S_len, List.length_cons]; omega)]
    rfl
theorem val_pos {r : List Nat} (a : AllDigits r) (b : r ≠ []) (c : r.take 1 ≠ [48]) : 0 < digitsVal r := by
  cases r with
  | nil => exact absurd rfl b
  | cons x r =>
    have := a.head
    exact digitsVal_pos (by
      have : x ≠ 48 := fun e => c (by rw [e]; rfl)
      omega)
theorem showI_num {l : List Nat} (h : isNum l = true) : showI (numV l) = l := by
  rcases num_cases h with ⟨a, b, c, d, e⟩ | ⟨r, rfl, a, b, c, d⟩
  · have ev : numV l = ((digitsVal l : Nat) : Int) := if_neg e
    rw [ev, showI_nat, numL_back a b c]
  · have ev : numV (45 :: r) = -((digitsVal r : Nat) : Int) := rfl
    rw [ev, showI_neg (val_pos a b c), numL_back a b (.inl c)]
theorem short_num {l : List Nat} (h : isNum l = true) : shortI (numV l) = true := by
  refine decide_eq_true ?_
  rcases num_cases h with ⟨a, b, c, d, e⟩ | ⟨r, rfl, a, b, c, d⟩
  · have ev : numV l = ((digitsVal l : Nat) : Int) := if_neg e
    rw [ev]
    exact lim_of (by simpa using digits_lt l a) d
  · have ev : numV (45 :: r) = -((digitsVal r : Nat) : Int) := rfl
    rw [ev, Int.natAbs_neg]
    exact lim_of (by simpa using digits_lt r a) d
theorem numL_noz {n : Nat} (h : 0 < n) : (numL n).take 1 ≠ [48] := by
  induction n using Nat.strongRecOn with
  | _ n ih =>
    by_cases h9 : n < 10
    · rw [numL_lt h9]
      intro z
      simp at z
      omega
    · rw [numL_step (by omega), List.take_append_of_le_length (List.length_pos_iff.mpr (numL_ne _))]
      exact ih (n / 10) (by omega) (by omega)
theorem numL_noneg {n : Nat} : (numL n).take 1 ≠ [45] := fun z => by
  have m : (45 : Nat) ∈ (numL n).take 1 := by rw [z]; exact List.mem_singleton.mpr rfl
  exact numL_free (n := n) (s := 45) (.inl (by decide)) (List.mem_of_mem_take m)
theorem isNum_nat {n : Nat} (h : n < lim) : isNum (numL n) = true ∧ numV (numL n) = (n : Int) := by
  have e : digs (numL n) = numL n := if_neg numL_noneg
  refine ⟨?_, by unfold numV; rw [if_neg numL_noneg, numL_val]⟩
  unfold isNum
  rw [e]
  simp only [Bool.and_eq_true, Bool.or_eq_true, Bool.not_eq_true', decide_eq_true_eq, decide_eq_false_iff_not, List.all_eq_true]
  refine ⟨⟨⟨List.length_pos_iff.mpr (numL_ne n), lim_len.mpr h⟩, fun d hd => isDg_iff.mpr (numL_digits n d hd)⟩, ?_⟩
  by_cases hn : 0 < n
  · exact .inl (numL_noz hn)
  · obtain rfl : n = 0 := by omega
    exact .inr (by rw [numL_lt (by decide)])
theorem isNum_neg {n : Nat} (h : n < lim) (hn : 0 < n) : isNum (45 :: numL n) = true ∧ numV (45 :: numL n) = -(n : Int) := by
  have e : digs (45 :: numL n) = numL n := if_pos rfl
  refine ⟨?_, by show -((digitsVal (numL n) : Nat) : Int) = _; rw [numL_val]⟩
  unfold isNum
  rw [e]
  simp only [Bool.and_eq_true, Bool.or_eq_true, Bool.not_eq_true', decide_eq_true_eq, decide_eq_false_iff_not, List.all_eq_true]
  exact ⟨⟨⟨List.length_pos_iff.mpr (numL_ne n), lim_len.mpr h⟩, fun d hd => isDg_iff.mpr (numL_digits n d hd)⟩, .inl (numL_noz hn)⟩
theorem num_show {i : Int} (h : shortI i = true) : isNum (showI i) = true ∧ numV (showI i) = i := by
  have h : i.natAbs < lim := of_decide_eq_true h
  by_cases hi : 0 ≤ i
  · obtain ⟨n, rfl⟩ := Int.eq_ofNat_of_zero_le hi
    rw [showI_nat]
    exact isNum_nat (by simpa using h)
  · obtain ⟨n, hn⟩ : ∃ n : Nat, i = -(n : Int) := ⟨i.natAbs, by omega⟩
    subst hn
    rw [showI_neg (by omega)]
    exact isNum_neg (by simpa using h) (by omega)
/-- the signs of a number -/
theorem num_signs {l : List Nat} (h : isNum l = true) : ∀ c ∈ l, c = 45 ∨ (48 ≤ c ∧ c ≤ 57) := by
  rcases num_cases h with ⟨a, _⟩ | ⟨r, rfl, a, _⟩
  · exact fun c hc => .inr (a c hc)
  · intro c hc
    rcases List.mem_cons.mp hc with e | hc
    · exact .inl e
    · exact .inr (a c hc)
theorem num_free {l : List Nat} (h : isNum l = true) {s : Nat} (hs : s ≠ 45 ∧ (s < 48 ∨ 57 < s)) : s ∉ l := fun hm => by
  rcases num_signs h s hm with z | z
  · exact hs.1 z
  · omega
end Tk

set_option Elab.async false
set_option linter.all false
set_option maxRecDepth 100000
set_option maxHeartbeats 4000000
namespace Tk
open PySem SX TL PySem.NumText

/-! ### arguments -/
inductive Th where
  | non | bl (b : Bool) | int (i : Int) | str (s : List Nat) | clk (n : List Nat) (i : Int) | lst (l : List Int)
abbrev cNone : List Nat := [110, 111, 110, 101]
abbrev cYes : List Nat := [121, 101, 115]
abbrev cNo : List Nat := [110, 111]
abbrev cSteady : List Nat := [115, 116, 101, 97, 100, 121]
abbrev cReal : List Nat := [114, 101, 97, 108]
abbrev cBoot : List Nat := [98, 111, 111, 116]
abbrev cThread : List Nat := [116, 104, 114, 101, 97, 100]
abbrev cProcess : List Nat := [112, 114, 111, 99, 101, 115, 115]
abbrev cNil : List Nat := [91, 93]
theorem cNone_eq : ("none" : Str) = S cNone := rfl
theorem cYes_eq : ("yes" : Str) = S cYes := rfl
theorem cNo_eq : ("no" : Str) = S cNo := rfl
theorem cSteady_eq : ("steady" : Str) = S cSteady := rfl
theorem cReal_eq : ("real" : Str) = S cReal := rfl
theorem cBoot_eq : ("boot" : Str) = S cBoot := rfl
theorem cThread_eq : ("thread" : Str) = S cThread := rfl
theorem cProcess_eq : ("process" : Str) = S cProcess := rfl
theorem cNil_eq : ("[]" : Str) = S cNil := rfl
def isBr (l : List Nat) : Bool := decide (l.take 1 = [91]) && decide (l.drop (l.length - 1) = [93])
def inner (l : List Nat) : List Nat := (l.drop 1).take (l.length - 2)
def parts (l : List Nat) : List (List Nat) := spl [44] 0 [] (inner l)
def clkOk (n l : List Nat) : Bool := decide (l.take (n.length + 1) = n ++ [58]) && (isNum (l.drop (n.length + 1)) && decide (0 ≤ numV (l.drop (n.length + 1))))
def readTh (l : List Nat) : Option Th :=
  if l = cNone then some .non else if l = cYes then some (.bl true) else if l = cNo then some (.bl false)
  else if l = cSteady ∨ l = cReal ∨ l = cBoot then some (.str l)
  else if isNum l = true then some (.int (numV l))
  else if l = cNil then some (.lst [])
  else if isBr l = true ∧ (parts l).all isNum = true then some (.lst ((parts l).map numV))
  else if clkOk cThread l = true then some (.clk cThread (numV (l.drop 7)))
  else if clkOk cProcess l = true then some (.clk cProcess (numV (l.drop 8)))
  else none
def showTh : Th → List Nat
  | .non => cNone
  | .bl b => if b then cYes else cNo
  | .int i => showI i
  | .str s => s
  | .clk n i => n ++ [58] ++ showI i
  | .lst l => [91] ++ joinL [44] (l.map showI) ++ [93]
def OkTh : Th → Prop
  | .int i => shortI i = true
  | .str s => s = cSteady ∨ s = cReal ∨ s = cBoot
  | .clk n i => (n = cThread ∨ n = cProcess) ∧ shortI i = true ∧ 0 ≤ i
  | .lst l => ∀ i ∈ l, shortI i = true
  | _ => True

/-! ### what the law tells of a word -/
def lawTh (l : List Nat) : Bool :=
  (decide (l = cNone ∨ l = cYes ∨ l = cNo ∨ l = cSteady ∨ l = cReal ∨ l = cBoot ∨ l = cNil) || isNum l) ||
    (if isBr l = true then (parts l).all isNum
    else
      let ps := spl [58] 0 [] l ++ [[], []]
      decide (ps.getD 0 [] = cThread ∨ ps.getD 0 [] = cProcess) && (decide (l = ps.getD 0 [] ++ [58] ++ ps.getD 1 []) && (isNum (ps.getD 1 []) && !decide ((ps.getD 1 []).take 1 = [45]))))
theorem joinL_spl (c : Nat) (hc : c < 256) (l : List Nat) : joinL [c] (spl [c] 0 [] l) = l := by
  have e := StrLaws.join_split (S l) (S [c])
  rw [split_S (by simp) (by simpa using hc), ← TL.join_eq, join_S] at e
  exact S_inj e
theorem spl_free1 (c : Nat) (hc : c < 256) (l : List Nat) : ∀ p ∈ spl [c] 0 [] l, c ∉ p := by
  intro p hp
  have e := StrLaws.split_free (S l) c (S p) (by
    show S p ∈ Txt.split (S l) (S [c])
    rw [split_S (by simp) (by simpa using hc)]
    exact List.mem_map_of_mem hp)
  exact e
theorem spl_ne (c : Nat) (l : List Nat) : spl [c] 0 [] l ≠ [] := by
  have key : ∀ (l acc : List Nat), spl [c] 0 acc l ≠ [] := by
    intro l
    induction l with
    | nil => intro acc; rw [spl_nil]; simp
    | cons a r ih =>
      intro acc
      cases h : pre [c] (a :: r) with
      | true => rw [spl_hit h]; simp
      | false => rw [spl_miss h]; exact ih _
  exact key l []
/-- brackets -/
theorem br_form {l : List Nat} (h : isBr l = true) (n : l ≠ cNil) : ∃ m, l = [91] ++ m ++ [93] ∧ inner l = m := by
  unfold isBr at h
  rw [Bool.and_eq_true, decide_eq_true_iff, decide_eq_true_iff] at h
  obtain ⟨h1, h2⟩ := h
  cases l with
  | nil => cases h1
  | cons a r =>
    have ea : a = 91 := by simpa using h1
    subst ea
    have h2 : (91 :: r).drop r.length = [93] := h2
    cases hr : r.reverse with
    | nil =>
      have : r = [] := List.reverse_eq_nil_iff.mp hr
      subst this
      cases h2
    | cons z m =>
      have er : r = m.reverse ++ [z] := by rw [← List.reverse_reverse r, hr, List.reverse_cons]
      subst er
      have e : (91 :: (m.reverse ++ [z])).drop (m.reverse ++ [z]).length = [z] := by
        have : (m.reverse ++ [z]).length = m.reverse.length + 1 := by simp
        rw [this, List.drop_succ_cons, List.drop_left]
      rw [e] at h2
      have ez : z = 93 := by simpa using h2
      subst ez
      refine ⟨m.reverse, by simp, ?_⟩
      unfold inner
      rw [List.drop_succ_cons, List.drop_zero, show (91 :: (m.reverse ++ [93])).length - 2 = m.reverse.length by simp, List.take_left]
theorem inner_of (m : List Nat) : inner ([91] ++ m ++ [93]) = m := by
  unfold inner
  show (m ++ [93]).take (([91] ++ m ++ [93]).length - 2) = m
  have e : ([91] ++ m ++ [93] : List Nat).length - 2 = m.length := by simp
  rw [e, List.take_left]
theorem br_of (m : List Nat) : isBr ([91] ++ m ++ [93]) = true := by
  unfold isBr
  rw [Bool.and_eq_true, decide_eq_true_iff, decide_eq_true_iff]
  refine ⟨rfl, ?_⟩
  have e : ([91] ++ m ++ [93] : List Nat).length - 1 = ([91] ++ m : List Nat).length := by simp
  rw [e, List.drop_left]
/-- a clock's word -/
theorem clk_form {n l : List Nat} (h : clkOk n l = true) : ∃ r, l = n ++ [58] ++ r ∧ l.drop (n.length + 1) = r ∧ isNum r = true ∧ 0 ≤ numV r := by
  unfold clkOk at h
  simp only [Bool.and_eq_true, decide_eq_true_iff] at h
  obtain ⟨h1, h2, h3⟩ := h
  exact ⟨_, by rw [← h1]; exact (List.take_append_drop _ _).symm, rfl, h2, h3⟩
theorem clk_of {n r : List Nat} (h : isNum r = true) (h0 : 0 ≤ numV r) : clkOk n (n ++ [58] ++ r) = true := by
  have e1 : (n ++ [58] ++ r).take (n.length + 1) = n ++ [58] := by
    rw [show n.length + 1 = (n ++ [58]).length by simp, List.take_left]
  have e2 : (n ++ [58] ++ r).drop (n.length + 1) = r := by
    rw [show n.length + 1 = (n ++ [58]).length by simp, List.drop_left]
  unfold clkOk
  rw [e1, e2]
  simp [h, h0]
theorem num_sign {r : List Nat} (h : isNum r = true) : 0 ≤ numV r ↔ r.take 1 ≠ [45] := by
  rcases num_cases h with ⟨a, b, c, d, e⟩ | ⟨r, rfl, a, b, c, d⟩
  · have ev : numV r = ((digitsVal r : Nat) : Int) := if_neg e
    rw [ev]
    exact ⟨fun _ => e, fun _ => by omega⟩
  · have ev : numV (45 :: r) = -((digitsVal r : Nat) : Int) := rfl
    have := val_pos a b c
    rw [ev]
    constructor
    · intro z; omega
    · intro z; exact absurd rfl z
theorem spl_two {n r : List Nat} (hn : 58 ∉ n) (hr : 58 ∉ r) : spl [58] 0 [] (n ++ [58] ++ r) = [n, r] := by
  have e := spl_join (s := 58) (S := []) (parts := [n, r]) (by simp) (by
    intro p hp
    rcases List.mem_cons.mp hp with rfl | hp
    · exact hn
    · obtain rfl := List.mem_singleton.mp hp; exact hr)
  have e2 : joinL [58] [n, r] = n ++ [58] ++ r := by simp [joinL]
  rw [e2] at e
  exact e
theorem law_read (l : List Nat) : lawTh l = (readTh l).isSome := by
  unfold lawTh readTh
  by_cases h1 : l = cNone
  · simp [h1]
  by_cases h2 : l = cYes
  · simp [h2]
  by_cases h3 : l = cNo
  · simp [h3]
  by_cases h4 : l = cSteady ∨ l = cReal ∨ l = cBoot
  · rcases h4 with rfl | rfl | rfl <;> simp
  have h4' := h4
  simp only [not_or] at h4'
  by_cases h5 : isNum l = true
  · simp [h1, h2, h3, h4', h5]
  by_cases h6 : l = cNil
  · simp [h6]; decide
  rw [if_neg h1, if_neg h2, if_neg h3, if_neg h4, if_neg h5, if_neg h6]
  rw [decide_eq_false (by simp only [not_or]; exact ⟨h1, h2, h3, h4'.1, h4'.2.1, h4'.2.2, h6⟩), Bool.eq_false_iff.mpr h5, Bool.false_or, Bool.false_or]
  have noClk : ∀ {n : List Nat}, n.take 1 ≠ [91] → n ≠ [] → isBr l = true → clkOk n l = false := by
    intro n hn ne hb
    cases hc : clkOk n l with
    | false => rfl
    | true =>
      obtain ⟨r, e, _⟩ := clk_form hc
      unfold isBr at hb
      rw [Bool.and_eq_true, decide_eq_true_iff] at hb
      rw [e] at hb
      have hb := hb.1
      cases n with
      | nil => exact absurd rfl ne
      | cons a r => exact absurd hb hn
  by_cases h7 : isBr l = true
  · rw [if_pos h7]
    rw [noClk (n := cThread) (by decide) (by decide) h7, noClk (n := cProcess) (by decide) (by decide) h7]
    cases h8 : (parts l).all isNum with
    | true => simp [h7]
    | false => simp
  · rw [if_neg h7, if_neg (fun z => h7 z.1)]
    have one : ∀ {n : List Nat}, 58 ∉ n → clkOk n l = true → spl [58] 0 [] l = [n, l.drop (n.length + 1)] ∧ isNum (l.drop (n.length + 1)) = true ∧ (l.drop (n.length + 1)).take 1 ≠ [45] ∧ l = n ++ [58] ++ l.drop (n.length + 1) := by
      intro n hn hc
      obtain ⟨r, e, e2, e3, e4⟩ := clk_form hc
      rw [e2]
      refine ⟨?_, e3, (num_sign e3).mp e4, e⟩
      rw [e]
      exact spl_two hn (num_free e3 ⟨by decide, .inr (by decide)⟩)
    by_cases h8 : clkOk cThread l = true
    · obtain ⟨a, b, c, d⟩ := one (by decide) h8
      rw [if_pos h8]
      simp only [a, List.cons_append, List.getD_cons_zero, List.getD_cons_succ]
      simp
      exact ⟨d, b, c⟩
    · rw [if_neg h8]
      by_cases h9 : clkOk cProcess l = true
      · obtain ⟨a, b, c, d⟩ := one (by decide) h9
        rw [if_pos h9]
        simp only [a, List.cons_append, List.getD_cons_zero, List.getD_cons_succ]
        simp
        exact ⟨d, b, c⟩
      · rw [if_neg h9]
        cases hq : (decide ((spl [58] 0 [] l ++ [[], []]).getD 0 [] = cThread ∨ (spl [58] 0 [] l ++ [[], []]).getD 0 [] = cProcess) && (decide (l = (spl [58] 0 [] l ++ [[], []]).getD 0 [] ++ [58] ++ (spl [58] 0 [] l ++ [[], []]).getD 1 []) && (isNum ((spl [58] 0 [] l ++ [[], []]).getD 1 []) && !decide (((spl [58] 0 [] l ++ [[], []]).getD 1 []).take 1 = [45])))) with
        | false => rfl
        | true =>
          simp only [Bool.and_eq_true, Bool.not_eq_true', decide_eq_true_iff, decide_eq_false_iff_not] at hq
          obtain ⟨q1, q2, q3, q4⟩ := hq
          have z := clk_of (n := (spl [58] 0 [] l ++ [[], []]).getD 0 []) q3 ((num_sign q3).mpr q4)
          rw [← q2] at z
          rcases q1 with q1 | q1
          · rw [q1] at z; exact absurd z h8
          · rw [q1] at z; exact absurd z h9
theorem read_show {l : List Nat} {t : Th} (h : readTh l = some t) : showTh t = l ∧ OkTh t := by
  unfold readTh at h
  split at h
  · rename_i e; cases h; exact ⟨e.symm, trivial⟩
  split at h
  · rename_i e; cases h; exact ⟨e.symm, trivial⟩
  split at h
  · rename_i e; cases h; exact ⟨e.symm, trivial⟩
  split at h
  · rename_i e; cases h; exact ⟨rfl, e⟩
  split at h
  · rename_i e; cases h; exact ⟨showI_num e, short_num e⟩
  split at h
  · rename_i e; cases h; exact ⟨e.symm, fun i hi => by cases hi⟩
  split at h
  · rename_i n e
    cases h
    obtain ⟨m, em, im⟩ := br_form e.1 n
    have nums : ∀ p ∈ parts l, isNum p = true := List.all_eq_true.mp e.2
    refine ⟨?_, fun i hi => ?_⟩
    · show [91] ++ joinL [44] (((parts l).map numV).map showI) ++ [93] = l
      have e2 : ((parts l).map numV).map showI = parts l := by
        rw [List.map_map]
        conv => rhs; rw [← List.map_id (parts l)]
        exact List.map_congr_left fun p hp => showI_num (nums p hp)
      rw [e2]
      unfold parts
      rw [joinL_spl 44 (by decide), im, ← em]
    · obtain ⟨p, hp, rfl⟩ := List.mem_map.mp hi
      exact short_num (nums p hp)
  split at h
  · rename_i e
    cases h
    obtain ⟨r, e1, e2, e3, e4⟩ := clk_form e
    have e2 : l.drop 7 = r := e2
    rw [e2]
    refine ⟨?_, .inl rfl, short_num e3, e4⟩
    show cThread ++ [58] ++ showI (numV r) = l
    rw [showI_num e3, ← e1]
  split at h
  · rename_i e
    cases h
    obtain ⟨r, e1, e2, e3, e4⟩ := clk_form e
    have e2 : l.drop 8 = r := e2
    rw [e2]
    refine ⟨?_, .inr rfl, short_num e3, e4⟩
    show cProcess ++ [58] ++ showI (numV r) = l
    rw [showI_num e3, ← e1]
  · cases h
end Tk

set_option Elab.async false
set_option linter.all false
set_option maxRecDepth 100000
set_option maxHeartbeats 4000000
namespace Tk
open PySem PySem.Spec PyProof.Rows L2

/-! ### the draws -/
def mixA (cell k : Int) : Int := cell % 2147483629 + cell / 2147483629 * 30011
def mixB (cell k : Int) : Int := ((mixA cell k + 69621 * k + 1) * 48271) % 2147483629
def mixC (cell k : Int) : Int := (mixB cell k * (mixB cell k / 907 + 16831 + k)) % 2147483587
def mixed (cell k : Int) : Int := (mixC cell k * (mixC cell k / 1201 + 30011)) % 2147483563
theorem mixed_nn (c k : Int) : 0 ≤ mixed c k := Int.emod_nonneg _ (by decide)
def cellAt (ns : List Int) (k : Nat) : Int := ns.getD k 0

section
variable {P : Program} {w : World} {K : PySem.W.Frag} {mg : Str → Option Value} {base : Heap}
def spCellAt (K : PySem.W.Frag) : Sp := fun vs H Q _ => ∃ (a : Addr) (k : Nat) (ns : List Int), vs = [.ref a, .int k] ∧ SqL K H a (ns.map V.int) ∧ Q (.int (cellAt ns k)) H
theorem sc_cellAt : FnScope ["script", "k"] ["script", "k"] (defScope s__law_cell_at) := ⟨rfl, rfl, rfl, by decide +kernel, rfl, by decide +kernel, by decide +kernel⟩
theorem ok_cellAt (F : FunAt K mg "_law_cell_at" s__law_cell_at) (G : NoGl mg) : Cal P w K mg base CX0 1 "_law_cell_at" ["script", "k"] [] (spCellAt K) := by
  refine Cal.mk0 F sc_cellAt (by rintro _ _ _ _ ⟨_, _, _, rfl, _⟩; rfl) (fun _ _ _ _ _ _ us hl => match us, hl with | [_, _], _ => rfl) ?_
  rintro f cdv A outer s H vs Q E hr ⟨a, k, ns, rfl, hs, q⟩
  refine ⟨_, pss_cons (ps_if (pt_cmpR op_lt (pv 1) (pe_callB call_len_seq (by rfl) G.len PySem.boot_len (pa_cons (pv 0) pa_nil)) (nomark _)) (pss_one (ps_ret (pe_ix ix_list (pv 0) (pv 1) (fun _ _ => rfl)))) pss_nil)
    (pss_one (ps_ret pe_int)), ?_⟩
  refine ⟨_, rfl, _, rfl, a, _, rfl, .inl hs, _, _, rfl, rfl, _, rfl, ?_⟩
  refine ite2 (fun h => ?_) (fun h => ?_)
  · have h := of_decide_eq_true h
    have hk : k < ns.length := by simpa using h
    refine ⟨_, rfl, _, rfl, a, _, _, _, rfl, rfl, hs, atI_nat (j := k) (v := V.int ns[k]) (by simp [hk]), ?_⟩
    have e : cellAt ns k = ns[k] := by simp [cellAt, List.getD, hk]
    rw [e] at q; exact q
  · have hk : ns.length ≤ k := by
      have h := mt decide_eq_true h
      simpa using h
    have e : cellAt ns k = 0 := by simp [cellAt, List.getD, hk]
    rw [e] at q; exact q

def spMixed : Sp := fun vs H Q _ => ∃ (c k : Int), vs = [.int c, .int k] ∧ Q (.int (mixed c k)) H
theorem sc_mixed : FnScope ["cell", "k", "low"] ["cell", "k"] (defScope s__law_mixed) := ⟨rfl, rfl, rfl, by decide +kernel, rfl, by decide +kernel, by decide +kernel⟩
theorem small_l {i : Int} (j : Int) (h0 : 0 ≤ i) (h1 : i < 2147483648) : CMul i j := .inl ⟨by omega, by omega⟩
theorem ok_mixed (F : FunAt K mg "_law_mixed" s__law_mixed) (G : NoGl mg) : Cal P w K mg base CX0 1 "_law_mixed" ["cell", "k"] [] spMixed := by
  refine Cal.mk0 F sc_mixed (by rintro _ _ _ _ ⟨_, _, rfl, _⟩; rfl) (fun _ _ _ _ _ _ us hl => match us, hl with | [_, _], _ => rfl) ?_
  rintro f cdv A outer s H vs Q E hr ⟨c, k, rfl, q⟩
  have nd := sc_mixed.nd
  refine ⟨_, pss_cons (ps_set (i := 2) nd rfl (.inl rfl) (pe_op op_add (pe_op op_mod (pe_callTy call_int1 (by rfl) G.int (by decide +kernel) (pa_cons (pv 0) pa_nil)) pe_int) (pe_op op_mul (pe_op op_fdivW (pv 0) pe_int) pe_int)))
    (pss_cons (ps_set (i := 2) nd rfl (.inl rfl) (pe_op op_mod (pe_callTy call_int1 (by rfl) G.int (by decide +kernel) (pa_cons (pe_op op_mul (pe_op op_add (pe_op op_add (pv 2) (pe_op op_mul pe_int (pv 1))) pe_int) pe_int) pa_nil)) pe_int))
    (pss_cons (ps_set (i := 2) nd rfl (.inl rfl) (pe_op op_mod (pe_callTy call_int1 (by rfl) G.int (by decide +kernel) (pa_cons (pe_op op_mul (pv 2) (pe_op op_add (pe_op op_add (pe_op op_fdivW (pv 2) pe_int) pe_int) (pv 1))) pa_nil)) pe_int))
    (pss_one (ps_ret (pe_op op_mod (pe_callTy call_int1 (by rfl) G.int (by decide +kernel) (pa_cons (pe_op op_mul (pv 2) (pe_op op_add (pe_op op_fdivW (pv 2) pe_int) pe_int)) pa_nil)) pe_int))))), ?_⟩
  have w1 : CDivW c 2147483629 := ⟨by decide, by decide⟩
  refine ⟨_, rfl, .inl ⟨_, rfl, _, _, rfl, rfl, (by show (0 : Int) < 2147483629; decide), _, rfl, _, _, rfl, rfl, w1, _, _, rfl, rfl, .inr ⟨by decide, by decide⟩, _, _, rfl, rfl, ?_⟩⟩
  refine ⟨_, rfl, _, rfl, _, _, rfl, rfl, .inl ⟨by decide, by decide⟩, _, _, rfl, rfl, _, _, rfl, rfl, _, _, rfl, rfl, .inr ⟨by decide, by decide⟩, .inl ⟨_, rfl, _, _, rfl, rfl, (by show (0 : Int) < 2147483629; decide), ?_⟩⟩
  have b0 : 0 ≤ mixB c k := Int.emod_nonneg _ (by decide)
  have b1 : mixB c k < 2147483629 := Int.emod_lt_of_pos _ (by decide)
  refine ⟨_, rfl, _, rfl, _, _, rfl, rfl, ⟨by decide, by decide⟩, _, _, rfl, rfl, _, rfl, _, _, rfl, rfl, _, _, rfl, rfl, small_l _ b0 (by exact Int.lt_trans b1 (by decide)), .inl ⟨_, rfl, _, _, rfl, rfl, (by show (0 : Int) < 2147483587; decide), ?_⟩⟩
  have c0 : 0 ≤ mixC c k := Int.emod_nonneg _ (by decide)
  have c1 : mixC c k < 2147483587 := Int.emod_lt_of_pos _ (by decide)
  refine ⟨_, rfl, _, rfl, _, _, rfl, rfl, ⟨by decide, by decide⟩, _, _, rfl, rfl, _, _, rfl, rfl, small_l _ c0 (by exact Int.lt_trans c1 (by decide)), .inl ⟨_, rfl, _, _, rfl, rfl, (by show (0 : Int) < 2147483563; decide), ?_⟩⟩
  exact q

/-- the draws of the k-th thing -/
def srcOf (ns : List Int) (k : Nat) : Int := if k < ns.length then cellAt ns k else mixed (cellAt ns 0) (1000 + k)
def spSource (K : PySem.W.Frag) : Sp := fun vs H Q _ => ∃ (a : Addr) (k : Nat) (ns : List Int), vs = [.ref a, .int k] ∧ SqL K H a (ns.map V.int) ∧
  ∀ p H', H p = none → H' p = some (.lst [.int (srcOf ns k), .int (srcOf ns k), .int 0]) → Fr [] H H' → Q (.ref p) H'
theorem sc_source : FnScope ["script", "k", "cell"] ["script", "k"] (defScope s__law_source) := ⟨rfl, rfl, rfl, by decide +kernel, rfl, by decide +kernel, by decide +kernel⟩
theorem ok_source (F : FunAt K mg "_law_source" s__law_source) (G : NoGl mg) (C1 : Cal P w K mg base CX0 1 "_law_cell_at" ["script", "k"] [] (spCellAt K)) (C2 : Cal P w K mg base CX0 1 "_law_mixed" ["cell", "k"] [] spMixed) :
    Cal P w K mg base CX0 2 "_law_source" ["script", "k"] [] (spSource K) := by
  refine Cal.mk0 F sc_source (by rintro _ _ _ _ ⟨_, _, _, rfl, _⟩; rfl) (fun _ _ _ _ _ _ us hl => match us, hl with | [_, _], _ => rfl) ?_
  rintro f cdv A outer s H vs Q E hr ⟨a, k, ns, rfl, hs, q⟩
  have nd := sc_source.nd
  refine ⟨_, pss_cons (ps_if (pt_cmpR op_lt (pv 1) (pe_callB call_len_seq (by rfl) G.len PySem.boot_len (pa_cons (pv 0) pa_nil)) (nomark _))
      (pss_one (ps_ret (pe_lst (pa_cons (pe_ix ix_list (pv 0) (pv 1) (fun _ _ => rfl)) (pa_cons (pe_ix ix_list (pv 0) (pv 1) (fun _ _ => rfl)) (pa_cons pe_int pa_nil)))))) pss_nil)
    (pss_cons (ps_set (i := 2) nd rfl (.inl rfl) (pe_c C2 hr (by rfl) pass0 (pa_cons (pe_c C1 hr (by rfl) pass0 (pa_cons (pv 0) (pa_cons pe_int pa_nil))) (pa_cons (pe_op op_add pe_int (pv 1)) pa_nil))))
    (pss_one (ps_ret (pe_lst (pa_cons (pv 2) (pa_cons (pv 2) (pa_cons pe_int pa_nil))))))), ?_⟩
  refine ⟨_, rfl, _, rfl, a, _, rfl, .inl hs, _, _, rfl, rfl, _, rfl, ?_⟩
  refine ite2 (fun h => ?_) (fun h => ?_)
  · have h := of_decide_eq_true h
    have hk : k < ns.length := by simpa using h
    have at_ := atI_nat (xs := ns.map V.int) (j := k) (v := V.int (cellAt ns k)) (by simp [cellAt, List.getD, hk])
    refine ⟨_, rfl, _, rfl, a, _, _, _, rfl, rfl, hs, at_, _, rfl, _, rfl, a, _, _, _, rfl, rfl, hs, at_, (by show 3 ≤ sizeLine; decide), fun p hp => ?_⟩
    have e : srcOf ns k = cellAt ns k := if_pos hk
    rw [e] at q
    exact q p _ hp upd_same (Fr.new hp)
  · have hk : ¬ k < ns.length := by
      have h := mt decide_eq_true h
      simpa using h
    refine ⟨_, rfl, a, 0, ns, rfl, hs, _, rfl, _, _, rfl, rfl, _, _, rfl, _, rfl, _, rfl, (by show 3 ≤ sizeLine; decide), fun p hp => ?_⟩
    have e : srcOf ns k = mixed (cellAt ns 0) (1000 + k) := if_neg hk
    rw [e] at q
    exact q p _ hp upd_same (Fr.new hp)

/-- a source: what is left of the number, the number, how many were mixed -/
abbrev srcO (x y z : Int) : HO := .lst [.int x, .int y, .int z]
def nextV (x y z m : Int) : Int := if 10 ^ 18 ≤ x then x % m else mixed y (z + 1) % m
def nextX (x m : Int) : Int := if 10 ^ 18 ≤ x then x / m else x
def nextZ (x z : Int) : Int := if 10 ^ 18 ≤ x then z else z + 1
def spNext : Sp := fun vs H Q _ => ∃ (a : Addr) (x y z m : Int), vs = [.ref a, .int m] ∧ H a = some (srcO x y z) ∧ 0 < m ∧ m < 2 ^ 64 ∧
  ∀ H', H' a = some (srcO (nextX x m) y (nextZ x z)) → Fr [a] H H' → Q (.int (nextV x y z m)) H'
theorem nextV_nn {x y z m : Int} (h : 0 < m) : 0 ≤ nextV x y z m := by unfold nextV; split <;> exact Int.emod_nonneg _ (by omega)
theorem nextV_lt {x y z m : Int} (h : 0 < m) : nextV x y z m < m := by unfold nextV; split <;> exact Int.emod_lt_of_pos _ h
theorem sc_next : FnScope ["source", "many", "found"] ["source", "many"] (defScope s__law_next) := ⟨rfl, rfl, rfl, by decide +kernel, rfl, by decide +kernel, by decide +kernel⟩
theorem ok_next (F : FunAt K mg "_law_next" s__law_next) (G : NoGl mg) (C2 : Cal P w K mg base CX0 1 "_law_mixed" ["cell", "k"] [] spMixed) :
    Cal P w K mg base CX0 2 "_law_next" ["source", "many"] [] spNext := by
  refine Cal.mk0 F sc_next (by rintro _ _ _ _ ⟨_, _, _, _, _, rfl, _⟩; rfl) (fun _ _ _ _ _ _ us hl => match us, hl with | [_, _], _ => rfl) ?_
  rintro f cdv A outer s H vs Q E hr ⟨a, x, y, z, m, rfl, hs, hm, hm2, q⟩
  have nd := sc_next.nd
  refine ⟨_, pss_cons (ps_if (pt_cmpR op_ge (pe_ix ix_list (pv 0) pe_int (fun _ _ => rfl)) (pe_op op_pow pe_int pe_int) (nomark _))
      (pss_cons (ps_set (i := 2) nd rfl (.inl rfl) (pe_op op_mod (pe_callTy call_int1 (by rfl) G.int (by decide +kernel) (pa_cons (pe_ix ix_list (pv 0) pe_int (fun _ _ => rfl)) pa_nil)) (pv 1)))
      (pss_cons (ps_asg (pe_op op_fdivW (pe_ix ix_list (pv 0) pe_int (fun _ _ => rfl)) (pv 1)) (pg_sub (pv 0) pe_int set_list))
      (pss_one (ps_ret (pv 2))))) pss_nil)
    (pss_cons (ps_asg (pe_op op_add (pe_ix ix_list (pv 0) pe_int (fun _ _ => rfl)) pe_int) (pg_sub (pv 0) pe_int set_list))
    (pss_one (ps_ret (pe_op op_mod (pe_callTy call_int1 (by rfl) G.int (by decide +kernel) (pa_cons (pe_c C2 hr (by rfl) pass0 (pa_cons (pe_ix ix_list (pv 0) pe_int (fun _ _ => rfl)) (pa_cons (pe_ix ix_list (pv 0) pe_int (fun _ _ => rfl)) pa_nil))) pa_nil)) (pv 1))))), ?_⟩
  refine ⟨_, rfl, a, _, _, _, rfl, rfl, SqL.of hs, rfl, _, _, rfl, rfl, ⟨by decide, by decide, by decide⟩, _, _, rfl, rfl, _, rfl, ?_⟩
  refine ite2 (fun h => ?_) (fun h => ?_)
  · have h : (10 : Int) ^ 18 ≤ x := of_decide_eq_true h
    refine ⟨_, rfl, a, _, _, _, rfl, rfl, SqL.of hs, rfl, .inl ⟨_, rfl, _, rfl, _, _, rfl, rfl, hm, ?_⟩⟩
    have w1 : CDivW x m := wide_div (b := 64) hm (by omega) (by decide) (by decide)
    refine ⟨_, rfl, a, _, _, _, rfl, rfl, SqL.of hs, rfl, _, rfl, _, _, rfl, rfl, w1, _, rfl, a, _, _, 0, rfl, rfl, hs, rfl, ?_⟩
    refine ⟨_, rfl, ?_⟩
    have e1 : nextV x y z m = x % m := if_pos h
    have e2 : nextX x m = x / m := if_pos h
    have e3 : nextZ x z = z := if_pos h
    rw [e1, e2, e3] at q
    exact q _ upd_same (Fr.set (List.mem_singleton.mpr rfl))
  · have h : ¬ (10 : Int) ^ 18 ≤ x := fun t => h (decide_eq_true t)
    refine ⟨_, rfl, a, _, _, _, rfl, rfl, SqL.of hs, rfl, _, _, rfl, rfl, _, rfl, a, _, _, 2, rfl, rfl, hs, rfl, ?_⟩
    have hs2 : (upd H a (.lst ([V.int x, V.int y, V.int z].set 2 (V.int (z + 1))))) a = some (srcO x y (z + 1)) := upd_same
    refine ⟨_, rfl, a, _, _, _, rfl, rfl, SqL.of hs2, rfl, _, rfl, a, _, _, _, rfl, rfl, SqL.of hs2, rfl, _, _, rfl, .inl ⟨_, rfl, _, rfl, _, _, rfl, rfl, hm, ?_⟩⟩
    have e1 : nextV x y z m = mixed y (z + 1) % m := if_neg h
    have e2 : nextX x m = x := if_neg h
    have e3 : nextZ x z = z + 1 := if_neg h
    rw [e1, e2, e3] at q
    exact q _ hs2 (Fr.set (List.mem_singleton.mpr rfl))
/-- a draw, of which only the bounds are told -/
def spDraw : Sp := fun vs H Q _ => ∃ (a : Addr) (x y z m : Int), vs = [.ref a, .int m] ∧ H a = some (srcO x y z) ∧ 0 < m ∧ m < 2 ^ 64 ∧
  ∀ (d x' z' : Int) (H' : Hp), 0 ≤ d → d < m → H' a = some (srcO x' y z') → Fr [a] H H' → Q (.int d) H'
theorem draw_of {CX : CXT} {k : Nat} (C : Cal P w K mg base CX k "_law_next" ["source", "many"] [] spNext) : Cal P w K mg base CX k "_law_next" ["source", "many"] [] spDraw :=
  C.imp fun vs H Q E ⟨a, x, y, z, m, e, h, m0, m1, q⟩ => ⟨a, x, y, z, m, e, h, m0, m1, fun H' h' fr => q _ _ _ H' (nextV_nn m0) (nextV_lt m0) h' fr⟩
end
end Tk

set_option Elab.async false
set_option linter.all false
set_option maxRecDepth 100000
set_option maxHeartbeats 4000000
namespace Tk
open PySem PySem.Spec PyProof.Rows L2

/-! ### data that stands in the tracked heap -/
mutual
inductive Dd (H : Hp) : V → PyData → Prop
  | non : Dd H .non .none
  | bl (b : Bool) : Dd H (.bl b) (.bool b)
  | int (i : Int) : Dd H (.int i) (.int i)
  | str (x : Str) : Dd H (.str x) (.str x)
  | lst {a : Addr} {xs : List V} {ds : List PyData} : H a = some (.lst xs) → DdAll H xs ds → Dd H (.ref a) (.list ds)
  | tup {a : Addr} {xs : List V} {ds : List PyData} : H a = some (.tup xs) → DdAll H xs ds → Dd H (.ref a) (.tuple ds)
inductive DdAll (H : Hp) : List V → List PyData → Prop
  | nil : DdAll H [] []
  | cons {v : V} {vs : List V} {d : PyData} {ds : List PyData} : Dd H v d → DdAll H vs ds → DdAll H (v :: vs) (d :: ds)
end
section
variable {K : PySem.W.Frag} {H H' : Hp}
mutual
theorem Dd.dp : ∀ {v : V} {d : PyData}, Dd H v d → Dp K H v d
  | _, _, .non => .non
  | _, _, .bl b => .bl b
  | _, _, .int i => .int i
  | _, _, .str x => .str x
  | _, _, .lst s h => .lst (SqL.of s) (DdAll.dp h)
  | _, _, .tup s h => .tup (SqT.of s) (DdAll.dp h)
theorem DdAll.dp : ∀ {vs : List V} {ds : List PyData}, DdAll H vs ds → DpAll K H vs ds
  | _, _, .nil => .nil
  | _, _, .cons a b => .cons (Dd.dp a) (DdAll.dp b)
end
mutual
theorem Dd.same (e : Same H H') : ∀ {v : V} {d : PyData}, Dd H v d → Dd H' v d
  | _, _, .non => .non
  | _, _, .bl b => .bl b
  | _, _, .int i => .int i
  | _, _, .str x => .str x
  | _, _, .lst s h => .lst (e _ _ s) (DdAll.same e h)
  | _, _, .tup s h => .tup (e _ _ s) (DdAll.same e h)
theorem DdAll.same (e : Same H H') : ∀ {vs : List V} {ds : List PyData}, DdAll H vs ds → DdAll H' vs ds
  | _, _, .nil => .nil
  | _, _, .cons a b => .cons (Dd.same e a) (DdAll.same e b)
end
mutual
theorem Dd.one : ∀ {v : V} {d d' : PyData}, Dd H v d → Dd H v d' → d = d'
  | _, _, _, .non, h => by cases h; rfl
  | _, _, _, .bl b, h => by cases h; rfl
  | _, _, _, .int i, h => by cases h; rfl
  | _, _, _, .str x, h => by cases h; rfl
  | _, _, _, .lst s a, h => by
    cases h with
    | lst s' a' => cases s.symm.trans s'; rw [DdAll.one a a']
    | tup s' a' => cases s.symm.trans s'
  | _, _, _, .tup s a, h => by
    cases h with
    | lst s' a' => cases s.symm.trans s'
    | tup s' a' => cases s.symm.trans s'; rw [DdAll.one a a']
theorem DdAll.one : ∀ {vs : List V} {ds ds' : List PyData}, DdAll H vs ds → DdAll H vs ds' → ds = ds'
  | _, _, _, .nil, h => by cases h; rfl
  | _, _, _, .cons a b, h => by
    cases h with
    | cons a' b' => rw [Dd.one a a', DdAll.one b b']
end
theorem DdAll.app : ∀ {xs ys : List V} {ds es : List PyData}, DdAll H xs ds → DdAll H ys es → DdAll H (xs ++ ys) (ds ++ es)
  | _, _, _, _, .nil, b => b
  | _, _, _, _, .cons a c, b => .cons a (DdAll.app c b)
theorem DdAll.ints : ∀ ns : List Int, DdAll H (ns.map V.int) (ns.map PyData.int)
  | [] => .nil
  | n :: ns => .cons (.int n) (DdAll.ints ns)
theorem DdAll.strs : ∀ ns : List Str, DdAll H (ns.map V.str) (ns.map PyData.str)
  | [] => .nil
  | n :: ns => .cons (.str n) (DdAll.strs ns)
end
/-- the data of a value -/
noncomputable def dOf (H : Hp) (v : V) : PyData := open Classical in if h : ∃ d, Dd H v d then Classical.choose h else .none
theorem dOf_eq {H : Hp} {v : V} {d : PyData} (h : Dd H v d) : dOf H v = d := by
  have e : ∃ d, Dd H v d := ⟨d, h⟩
  unfold dOf
  rw [dif_pos e]
  exact (Classical.choose_spec e).one h
theorem dOf_at {H : Hp} {v : V} (h : ∃ d, Dd H v d) : Dd H v (dOf H v) := by
  obtain ⟨d, h⟩ := h
  rw [dOf_eq h]; exact h

/-! ### small data: its text fits -/
mutual
def okD : PyData → Bool
  | .none | .bool _ => true
  | .int i => decide (i.natAbs < 10 ^ 40)
  | .str x => decide (x.length ≤ 64) && x.cps.toList.all fun c => decide (c < 128)
  | .list xs | .tuple xs => okDs xs
  | .dict _ => false
def okDs : List PyData → Bool
  | [] => true
  | x :: xs => okD x && okDs xs
end
mutual
def nodes : PyData → Nat
  | .none | .bool _ | .int _ | .str _ | .dict _ => 1
  | .list xs | .tuple xs => 1 + nodesAll xs
def nodesAll : List PyData → Nat
  | [] => 0
  | x :: xs => nodes x + nodesAll xs
end
theorem nodes_pos : ∀ d : PyData, 1 ≤ nodes d
  | .none | .bool _ | .int _ | .str _ | .dict _ => by simp only [nodes]; omega
  | .list xs | .tuple xs => by simp only [nodes]; omega
theorem nodesAll_len : ∀ ds : List PyData, ds.length ≤ nodesAll ds
  | [] => Nat.zero_le _
  | d :: ds => by
    have h1 := nodes_pos d
    have h2 := nodesAll_len ds
    simp only [nodesAll, List.length_cons]; omega
theorem shownAll_len : ∀ ds : List PyData, (PyData.shownAll ds).length = ds.length
  | [] => by simp only [PyData.shownAll, List.length_nil]
  | d :: ds => by simp only [PyData.shownAll, List.length_cons, shownAll_len ds]
mutual
theorem shown_okD : ∀ d : PyData, okD d = true → d.shown.length + 5 ≤ 1000 * nodes d
  | .none, _ => by
    have e : (PyData.shown .none).length = 4 := rfl
    simp only [nodes]; omega
  | .bool b, _ => by
    have e : (PyData.shown (.bool b)).length ≤ 5 := by cases b <;> decide
    simp only [nodes]; omega
  | .int i, h => by
    have h : i.natAbs < 10 ^ 40 := by simpa only [okD, decide_eq_true_eq] using h
    have e := int_text_length_le10 (k := 40) (by decide) h
    have e2 : (PyData.shown (.int i)).length ≤ 41 := by
      show (Str.ofString (toString i)).length ≤ 41
      rw [PySem.ofString_length]; exact e
    simp only [nodes]; omega
  | .str x, h => by
    simp only [okD, Bool.and_eq_true, decide_eq_true_eq, List.all_eq_true] at h
    have e := StrLaws.reprText_len x fun c hc => Nat.lt_trans (h.2 c hc) (by decide)
    have e2 : (PyData.shown (.str x)).length ≤ 10 * x.length + 2 := by rw [PyData.shown]; exact e
    simp only [nodes]; omega
  | .list xs, h => by
    have h : okDs xs = true := by simpa only [okD] using h
    have e := shownAll_okD xs h
    have l := listText_len_le (PyData.shownAll xs)
    rw [shownAll_len] at l
    simp only [PyData.shown, nodes]; omega
  | .tuple xs, h => by
    have h : okDs xs = true := by simpa only [okD] using h
    have e := shownAll_okD xs h
    have l := tupleText_len_le (PyData.shownAll xs)
    rw [shownAll_len] at l
    simp only [PyData.shown, nodes]; omega
  | .dict _, h => by simp [okD] at h
theorem shownAll_okD : ∀ ds : List PyData, okDs ds = true → ((PyData.shownAll ds).map (·.length)).sum + 5 * ds.length ≤ 1000 * nodesAll ds
  | [], _ => by simp [PyData.shownAll]
  | d :: ds, h => by
    simp only [okDs, Bool.and_eq_true] at h
    have e1 := shown_okD d h.1
    have e2 := shownAll_okD ds h.2
    simp only [PyData.shownAll, List.map_cons, List.sum_cons, List.length_cons, nodesAll]; omega
end
mutual
theorem okD_showable : ∀ d : PyData, okD d = true → d.showable = true
  | .none, _ => by simp only [PyData.showable]
  | .bool b, _ => by simp only [PyData.showable]
  | .int i, h => by
    have h : i.natAbs < 10 ^ 40 := by simpa only [okD, decide_eq_true_eq] using h
    simp only [PyData.showable, decide_eq_true_eq]
    by_cases z : i.natAbs = 0
    · rw [z]; decide
    · exact (Nat.log2_lt z).mpr (Nat.lt_of_lt_of_le h (Nat.le_trans (by decide : 10 ^ 40 ≤ 2 ^ 140) (Nat.pow_le_pow_right (by decide) (by decide))))
  | .str x, _ => by simp only [PyData.showable]
  | .list xs, h => by simp only [PyData.showable]; exact okDs_showable xs (by simpa only [okD] using h)
  | .tuple xs, h => by simp only [PyData.showable]; exact okDs_showable xs (by simpa only [okD] using h)
  | .dict _, h => by simp [okD] at h
theorem okDs_showable : ∀ ds : List PyData, okDs ds = true → PyData.showableAll ds = true
  | [], _ => by simp only [PyData.showableAll]
  | d :: ds, h => by
    simp only [okDs, Bool.and_eq_true] at h
    simp only [PyData.showableAll, okD_showable d h.1, okDs_showable ds h.2, Bool.and_self]
end
theorem shown_fits {d : PyData} (h : okD d = true) (n : nodes d ≤ 16000) : d.shown.length ≤ sizeLine := by
  have e := shown_okD d h
  rw [sizeLine_eq]; omega
/-- repr of small data -/
theorem repr_at {K : PySem.W.Frag} {H : Hp} {v : V} {d : PyData} {Q : VK} (h : Dd H v d) (ok : okD d = true) (n : nodes d ≤ 16000) (dp : d.depth ≤ 60) (q : Q (.str d.shown) H) : rRepr K [v] H Q :=
  ⟨v, d, rfl, h.dp, okD_showable d ok, dp, shown_fits ok n, q⟩
end Tk

set_option Elab.async false
set_option linter.all false
set_option maxRecDepth 100000
set_option maxHeartbeats 4000000
namespace Tk
open PySem PySem.Spec PyProof.Rows L2

/-! ### the law's table of sizes -/
def szA : List (Str × Int) := [("look", 1), ("read", 2), ("set_rate", 2), ("set_real", 2), ("slew", 3), ("stop", 2), ("go", 1), ("put", 6),
  ("drop", 2)]
def szB : List (Str × Int) := [("expired", 2), ("take", 1), ("put_tick", 3), ("hand_over", 3), ("process", 1), ("thread", 2),
  ("run", 4)]
def szC : List (Str × Int) := [("join", 3), ("leave", 2), ("sleep", 3), ("limit", 3), ("waiting", 2), ("running", 2),
  ("sampled", 2)]
def lawSizes : List (Str × Int) := szA ++ szB ++ szC
def toKV (l : List (Str × Int)) : List (Key × V) := l.map fun q => ((Sum.inr q.1 : Key), V.int q.2)
theorem valV_none {kvs : List (Key × V)} {k : Key} (h : k ∉ kvs.map (·.1)) : valV kvs k = none := by
  induction kvs with
  | nil => rfl
  | cons p r ih =>
    rw [List.map_cons, List.mem_cons, not_or] at h
    rw [valV_neg fun z => h.1 z.symm]
    exact ih h.2
theorem merge_new : ∀ {more kvs : List (Key × V)}, ((kvs ++ more).map (·.1)).Nodup → mergeK kvs more = kvs ++ more
  | [], kvs, _ => by rw [List.append_nil]; rfl
  | p :: r, kvs, h => by
    have e : putK kvs p.1 p.2 = kvs ++ [p] := by
      refine putK_new _ (valV_none fun m => ?_)
      rw [List.map_append, List.nodup_append] at h
      exact h.2.2 _ m p.1 (by simp) rfl
    show mergeK (putK kvs p.1 p.2) r = _
    rw [e, merge_new (by rw [List.append_assoc]; exact h), List.append_assoc]
    rfl
theorem keys_kv (l : List (Str × Int)) : (toKV l).map (·.1) = (l.map (·.1)).map Sum.inr := by simp [toKV, List.map_map]
theorem nodup_kv {l : List (Str × Int)} (h : (l.map (·.1)).Nodup) : ((toKV l).map (·.1)).Nodup := by
  rw [keys_kv]
  exact List.Pairwise.map _ (fun _ _ n z => n (Sum.inr.inj z)) h
theorem kv_app (a b : List (Str × Int)) : toKV (a ++ b) = toKV a ++ toKV b := by simp [toKV]
theorem sz_nodup : (lawSizes.map (·.1)).Nodup := by decide +kernel
theorem szAB_nodup : ((szA ++ szB).map (·.1)).Nodup := by decide +kernel
theorem szA_nodup : (szA.map (·.1)).Nodup := by decide +kernel
theorem szB_nodup : (szB.map (·.1)).Nodup := by decide +kernel
theorem szC_nodup : (szC.map (·.1)).Nodup := by decide +kernel
theorem mrg0 {l : List (Str × Int)} (h : (l.map (·.1)).Nodup) : mergeK [] (toKV l) = toKV l := merge_new (kvs := []) (nodup_kv h)
theorem mrg1 : mergeK (toKV szA) (toKV szB) = toKV (szA ++ szB) := by rw [kv_app]; exact merge_new (by rw [← kv_app]; exact nodup_kv szAB_nodup)
theorem mrg2 : mergeK (toKV (szA ++ szB)) (toKV szC) = toKV lawSizes := by
  show _ = toKV (szA ++ szB ++ szC)
  rw [kv_app (szA ++ szB) szC]
  exact merge_new (by rw [← kv_app]; exact nodup_kv sz_nodup)
theorem sz_val {q : Str × Int} (h : q ∈ lawSizes) : valV (toKV lawSizes) (Sum.inr q.1) = some (.int q.2) := by
  have ok : (lawSizes.all fun q => decide (valV (toKV lawSizes) (Sum.inr q.1) = some (.int q.2))) = true := by decide +kernel
  exact of_decide_eq_true (List.all_eq_true.mp ok _ h)
theorem sz_size {q : Str × Int} (h : q ∈ lawSizes) : sizeV q.1 = .int (q.2 + 1) ∧ 1 ≤ q.2 ∧ q.2 ≤ 6 := by
  have ok : (lawSizes.all fun q => decide (sizeV q.1 = .int (q.2 + 1) ∧ 1 ≤ q.2 ∧ q.2 ≤ 6)) = true := by decide +kernel
  exact of_decide_eq_true (List.all_eq_true.mp ok _ h)
section
variable {P : Program} {w : World} {K : PySem.W.Frag} {mg : Str → Option Value} {base : Heap}
def spSizes : Sp := fun vs H Q _ => vs = [] ∧ ∀ d H', H d = none → H' d = some (.dK (toKV lawSizes)) → Fr [] H H' → Q (.ref d) H'
theorem sc_sizes : FnScope ["found"] [] (defScope s__law_sizes) := ⟨rfl, rfl, rfl, by decide +kernel, rfl, by decide +kernel, by decide +kernel⟩
theorem ok_sizes (F : FunAt K mg "_law_sizes" s__law_sizes) : Cal P w K mg base CX0 1 "_law_sizes" [] [] spSizes := by
  refine Cal.mk0 F sc_sizes (by rintro _ _ _ _ ⟨rfl, _⟩; rfl) (fun _ _ _ _ _ _ us hl => match us, hl with | [], _ => rfl) ?_
  rintro f cdv A outer s H vs Q E hr ⟨rfl, q⟩
  have nd := sc_sizes.nd
  refine ⟨_, (pss_cons (ps_set (i := 0) nd rfl (.inl rfl) (pe_disp (pps_cons pe_str pe_int (pps_cons pe_str pe_int (pps_cons pe_str pe_int (pps_cons pe_str pe_int (pps_cons pe_str pe_int (pps_cons pe_str pe_int (pps_cons pe_str pe_int (pps_cons pe_str pe_int (pps_cons pe_str pe_int pps_nil))))))))) (by rfl) (by rfl) (fun z => by cases z) (by decide)))
    (pss_cons (ps_expr (pe_bm PySem.F.plainAttrs_dict PySem.F.slot_dict_update PySem.F.type_dict_update mt_update (pv 0) (pa_cons (pe_disp (pps_cons pe_str pe_int (pps_cons pe_str pe_int (pps_cons pe_str pe_int (pps_cons pe_str pe_int (pps_cons pe_str pe_int (pps_cons pe_str pe_int (pps_cons pe_str pe_int pps_nil))))))) (by rfl) (by rfl) (fun z => by cases z) (by decide)) pa_nil)))
    (pss_cons (ps_expr (pe_bm PySem.F.plainAttrs_dict PySem.F.slot_dict_update PySem.F.type_dict_update mt_update (pv 0) (pa_cons (pe_disp (pps_cons pe_str pe_int (pps_cons pe_str pe_int (pps_cons pe_str pe_int (pps_cons pe_str pe_int (pps_cons pe_str pe_int (pps_cons pe_str pe_int (pps_cons pe_str pe_int pps_nil))))))) (by rfl) (by rfl) (fun z => by cases z) (by decide)) pa_nil)))
    (pss_one (ps_ret (pv 0)))))), ?_⟩
  intro d hd
  have f1 : Fr [] H (upd H d (.dK [])) := Fr.new hd
  have f2 : Fr [d] (upd H d (.dK [])) (upd (upd H d (.dK [])) d (.dK (mergeK [] (toKV szA)))) := Fr.set (List.mem_singleton.mpr rfl)
  have n1 := Fr.drop (f1.weak.trans f2) hd
  refine ⟨upd_same, toKV szA, rfl, (by decide), ?_⟩
  rw [mrg0 szA_nodup] at n1 ⊢
  refine ⟨_, rfl, .inr (.inr (.inl ⟨rfl, .inl ⟨_, upd_same⟩⟩)), fun p hp => ?_⟩
  have np : d ≠ p := ne_of_none upd_same hp
  have f3 := Fr.new (M := [d]) (o := .dK []) hp
  refine ⟨upd_same, toKV szB, rfl, (by decide), ?_⟩
  rw [mrg0 szB_nodup]
  refine ⟨d, p, _, _, rfl, rfl, np, by rw [upd_ne np, upd_ne np]; exact upd_same, upd_same, (by decide), ?_⟩
  rw [mrg1]
  refine ⟨_, rfl, .inr (.inr (.inl ⟨rfl, .inl ⟨_, upd_same⟩⟩)), fun p2 hp2 => ?_⟩
  have np2 : d ≠ p2 := ne_of_none upd_same hp2
  refine ⟨upd_same, toKV szC, rfl, (by decide), ?_⟩
  rw [mrg0 szC_nodup]
  refine ⟨d, p2, _, _, rfl, rfl, np2, by rw [upd_ne np2, upd_ne np2]; exact upd_same, upd_same, (by decide), ?_⟩
  rw [mrg2]
  refine ⟨_, rfl, q d _ hd upd_same ?_⟩
  refine Fr.drop (n1.weak.trans ?_) hd
  have g1 : ∀ {H : Hp} {o : HO}, Fr [d] H (upd H d o) := Fr.set (List.mem_singleton.mpr rfl)
  exact (Fr.drop ((Fr.new hp).weak.trans (Fr.set (List.mem_cons_self))) hp).trans (g1.trans ((Fr.drop ((Fr.new hp2).weak.trans (Fr.set (List.mem_cons_self))) hp2).trans g1))
end
end Tk

set_option Elab.async false
set_option linter.all false
set_option maxRecDepth 100000
set_option maxHeartbeats 4000000
namespace Tk
open PySem PySem.Spec PyProof.Rows L2 SX TL PySem.NumText

/-! ### what is shown is read back -/
theorem not_num_mem {l : List Nat} {s : Nat} (hm : s ∈ l) (hs : s ≠ 45 ∧ (s < 48 ∨ 57 < s)) : isNum l = false := by
  cases h : isNum l with
  | false => rfl
  | true => exact absurd hm (num_free h hs)
theorem showI_free {i : Int} (h : shortI i = true) {s : Nat} (hs : s ≠ 45 ∧ (s < 48 ∨ 57 < s)) : s ∉ showI i := num_free (num_show h).1 hs
theorem show_back {t : Th} (h : OkTh t) : readTh (showTh t) = some t := by
  cases t with
  | non => rfl
  | bl b => cases b <;> rfl
  | str s => rcases h with rfl | rfl | rfl <;> rfl
  | int i =>
    have ⟨h1, h2⟩ := num_show h
    have ne : ∀ w : List Nat, isNum w = false → showI i ≠ w := fun w hw z => by rw [z, hw] at h1; cases h1
    unfold readTh
    rw [show showTh (.int i) = showI i from rfl, if_neg (ne _ (by decide +kernel)), if_neg (ne _ (by decide +kernel)), if_neg (ne _ (by decide +kernel)), if_neg ?_, if_pos h1, h2]
    rintro (z | z | z)
    · exact ne cSteady (by decide +kernel) z
    · exact ne cReal (by decide +kernel) z
    · exact ne cBoot (by decide +kernel) z
  | clk n i =>
    obtain ⟨hn, hs, h0⟩ := h
    obtain ⟨n1, n2⟩ := num_show hs
    obtain ⟨l, hl⟩ : ∃ l, n ++ [58] ++ showI i = l := ⟨_, rfl⟩
    have m58 : (58 : Nat) ∈ l := by rw [← hl]; simp
    have ne : ∀ w : List Nat, (58 : Nat) ∉ w → l ≠ w := fun w hw z => hw (z ▸ m58)
    have nn : isNum l = false := not_num_mem m58 ⟨by decide, .inr (by decide)⟩
    have nb : isBr l = false := by
      cases hb : isBr l with
      | false => rfl
      | true =>
        unfold isBr at hb
        rw [Bool.and_eq_true, decide_eq_true_iff, ← hl] at hb
        rcases hn with rfl | rfl <;> exact absurd hb.1 (by simp)
    have hc : clkOk n l = true := by rw [← hl]; exact clk_of n1 (by rw [n2]; exact h0)
    have hd : l.drop (n.length + 1) = showI i := by
      rw [← hl, show n.length + 1 = (n ++ [58]).length by simp, List.drop_left]
    unfold readTh
    rw [show showTh (.clk n i) = l from hl, if_neg (ne _ (by decide)), if_neg (ne _ (by decide)), if_neg (ne _ (by decide)), if_neg ?_, if_neg (by rw [nn]; exact Bool.false_ne_true), if_neg (ne _ (by decide)), if_neg (fun z => by rw [nb] at z; exact Bool.false_ne_true z.1)]
    · rcases hn with rfl | rfl
      · rw [if_pos hc]
        have hd : l.drop 7 = showI i := hd
        rw [hd, n2]
      · rw [if_neg ?_, if_pos hc]
        · have hd : l.drop 8 = showI i := hd
          rw [hd, n2]
        · intro z
          obtain ⟨r, e, _⟩ := clk_form z
          rw [← hl] at e
          cases e
    · rintro (z | z | z)
      · exact ne cSteady (by decide) z
      · exact ne cReal (by decide) z
      · exact ne cBoot (by decide) z
  | lst is =>
    cases is with
    | nil => rfl
    | cons i r =>
      have h : ∀ j ∈ i :: r, shortI j = true := h
      obtain ⟨m, hm⟩ : ∃ m, joinL [44] ((i :: r).map showI) = m := ⟨_, rfl⟩
      have sp : spl [44] 0 [] m = (i :: r).map showI := by
        rw [← hm]
        exact TL.spl_join (by simp) fun p hp => by
          obtain ⟨j, hj, rfl⟩ := List.mem_map.mp hp
          exact showI_free (h j hj) ⟨by decide, .inl (by decide)⟩
      have mne : m ≠ [] := by
        intro z
        rw [z] at sp
        have e : showI i = [] := by
          have : spl [44] 0 [] [] = [[]] := rfl
          rw [this] at sp
          simp at sp
          exact sp.1
        have := (num_show (h i List.mem_cons_self)).1
        rw [e] at this
        revert this
        decide
      obtain ⟨l, hl⟩ : ∃ l, [91] ++ m ++ [93] = l := ⟨_, rfl⟩
      have m91 : (91 : Nat) ∈ l := by rw [← hl]; simp
      have nn : isNum l = false := not_num_mem m91 ⟨by decide, .inr (by decide)⟩
      have t1 : l.take 1 = [91] := by rw [← hl]; rfl
      have ne : ∀ w : List Nat, w.take 1 ≠ [91] → l ≠ w := fun w hw z => hw (z ▸ t1)
      have nnil : l ≠ cNil := fun z => by
        rw [← hl] at z
        have e := congrArg List.length z
        have := List.length_pos_iff.mpr mne
        simp at e
        exact mne e
      have hp : parts l = (i :: r).map showI := by
        unfold parts
        rw [← hl, inner_of, sp]
      have ha : (parts l).all isNum = true := by
        rw [hp, List.all_eq_true]
        intro p hp
        obtain ⟨j, hj, rfl⟩ := List.mem_map.mp hp
        exact (num_show (h j hj)).1
      unfold readTh
      rw [show showTh (.lst (i :: r)) = l from (by rw [← hl, ← hm]; rfl), if_neg (ne _ (by decide)), if_neg (ne _ (by decide)), if_neg (ne _ (by decide)), if_neg ?_, if_neg (by rw [nn]; exact Bool.false_ne_true), if_neg nnil, if_pos ⟨by rw [← hl]; exact br_of m, ha⟩]
      · rw [hp, List.map_map]
        have e : ((i :: r).map (numV ∘ showI)) = i :: r := by
          conv => rhs; rw [← List.map_id (i :: r)]
          exact List.map_congr_left fun j hj => (num_show (h j hj)).2
        rw [e]
      · rintro (z | z | z)
        · exact ne cSteady (by decide) z
        · exact ne cReal (by decide) z
        · exact ne cBoot (by decide) z

/-! ### rows and logs -/
def readAll : List (List Nat) → Option (List Th)
  | [] => some []
  | w :: ws => match readTh w, readAll ws with
    | some t, some ts => some (t :: ts)
    | _, _ => none
theorem readAll_some {ws : List (List Nat)} {ts : List Th} (h : readAll ws = some ts) : ts.map showTh = ws ∧ ∀ t ∈ ts, OkTh t := by
  induction ws generalizing ts with
  | nil => cases h; exact ⟨rfl, fun t ht => by cases ht⟩
  | cons w ws ih =>
    unfold readAll at h
    cases hw : readTh w with
    | none => rw [hw] at h; cases h
    | some t =>
      rw [hw] at h
      cases hr : readAll ws with
      | none => rw [hr] at h; cases h
      | some ts' =>
        rw [hr] at h
        cases h
        obtain ⟨a, b⟩ := ih hr
        obtain ⟨c, d⟩ := read_show hw
        refine ⟨by rw [List.map_cons, c, a], fun u hu => ?_⟩
        rcases List.mem_cons.mp hu with rfl | hu
        · exact d
        · exact b u hu
theorem readAll_isSome (ws : List (List Nat)) : (readAll ws).isSome = ws.all lawTh := by
  induction ws with
  | nil => rfl
  | cons w ws ih =>
    rw [List.all_cons, law_read, ← ih]
    show (match readTh w, readAll ws with
      | some t, some ts => some (t :: ts)
      | _, _ => none).isSome = _
    cases readTh w with
    | none => rfl
    | some t => cases readAll ws <;> rfl
theorem readAll_back {ts : List Th} (h : ∀ t ∈ ts, OkTh t) : readAll (ts.map showTh) = some ts := by
  induction ts with
  | nil => rfl
  | cons t ts ih =>
    rw [List.map_cons]
    unfold readAll
    rw [show_back (h t List.mem_cons_self), ih fun u hu => h u (List.mem_cons_of_mem _ hu)]
def sizeOk (z : List Nat) (n : Nat) : Bool := decide (sizeV (S z) = V.int (n : Int))
def rowOf (l : List Nat) : Option (List Nat × List Th) :=
  match spl [32] 0 [] l with
  | [] => none
  | z :: ws => if sizeOk z (ws.length + 1) = true then (readAll ws).map (Prod.mk z) else none
def rowTxt (r : List Nat × List Th) : List Nat := joinL [32] (r.1 :: r.2.map showTh)
theorem rowOf_some {l : List Nat} {r : List Nat × List Th} (h : rowOf l = some r) : rowTxt r = l ∧ sizeOk r.1 (r.2.length + 1) = true ∧ ∀ t ∈ r.2, OkTh t := by
  unfold rowOf at h
  cases hs : spl [32] 0 [] l with
  | nil => exact absurd hs (spl_ne 32 l)
  | cons z ws =>
    rw [hs] at h
    dsimp only at h
    split at h
    · rename_i hz
      cases hr : readAll ws with
      | none => rw [hr] at h; cases h
      | some ts =>
        rw [hr] at h
        cases h
        obtain ⟨a, b⟩ := readAll_some hr
        refine ⟨?_, ?_, b⟩
        · show joinL [32] (z :: ts.map showTh) = l
          rw [a, ← hs, joinL_spl 32 (by decide)]
        · show sizeOk z (ts.length + 1) = true
          rw [← List.length_map (f := showTh), a]
          exact hz
    · cases h
def lines (l : List Nat) : List (List Nat) := if l = [] then [] else spl [10] 0 [] l
theorem lines_join (l : List Nat) : joinL [10] (lines l) = l := by
  unfold lines
  by_cases h : l = []
  · rw [if_pos h, h]; rfl
  · rw [if_neg h, joinL_spl 10 (by decide)]
def logOf : Nat → List (List Nat) → Nat ⊕ List (List Nat × List Th)
  | _, [] => .inr []
  | k, l :: r => match rowOf l with
    | none => .inl k
    | some x => match logOf (k + 1) r with
      | .inl i => .inl i
      | .inr xs => .inr (x :: xs)
theorem logOf_some {ls : List (List Nat)} : ∀ {k : Nat} {xs : List (List Nat × List Th)}, logOf k ls = .inr xs → xs.map rowTxt = ls ∧ ∀ x ∈ xs, sizeOk x.1 (x.2.length + 1) = true ∧ ∀ t ∈ x.2, OkTh t := by
  induction ls with
  | nil => intro k xs h; cases h; exact ⟨rfl, fun x hx => by cases hx⟩
  | cons l ls ih =>
    intro k xs h
    unfold logOf at h
    cases hr : rowOf l with
    | none => rw [hr] at h; cases h
    | some x =>
      rw [hr] at h
      cases hl : logOf (k + 1) ls with
      | inl i => simp only [hl] at h; cases h
      | inr ys =>
        simp only [hl] at h
        cases h
        obtain ⟨a, b⟩ := ih hl
        obtain ⟨c, d⟩ := rowOf_some hr
        refine ⟨by rw [List.map_cons, c, a], fun y hy => ?_⟩
        rcases List.mem_cons.mp hy with rfl | hy
        · exact d
        · exact b y hy
/-! ### the law's way -/
theorem lookup_out {l : List (Str × Int)} {z : Str} (h : z ∉ l.map (·.1)) : l.lookup z = none := by
  induction l with
  | nil => rfl
  | cons p r ih =>
    rw [List.map_cons, List.mem_cons, not_or] at h
    rw [List.lookup_cons, beq_eq_false_iff_ne.mpr h.1]
    exact ih h.2
theorem size_law (z : Str) : sizeV z = match lawSizes.lookup z with | some i => .int (i + 1) | none => .non := by
  by_cases h : z ∈ lawSizes.map (·.1)
  · have ok : ((lawSizes.map (·.1)).all fun z => decide (sizeV z = match lawSizes.lookup z with | some i => .int (i + 1) | none => .non)) = true := by decide +kernel
    exact of_decide_eq_true (List.all_eq_true.mp ok z h)
  · rw [lookup_out h]
    have sub : ∀ {l : List (Str × Int)}, (l.all fun q => decide (q.1 ∈ lawSizes.map (·.1))) = true → l.lookup z = none := fun {l} hl => lookup_out fun m => by
      obtain ⟨q, hq, rfl⟩ := List.mem_map.mp m
      exact h (of_decide_eq_true (List.all_eq_true.mp hl q hq))
    unfold sizeV
    rw [sub (l := tabA) (by decide +kernel), sub (l := tabB) (by decide +kernel), sub (l := tabC) (by decide +kernel)]
    rfl
/-- is a line no row, as the law reckons -/
def lawBad (l : List Nat) : Bool :=
  match spl [32] 0 [] l with
  | [] => true
  | z :: ws => (match lawSizes.lookup (S z) with | none => true | some k => !decide (((ws.length + 1 : Nat) : Int) = 1 + k)) || !(ws.all lawTh)
theorem lawBad_eq (l : List Nat) : lawBad l = (rowOf l).isNone := by
  unfold lawBad rowOf
  cases spl [32] 0 [] l with
  | nil => rfl
  | cons z ws =>
    dsimp only
    rw [← readAll_isSome]
    have e : (match lawSizes.lookup (S z) with | none => true | some k => !decide (((ws.length + 1 : Nat) : Int) = 1 + k)) = !(sizeOk z (ws.length + 1)) := by
      unfold sizeOk
      rw [size_law]
      cases lawSizes.lookup (S z) with
      | none => rfl
      | some k =>
        dsimp only
        by_cases c : ((ws.length + 1 : Nat) : Int) = 1 + k
        · rw [decide_eq_true c, decide_eq_true (by rw [c, Int.add_comm])]
        · rw [decide_eq_false c, decide_eq_false fun z => c (by injection z with z; omega)]
    rw [e]
    cases sizeOk z (ws.length + 1) with
    | false => rfl
    | true => cases readAll ws <;> rfl
def lawWrong : Nat → List (List Nat) → Option Nat
  | _, [] => none
  | k, l :: r => if lawBad l = true then some k else lawWrong (k + 1) r
theorem wrong_log : ∀ (ls : List (List Nat)) (k : Nat), lawWrong k ls = match logOf k ls with | .inl i => some i | .inr _ => none
  | [], k => rfl
  | l :: ls, k => by
    unfold lawWrong logOf
    rw [lawBad_eq, wrong_log ls (k + 1)]
    cases rowOf l with
    | none => rfl
    | some x =>
      cases logOf (k + 1) ls <;> rfl
end Tk

set_option Elab.async false
set_option linter.all false
set_option maxRecDepth 100000
set_option maxHeartbeats 4000000
/-! power, is_short, number_of, _law_is_number -/
namespace Tk
open PySem PySem.Spec PyProof.Rows L2 SX TL

/-! ### the signs of a text in a comprehension -/
def sgn (x : Str) : List V := x.cps.toList.map fun c => V.str ⟨#[c]⟩
section
variable {K : PySem.W.Frag} {tt : TT} {te : TE} {vs : List Nat} {σ : L2.St} {H1 : Hp} {D : Addr} {j : Nat} {Qd : Hp → Prop}
theorem lc_strR (x : Str) (p : V → Bool) (R : V → V → Hp → Prop) (mono : ∀ x y H H', Same H H' → R x y H → R x y H')
    (nD : H1 D = none) (hl : x.length < sizeLine) (hw : ∀ x, wipe ((wipe σ vs).set j (some x)) vs = wipe σ vs)
    (ht : ∀ y H Q', y ∈ sgn x → Fr [] H1 H → (∃ acc, H D = some (.lst acc)) → (∀ H', Fr [] H H' → Q' (p y) H') → tt ((wipe σ vs).set j (some y)) H Q')
    (he : ∀ y H Q', y ∈ sgn x → p y = true → Fr [] H1 H → (∃ acc, H D = some (.lst acc)) → (∀ z H', Fr [] H H' → R y z (Hd [D] H') → Q' z H') → te ((wipe σ vs).set j (some y)) H Q')
    (hd : ∀ H ys, H D = some (.lst ys) → Fr [] H1 H → Made p R (Hd [D] H) (sgn x) ys → Qd H) :
    ∃ W : Nat → Nat → Hp → Prop, (∃ m, W 0 m (upd H1 D (.lst []))) ∧ ∀ i m H, W i m H →
      ((Its x).stop i H ∧ Qd H) ∨ ((Its x).go i H ∧ ∃ Nx : Hp → Prop, (∀ H', Nx H' → ∃ m', m' < m ∧ W (i + 1) m' H') ∧ ∀ y H', (Its x).yld i H y H' → LcTurn (gName j) tt te vs σ D H' y Nx) := by
  have hsz : (sgn x).length = x.cps.size := by unfold sgn; rw [List.length_map, Array.length_toList]
  have hl' : (sgn x).length < sizeLine := by rw [hsz]; exact hl
  refine ⟨fun i m H => m = x.cps.size - i ∧ i ≤ x.cps.size ∧ LcInv p R (sgn x) H1 D i H, ⟨_, rfl, Nat.zero_le _, lcInv_0 p R nD⟩, ?_⟩
  rintro i m H ⟨rfl, hi, I⟩
  by_cases h : i < x.cps.size
  · refine .inr ⟨h, LcInv p R (sgn x) H1 D (i + 1), fun H' p' => ⟨x.cps.size - (i + 1), by omega, rfl, by omega, p'⟩, fun y H' yl => ?_⟩
    obtain ⟨rfl, c, hc, rfl⟩ := yl
    have hx : (sgn x)[i]? = some (.str ⟨#[c]⟩) := by
      unfold sgn
      rw [List.getElem?_map, Array.getElem?_toList, hc]
      rfl
    exact lcInv_s p R mono nD hl' hw ht he hx I
  · refine .inl ⟨Nat.le_of_not_lt h, ?_⟩
    have ei : i = (sgn x).length := by rw [hsz]; omega
    obtain ⟨ys, hD, fr, md⟩ := I
    rw [ei, List.take_length] at md
    exact hd H ys hD fr md
end
/-! ### slices of texts, by lists -/
theorem cut_head (l : List Nat) (k : Nat) : cutS (S l) none (some (k : Int)) = S (l.take k) := by
  unfold cutS
  rw [HT.sIx_nat, HT.sIx_none]
  refine congrArg S ?_
  show (l.drop 0).take (min k (S l).length - 0) = l.take k
  rw [List.drop_zero, Nat.sub_zero, S_len]
  by_cases h : k ≤ l.length
  · rw [Nat.min_eq_left h]
  · rw [Nat.min_eq_right (by omega), List.take_of_length_le (Nat.le_refl _), List.take_of_length_le (by omega)]
theorem cut_tail (l : List Nat) (k : Nat) : cutS (S l) (some (k : Int)) none = S (l.drop k) := by
  unfold cutS
  rw [HT.sIx_nat, HT.sIx_none]
  refine congrArg S ?_
  show (l.drop (min k (S l).length)).take ((S l).length - min k (S l).length) = l.drop k
  rw [S_len]
  by_cases h : k ≤ l.length
  · rw [Nat.min_eq_left h]
    exact List.take_of_length_le (by rw [List.length_drop]; omega)
  · rw [Nat.min_eq_right (by omega), List.drop_eq_nil_of_le (Nat.le_refl _), List.drop_eq_nil_of_le (by omega), List.take_nil]
theorem cut_inner (l : List Nat) : cutS (S l) (some 1) (some (-1)) = S (inner l) := by
  unfold cutS inner
  refine congrArg S ?_
  show (l.drop (HT.sIx (S l).length 0 (some ((1 : Nat) : Int)))).take (HT.sIx (S l).length (S l).length (some (-1)) - HT.sIx (S l).length 0 (some ((1 : Nat) : Int))) = _
  rw [HT.sIx_nat, S_len]
  have e : HT.sIx l.length l.length (some (-1)) = l.length - 1 := by
    show (if (-1 : Int) < 0 then ((-1 : Int) + (l.length : Int)).toNat else min (-1 : Int).toNat l.length) = _
    rw [if_pos (by decide)]
    omega
  rw [e]
  by_cases h : 1 ≤ l.length
  · rw [Nat.min_eq_left h, show l.length - 1 - 1 = l.length - 2 by omega]
  · have : l = [] := List.length_eq_zero_iff.mp (by omega)
    subst this
    rfl
theorem cut_last (l : List Nat) : cutS (S l) (some (-1)) none = S (l.drop (l.length - 1)) := by
  unfold cutS
  refine congrArg S ?_
  show (l.drop (HT.sIx (S l).length 0 (some (-1)))).take (HT.sIx (S l).length (S l).length none - HT.sIx (S l).length 0 (some (-1))) = _
  rw [HT.sIx_none, S_len]
  have e : HT.sIx l.length 0 (some (-1)) = l.length - 1 := by
    show (if (-1 : Int) < 0 then ((-1 : Int) + (l.length : Int)).toNat else min (-1 : Int).toNat l.length) = _
    rw [if_pos (by decide)]
    omega
  rw [e]
  exact List.take_of_length_le (by rw [List.length_drop]; omega)
theorem S_ex (w : Str) : ∃ l, w = S l := ⟨w.cps.toList, (S_tl w).symm⟩
theorem str_eqS {a b : List Nat} : (decide (S a = S b)) = decide (a = b) := by
  by_cases h : a = b
  · rw [h, decide_eq_true rfl, decide_eq_true rfl]
  · rw [decide_eq_false h, decide_eq_false fun z => h (S_inj z)]
theorem vstr_dec {a b : List Nat} : (decide (V.str (S a) = V.str (S b))) = decide (a = b) := by
  by_cases h : a = b
  · rw [h, decide_eq_true rfl, decide_eq_true rfl]
  · rw [decide_eq_false h, decide_eq_false fun z => h (S_inj (V.str.inj z))]
def dgV : V → Bool
  | .str x => match x.cps.toList with
    | [c] => isDg c
    | _ => false
  | _ => false
def shortV : V → Bool
  | .int i => shortI i
  | _ => false
section
variable {P : Program} {w : World} {K : PySem.W.Frag} {mg : Str → Option Value} {base : Heap} {tk : Tok}
def spPower : Sp := fun vs H Q _ => ∃ n : Nat, vs = [.int n] ∧ n ≤ 4000 ∧ Q (.int (2 ^ n)) H
theorem sc_power : FnScope ["number"] ["number"] (defScope s_power) := ⟨rfl, rfl, rfl, by decide +kernel, rfl, by decide +kernel, by decide +kernel⟩
theorem ok_power (F : FunAt K mg "power" s_power) : Cal P w K mg base CX0 1 "power" ["number"] [] spPower := by
  refine Cal.mk0 F sc_power (by rintro _ _ _ _ ⟨_, rfl, _⟩; rfl) (fun _ _ _ _ _ _ us hl => match us, hl with | [_], _ => rfl) ?_
  rintro f cdv A outer s H vs Q E hr ⟨n, rfl, hn, q⟩
  refine ⟨_, (pss_one (ps_ret (pe_op op_shlN pe_int (pv 0)))), ?_⟩
  refine ⟨_, rfl, 1, n, rfl, rfl, ⟨by omega, ?_⟩, ?_⟩
  · have e : (Builtin.Int.intBits 1 : Int) = 1 := by decide
    rw [e]
    omega
  · show Q (V.int (1 * 2 ^ n)) H
    rw [Int.one_mul]
    exact q
/-- is_short -/
def spShort : Sp := fun vs H Q _ => ∃ (x : V) (t : String), vs = [x] ∧ Kd H x t ∧ Q (.bl (shortV x)) H
theorem sc_short : FnScope ["thing"] ["thing"] (defScope s_is_short) := ⟨rfl, rfl, rfl, by decide +kernel, rfl, by decide +kernel, by decide +kernel⟩
theorem abs_nat (i : Int) : (if i < 0 then -i else i) = (i.natAbs : Int) := by split <;> omega
theorem lim_two : lim < 2 ^ 4000 := by
  unfold lim
  decide +kernel
set_option exponentiation.threshold 20000 in
theorem two_ten : 2 ^ 4000 < 10 ^ 4300 := by decide +kernel
set_option exponentiation.threshold 20000 in
theorem ok_short (F : FunAt K mg "is_short" s_is_short) (G : NoGl mg) (Gabs : mg "abs" = none) (GM : mg "MOST_DIGITS" = some (.int 1000 tk)) (ND : NoDig K) (C_is_whole : Cal P w K mg base CX0 1 "is_whole" ["thing", "least"] [.non] spWhole) (C_power : Cal P w K mg base CX0 1 "power" ["number"] [] spPower) :
    Cal P w K mg base CX0 2 "is_short" ["thing"] [] spShort := by
  refine Cal.mk0 F sc_short (by rintro _ _ _ _ ⟨_, _, rfl, _⟩; rfl) (fun _ _ _ _ _ _ us hl => match us, hl with | [_], _ => rfl) ?_
  rintro f cdv A outer s H vs Q E hr ⟨x, t, rfl, k, q⟩
  have nd := sc_short.nd
  refine ⟨_, (pss_cons (ps_if (pt_not (pt_val (pe_c C_is_whole (hr.mono (by decide)) (by rfl) pass0 (pa_cons (pv 0) pa_nil))))
      (pss_one (ps_ret pe_bl))
      pss_nil)
    (pss_one (ps_ret (pe_and (pe_cmpR op_lt (pe_callB call_abs (by rfl) Gabs (by decide +kernel) (pa_cons (pv 0) pa_nil)) (pe_c C_power (hr.mono (by decide)) (by rfl) pass0 (pa_cons (pe_op op_mul pe_int (pe_glob (v := .int 1000) (by rfl) GM ⟨_, rfl⟩)) pa_nil)) (nomark _)) (pe_one (pe_cmpR op_le (pe_callB call_len_str (by rfl) G.len (by decide +kernel) (pa_cons (pe_callTy (T := "str") (call_strN rfl ND) (by rfl) G.str (by decide +kernel) (pa_cons (pe_callB call_abs (by rfl) Gabs (by decide +kernel) (pa_cons (pv 0) pa_nil)) pa_nil)) pa_nil)) (pe_glob (v := .int 1000) (by rfl) GM ⟨_, rfl⟩) (nomark _))))))), ?_⟩
  refine ⟨_, rfl, x, .non, t, rfl, k, .inl rfl, _, rfl, ?_⟩
  cases x with
  | int i =>
    refine ⟨_, rfl, i, rfl, 4, 1000, rfl, rfl, .inl ⟨by decide, by decide⟩, 4000, rfl, by decide, _, _, rfl, rfl, ?_⟩
    rw [abs_nat]
    obtain ⟨B, e2, bT, bL⟩ : ∃ B : Nat, ((2 : Int) ^ 4000) = (B : Int) ∧ B < 10 ^ 4300 ∧ lim < B := ⟨2 ^ 4000, (Int.natCast_pow 2 4000).symm, two_ten, lim_two⟩
    rw [e2]
    refine ⟨_, rfl, ite2 (fun c => ?_) (fun c => ?_)⟩
    · have c := of_decide_eq_true c
      have c : i.natAbs < B := Int.ofNat_lt.mp c
      have hl : (Str.ofString (toString ((i.natAbs : Nat) : Int))).length = (numL i.natAbs).length := by rw [TL.len_tl, TL.tl_num]
      refine ⟨_, rfl, i, rfl, ((i.natAbs : Nat) : Int), by rw [abs_nat], by rw [Int.natAbs_natCast]; exact Nat.lt_trans c bT, _, rfl, ?_, _, _, rfl, rfl, ?_⟩
      · rw [hl]
        exact Nat.le_trans (numL_len (k := 4300) (by decide) (Nat.lt_trans c bT)) (by decide)
      · rw [hl]
        have e : decide (((numL i.natAbs).length : Int) ≤ 1000) = shortI i := by
          unfold shortI
          refine decide_eq_decide.mpr ?_
          rw [← lim_len]
          omega
        show Q (V.bl (decide (((numL i.natAbs).length : Int) ≤ 1000))) H
        rw [e]
        exact q
    · have c := mt decide_eq_true c
      have c : ¬ i.natAbs < B := fun z => c (Int.ofNat_lt.mpr z)
      have e : shortI i = false := decide_eq_false fun z => c (Nat.lt_trans z bL)
      have q : Q (.bl (shortI i)) H := q
      rw [e] at q
      exact q
  | _ => exact q
def numQ (l : List Nat) : V := match numOf l with
  | some i => .int i
  | none => .non
def spNumOf : Sp := fun vs H Q _ => ∃ l : List Nat, vs = [.str (S l)] ∧ l.length ≤ 1000000 ∧ ∀ H', Fr [] H H' → Q (numQ l) H'
theorem sc_numOf : FnScope ["word", "digits", "sign"] ["word"] (defScope s_number_of) := ⟨rfl, rfl, rfl, by decide +kernel, rfl, by decide +kernel, by decide +kernel⟩
theorem ok_numOf (F : FunAt K mg "number_of" s_number_of) (G : NoGl mg) (GM : mg "MOST_DIGITS" = some (.int 1000 tk)) (ND : NoDig K) : Cal P w K mg base CX0 1 "number_of" ["word"] [] spNumOf := by
  refine Cal.mk0 F sc_numOf (by rintro _ _ _ _ ⟨_, rfl, _⟩; rfl) (fun _ _ _ _ _ _ us hl => match us, hl with | [_], _ => rfl) ?_
  rintro f cdv A outer s H vs Q E hr ⟨l, rfl, hz, q⟩
  have nd := sc_numOf.nd
  have hS : (S l).length ≤ sizeLine := by rw [S_len, sizeLine_eq]; omega
  have hD : (digs l).length ≤ l.length := by unfold digs; split <;> simp
  have hSD : (S (digs l)).length < sizeLine := by rw [S_len, sizeLine_eq]; omega
  suffices hr2 : ∃ t2, PSs (cxOf CX0 P w K mg base ["word", "digits", "sign"] "number_of" (defScope s_number_of) f cdv A outer s H E).nox ((defBody s_number_of).drop 1) t2 ∧ t2 { nx := fun _ H' => Q .non H', rt := Q } [some (.str (S l)), some (.str (S (digs l))), none] H by
    obtain ⟨t2, p2, q2⟩ := hr2
    refine ⟨_, pss_cons
    (ps_set (i := 1) nd rfl (.inl rfl) (pe_ifExp (pt_cmpR op_eq (pe_slice sl_str (pv 0) po_none (po_some pe_int)) pe_str (nomark _)) (pe_slice sl_str (pv 0) (po_some pe_int) po_none) (pv 0)))
      p2, ?_⟩
    refine ⟨_, rfl, 1, rfl, S l, rfl, hS, rfl, _, rfl, ?_⟩
    rw [show cutS (S l) none (some 1) = S (l.take 1) from cut_head l 1]
    refine ite2 (fun c => ?_) (fun c => ?_)
    · have e : l.take 1 = [45] := S_inj (V.str.inj (of_decide_eq_true c))
      refine ⟨_, rfl, 1, rfl, S l, rfl, hS, ?_⟩
      rw [show cutS (S l) (some 1) none = S (l.drop 1) from cut_tail l 1]
      rw [show digs l = l.drop 1 from if_pos e] at q2
      exact q2
    · have e : l.take 1 ≠ [45] := fun z => c (decide_eq_true (by rw [z]; rfl))
      rw [show digs l = l from if_neg e] at q2
      exact ⟨_, rfl, q2⟩
  refine ⟨_, (pss_cons (ps_if (PW.pt (pw_or (pt_not (pt_chain op_le op_le pe_int (pe_callB call_len_str (by rfl) G.len (by decide +kernel) (pa_cons (pv 1) pa_nil)) (pe_glob (v := .int 1000) (by rfl) GM ⟨_, rfl⟩))) (pw_or1 (pt_not (pt_val (pe_callB (cr_all rfl) (by rfl) G.all (by decide +kernel) (pa_cons (pe_lc (own := [("sign", 2)]) (g := gName 2) (tt := tYes) rfl nd (pi_str (pv 1))
        (blkOk_by (own := [("sign", 2)]) (N := ["word", "digits", "sign"]) (sc := defScope s_number_of) (by decide +kernel))
        (fun _ _ _ _ _ => (pg_name (i := 2) nd rfl (.inl rfl) (Or.inr rfl))) (fun _ _ _ _ _ => pts_nil)
        (fun _ _ _ _ _ => (pe_cmpR op_in_sign (pv 2) pe_str rfl))) pa_nil)))))))
      (pss_one (ps_ret pe_non))
      pss_nil)
    (pss_cons (ps_if (PW.pt (pw_and (pt_cmpR op_eq (pe_ix ix_str (pv 1) pe_int (fun _ _ => rfl)) pe_str (nomark _)) (pw_and1 (pt_cmpR op_ne (pv 0) pe_str (nomark _)))))
      (pss_one (ps_ret pe_non))
      pss_nil)
    (pss_one (ps_ret (pe_callTy (T := "int") (call_intN ND) (by rfl) G.int (by decide +kernel) (pa_cons (pv 0) pa_nil)))))), ?_⟩
  have qn : isNum l = false → ∀ H', Fr [] H H' → Q .non H' := fun e H' fr => by
    have := q H' fr
    unfold numQ numOf at this
    rw [e] at this
    exact this
  have qs : isNum l = true → ∀ H', Fr [] H H' → Q (.int (numV l)) H' := fun e H' fr => by
    have := q H' fr
    unfold numQ numOf at this
    rw [if_pos e] at this
    exact this
  refine ⟨_, rfl, _, rfl, Nat.le_of_lt hSD, _, _, rfl, rfl, _, rfl, ?_⟩
  rw [S_len]
  refine ite2 (fun c1 => ?_) (fun c1 => ?_)
  · have c1 : 1 ≤ (digs l).length := by have := of_decide_eq_true c1; omega
    refine ⟨_, _, rfl, rfl, _, rfl, ?_⟩
    cases c2 : decide (((digs l).length : Int) ≤ 1000) with
    | false =>
      have c2 := of_decide_eq_false c2
      exact qn (by unfold isNum; rw [decide_eq_false (show ¬ (digs l).length ≤ 1000 by omega), Bool.and_false, Bool.false_and, Bool.false_and]) H (Fr.refl _ _)
    | true =>
      have c2 := of_decide_eq_true c2
      refine negT ⟨_, rfl, S (digs l), rfl, fun D hD => ?_⟩
      refine lc_strR (S (digs l)) (fun _ => true) (fun x y _ => y = .bl (dgV x)) (fun _ _ _ _ _ h => h) hD hSD (fun _ => rfl) (fun x H' Q' _ _ _ h => h H' (Fr.refl _ _)) ?_ ?_
      · intro y H' Q' hy _ fr _ hq
        obtain ⟨c, hc, rfl⟩ := List.mem_map.mp hy
        exact ⟨_, rfl, c, _, rfl, rfl, hq _ _ (Fr.refl _ _) rfl⟩
      · intro H2 ys hD2 fr2 md
        have e : ys = ((digs l).map isDg).map V.bl := by
          have e := md.pure (f := fun x => V.bl (dgV x)) (fun _ _ _ h => h)
          rw [List.filter_eq_self.mpr (fun _ _ => rfl)] at e
          rw [e]
          unfold sgn
          rw [List.map_map, List.map_map]
          rfl
        subst e
        refine ⟨D, _, rfl, SqL.of hD2, _, rfl, ?_⟩
        rw [all_map]
        cases c3 : (digs l).all isDg with
        | false => exact qn (by unfold isNum; rw [c3, Bool.and_false, Bool.false_and]) H2 fr2
        | true =>
          refine negT ?_
          cases hd : digs l with
          | nil => rw [hd] at c1; simp at c1
          | cons c0 r =>
            rw [← hd]
            refine ⟨_, rfl, S (digs l), 0, c0, rfl, rfl, Nat.le_of_lt hSD, atI_nat (j := 0) (by show (digs l)[0]? = _; rw [hd]; rfl), rfl, _, rfl, ?_⟩
            have et : (digs l).take 1 = [c0] := by rw [hd]; rfl
            have ed : (decide (V.str ⟨#[c0]⟩ = V.str "0")) = decide ((digs l).take 1 = [48]) := by
              rw [et]
              exact vstr_dec (a := [c0]) (b := [48])
            rw [ed]
            cases c4 : decide ((digs l).take 1 = [48]) with
            | false =>
              have hn : isNum l = true := by
                unfold isNum
                rw [c3, c4, decide_eq_true c1, decide_eq_true (show (digs l).length ≤ 1000 by omega)]
                rfl
              exact ⟨_, rfl, S l, numV l, rfl, (numOf_text hn).1, (numOf_text hn).2, qs hn H2 fr2⟩
            | true =>
              refine ⟨_, rfl, rfl, _, rfl, ?_⟩
              have ew : (!decide (V.str (S l) = V.str "0")) = !decide (l = [48]) := by rw [show (V.str "0") = V.str (S [48]) from rfl, vstr_dec]
              rw [ew]
              have hn : isNum l = decide (l = [48]) := by
                unfold isNum
                rw [c3, c4, decide_eq_true c1, decide_eq_true (show (digs l).length ≤ 1000 by omega)]
                rfl
              cases c5 : decide (l = [48]) with
              | false => exact qn (by rw [hn, c5]) H2 fr2
              | true =>
                rw [c5] at hn
                exact negT ⟨_, rfl, S l, numV l, rfl, (numOf_text hn).1, (numOf_text hn).2, qs hn H2 fr2⟩
  · have c1 : ¬ 1 ≤ (digs l).length := fun z => c1 (decide_eq_true (by omega))
    exact ⟨_, rfl, qn (by unfold isNum; rw [decide_eq_false c1, Bool.false_and, Bool.false_and, Bool.false_and]) H (Fr.refl _ _)⟩
end
end Tk

set_option Elab.async false
set_option linter.all false
set_option maxRecDepth 100000
set_option maxHeartbeats 4000000
/-! An own exception's __init__ that calls super().__init__(why) and keeps a field. -/
namespace Tk
open PySem PySem.Spec PyProof.Rows L2

/-- what the written part says of the class whose __init__ is walked -/
structure RowC (P : Program) (K : PySem.W.Frag) (C fI : Addr) : Prop where
  ox : OexC K C
  opq : PySem.W.nsIn K cStatics "thirdparty.any" = some none
  sup : PySem.W.ks_superIn K C C "__init__" = some (some (.builtin "ValueError.__init__"))
  subVE : PySem.W.subIn K (.ref C) (.type "ValueError") = some true
  self : PySem.W.mroIn K C (.ref C) = some true
  nosup : PySem.W.nsIn K mainGlobals "super" = some none
  top : (P.main.scope.names.lookup ("super" : Str)).isSome = false
  noline : PySem.W.findIn K (.ref C) "line" = some none
  init : PySem.W.findIn K (.ref C) "__init__" = some (some (.ref fI))
  tyI : PySem.W.typeIn K (.ref fI) = some (.type "function")
/-- the __init__ itself: its function, its code object, its cell -/
structure InitF (P : Program) (K : PySem.W.Frag) (C fI cda cc : Addr) (dV kV doc pm ct : Value) (an : Option Addr) : Prop where
  lk : ∃ oc od osl, K.lookup fI = some ⟨oc, od, .func (PySem.W.ksFn "__init__" "NoRow.__init__" (defArgs s_NoRow___init__) (defBody s_NoRow___init__) (defScope s_NoRow___init__) dV kV doc pm an (.ref cda) ct cc), osl⟩
  code : PySem.W.codeIn K (.ref cda) "NoRow.__init__" = true
  file : ∃ a b c vs file tf, K.lookup cda = some ⟨a, b, .fields vs, c⟩ ∧ (vs[2]? : Option Value) = some (.str file tf) ∧ ((P.main.file : Str) == file) = true
  cell : ∃ a b c, K.lookup cc = some ⟨a, b, .cell (some (.ref C)), c⟩

def spInit (C : Addr) : Sp := fun vs H Q _ => ∃ (a : Addr) (m : Str) (i : Int), vs = [.ref a, .str m, .int i] ∧ H a = some (exo a C none) ∧ ∀ dx, H dx = none → dx ≠ a → Q .non (upd (upd H dx (exd dx [("line", .int i)])) a (exo a C (some dx)))

abbrev initN : List Str := ["self", "why", "line"]
abbrev initEnv (L f cda cc : Addr) : Env := PySem.W.ksEnv "NoRow.__init__" (defScope s_NoRow___init__) L f (.ref cda) cc
def initCx (P : Program) (w : World) (K : PySem.W.Frag) (mg : Str → Option Value) (base : Heap) (f cda cc : Addr) (A : Around) (outer : List Env) (s : Shared) (H : Hp) : Cx where
  prog := P
  w := w
  K := K
  mg := mg
  base := base
  A := A.deeper (initEnv s.heap.objs.size f cda cc)
  N := initN
  s_0 := s
  H_0 := H
  env := initEnv s.heap.objs.size f cda cc
  outer := outer
  stack := initEnv s.heap.objs.size f cda cc :: outer
  ex := []
  calm := true
  fn := fun _ => false
  pn := []
  xe := fun _ _ => False
section
variable {P : Program} {w : World} {K : PySem.W.Frag} {mg : Str → Option Value} {base : Heap} {C f cda cc : Addr} {A : Around} {outer : List Env} {s : Shared} {H : Hp} {dV kV doc pm ct : Value} {an : Option Addr}
theorem init_enter {h₁ : Heap} {tk : Nat} {vs : List V} {us : List Value} (F : InitF P K C f cda cc dV kV doc pm ct an) (e0 : Env0 P w K mg base A outer s H) (hd : A.handled = none) (hl : us.length = initN.length) (r : Vals vs us)
    (hns : h₁.Ns s.heap.objs.size fun y => (initN.zip us).reverse.lookup y) (kp : ∀ b o, s.heap.get? b = some o → h₁.get? b = some o) :
    Inv (initCx P w K mg base f cda cc A outer s H) [] (vs.map some) H { s with heap := h₁, toks := tk } := by
  have none0 : ∀ b : Addr, b ∉ (initCx P w K mg base f cda cc A outer s H).ex := fun b z => absurd (show b ∈ ([] : List Addr) from z) (by simp)
  have look1 : ∀ {y c}, ([("__class__", cc)] : List (Str × Addr)).lookup y = some c → y = "__class__" ∧ c = cc := fun {y c} e => by
    rw [List.lookup_cons] at e
    by_cases h : (y == ("__class__" : Str)) = true
    · rw [h] at e
      exact ⟨eq_of_beq h, (Option.some.inj e).symm⟩
    · rw [Bool.eq_false_iff.mpr h] at e
      cases e
  have names : (defScope s_NoRow___init__).names.all (fun y => !decide (y.2 = .cell) && (!decide (y.2 = .free) || y.1 == ("__class__" : Str))) = true := by decide +kernel
  have fr : ∀ y, (defScope s_NoRow___init__).names.lookup y = some .cell ∨ (defScope s_NoRow___init__).names.lookup y = some .free → y = "__class__" := fun y hy => by
    rcases hy with hy | hy
    · have := List.all_eq_true.mp names _ (PySem.mem_of_lookup hy)
      simp at this
    · have := List.all_eq_true.mp names _ (PySem.mem_of_lookup hy)
      simpa using this
  obtain ⟨ca, cb, c3, hcc⟩ := F.cell
  have bcc := e0.mod.kin _ _ hcc
  have gcc := (e0.bs _ _ bcc).1
  refine ⟨⟨e0.mod, rfl, rfl, rfl, Nat.le_refl _, fun y z c h1 h2 => by rw [(look1 h1).1, (look1 h2).1], fun y hy => ⟨cc, ?_⟩, fun y c z _ => (by cases (show false = true from z)), fun _ => hd, Around.frames_deeper e0.frames, .inr ⟨rfl, rfl⟩, fun b z => absurd z (none0 b), e0.bs, e0.bsz, fun b _ _ => none0 b,
      fun b z => absurd z (none0 b), e0.funs, e0.frf⟩,
    rfl, e0.bare, Un.kept kp, ⟨_, hns, fun i y v h1 h2 h3 => ?_⟩, fun y c h => ?_, e0.hok.fresh (Nat.le_refl _), fun y c h => ?_, fun p hp => absurd (show p ∈ ([] : List (Addr × Obj)) from hp) (by simp), e0.hok.kept kp, ?_⟩
  · have e := fr y hy
    subst e
    rfl
  · have h1 : initN[i]? = some y := h1
    rw [List.getElem?_map] at h2
    cases hv : vs[i]? with
    | none => rw [hv] at h2; cases h2
    | some x =>
      rw [hv] at h2
      cases h2
      obtain ⟨u, hu, ru⟩ := r.get hv
      have kl : (defScope s_NoRow___init__).names.lookup y = some .local := by
        match i, h1 with
        | 0, h1 => cases h1; rfl
        | 1, h1 => cases h1; rfl
        | 2, h1 => cases h1; rfl
        | i + 3, h1 => simp [initN] at h1
      exact ⟨u, ru, .inl ⟨kl, zip_lookR (by decide) hl h1 hu⟩⟩
  · obtain ⟨rfl, rfl⟩ := look1 h
    exact ⟨_, _, kp _ _ gcc, rfl⟩
  · obtain ⟨rfl, rfl⟩ := look1 h
    exact (e0.bs _ _ bcc).2
  · show (vs.map some).length = 3
    rw [List.length_map, r.length, hl]
    rfl
/-- super() -/
theorem init_super {pins : List (Addr × Obj)} {σ : L2.St} {H1 : Hp} {s1 : Shared} {a : Addr} {d : Option Addr} {body : List Stmt} {p0 p1 : Pos} {whole : Sem Value} {Q : Value → Shared → Prop} {E : Value → Shared → Prop} (F : InitF P K C f cda cc dV kV doc pm ct an) (R : RowC P K C f)
    (I : Inv (initCx P w K mg base f cda cc A outer s H) pins σ H1 s1) (h0 : σ[0]? = some (some (.ref a))) (ha : H1 a = some (exo a C d))
    (q : ∀ h', (∀ b o, s1.heap.get? b = some o → h'.get? b = some o) → h'.get? s1.heap.objs.size = some (PySem.W.ks_superObj C a C) → Q (.ref s1.heap.objs.size) { s1 with heap := h' }) :
    _root_.PySem.wpAt (model P w) (A.deeper (initEnv s.heap.objs.size f cda cc)) (.func body (initEnv s.heap.objs.size f cda cc)) (attributeBase (.Call (.Name "super" p0) [] [] p1) "__init__" (initEnv s.heap.objs.size f cda cc) whole) Q E s1 := by
  obtain ⟨oc, od, osl, hf⟩ := F.lk
  obtain ⟨c1, c2, c3, vs, file, tf, hcode, hvs, hfile⟩ := F.file
  obtain ⟨d1, d2, d3, hcell⟩ := F.cell
  obtain ⟨nm, qn, N, bs, bm, sn, sub, ab, col, dd, k0, k1, k2, k3, k5, hC, hbm⟩ := R.ox.cls
  have X : K.In s1.heap := I.kIn
  obtain ⟨t1, hx⟩ := exo_at I.hok ha
  obtain ⟨m, hns, hl⟩ := I.loc
  obtain ⟨u, ru, lk⟩ := hl 0 "self" _ rfl h0 (.inl rfl)
  obtain rfl : u = Value.ref a := ru
  have hself : m "self" = some (.ref a) := by
    rcases lk with ⟨_, z⟩ | ⟨z, _⟩
    · exact z
    · rcases z with z | z <;> cases z
  obtain ⟨mb, hb, hbb⟩ := I.mod.blt
  obtain ⟨hh, g, dr, t, os⟩ := s1
  refine PySem.ks_wpAt_super_base (attr := "__init__") (env := initEnv s.heap.objs.size f cda cc) (fd := PySem.W.ksFn "__init__" "NoRow.__init__" (defArgs s_NoRow___init__) (defBody s_NoRow___init__) (defScope s_NoRow___init__) dV kV doc pm an (.ref cda) ct cc) (ar := ((defArgs s_NoRow___init__).posonlyargs ++ (defArgs s_NoRow___init__).args).head?.getD default) rfl rfl (by decide) rfl (X _ _ hf) rfl rfl rfl (X _ _ hcode) rfl hvs hfile R.top ?_
  refine PySem.W.ks_loadName_global rfl rfl (PySem.Calls.loadGlobal_builtin (env := initEnv s.heap.objs.size f cda cc) (I.mod.glob.keeps I.bk) (PySem.W.mg_none_of I.mod.kin I.mod.glob R.nosup) (hb.keeps I.bk) ((hbb _ (by decide +kernel)).trans PyProof.Rows.Boot.super) ⟨rfl, ?_⟩)
  refine wpAny_loadName_free rfl rfl rfl ⟨_, X _ _ hcell, rfl⟩ ?_
  refine wpAny_loadName_local rfl rfl hns hself ?_
  have gC := X _ _ hC
  refine ks_wpAny_isType_cls gC rfl ⟨rfl, ?_⟩
  refine ks_wpAny_call_super gC rfl hx rfl (fun c e => by cases e) (PySem.W.looks_mroIn X R.self) (fun h' e k => ?_)
  exact q h' k e
/-- the wrapper of ValueError.__init__ called -/
theorem init_call {h : Heap} {g : Array GenState} {d : Drawn} {t : Nat} {os : OsState} {u e t0 : Addr} {rest : List Value} {Q : Value → Shared → Prop} {E : Value → Shared → Prop} (T : OexC K C) (X : K.In h)
    (he : h.get? e = some ({ cls := .ref C, dict := none, data := .fields #[.ref t0, .none, .none, .none, .bool false, .none] } : Obj)) (hu : PySem.W.KxsAt "ValueError.__init__" u e h) (hrest : rest.length ≤ sizeLine)
    (hq : ∀ h' t1, (∀ b o, b ≠ e → h.get? b = some o → h'.get? b = some o) → h'.get? e = some ({ cls := .ref C, dict := none, data := .fields #[.ref t1, .none, .none, .none, .bool false, .none] } : Obj) → Q .none ⟨h', g, d, t, os⟩) :
    wpAny (model P w) A (call (.ref u) rest) Q E ⟨h, g, d, t, os⟩ := by
  obtain ⟨nm, qn, N, bs, bm, sn, sub, ab, col, dd, k0, k1, k2, k3, k5, hC, hbm⟩ := T.cls
  refine wpAny_call (codeAny_of_tree ?_)
  show wpAny _ A.in1 (callAny (.ref u) ⟨rest, []⟩) _ _ _
  simp only [callAny]
  refine wpAny_bind (wpAny_load hu ?_)
  simp only [PySem.W.kxs_mw, show (Value.type "method-wrapper" == Value.type "method" || Value.type "method-wrapper" == Value.type "builtin_function_or_method" || Value.type "method-wrapper" == Value.type "method-wrapper") = true by decide, if_true]
  refine PySem.W.KFB.if_so (by decide) ?_
  refine wpAny_bind (PySem.W.check_bound_init F.excBase_ValueError.toExcCallFacts (X _ _ hC) he rfl ?_)
  refine wpAny_bind (wpAny_pure (wpAny_pure ?_))
  refine ⟨plainId_quiet F.excBase_ValueError.init.plain _, codeAny_builtin F.excBase_ValueError.initEntry ?_⟩
  exact PySem.W.exc_init_tree (cls := .ref C) (t0 := t0) (dv := none) (c2 := .none) (c3 := .none) (b4 := .bool false) he hrest fun h' k e' _ => hq h' _ k e'
theorem init_ok {k : Nat} (F : InitF P K C f cda cc dV kV doc pm ct an) (R : RowC P K C f) :
    FnOk P w K mg base CX0 (k + 1) f (PySem.W.ksFn "__init__" "NoRow.__init__" (defArgs s_NoRow___init__) (defBody s_NoRow___init__) (defScope s_NoRow___init__) dV kV doc pm an (.ref cda) ct cc) initN (spInit C) := by
  refine ⟨by rintro _ _ _ _ ⟨_, _, _, rfl, _⟩; rfl, fun A outer s H args us vs Q E hr e0 hb r hsp => ?_⟩
  obtain ⟨a, m, i, rfl, ha, hq⟩ := hsp
  have hl : us.length = initN.length := r.length.symm
  have KX : K.In s.heap := e0.mod.kin.keeps fun b o e => (e0.bs b o e).1
  have lim : s.heap.NoLimit := e0.mod.nolimit.keeps fun b o e => (e0.bs b o e).1
  obtain ⟨oc, od, osl, lk⟩ := F.lk
  refine PySem.ks_codeAny_call_defAt (body := defBody s_NoRow___init__) (binds := initN.zip us) hr.depth (KX _ _ lk) rfl lim (PySem.W.codeRec_of KX F.code) rfl hb (show ∀ x ∈ (defScope s_NoRow___init__).names, x.2 ≠ .cell by decide +kernel) ?_ (fun h₁ hns kp => ?_) rfl rfl rfl
  · rintro ⟨y, u⟩ hy
    have hy := (List.of_mem_zip hy).1
    rcases List.mem_cons.mp hy with rfl | hy
    · rfl
    rcases List.mem_cons.mp hy with rfl | hy
    · rfl
    obtain rfl := List.mem_singleton.mp hy
    rfl
  have I := init_enter (C := C) (tk := s.toks + (initN.zip us).length) F e0 hr.hd hl r hns kp
  show _root_.PySem.wpAt (model P w) (A.deeper (initEnv s.heap.objs.size f cda cc)) (.func (defBody s_NoRow___init__) (initEnv s.heap.objs.size f cda cc)) (execs (defBody s_NoRow___init__) (initEnv s.heap.objs.size f cda cc)) _ _ _
  generalize hs1 : ({ s with heap := h₁, toks := s.toks + (initN.zip us).length } : Shared) = s1 at I ⊢
  refine PySem.ks_wpAt_execs_cons (PySem.ks_wpAt_Expr_any (PySem.ks_wpAt_MethodCall (init_super F R I rfl ha fun h' kp1 hso => ?_)))
  have I1 := I.kept (t' := s1.toks) kp1
  obtain ⟨hh, g, dr, t, os⟩ := s1
  dsimp only at hso kp1
  obtain ⟨nm, qn, N, bs, bm, sn, sub, ab, col, dd, k0, k1, k2, k3, k5, hC, hbm⟩ := R.ox.cls
  have hcl : PySem.W.clsIn K C = some { name := nm, bases := bs, mro := .ref C :: bm, ns := N, qualname := qn, hasDict := true, slotNames := sn, subclasses := sub, abstract := ab, collection := col, hasDel := false } := by unfold PySem.W.clsIn; rw [hC] <;> rfl
  have hsup := R.sup
  unfold PySem.W.ks_superIn at hsup
  rw [hcl] at hsup
  obtain ⟨t1, hx⟩ := exo_at I1.hok ha
  have X1 : K.In h' := I1.kIn
  have IA : PySem.W.InstAt h' a { cls := .ref C, dict := none, data := .fields #[.ref t1, .none, .none, .none, .bool false, .none] } C none := ⟨hx, rfl, rfl, trivial⟩
  refine PySem.W.kxs_getMethod PySem.W.kxs_ValueError (K := K) (D := C) (x := a) (C := C) hso (PySem.W.looks_opaque X1 R.opq) (l₀ := .ref C :: bm) ((PySem.W.looks_clsIn X1 hcl).andThen .now) rfl X1 hsup (IA.type.andThen (PySem.W.looks_subIn X1 R.subVE)) (PySem.W.ks_ne X1 IA hcl) (by decide) ?_
  have kp2 : ∀ b o, h'.get? b = some o → (h'.push (PySem.W.kxs_mw "ValueError.__init__" a)).get? b = some o := fun b o e => Heap.get?_push_of_some _ e
  have I2 := I1.kept (t' := t + 1) kp2
  have hu : PySem.W.KxsAt "ValueError.__init__" h'.objs.size a (h'.push (PySem.W.kxs_mw "ValueError.__init__" a)) := Heap.get?_push_size _ rfl
  have N0 : News default (h'.objs.size + 1) (h'.push (PySem.W.kxs_mw "ValueError.__init__" a)) [(h'.objs.size, PySem.W.kxs_mw "ValueError.__init__" a)] := fun p hp => by
    obtain rfl := List.mem_singleton.mp hp
    exact ⟨hu, Nat.ne_of_lt (Nat.lt_succ_self _), rfl⟩
  refine PySem.W.kxs_callWith1 (i := "ValueError.__init__") (x := a) N0 (.head _) ?_
  have args : PA (initCx P w K mg base f cda cc A outer s H) [.Name "why" ⟨9, 25, 9, 28⟩] (tCons (tVar 1) tNil) := pa_cons (pv 1) pa_nil
  have nu : H h'.objs.size = none := I1.hok.fresh (Nat.le_refl _)
  have I2p := I2.pins_of (pins' := [(h'.objs.size, PySem.W.kxs_mw "ValueError.__init__" a)]) fun p hp => by
    obtain rfl := List.mem_singleton.mp hp
    exact ⟨hu, nu, Nat.ne_of_gt I1.lt, I1.nofs (Nat.le_refl _), fun v z => by cases z⟩
  refine wpAny_mono (args.run _ _ _ _ H (fun vs H2 => vs = [V.str m] ∧ H2 = H) I2p ⟨_, rfl, rfl, rfl⟩) (fun us3 s3 h3 => ?_) fun _ _ z => z.elim
  obtain ⟨vs3, H3, I3, r3, rfl, rfl⟩ := h3
  have hu3 := (I3.pin _ (List.mem_append_right _ (List.mem_singleton.mpr rfl))).1
  refine ⟨hu3, ?_⟩
  obtain ⟨t3, hx3⟩ := exo_at I3.hok ha
  obtain ⟨hh3, g3, dr3, tk3, os3⟩ := s3
  refine init_call R.ox I3.kIn hx3 hu3 (by rw [← r3.length]; show 1 ≤ sizeLine; decide) fun h4 t4 k4 hx4 => ?_
  have J := I3.write (t' := tk3) (x := a) (e := a) (o := exo a C none) (by rw [ha]; exact True.intro) (.inl rfl) k4 ⟨_, hx4⟩ (exo_ok hx4)
  have eu : upd H3 a (exo a C none) = H3 := by
    funext b
    by_cases hb : b = a
    · rw [hb, upd_same, ha]
    · rw [upd_ne hb]
  rw [eu] at J
  have J := (J.pins_of (pins' := []) fun _ z => by cases z)
  refine wpAt_of_wpAny ?_
  have nd : initN.Nodup := by decide
  have st : PSs (initCx P w K mg base f cda cc A outer s H3) [.Assign [.Attribute (.Name "self" ⟨10, 8, 10, 12⟩) "line" ⟨10, 8, 10, 17⟩] (.Name "line" ⟨10, 20, 10, 24⟩) ⟨10, 8, 10, 24⟩] _ := pss_one (ps_ost (pv 0) (pv 2))
  refine wpAny_mono (st.run [] _ _ H3 { nx := fun _ H' => Q .non H', rt := Q } J ⟨_, rfl, _, rfl, a, C, rfl, R.ox, R.noline, .inl ⟨ha, fun dx n1 n2 => hq dx n1 n2⟩⟩) (fun fl s' hs => ?_) fun _ _ z => z.elim
  have fin : ∀ {σ' : L2.St} {H' : Hp} {v : V} {u : Value}, Inv (initCx P w K mg base f cda cc A outer s H3) [] σ' H' s' → RelV v u → Q v H' → CE outer P w H3 s Q u s' :=
    fun {σ' H' v u} J rv q => ⟨v, H', J.os, J.bare, J.base, J.hok, rv, q⟩
  cases fl with
  | ret u =>
    obtain ⟨v, σ', H', J, rv, q⟩ := hs
    exact fin J rv q
  | next =>
    obtain ⟨σ', H', J, q⟩ := hs
    exact fin (v := V.non) (u := Value.none) J rfl q
  | brk =>
    obtain ⟨_, _, _, q⟩ := hs
    exact False.elim q
  | cont =>
    obtain ⟨_, _, _, q⟩ := hs
    exact False.elim q
end
end Tk

set_option Elab.async false
set_option linter.all false
set_option maxRecDepth 100000
set_option maxHeartbeats 4000000
/-! raise NoRow(why), raise NoRow(why, line) -/
namespace Tk
open PySem PySem.Spec PyProof.Rows L2
structure NoRowX (P : Program) (K : PySem.W.Frag) (mg : Str → Option Value) (C : Addr) : Prop where
  g : mg "NoRow" = some (.ref C)
  ex : ∃ (fI cda cc T : Addr) (kV doc pm ct : Value) (an : Option Addr) (o : Obj) (its : List Value) (n : Nat), RowC P K C fI ∧ InitF P K C fI cda cc (.ref T) kV doc pm ct an ∧ K.lookup T = some o ∧ o.data = .seq its.toArray n ∧ Vals [V.int 0] its
/-- what is wanted of the error -/
def tRow (C : Addr) (dvs : List V) (ta : TA) : L2.St → Hp → XK → Prop := fun σ H Q => ta σ H fun vs H1 => ∃ (m : Str) (i : Int), vs ++ dvs = [.str m, .int i] ∧ ∀ d, H1 d = none → Q (.ref C) (some d) (upd H1 d (.xd [("line", .int i)]))
theorem row_heap {H1 : Hp} {a d : Addr} {o1 o2 o3 o4 : HO} (n : d ≠ a) (na : H1 a = none) : upd (del (upd (upd (upd H1 a o1) d o2) a o3) a) d o4 = upd H1 d o4 := by
  funext b
  by_cases hd : b = d
  · subst hd; rw [upd_same, upd_same]
  · rw [upd_ne hd, upd_ne hd]
    by_cases ha : b = a
    · subst ha; rw [del_same, na]
    · rw [del_ne ha, upd_ne ha, upd_ne hd, upd_ne ha]
section
variable {X : Cx} {C : Addr} {W : WX} {e : Expr} {es : List Expr} {p pos pos2 : Pos} {ta : TA}
theorem row_imp {ta : TA} {dvs : List V} {σ : L2.St} {H : Hp} {Q : XK} (hm : ∀ {F G : List V → Hp → Prop}, (∀ vs H, F vs H → G vs H) → ta σ H F → ta σ H G) (h : tRow C dvs ta σ H Q) : tMkO C (spInit C) dvs ta σ H Q := by
  refine hm (fun vs H1 hh => ?_) h
  obtain ⟨m, i, e, q⟩ := hh
  have hl : vs.length ≤ 2 := by
    have := congrArg List.length e
    rw [List.length_append] at this
    simp at this
    omega
  refine ⟨by omega, fun a na => ?_⟩
  rw [e]
  refine ⟨a, m, i, rfl, upd_same, fun dx n1 n2 => ⟨rfl, dx, [("line", .int i)], upd_same, ?_, ?_, ?_⟩⟩
  · rw [upd_ne n2, upd_same]
  · rw [upd_ne n2] at n1; exact n1
  · rw [row_heap n2 na]
    rw [upd_ne n2] at n1
    exact q dx n1
end
section
variable {X : Cx} {C : Addr} {W : WX} {e1 e2 : Expr} {p pos pos2 : Pos} {t1 t2 : TE}
/-- NoRow(why) -/
theorem pmk_row1 (N : NoRowX X.prog X.K X.mg C) (hr : Room 2 X.A) (m : Str) {j : Nat} {p2 : Pos} (hg : Gl X "NoRow" := by rfl) : PMk X (.Call (.Name "NoRow" p) [.Constant (.str m) j p2] [] pos) (fun σ H Q => ∀ d, H d = none → Q (.ref C) (some d) (upd H d (.xd [("line", .int 0)]))) := by
  obtain ⟨fI, cda, cc, T, kV, doc, pm, ct, an, o, its, n, R, F, lT, oT, rT⟩ := N.ex
  have ok := init_ok (w := X.w) (mg := X.mg) (base := X.base) (k := 0) F R
  have hb : Binds X.K (PySem.W.ksFn "__init__" "NoRow.__init__" (defArgs s_NoRow___init__) (defBody s_NoRow___init__) (defScope s_NoRow___init__) (.ref T) kV doc pm an (.ref cda) ct cc) initN its := fun s us X hlen => by
    have l1 : its.length = 1 := rT.length.symm
    have l2 : us.length = 2 := by
      rw [List.length_append, l1] at hlen
      simp at hlen
      omega
    match us, its, l2, l1 with
    | [u1, u2], [i1], _, _ => exact .of_defaults (T := T) rfl (X _ _ lT) oT rfl rfl
  have mk := pmk_oex (k := 1) R.ox R.init R.tyI ok hr hb rT pass0 hg N.g (pa_cons (pe_str (x := m) (j := j) (pos := p2)) pa_nil) (p := p) (pos := pos)
  intro pins s σ H Q I h
  refine mk pins s σ H Q I (row_imp (ta := tCons (tC (.str m)) tNil) (fun f h => f _ _ h) ?_)
  exact ⟨m, 0, rfl, h⟩
/-- NoRow(why, line) -/
theorem pmk_row2 (N : NoRowX X.prog X.K X.mg C) (hr : Room 2 X.A) (m : Str) {j : Nat} {p2 p3 : Pos} {i : Nat} {x : Str} (hN : X.N[i]? = some x) (hv : Vis X.env.scope x) (hg : Gl X "NoRow" := by rfl) (hd : (x == ("__debug__" : Str)) = false := by decide) (hcd : (x == ("__classdict__" : Str)) = false := by decide)
    (hs : starEach [.Constant (.str m) j p2, .Name x p3] X.env = (false, eval (.Constant (.str m) j p2) X.env) :: starEach [.Name x p3] X.env := by rfl) (hs2 : starEach [.Name x p3] X.env = (false, eval (.Name x p3) X.env) :: starEach [] X.env := by rfl)
    (hpl : (backTo pos (starEach [.Name x p3] X.env)).any (·.1) = false := by rfl) :
    PMk X (.Call (.Name "NoRow" p) [.Constant (.str m) j p2, .Name x p3] [] pos) (fun σ H Q => ∃ i' : Int, σ[i]? = some (some (.int i')) ∧ ∀ d, H d = none → Q (.ref C) (some d) (upd H d (.xd [("line", .int i')]))) := by
  obtain ⟨fI, cda, cc, T, kV, doc, pm, ct, an, o, its, n, R, F, lT, oT, rT⟩ := N.ex
  have ok := init_ok (w := X.w) (mg := X.mg) (base := X.base) (k := 0) F R
  have hb : Binds X.K (PySem.W.ksFn "__init__" "NoRow.__init__" (defArgs s_NoRow___init__) (defBody s_NoRow___init__) (defScope s_NoRow___init__) (.ref T) kV doc pm an (.ref cda) ct cc) initN [] := fun s us X hlen => by
    have l2 : us.length = 3 := by
      rw [List.append_nil] at hlen
      exact hlen
    have l1 : its.length = 1 := rT.length.symm
    match us, its, l2, l1 with
    | [u1, u2, u3], [i1], _, _ => exact .of_defaults (T := T) rfl (X _ _ lT) oT rfl rfl
  have mk := pmk_oex (k := 1) R.ox R.init R.tyI ok hr hb (.nil : Vals [] []) pass0 hg N.g (pa_cons (pe_str (x := m) (j := j) (pos := p2)) (pa_cons (pe_var (pos := p3) (i := i) hN hv hd hcd) pa_nil hs2) hs) (p := p) (pos := pos) (he := hs) (hpl := hpl)
  intro pins s σ H Q I ⟨i', hi, h⟩
  refine mk pins s σ H Q I (row_imp (ta := tCons (tC (.str m)) (tCons (tVar i) tNil)) (fun f h => ?_) ?_)
  · obtain ⟨v, hv, h⟩ := h
    exact ⟨v, hv, f _ _ h⟩
  · exact ⟨.int i', hi, m, i', rfl, h⟩
end
end Tk

set_option Elab.async false
set_option linter.all false
set_option maxRecDepth 100000
set_option maxHeartbeats 4000000
/-! List comprehensions whose element leans on the maker's state, and whose block may let an exception out. -/
namespace Tk
open PySem PySem.Spec PyProof.Rows L2
section
variable {X : Cx}
/-- the block's context with a wish of its own -/
abbrev blkW (X : Cx) (wb : Shared → Hp → Env → List Addr → Value → Shared → Prop) (s : Shared) (H : Hp) (scope : Scope) (ce : Env) (fp : List Addr) : Cx := (X.blk s H scope ce fp).wish (wb s H ce fp)
theorem lcw_core {pins : List (Addr × Obj)} {s : Shared} {σ : L2.St} {H : Hp} {Q : VK} {elt tg iter : Expr} {ifs : List Expr} {scope : Scope} {own : List (Str × Nat)} {pos pos' : Pos} {wi : TI} {g : TG} {tt : TT} {te : TE} {use : Option (Value → Sem Unit)} {Qf : Value → Shared → Prop}
    {wb : Shared → Hp → Env → List Addr → Value → Shared → Prop} (calm : X.calm = true) (nd : X.N.Nodup) (I : Inv X pins σ H s) (it : PI X tg iter wi) (blk : BlkOk X.N X.env.scope scope own)
    (hg : ∀ (s : Shared) (H : Hp) (C : Addr) (cl : List (Str × Addr)) (fp : List Addr), PG (blkW X wb s H scope (compEnvC scope cl C X.env) fp) tg g)
    (ht : ∀ (s : Shared) (H : Hp) (C : Addr) (cl : List (Str × Addr)) (fp : List Addr), Inv X pins σ H s → (∀ b ∈ fp, ∀ x c, X.env.cells.lookup x = some c → c ≠ b) → PTs (blkW X wb s H scope (compEnvC scope cl C X.env) fp) ifs tt)
    (he : ∀ (s : Shared) (H : Hp) (C : Addr) (cl : List (Str × Addr)) (fp : List Addr), Inv X pins σ H s → (∀ b ∈ fp, ∀ x c, X.env.cells.lookup x = some c → c ≠ b) → PE (blkW X wb s H scope (compEnvC scope cl C X.env) fp) elt te) (hs : ∀ x, foldedSetIterable iter X.env x = pure x)
    (h : tLc wi g tt te (own.map (·.2)) σ H Q)
    (hRR : ∀ D C s' m H', Inv X pins σ H' s' → Q (.ref D) H' → s'.heap.Ns C m → FpOk X pins H' C → compPost (model X.prog X.w) X.A X.xe use Qf (.ref D) C (.ok .next) s')
    (hx : ∀ (s : Shared) (H : Hp) (cl : List (Str × Addr)) (fp : List Addr) (D : Addr), Inv X pins σ H s → (∀ b ∈ fp, FpOk X pins H b ∧ b < s.heap.objs.size) → ∀ u s', wb s H (compEnvC scope cl s.heap.objs.size X.env) fp u s' →
      notedBy (model X.prog X.w) X.A (compEnvC scope cl s.heap.objs.size X.env) (fun e s2 => compPost (model X.prog X.w) X.A X.xe use Qf (.ref D) s.heap.objs.size (.error e) s2) u s') :
    wpAny (model X.prog X.w) X.A (comprehension (.ListComp elt [⟨tg, iter, ifs, 0⟩] scope pos) scope X.env pos' (newList []) false (eval iter X.env) use) Qf X.xe s := by
  have free : ∀ y ∈ scope.names, y.2 = .free → ∃ c, X.env.cells.lookup y.1 = some c := fun y hy e => (blk.free y hy e).elim (fun k => I.ok.has _ (.inl k)) fun k => I.ok.has _ (.inr k)
  refine wpAny_comprehension_free (use := use) rfl hs (closure_ok free) blk.kind (fun y hy e => by rw [blk.uniq y hy, e])
    (thn (it.run pins s σ H _ I h) fun xv s1 h1 => thn h1 fun iv s2 h2 => ?_)
  obtain ⟨ia, fp, tn, J, H2, rfl, I2, T, t2, f2, q⟩ := h2
  refine wpAny_newObj_type (newEnv_comp ?_) (by show 0 ≤ sizeLine; decide)
  generalize hD : s2.heap.objs.size = D at *
  have nD : H2 D = none := I2.hok.fresh (Nat.le_of_eq hD)
  obtain ⟨W, ⟨m0, w0⟩, turn⟩ := q D nD
  generalize hs3 : (Shared.mk (s2.heap.push { cls := .type "list", data := .seq ([] : List Value).toArray }) s2.gens s2.drawn s2.toks s2.os) = s3
  have h3 : s3.heap = s2.heap.push { cls := .type "list", data := .seq ([] : List Value).toArray } := by rw [← hs3]
  have I3 : Inv X pins σ (upd H2 D (.lst [])) s3 := by
    rw [← hs3]
    exact I2.laid (t' := s2.toks) (fun b o e => Heap.get?_push_of_some _ e) (Nat.le_of_eq hD) ⟨Nat.zero_le _, [], 0, .nil, by rw [← hD]; exact Heap.get?_push_size _ rfl⟩
  have f3 : ∀ b ∈ fp, FpOk X pins (upd H2 D (.lst [])) b ∧ b < s3.heap.objs.size := fun b hb => by
    obtain ⟨o, eo, _⟩ := T.obj _ _ t2 b hb
    have lt := Heap.lt_size eo
    exact ⟨⟨by rw [upd_ne (by rw [← hD]; exact Nat.ne_of_lt lt)]; exact (f2 b hb).1, (f2 b hb).2⟩, by rw [h3, Heap.size_push]; exact Nat.lt_succ_of_lt lt⟩
  have cf : ∀ b ∈ fp, ∀ x c, X.env.cells.lookup x = some c → c ≠ b := fun b hb => (f3 b hb).1.2.2.2.2.1
  have t3 : tn 0 s3.heap := T.keep _ _ _ t2 fun b _ o e => by rw [h3]; exact Heap.get?_push_of_some _ e
  obtain ⟨cl, hcl⟩ : ∃ cl, cellsFrom (s3.heap.objs.size + 1) scope.names (cloFrom X.env.cells scope.names []) = cl := ⟨_, rfl⟩
  have I4 := (block_start I3 blk nd f3).wish (wb s3 (upd H2 D (.lst [])) (compEnvC scope (cellsFrom (s3.heap.objs.size + 1) scope.names (cloFrom X.env.cells scope.names [])) s3.heap.objs.size X.env) fp)
  have pg := hg s3 (upd H2 D (.lst [])) s3.heap.objs.size cl fp
  have pt := ht s3 (upd H2 D (.lst [])) s3.heap.objs.size cl fp I3 cf
  have pe := he s3 (upd H2 D (.lst [])) s3.heap.objs.size cl fp I3 cf
  have px := hx s3 (upd H2 D (.lst [])) cl fp D I3 f3
  show codeAny _ _ (.compStart (.ListComp elt [⟨tg, iter, ifs, 0⟩] scope pos) 0 (.ref ia) (.ref D) (compEnvC scope (cellsFrom (s3.heap.objs.size + 1) scope.names (cloFrom X.env.cells scope.names [])) s3.heap.objs.size X.env)) (compPost (model X.prog X.w) X.A X.xe use Qf (.ref D) s3.heap.objs.size) { s3 with heap := pushCells (s3.heap.push { cls := .type "dict", data := .dict #[] }) scope.names }
  rw [hcl] at I4 ⊢
  have nfp : ∀ b ∈ fp, (upd H2 D (.lst [])) b = none := fun b hb => (f3 b hb).1.1
  obtain ⟨ce, hce⟩ : ∃ ce, compEnvC scope cl s3.heap.objs.size X.env = ce := ⟨_, rfl⟩
  rw [hce] at I4 pg pt pe px ⊢
  have cL : ce.locals = s3.heap.objs.size := by subst hce; rfl
  obtain ⟨H3, hH3⟩ : ∃ H3, upd H2 D (.lst []) = H3 := ⟨_, rfl⟩
  rw [hH3] at I3 I4 pg pt pe px w0 nfp f3
  obtain ⟨s4, hs4⟩ : ∃ s4 : Shared, { s3 with heap := pushCells (s3.heap.push { cls := .type "dict", data := .dict #[] }) scope.names } = s4 := ⟨_, rfl⟩
  rw [hs4] at I4 ⊢
  have t4 : tn 0 s4.heap := T.keep _ _ _ t3 fun b _ o e => by rw [← hs4]; exact pushCells_keeps _ _ _ _ (Heap.get?_push_of_some _ e)
  have stat : ∀ {σ' : L2.St} {H' : Hp} {s' : Shared}, Inv (blkW X wb s3 H3 scope ce fp) [] σ' H' s' → (∀ b ∈ fp, H' b = none) → ∀ b ∈ fp, FpOk (blkW X wb s3 H3 scope ce fp) [] H' b := fun {σ' H' s'} J' hn b hb =>
    ⟨hn b hb, (J'.ok.exf b hb).1, J'.ok.exfs b hb, .inl hb, fun x c e => (J'.ok.exf b hb).2 x c e, fun p hp => absurd (show p ∈ ([] : List (Addr × Obj)) ++ [] from hp) (by simp)⟩
  have loop : codeAny (model X.prog X.w) X.A (.compLoop (.ListComp elt [⟨tg, iter, ifs, 0⟩] scope pos) 0 (.ref ia) (.ref D) ce) (compPost (model X.prog X.w) X.A X.xe use Qf (.ref D) s3.heap.objs.size) s4 := by
    refine compLoop_any (fun n s' => ∃ i H', Inv (blkW X wb s3 H3 scope ce fp) [] (wipe σ (own.map (·.2))) H' s' ∧ tn i s'.heap ∧ (∀ b ∈ fp, H' b = none) ∧ W i n H') ?_ m0 ⟨0, H3, I4, t4, nfp, w0⟩
    rintro n s5 ⟨i, H5, I5, t5, n5, w5⟩
    rcases turn i n H5 w5 with ⟨stop, qq⟩ | ⟨go, Nx, hNx, step⟩
    · refine thnF (T.done (blkW X wb s3 H3 scope ce fp) rfl rfl rfl calm i [] s5 _ H5 (fun _ _ => False) I5 (stat I5 n5) t5 stop) fun r s6 ⟨hr, I6⟩ => ?_
      subst hr
      have I7 : Inv X pins σ H5 s6 := I3.call' (ch := fp) I6.os I6.base I6.hok I6.bare fun b hb => ⟨(f3 b hb).1.2.2.2.1, (f3 b hb).1.2.1, (f3 b hb).1.2.2.2.2.1, (f3 b hb).1.2.2.2.2.2⟩
      have nC : H5 s3.heap.objs.size = none := by
        have z : H5 ce.locals = none := I6.free
        rwa [cL] at z
      obtain ⟨m, hn, _⟩ := I6.loc
      have hn : s6.heap.Ns ce.locals m := hn
      rw [cL] at hn
      exact hRR D s3.heap.objs.size s6 m H5 I7 qq hn (I3.fpOk (Nat.le_refl _) nC)
    · refine thnF (T.item (blkW X wb s3 H3 scope ce fp) rfl rfl rfl calm i [] s5 _ H5 (fun _ _ => False) I5 (stat I5 n5) t5 go) fun r s6 ⟨u, hr, h6⟩ => ?_
      subst hr
      refine thnF h6 fun _ s7 ⟨x, H7, I7, r7, y7, t7, n7⟩ => ?_
      have I7' := I7.pinned (stat I7 n7) (T.obj _ _ t7)
      refine wpAny_mono (pg.run _ s7 _ H7 x u _ I7' r7 (step x H7 y7)) (fun _ s8 ⟨σ8, H8, I8, e8, q8⟩ => ?_) px
      refine wpAny_mono (pt.run _ s8 σ8 H8 _ I8 q8) (fun b s9 ⟨H9, I9, q9⟩ => ?_) px
      have fin : ∀ {s' : Shared} {H' : Hp}, Inv (blkW X wb s3 H3 scope ce fp) ([] ++ pinsAt fp s7.heap) σ8 H' s' → Nx H' → ∃ m, m < n ∧ ∃ i H', Inv (blkW X wb s3 H3 scope ce fp) [] (wipe σ (own.map (·.2))) H' s' ∧ tn i s'.heap ∧ (∀ b ∈ fp, H' b = none) ∧ W i m H' := fun {s' H'} J' nx => by
        obtain ⟨m', hm, w'⟩ := hNx H' nx
        have pin' : ∀ b ∈ fp, ∀ o, s7.heap.get? b = some o → s'.heap.get? b = some o ∧ H' b = none := fun b hb o e => by
          have z := J'.pin (b, o) (List.mem_append_right _ (List.mem_append_right _ (mem_pinsAt hb e)))
          exact ⟨z.1, z.2.1⟩
        refine ⟨m', hm, i + 1, H', (J'.unpinned (pins := [])).weak (by rw [← e8, wipe_length]) (fun j v e => ?_), T.keep _ _ _ t7 fun b hb o e => (pin' b hb o e).1, fun b hb => ?_, w'⟩
        · rw [← e8] at e
          exact (wipe_some e).1
        · obtain ⟨o, e, _⟩ := T.obj _ _ t7 b hb
          exact (pin' b hb o e).2
      cases b with
      | false =>
        simp only [Bool.false_eq_true, if_false] at q9 ⊢
        exact fin I9 q9
      | true =>
        simp only [if_true] at q9 ⊢
        refine wpAny_mono (pe.run _ s9 σ8 H9 _ I9 q9) (fun z s10 ⟨yv, H10, I10, r10, acc, aD, az, nx⟩ => ?_) px
        exact app_ok (X := blkW X wb s3 H3 scope ce fp) I10 aD az r10 fun s11 I11 => fin I11 nx
  exact codeAny_compStart_list loop (T.self X.A 0 _ _ _ t4 loop)
/-- [e for x in ..] as a value, where e leans on the maker's state -/
theorem pe_lcI {elt tg iter : Expr} {ifs : List Expr} {scope : Scope} {own : List (Str × Nat)} {pos : Pos} {wi : TI} {g : TG} {tt : TT} {te : L2.St → TE} (calm : X.calm = true) (nd : X.N.Nodup) (it : PI X tg iter wi) (blk : BlkOk X.N X.env.scope scope own)
    (hg : ∀ (s : Shared) (H : Hp) (C : Addr) (cl : List (Str × Addr)) (fp : List Addr), PG ((X.blk s H scope (compEnvC scope cl C X.env) fp).wish fun _ _ => False) tg g)
    (ht : ∀ (s : Shared) (H : Hp) (C : Addr) (cl : List (Str × Addr)) (fp : List Addr), PTs ((X.blk s H scope (compEnvC scope cl C X.env) fp).wish fun _ _ => False) ifs tt)
    (he : ∀ (pins : List (Addr × Obj)) (σ : L2.St) (s : Shared) (H : Hp) (C : Addr) (cl : List (Str × Addr)) (fp : List Addr), Inv X pins σ H s → (∀ b ∈ fp, ∀ x c, X.env.cells.lookup x = some c → c ≠ b) →
      PE ((X.blk s H scope (compEnvC scope cl C X.env) fp).wish fun _ _ => False) elt (te σ)) (hs : ∀ x, foldedSetIterable iter X.env x = pure x := by intro _; rfl) :
    PE X (.ListComp elt [⟨tg, iter, ifs, 0⟩] scope pos) (fun σ => tLc wi g tt (te σ) (own.map (·.2)) σ) := by
  refine ⟨fun pins s σ H Q I h => ?_⟩
  rw [eval_ListComp]
  refine lcw_core (wb := fun _ _ _ _ _ _ => False) calm nd I it blk hg (fun s H C cl fp _ _ => ht s H C cl fp) (fun s H C cl fp I' o => he pins σ s H C cl fp I' o) hs h (fun D C s' m H' I' q hn f => ⟨m, hn, fun h'' sb => ?_⟩) fun _ _ _ _ _ _ _ _ _ z => z.elim
  obtain ⟨f0, f1, f2, f3, f4, f5⟩ := f
  exact ⟨.ref D, H', I'.turned (t' := s'.toks) (fun b o hb e => (sb.2 b hb).trans e) f0 f1 f3 f4 f5, rfl, q⟩
end
end Tk

set_option Elab.async false
set_option linter.all false
set_option maxRecDepth 100000
set_option maxHeartbeats 4000000
/-! List comprehensions whose element lets an exception out. -/
namespace Tk
open PySem PySem.Spec PyProof.Rows L2
/-- how a comprehension's block ends; an exception goes on in the frame fr -/
def compPostF (M : Model) (A : Around) (E : Value → Shared → Prop) (Q : Value → Shared → Prop) (acc : Value) (C : Addr) (fr : Option Addr) (r : Result) (s' : Shared) : Prop :=
  match r with
  | .ok _ => ∃ m, s'.heap.Ns C m ∧ ∀ h', Heap.SameBut C s'.heap h' → Q acc { s' with heap := h' }
  | .error x => ∃ m, s'.heap.Ns C m ∧ ∀ h', Heap.SameBut C s'.heap h' → ∀ cenv : Env, cenv.frame = fr → wpAny M A (passOn "comprehension.variables-let-go" x cenv : Sem Value) (fun _ _ => False) E { s' with heap := h' }
section
variable {M : Model} {A : Around} {E : Value → Shared → Prop} {s : Shared} {env : Env}
theorem comp_free {e : Expr} {scope : Scope} {pos : Pos} {newAcc first : Sem Value} {g : Comprehension} {gs : List Comprehension} {cl : List (Str × Addr)} {Q : Value → Shared → Prop}
    (hcl : clausesOf e = g :: gs) (hs : ∀ x, foldedSetIterable g.iter env x = pure x) (hclos : closureFor scope env = pure cl)
    (hkind : scope.kind = .function) (hnames : ∀ x ∈ scope.names, x.2 = .local → scope.names.lookup x.1 = some .local)
    (h : wpAny M A first (fun x s₁ => wpAny M A (pyIter x) (fun it s₂ => wpAny M A newAcc (fun acc s₃ =>
      wpAny M A (newFunctionEnv scope env.globals cl [] env.qual none .none (some env)) (fun cenv s₄ =>
        codeAny M A (.compStart e 0 it acc { cenv with scope := relabel scope env }) (compPostF M A E Q acc cenv.locals cenv.frame) s₄) E s₃) E s₂) E s₁) E s) :
    wpAny M A (comprehension e scope env pos newAcc false first none) Q E s := by
  unfold comprehension
  rw [hclos, hcl]
  refine wpAny_bind (wpAny_mono h (fun x s₁ h₁ => wpAny_bind (wpAny_standAt (wpAny_bind (wpAny_of_eq (hs x) (wpAny_bind (wpAny_holding (wpAny_mono h₁ (fun it s₂ h₂ =>
    wpAny_standIf (wpAny_bind (wpAny_mono h₂ (fun acc s₃ h₃ => wpAny_bind (wpAny_pure (wpAny_bind (wpAny_mono h₃ (fun cenv s₄ h₄ => ?_) fun _ _ h' => h')))) fun _ _ h' => h')))
      fun _ _ h' => h'))))))) fun _ _ h' => h')
  dsimp only
  have hv : ∀ x ∈ (scope.names.filter fun x => (x.2 == .local || x.2 == .cell) && x.1 != (".0" : Str)).reverse, x.2 = .local →
      Env.kindOf { cenv with scope := relabel scope env } x.1 = some .local := fun x hx hl => lookup_relabel_local (hnames x (List.mem_filter.mp (List.mem_reverse.mp hx)).1 hl)
  refine wpAny_holding (wpAny_bind (wpAny_attempt (wpAny_holding (wpAny_run (codeAny_mono h₄ fun r s' hr => ?_)))))
  cases r with
  | ok f =>
    obtain ⟨m, hn, hr⟩ := hr
    exact wpAny_bind (wpAny_holding (wpAny_comp_letGo (cenv := { cenv with scope := relabel scope env }) hkind _ s' m hv hn fun h' m' _ hs' => wpAny_pure (hr h' hs')))
  | error x =>
    obtain ⟨m, hn, hr⟩ := hr
    exact wpAny_bind (wpAny_holding (wpAny_comp_letGo (cenv := { cenv with scope := relabel scope env }) hkind _ s' m hv hn fun h' m' _ hs' => wpAny_mono (hr h' hs' _ rfl) (fun _ _ f => f.elim) fun _ _ y => y))
theorem noteFrame_congr {env env' : Env} (e : env.frame = env'.frame) (x : Value) : noteFrame x env = noteFrame x env' := by
  unfold noteFrame PySem.frameOf
  rw [e]
theorem note_anyZ {base : Heap} {outer : List Env} {L e : Addr} {Z : Obj → Prop} {fl : Value} {Q : Unit → Shared → Prop} (hZ : HandSPX.Steady Z) (hfr : A.frames = some (env :: outer)) (hf : env.frame = some L)
    (hkb : base.StaysIn s.heap) (hen : base.get? e = none) (hl : s.heap.FunFrames base (env :: outer)) (ht : HandSPX.TracedZ s.heap base e Z fl)
    (hQ : ∀ h', HandSPX.HeldZ base (env :: outer) e Z L h' → s.heap.UpToSlots h' → Q () { s with heap := h' }) : wpAny M A (noteFrame (.ref e) env) Q E s := by
  obtain ⟨oe, vs, T, oT, ts, he, hz, hd, h1, hnT, hTe, hT, hdT, h3⟩ := ht
  by_cases hc : (fl == rawInt L) = true
  · have efl := eq_of_beq hc
    subst efl
    have tr : HandSPX.TracedZ s.heap base e Z (rawInt L) := ⟨oe, vs, T, oT, ts, he, hz, hd, h1, hnT, hTe, hT, hdT, h3⟩
    exact HandSPX.againZ hf tr (hQ s.heap ⟨hkb, hen, hl, tr⟩ (Heap.UpToSlots.refl _))
  unfold noteFrame
  simp only [hf]
  refine wpAny_bind (wpAny_field he hd h1 ?_)
  rw [if_pos (show (Value.ref T != Value.none) = true from by simp)]
  refine wpAny_bind (wpAny_field hT hdT h3 ?_)
  rw [if_neg hc]
  refine wpAny_bind (wpAny_setField hT hdT (Array.getElem?_eq_some_iff.mp h3).1 ?_)
  have other : ∀ b, b ≠ T → (s.heap.update T (Obj.mapFields (·.setIfInBounds 3 Value.none))).get? b = s.heap.get? b := fun b hb => Heap.get?_update_other _ _ (Ne.symm hb)
  have noRecord : ∀ b o, s.heap.get? b = some o → (∀ vs, o.data ≠ .fields vs) → b ≠ T := fun b o hb hnf q => by
    rw [q, hT] at hb; injection hb with hb; subst hb; exact hnf ts hdT
  refine HandSPX.wpAny_entryZ hZ hfr (hl.of_keeps fun b o hb hnf => ⟨o, (other b (noRecord b o hb hnf)).trans hb, rfl⟩) hf ((other e (Ne.symm hTe)).trans he)
    (fun b o hbo => (other b fun q => by rw [q, hnT] at hbo; cases hbo).trans (hkb b o hbo)) hen hd (Array.getElem?_eq_some_iff.mp h1).1 hz fun h' hN => ?_
  obtain ⟨x1, x2, x3, x4⟩ := hN
  exact hQ h' ⟨x1, hen, x2, x3⟩ fun b o hb hnf => x4 b o ((other b (noRecord b o hb hnf)).trans hb) hnf
/-- passed on, from this frame -/
theorem pass_held {base : Heap} {l : List Env} {L e : Addr} {Z : Obj → Prop} {α : Type} {what : String} {Q : α → Shared → Prop} {cenv : Env} (hf : cenv.frame = some L) (hh : HandSPX.HeldZ base l e Z L s.heap)
    (hQ : ∀ h', HandSPX.HeldZ base l e Z L h' → s.heap.UpToSlots h' → E (.ref e) { s with heap := h' }) : wpAny M A (passOn what (.ref e) cenv) Q E s := by
  obtain ⟨hkb, hen, hl, oe, vs, T, oT, ts, he, hz, hd, h1, hnT, hTe, hT, hdT, h3⟩ := id hh
  unfold PySem.passOn
  refine wpAny_bind (wpAny_field he hd h1 ?_)
  rw [if_neg (show ¬ ((Value.ref T == Value.none) = true) from by simp)]
  rw [hf]
  exact wpAny_bind (HandSPX.setFlight_onZ hh fun h' hh' up => wpAny_throw (hQ h' hh' up))
end
section
variable {X : Cx}
theorem lcx_core {pins : List (Addr × Obj)} {s : Shared} {σ : L2.St} {H : Hp} {Q : VK} {elt tg iter : Expr} {ifs : List Expr} {scope : Scope} {own : List (Str × Nat)} {pos pos' : Pos} {wi : TI} {g : TG} {tt : TT} {te : TE} {Qf : Value → Shared → Prop}
    {wb : Shared → Hp → Env → List Addr → Value → Shared → Prop} (calm : X.calm = true) (nd : X.N.Nodup) (I : Inv X pins σ H s) (it : PI X tg iter wi) (blk : BlkOk X.N X.env.scope scope own)
    (hg : ∀ (s : Shared) (H : Hp) (C : Addr) (cl : List (Str × Addr)) (fp : List Addr), PG (blkW X wb s H scope (compEnvC scope cl C X.env) fp) tg g)
    (ht : ∀ (s : Shared) (H : Hp) (C : Addr) (cl : List (Str × Addr)) (fp : List Addr), Inv X pins σ H s → (∀ b ∈ fp, ∀ x c, X.env.cells.lookup x = some c → c ≠ b) → PTs (blkW X wb s H scope (compEnvC scope cl C X.env) fp) ifs tt)
    (he : ∀ (s : Shared) (H : Hp) (C : Addr) (cl : List (Str × Addr)) (fp : List Addr), Inv X pins σ H s → (∀ b ∈ fp, ∀ x c, X.env.cells.lookup x = some c → c ≠ b) → PE (blkW X wb s H scope (compEnvC scope cl C X.env) fp) elt te) (hs : ∀ x, foldedSetIterable iter X.env x = pure x)
    (h : tLc wi g tt te (own.map (·.2)) σ H Q)
    (hRR : ∀ D C s' m H', Inv X pins σ H' s' → Q (.ref D) H' → s'.heap.Ns C m → FpOk X pins H' C → compPostF (model X.prog X.w) X.A X.xe Qf (.ref D) C X.env.frame (.ok .next) s')
    (hx : ∀ (s : Shared) (H : Hp) (cl : List (Str × Addr)) (fp : List Addr) (D : Addr), Inv X pins σ H s → (∀ b ∈ fp, FpOk X pins H b ∧ b < s.heap.objs.size) → ∀ u s', wb s H (compEnvC scope cl s.heap.objs.size X.env) fp u s' →
      notedBy (model X.prog X.w) X.A (compEnvC scope cl s.heap.objs.size X.env) (fun e s2 => compPostF (model X.prog X.w) X.A X.xe Qf (.ref D) s.heap.objs.size X.env.frame (.error e) s2) u s') :
    wpAny (model X.prog X.w) X.A (comprehension (.ListComp elt [⟨tg, iter, ifs, 0⟩] scope pos) scope X.env pos' (newList []) false (eval iter X.env) none) Qf X.xe s := by
  have free : ∀ y ∈ scope.names, y.2 = .free → ∃ c, X.env.cells.lookup y.1 = some c := fun y hy e => (blk.free y hy e).elim (fun k => I.ok.has _ (.inl k)) fun k => I.ok.has _ (.inr k)
  refine comp_free rfl hs (closure_ok free) blk.kind (fun y hy e => by rw [blk.uniq y hy, e])
    (thn (it.run pins s σ H _ I h) fun xv s1 h1 => thn h1 fun iv s2 h2 => ?_)
  obtain ⟨ia, fp, tn, J, H2, rfl, I2, T, t2, f2, q⟩ := h2
  refine wpAny_newObj_type (newEnv_comp ?_) (by show 0 ≤ sizeLine; decide)
  generalize hD : s2.heap.objs.size = D at *
  have nD : H2 D = none := I2.hok.fresh (Nat.le_of_eq hD)
  obtain ⟨W, ⟨m0, w0⟩, turn⟩ := q D nD
  generalize hs3 : (Shared.mk (s2.heap.push { cls := .type "list", data := .seq ([] : List Value).toArray }) s2.gens s2.drawn s2.toks s2.os) = s3
  have h3 : s3.heap = s2.heap.push { cls := .type "list", data := .seq ([] : List Value).toArray } := by rw [← hs3]
  have I3 : Inv X pins σ (upd H2 D (.lst [])) s3 := by
    rw [← hs3]
    exact I2.laid (t' := s2.toks) (fun b o e => Heap.get?_push_of_some _ e) (Nat.le_of_eq hD) ⟨Nat.zero_le _, [], 0, .nil, by rw [← hD]; exact Heap.get?_push_size _ rfl⟩
  have f3 : ∀ b ∈ fp, FpOk X pins (upd H2 D (.lst [])) b ∧ b < s3.heap.objs.size := fun b hb => by
    obtain ⟨o, eo, _⟩ := T.obj _ _ t2 b hb
    have lt := Heap.lt_size eo
    exact ⟨⟨by rw [upd_ne (by rw [← hD]; exact Nat.ne_of_lt lt)]; exact (f2 b hb).1, (f2 b hb).2⟩, by rw [h3, Heap.size_push]; exact Nat.lt_succ_of_lt lt⟩
  have cf : ∀ b ∈ fp, ∀ x c, X.env.cells.lookup x = some c → c ≠ b := fun b hb => (f3 b hb).1.2.2.2.2.1
  have t3 : tn 0 s3.heap := T.keep _ _ _ t2 fun b _ o e => by rw [h3]; exact Heap.get?_push_of_some _ e
  obtain ⟨cl, hcl⟩ : ∃ cl, cellsFrom (s3.heap.objs.size + 1) scope.names (cloFrom X.env.cells scope.names []) = cl := ⟨_, rfl⟩
  have I4 := (block_start I3 blk nd f3).wish (wb s3 (upd H2 D (.lst [])) (compEnvC scope (cellsFrom (s3.heap.objs.size + 1) scope.names (cloFrom X.env.cells scope.names [])) s3.heap.objs.size X.env) fp)
  have pg := hg s3 (upd H2 D (.lst [])) s3.heap.objs.size cl fp
  have pt := ht s3 (upd H2 D (.lst [])) s3.heap.objs.size cl fp I3 cf
  have pe := he s3 (upd H2 D (.lst [])) s3.heap.objs.size cl fp I3 cf
  have px := hx s3 (upd H2 D (.lst [])) cl fp D I3 f3
  show codeAny _ _ (.compStart (.ListComp elt [⟨tg, iter, ifs, 0⟩] scope pos) 0 (.ref ia) (.ref D) (compEnvC scope (cellsFrom (s3.heap.objs.size + 1) scope.names (cloFrom X.env.cells scope.names [])) s3.heap.objs.size X.env)) (compPostF (model X.prog X.w) X.A X.xe Qf (.ref D) s3.heap.objs.size X.env.frame) { s3 with heap := pushCells (s3.heap.push { cls := .type "dict", data := .dict #[] }) scope.names }
  rw [hcl] at I4 ⊢
  have nfp : ∀ b ∈ fp, (upd H2 D (.lst [])) b = none := fun b hb => (f3 b hb).1.1
  obtain ⟨ce, hce⟩ : ∃ ce, compEnvC scope cl s3.heap.objs.size X.env = ce := ⟨_, rfl⟩
  rw [hce] at I4 pg pt pe px ⊢
  have cL : ce.locals = s3.heap.objs.size := by subst hce; rfl
  obtain ⟨H3, hH3⟩ : ∃ H3, upd H2 D (.lst []) = H3 := ⟨_, rfl⟩
  rw [hH3] at I3 I4 pg pt pe px w0 nfp f3
  obtain ⟨s4, hs4⟩ : ∃ s4 : Shared, { s3 with heap := pushCells (s3.heap.push { cls := .type "dict", data := .dict #[] }) scope.names } = s4 := ⟨_, rfl⟩
  rw [hs4] at I4 ⊢
  have t4 : tn 0 s4.heap := T.keep _ _ _ t3 fun b _ o e => by rw [← hs4]; exact pushCells_keeps _ _ _ _ (Heap.get?_push_of_some _ e)
  have stat : ∀ {σ' : L2.St} {H' : Hp} {s' : Shared}, Inv (blkW X wb s3 H3 scope ce fp) [] σ' H' s' → (∀ b ∈ fp, H' b = none) → ∀ b ∈ fp, FpOk (blkW X wb s3 H3 scope ce fp) [] H' b := fun {σ' H' s'} J' hn b hb =>
    ⟨hn b hb, (J'.ok.exf b hb).1, J'.ok.exfs b hb, .inl hb, fun x c e => (J'.ok.exf b hb).2 x c e, fun p hp => absurd (show p ∈ ([] : List (Addr × Obj)) ++ [] from hp) (by simp)⟩
  have loop : codeAny (model X.prog X.w) X.A (.compLoop (.ListComp elt [⟨tg, iter, ifs, 0⟩] scope pos) 0 (.ref ia) (.ref D) ce) (compPostF (model X.prog X.w) X.A X.xe Qf (.ref D) s3.heap.objs.size X.env.frame) s4 := by
    refine compLoop_any (fun n s' => ∃ i H', Inv (blkW X wb s3 H3 scope ce fp) [] (wipe σ (own.map (·.2))) H' s' ∧ tn i s'.heap ∧ (∀ b ∈ fp, H' b = none) ∧ W i n H') ?_ m0 ⟨0, H3, I4, t4, nfp, w0⟩
    rintro n s5 ⟨i, H5, I5, t5, n5, w5⟩
    rcases turn i n H5 w5 with ⟨stop, qq⟩ | ⟨go, Nx, hNx, step⟩
    · refine thnF (T.done (blkW X wb s3 H3 scope ce fp) rfl rfl rfl calm i [] s5 _ H5 (fun _ _ => False) I5 (stat I5 n5) t5 stop) fun r s6 ⟨hr, I6⟩ => ?_
      subst hr
      have I7 : Inv X pins σ H5 s6 := I3.call' (ch := fp) I6.os I6.base I6.hok I6.bare fun b hb => ⟨(f3 b hb).1.2.2.2.1, (f3 b hb).1.2.1, (f3 b hb).1.2.2.2.2.1, (f3 b hb).1.2.2.2.2.2⟩
      have nC : H5 s3.heap.objs.size = none := by
        have z : H5 ce.locals = none := I6.free
        rwa [cL] at z
      obtain ⟨m, hn, _⟩ := I6.loc
      have hn : s6.heap.Ns ce.locals m := hn
      rw [cL] at hn
      exact hRR D s3.heap.objs.size s6 m H5 I7 qq hn (I3.fpOk (Nat.le_refl _) nC)
    · refine thnF (T.item (blkW X wb s3 H3 scope ce fp) rfl rfl rfl calm i [] s5 _ H5 (fun _ _ => False) I5 (stat I5 n5) t5 go) fun r s6 ⟨u, hr, h6⟩ => ?_
      subst hr
      refine thnF h6 fun _ s7 ⟨x, H7, I7, r7, y7, t7, n7⟩ => ?_
      have I7' := I7.pinned (stat I7 n7) (T.obj _ _ t7)
      refine wpAny_mono (pg.run _ s7 _ H7 x u _ I7' r7 (step x H7 y7)) (fun _ s8 ⟨σ8, H8, I8, e8, q8⟩ => ?_) px
      refine wpAny_mono (pt.run _ s8 σ8 H8 _ I8 q8) (fun b s9 ⟨H9, I9, q9⟩ => ?_) px
      have fin : ∀ {s' : Shared} {H' : Hp}, Inv (blkW X wb s3 H3 scope ce fp) ([] ++ pinsAt fp s7.heap) σ8 H' s' → Nx H' → ∃ m, m < n ∧ ∃ i H', Inv (blkW X wb s3 H3 scope ce fp) [] (wipe σ (own.map (·.2))) H' s' ∧ tn i s'.heap ∧ (∀ b ∈ fp, H' b = none) ∧ W i m H' := fun {s' H'} J' nx => by
        obtain ⟨m', hm, w'⟩ := hNx H' nx
        have pin' : ∀ b ∈ fp, ∀ o, s7.heap.get? b = some o → s'.heap.get? b = some o ∧ H' b = none := fun b hb o e => by
          have z := J'.pin (b, o) (List.mem_append_right _ (List.mem_append_right _ (mem_pinsAt hb e)))
          exact ⟨z.1, z.2.1⟩
        refine ⟨m', hm, i + 1, H', (J'.unpinned (pins := [])).weak (by rw [← e8, wipe_length]) (fun j v e => ?_), T.keep _ _ _ t7 fun b hb o e => (pin' b hb o e).1, fun b hb => ?_, w'⟩
        · rw [← e8] at e
          exact (wipe_some e).1
        · obtain ⟨o, e, _⟩ := T.obj _ _ t7 b hb
          exact (pin' b hb o e).2
      cases b with
      | false =>
        simp only [Bool.false_eq_true, if_false] at q9 ⊢
        exact fin I9 q9
      | true =>
        simp only [if_true] at q9 ⊢
        refine wpAny_mono (pe.run _ s9 σ8 H9 _ I9 q9) (fun z s10 ⟨yv, H10, I10, r10, acc, aD, az, nx⟩ => ?_) px
        exact app_ok (X := blkW X wb s3 H3 scope ce fp) I10 aD az r10 fun s11 I11 => fin I11 nx
  exact codeAny_compStart_list loop (T.self X.A 0 _ _ _ t4 loop)

/-- an exception in the air of X, the frame at L -/
def XEf (X : Cx) (W : WX) (L : Addr) (u : Value) (s' : Shared) : Prop :=
  ∃ (a : Addr) (B : Heap) (sI : Shared) (pins : List (Addr × Obj)) (σ : L2.St) (H : Hp) (cls : Value) (d : Option Addr),
    u = .ref a ∧ Inv X pins σ H sI ∧ (∀ b o, sI.heap.get? b = some o → b ∉ frs X.stack → B.get? b = some o) ∧ sI.heap.UpToSlots s'.heap ∧
      Sky B X.stack a (Zc cls d) L s'.heap ∧ H a = none ∧ s'.os = sI.os ∧ AllBare s'.gens ∧ W cls d σ H
def TakesF (X : Cx) (W : WX) (L : Addr) : Prop := ∀ u s', XEf X W L u s' → X.xe u s'
theorem takesF {X : Cx} {W : WX} (tk : Takes X W) : TakesF X W X.env.locals := fun u s' h => tk u s' h
/-- what is wanted of an exception of the block -/
abbrev wbX (X : Cx) (W : Value → Option Addr → Hp → Prop) (scope : Scope) (s : Shared) (H : Hp) (ce : Env) (fp : List Addr) (u : Value) (s' : Shared) : Prop := ∃ L, XEf (X.blk s H scope ce fp) (fun cls d _ H' => W cls d H') L u s'
theorem takesF_blk {s : Shared} {H : Hp} {scope : Scope} {ce : Env} {fp : List Addr} {W : Value → Option Addr → Hp → Prop} {L : Addr} : TakesF ((X.blk s H scope ce fp).wish (wbX X W scope s H ce fp)) (fun cls d _ H' => W cls d H') L := by
  rintro u s' ⟨a, B, sI, pins, σ, H', cls, d, e, I, r⟩
  exact ⟨L, a, B, sI, pins, σ, H', cls, d, e, I.unwish, r⟩
theorem takes_blk {s : Shared} {H : Hp} {scope : Scope} {ce : Env} {fp : List Addr} {W : Value → Option Addr → Hp → Prop} : Takes ((X.blk s H scope ce fp).wish (wbX X W scope s H ce fp)) (fun cls d _ H' => W cls d H') := fun u s' h => takesF_blk u s' h
/-- an exception of the block leaves the comprehension, within its def -/
theorem comp_out {pins : List (Addr × Obj)} {s : Shared} {σ : L2.St} {H : Hp} {scope : Scope} {cl : List (Str × Addr)} {fp : List Addr} {Wd : WX} {acc : Value} {Qf : Value → Shared → Prop} {e0 : Env} {rest : List Env} {L : Addr} (hst : X.stack = e0 :: rest) (hf0 : e0.frame = some L) (hfr : X.env.frame = some L) (tk : TakesF X Wd L)
    (I3 : Inv X pins σ H s) (f3 : ∀ b ∈ fp, FpOk X pins H b ∧ b < s.heap.objs.size) (u : Value) (s' : Shared) (h : wbX X (fun cls d H' => Wd cls d σ H') scope s H (compEnvC scope cl s.heap.objs.size X.env) fp u s') :
    notedBy (model X.prog X.w) X.A (compEnvC scope cl s.heap.objs.size X.env) (fun e s2 => compPostF (model X.prog X.w) X.A X.xe Qf acc s.heap.objs.size X.env.frame (.error e) s2) u s' := by
  obtain ⟨Lx, a, B, sI, pins', σ', H', cls, d, rfl, I, nb, up, sky, na, os, ag, w⟩ := h
  generalize hC : s.heap.objs.size = C at *
  have frames : X.A.frames = some (e0 :: rest) := by rw [I3.ok.frames, hst]
  have nb : ∀ b o, sI.heap.get? b = some o → b ∉ frs X.stack → B.get? b = some o := nb
  have sky : Sky B X.stack a (Zc cls d) Lx s'.heap := sky
  have nC : H' C = none := I.free
  have base : Un (frs X.stack) fp H H' s.heap sI.heap := I.base
  have osI : sI.os = s.os := I.os
  have CnF : C ∉ frs X.stack := fun hm => by
    obtain ⟨_, o, ho, _⟩ := I3.stack.mem hm
    have := Heap.lt_size ho
    rw [hC] at this
    exact absurd this (Nat.lt_irrefl _)
  unfold notedBy
  rw [noteFrame_congr (show (compEnvC scope cl C X.env).frame = e0.frame from hfr.trans hf0.symm)]
  have fin : ∀ h1, HandSPX.HeldZ B (e0 :: rest) a (Zc cls d) L h1 → s'.heap.UpToSlots h1 → compPostF (model X.prog X.w) X.A X.xe Qf acc C X.env.frame (.error (.ref a)) { s' with heap := h1 } := by
    intro h1 hh up1
    have up2 := up.trans up1
    obtain ⟨m, ⟨oC, es, ep, hoC, hdC, rC⟩, _⟩ := I.loc
    have hoC : sI.heap.get? C = some oC := hoC
    obtain ⟨slC, hC1⟩ := up2 C oC hoC (fun vs z => by rw [hdC] at z; cases z)
    refine ⟨m, ⟨_, es, ep, hC1, hdC, rC⟩, fun h2 sb cenv hce => ?_⟩
    obtain ⟨hkb, hen, hl, oe, vs, T, oT, ts, he, hz, hd, e1, hnT, hTe, hT, hdT, e3⟩ := hh
    have aC : a ≠ C := fun z => by rw [z, hC1] at he; cases he; rw [hdC] at hd; cases hd
    have TC : T ≠ C := fun z => by rw [z, hC1] at hT; cases hT; rw [hdC] at hdT; cases hdT
    obtain ⟨B', b1, b2⟩ := restrict B fun b => decide (b ≠ C)
    have bk : ∀ b, b ≠ C → B'.get? b = B.get? b := fun b hb => b1 b (decide_eq_true hb)
    have bC : B'.get? C = none := b2 C (by simp)
    have bo : ∀ b o, B'.get? b = some o → B.get? b = some o ∧ b ≠ C := fun b o e => by
      have ne : b ≠ C := fun z => by rw [z, bC] at e; cases e
      exact ⟨(bk b ne).symm.trans e, ne⟩
    have bn : ∀ b, B.get? b = none → B'.get? b = none := fun b e => by
      cases q : B'.get? b with
      | none => rfl
      | some o => rw [(bo b o q).1] at e; cases e
    have fr2 : ∀ l : List Env, (∀ b ∈ frs l, b ∈ frs X.stack) → h1.FunFrames B l → h2.FunFrames B' l := by
      intro l
      induction l with
      | nil => intro _ _; trivial
      | cons env r ih =>
        intro hs hl
        obtain ⟨hk, ⟨L', o, hf, hn, ho, hd⟩, hr⟩ := hl
        have hL : L' ∈ frs X.stack := hs L' (by unfold frs; rw [List.filterMap_cons, hf]; exact List.mem_cons_self)
        exact ⟨hk, ⟨L', o, hf, bn L' hn, (sb.2 L' fun z => CnF (z ▸ hL)).trans ho, hd⟩, ih (fun b hb => hs b (by unfold frs; rw [List.filterMap_cons, hf]; exact List.mem_cons_of_mem _ hb)) hr⟩
    have held2 : HandSPX.HeldZ B' (e0 :: rest) a (Zc cls d) L h2 :=
      ⟨fun b o e => (sb.2 b (bo b o e).2).trans (hkb b o (bo b o e).1), bn a hen, fr2 _ (by rw [hst]; exact fun b hb => hb) hl, oe, vs, T, oT, ts, (sb.2 a aC).trans he, hz, hd, e1, bn T hnT, hTe, (sb.2 T TC).trans hT, hdT, e3⟩
    refine pass_held (L := L) (by rw [hce, hfr]) held2 fun h3 hh3 up3 => tk _ _ ?_
    obtain ⟨G, g1, g2⟩ := restrict sI.heap fun b => decide (b ≠ C)
    have gk : ∀ b, b ≠ C → G.get? b = sI.heap.get? b := fun b hb => g1 b (decide_eq_true hb)
    have gC : G.get? C = none := g2 C (by simp)
    have go : ∀ b o, G.get? b = some o → sI.heap.get? b = some o ∧ b ≠ C := fun b o e => by
      have ne : b ≠ C := fun z => by rw [z, gC] at e; cases e
      exact ⟨(gk b ne).symm.trans e, ne⟩
    have neS : ∀ {b : Addr} {o : Obj}, s.heap.get? b = some o → b ≠ C := fun {b o} e z => by
      have := Heap.lt_size e
      rw [z, hC] at this
      exact absurd this (Nat.lt_irrefl _)
    have unG : Un (frs X.stack) fp H H' s.heap G := {
      keep := fun b o e n hb hx => by rw [gk b (neS e)]; exact base.keep b o e n hb hx
      slot := fun b o e n hb hx => by rw [gk b (neS e)]; exact base.slot b o e n hb hx
      free := base.free
      there := fun b o e hx => by rw [gk b (neS e)]; exact base.there b o e hx
      tups := base.tups
      frzs := base.frzs
      tbls := base.tbls }
    have hokG : HOk X.prog X.w H' G := fun b o e => (I.hok b o e).stay (fun c v hc q => by
        rw [gk c ?_]
        · exact q
        · rintro rfl
          rcases hc with hc | hc
          · rw [← hc, nC] at e; cases e
          · rw [nC] at hc; cases hc) (fun _ q => q) fun _ _ q => q
    have J : Inv X pins σ H' { sI with heap := G } := I3.call' (ch := fp) osI unG hokG I.bare fun b hb => ⟨(f3 b hb).1.2.2.2.1, (f3 b hb).1.2.1, (f3 b hb).1.2.2.2.2.1, (f3 b hb).1.2.2.2.2.2⟩
    refine ⟨a, B', { sI with heap := G }, pins, σ, H', cls, d, rfl, J, fun b o e hb => by rw [bk b (go b o e).2]; exact nb b o (go b o e).1 hb, fun b o e hnf => ?_, .inr (.inr (by rw [hst]; exact hh3)), na, os, ag, w⟩
    obtain ⟨e', ne⟩ := go b o e
    obtain ⟨sl, q⟩ := up2 b o e' hnf
    have q2 : h2.get? b = some { o with slots := sl } := (sb.2 b ne).trans q
    obtain ⟨sl2, q3⟩ := up3 b _ q2 hnf
    exact ⟨sl2, q3⟩
  rw [hst] at sky
  rcases sky with ⟨hB, hn, hl, oe, vs, he, hz, hd, h1⟩ | ⟨f1, f2, f3', f4⟩ | ⟨f1, f2, f3', f4⟩
  · exact HandSPX.look_newZ Zc.steady frames hl hf0 he hB hn hd h1 hz fin
  · exact note_anyZ Zc.steady frames hf0 f1 f2 f3' f4 fin
  · exact note_anyZ Zc.steady frames hf0 f1 f2 f3' f4 fin
/-- [e for x in ..] as a value, where e may let an exception out -/
theorem pe_lcX {elt tg iter : Expr} {ifs : List Expr} {scope : Scope} {own : List (Str × Nat)} {pos : Pos} {wi : TI} {g : TG} {tt : TT} {te : L2.St → TE} {Wd : WX} (calm : X.calm = true) (nd : X.N.Nodup) {e0 : Env} {rest : List Env} {L : Addr} (hst : X.stack = e0 :: rest) (hf0 : e0.frame = some L) (hfr : X.env.frame = some L) (tk : TakesF X Wd L)
    (it : PI X tg iter wi) (blk : BlkOk X.N X.env.scope scope own)
    (hg : ∀ (σ : L2.St) (s : Shared) (H : Hp) (C : Addr) (cl : List (Str × Addr)) (fp : List Addr), PG (blkW X (wbX X (fun cls d H' => Wd cls d σ H') scope) s H scope (compEnvC scope cl C X.env) fp) tg g)
    (ht : ∀ (σ : L2.St) (s : Shared) (H : Hp) (C : Addr) (cl : List (Str × Addr)) (fp : List Addr), PTs (blkW X (wbX X (fun cls d H' => Wd cls d σ H') scope) s H scope (compEnvC scope cl C X.env) fp) ifs tt)
    (he : ∀ (σ : L2.St) (s : Shared) (H : Hp) (C : Addr) (cl : List (Str × Addr)) (fp : List Addr), PE (blkW X (wbX X (fun cls d H' => Wd cls d σ H') scope) s H scope (compEnvC scope cl C X.env) fp) elt (te σ)) (hs : ∀ x, foldedSetIterable iter X.env x = pure x := by intro _; rfl) :
    PE X (.ListComp elt [⟨tg, iter, ifs, 0⟩] scope pos) (fun σ => tLc wi g tt (te σ) (own.map (·.2)) σ) := by
  refine ⟨fun pins s σ H Q I h => ?_⟩
  rw [eval_ListComp]
  refine lcx_core (wb := wbX X (fun cls d H' => Wd cls d σ H') scope) calm nd I it blk (hg σ) (fun s H C cl fp _ _ => ht σ s H C cl fp) (fun s H C cl fp _ _ => he σ s H C cl fp) hs h (fun D C s' m H' I' q hn f => ⟨m, hn, fun h'' sb => ?_⟩) fun s0 H0 cl fp D I0 f0 u s' hw => ?_
  · obtain ⟨f0, f1, f2, f3, f4, f5⟩ := f
    exact ⟨.ref D, H', I'.turned (t' := s'.toks) (fun b o hb e => (sb.2 b hb).trans e) f0 f1 f3 f4 f5, rfl, q⟩
  · exact comp_out hst hf0 hfr tk I0 f0 u s' hw
/-- the same, with a wish that looks at no slots -/
theorem pe_lcY {elt tg iter : Expr} {ifs : List Expr} {scope : Scope} {own : List (Str × Nat)} {pos : Pos} {wi : TI} {g : TG} {tt : TT} {te : TE} {W : Value → Option Addr → Hp → Prop} {e0 : Env} {rest : List Env} {L : Addr} (calm : X.calm = true) (nd : X.N.Nodup) (hst : X.stack = e0 :: rest) (hf0 : e0.frame = some L) (hfr : X.env.frame = some L)
    (tk : TakesF X (fun cls d _ H' => W cls d H') L) (it : PI X tg iter wi) (blk : BlkOk X.N X.env.scope scope own)
    (hg : ∀ (s : Shared) (H : Hp) (C : Addr) (cl : List (Str × Addr)) (fp : List Addr), PG (blkW X (wbX X W scope) s H scope (compEnvC scope cl C X.env) fp) tg g)
    (ht : ∀ (s : Shared) (H : Hp) (C : Addr) (cl : List (Str × Addr)) (fp : List Addr), PTs (blkW X (wbX X W scope) s H scope (compEnvC scope cl C X.env) fp) ifs tt)
    (he : ∀ (s : Shared) (H : Hp) (C : Addr) (cl : List (Str × Addr)) (fp : List Addr), PE (blkW X (wbX X W scope) s H scope (compEnvC scope cl C X.env) fp) elt te) (hs : ∀ x, foldedSetIterable iter X.env x = pure x := by intro _; rfl) :
    PE X (.ListComp elt [⟨tg, iter, ifs, 0⟩] scope pos) (tLc wi g tt te (own.map (·.2))) :=
  pe_lcX (te := fun _ => te) (Wd := fun cls d _ H' => W cls d H') calm nd hst hf0 hfr tk it blk (fun _ => hg) (fun _ => ht) (fun _ => he) hs
end
end Tk

set_option Elab.async false
set_option linter.all false
set_option maxRecDepth 100000
set_option maxHeartbeats 4000000
/-! thing_of -/
namespace Tk
open PySem PySem.Spec PyProof.Rows L2 SX TL
/-- x is the argument t -/
def IsTh (H : Hp) (x : V) : Th → Prop
  | .non => x = .non
  | .bl b => x = .bl b
  | .int i => x = .int i
  | .str s => x = .str (S s)
  | .clk n i => ∃ p, x = .ref p ∧ H p = some (.tup [.str (S n), .int i])
  | .lst is => ∃ p, x = .ref p ∧ H p = some (.lst (is.map V.int))
theorem IsTh.same {H H' : Hp} {x : V} {t : Th} (e : Same H H') (h : IsTh H x t) : IsTh H' x t := by
  cases t with
  | clk n i => obtain ⟨p, a, b⟩ := h; exact ⟨p, a, e _ _ b⟩
  | lst is => obtain ⟨p, a, b⟩ := h; exact ⟨p, a, e _ _ b⟩
  | _ => exact h
theorem in_strs (l : List Nat) : ∀ ws : List (List Nat), inV (.str (S l)) (ws.map fun a => V.str (S a)) = decide (l ∈ ws)
  | [] => by simp [inV]
  | a :: ws => by
    have ih := in_strs l ws
    unfold inV at ih ⊢
    rw [List.map_cons, List.any_cons, ih]
    show ((S a == S l) || decide (l ∈ ws)) = _
    rw [S_beq_eq]
    by_cases h : a = l
    · subst h; simp
    · rw [decide_eq_false h, Bool.false_or]
      refine decide_eq_decide.mpr ?_
      rw [List.mem_cons]
      exact ⟨.inr, fun z => z.resolve_left fun e => h e.symm⟩
theorem numQ_num {l : List Nat} (h : isNum l = true) : numQ l = .int (numV l) := by
  unfold numQ numOf
  rw [if_pos h]
theorem numQ_non {l : List Nat} (h : isNum l = false) : numQ l = .non := by
  unfold numQ numOf
  rw [h]
  rfl
/-- x is new: nothing stood there before -/
def NewV (H : Hp) (x : V) : Prop := ∀ p, x = .ref p → H p = none
theorem newV_at {H : Hp} {p : Addr} (h : H p = none) : NewV H (.ref p) := fun q e => by cases e; exact h
theorem IsTh.hd {M : List Addr} {H : Hp} {x : V} {t : Th} (h : IsTh H x t) (n : ∀ p, x = .ref p → p ∉ M) : IsTh (Hd M H) x t := by
  cases t with
  | clk m i => obtain ⟨p, a, b⟩ := h; exact ⟨p, a, by rw [Hd_of (n p a)]; exact b⟩
  | lst is => obtain ⟨p, a, b⟩ := h; exact ⟨p, a, by rw [Hd_of (n p a)]; exact b⟩
  | _ => exact h
def nqV : V → V
  | .str x => numQ x.cps.toList
  | _ => .non
theorem flat_nums (ps : List (List Nat)) : (ps.map numQ).all flatV = true := by
  rw [List.all_map, List.all_eq_true]
  intro p _
  show flatV (numQ p) = true
  unfold numQ
  split <;> rfl
theorem in_nums (ps : List (List Nat)) : inV .non (ps.map numQ) = !(ps.all isNum) := by
  unfold inV
  induction ps with
  | nil => rfl
  | cons p ps ih =>
    rw [List.map_cons, List.any_cons, ih, List.all_cons]
    cases h : isNum p with
    | true => rw [numQ_num h]; rfl
    | false => rw [numQ_non h]; rfl
section
variable {P : Program} {w : World} {K : PySem.W.Frag} {mg : Str → Option Value} {base : Heap} {C : Addr}
def spThing (C : Addr) : Sp := fun vs H Q E => ∃ (l : List Nat) (i : Int), vs = [.str (S l), .int i] ∧ l.length ≤ 1000000 ∧ (∀ t, readTh l = some t → ∀ H' x, Fr [] H H' → IsTh H' x t → NewV H x → Q x H') ∧
  (readTh l = none → ∀ H' d, Fr [] H H' → H' d = none → E (.ref C) (some d) (upd H' d (.xd [("line", .int i)])))
theorem sc_thing : FnScope ["word", "line", "name", "found", "number", "one"] ["word", "line"] (defScope s_thing_of) := ⟨rfl, rfl, rfl, by decide +kernel, rfl, by decide +kernel, by decide +kernel⟩
theorem ok_thing (F : FunAt K mg "thing_of" s_thing_of) (G : NoGl mg) (NR : NoRowX P K mg C) (C_number_of : Cal P w K mg base CX0 1 "number_of" ["word"] [] spNumOf) : Cal P w K mg base (L2.CX P w) 3 "thing_of" ["word", "line"] [] (spThing C) := by
  refine Cal.mkX F sc_thing (by rintro _ _ _ _ ⟨_, _, rfl, _⟩; rfl) (fun _ _ _ _ _ _ us hl => match us, hl with | [_, _], _ => rfl) ?_
  rintro f cdv A outer s H vs Q E hr ⟨l, i, rfl, hz, qq, qe⟩
  have nd := sc_thing.nd
  have hS : (S l).length ≤ sizeLine := by rw [S_len, sizeLine_eq]; omega
  suffices rest : ∃ t2, PSs (cxOf (L2.CX P w) P w K mg base ["word", "line", "name", "found", "number", "one"] "thing_of" (defScope s_thing_of) f cdv A outer s H E) ((defBody s_thing_of).drop 5) t2 ∧
      ∀ s3 Hx, Fr [] H Hx → (readTh l = if clkOk cThread l = true then some (.clk cThread (numV (l.drop 7))) else if clkOk cProcess l = true then some (.clk cProcess (numV (l.drop 8))) else none) →
        t2 { nx := fun _ H' => Q .non H', rt := Q } [some (.str (S l)), some (.int i), none, s3, none, none] Hx by
    obtain ⟨t2, pr, q2⟩ := rest
    refine ⟨_, pss_cons
    (ps_if (pt_cmpR op_in_seq (pv 0) (pe_tup (pa_cons pe_str (pa_cons pe_str (pa_cons pe_str pa_nil)))) rfl)
      (pss_one (ps_ret (pe_dget (hu_of hr) (pe_disp (pps_cons pe_str pe_non (pps_cons pe_str pe_bl (pps_cons pe_str pe_bl pps_nil))) (by rfl) (by rfl) (fun z => by cases z) (by decide)) (pv 0) (fun _ _ => rfl))))
      pss_nil)
      (pss_cons
    (ps_if (pt_cmpR op_in_seq (pv 0) (pe_tup (pa_cons pe_str (pa_cons pe_str (pa_cons pe_str pa_nil)))) rfl)
      (pss_one (ps_ret (pv 0)))
      pss_nil)
      (pss_cons
    (ps_if (pt_cmp (pc_notN (pe_c C_number_of (hr.mono (by decide)) (by rfl) pass0 (pa_cons (pv 0) pa_nil))) rfl)
      (pss_one (ps_ret (pe_c C_number_of (hr.mono (by decide)) (by rfl) pass0 (pa_cons (pv 0) pa_nil))))
      pss_nil)
      (pss_cons
    (ps_if (pt_cmpR op_eq (pv 0) pe_str (nomark _))
      (pss_one (ps_ret (pe_lst pa_nil)))
      pss_nil)
      (pss_cons
    (ps_if (PW.pt (pw_and (pt_cmpR op_eq (pe_slice sl_str (pv 0) po_none (po_some pe_int)) pe_str (nomark _)) (pw_and1 (pt_cmpR op_eq (pe_slice sl_str (pv 0) (po_some (pe_un un_neg pe_int)) po_none) pe_str (nomark _)))))
      (pss_cons (ps_setLc (i := 3) (own := [("one", 5)]) (g := gName 5) (tt := tYes) rfl nd rfl rfl (sw_true rfl rfl rfl (by decide +kernel)) (pi_list (pe_split (pe_slice sl_str (pv 0) (po_some pe_int) (po_some (pe_un un_neg pe_int))) pe_str))
        (blkOk_by (own := [("one", 5)]) (N := ["word", "line", "name", "found", "number", "one"]) (sc := defScope s_thing_of) (by decide +kernel))
        (fun _ _ _ _ _ => (pg_name (i := 5) nd rfl (.inl rfl) (Or.inr rfl))) (fun _ _ _ _ _ => pts_nil)
        (fun _ _ _ _ _ => (pe_c C_number_of (hr.mono (by decide)) (by rfl) pass0 (pa_cons (pv 5) pa_nil))))
      (pss_one (ps_if (pt_cmpR op_notIn_seq pe_non (pv 3) rfl)
        (pss_one (ps_ret (pv 3)))
        pss_nil)))
      pss_nil)
      pr)))), ?_⟩
    refine ⟨_, rfl, (by show 3 ≤ sizeLine; decide), fun p1 n1 => ?_⟩
    have f1 := Fr.new (M := []) (o := .tup [V.str "none", V.str "yes", V.str "no"]) n1
    refine ⟨p1, _, rfl, .inr (SqT.of upd_same), rfl, rfl, _, rfl, ?_⟩
    rw [show (if false = true then !inV (V.str (S l)) [V.str "none", V.str "yes", V.str "no"] else inV (V.str (S l)) [V.str "none", V.str "yes", V.str "no"]) = decide (l ∈ [cNone, cYes, cNo]) from in_strs l [cNone, cYes, cNo]]
    generalize upd H p1 _ = Ha at f1 ⊢
    refine ite2 (fun c => ?_) (fun c0 => ?_)
    · have c := of_decide_eq_true c
      intro p2 n2
      have f2 : Fr [] Ha (upd (upd Ha p2 (.dK [])) p2 (.dK (mergeK [] [((Sum.inr "none" : Key), V.non), (Sum.inr "yes", V.bl true), (Sum.inr "no", V.bl false)]))) := Fr.drop ((Fr.new n2).weak.trans (Fr.set (List.mem_singleton.mpr rfl))) n2
      refine ⟨upd_same, [((Sum.inr "none" : Key), V.non), (Sum.inr "yes", V.bl true), (Sum.inr "no", V.bl false)], rfl, (by decide), _, rfl, p2, ?_⟩
      rcases List.mem_cons.mp c with rfl | c
      · exact ⟨_, rfl, DGet.k (k := Sum.inr "none") upd_same, qq .non rfl _ _ (f1.trans f2) rfl (fun _ e => nomatch e)⟩
      rcases List.mem_cons.mp c with rfl | c
      · exact ⟨_, rfl, DGet.k (k := Sum.inr "yes") upd_same, qq (.bl true) rfl _ _ (f1.trans f2) rfl (fun _ e => nomatch e)⟩
      obtain rfl := List.mem_singleton.mp c
      exact ⟨_, rfl, DGet.k (k := Sum.inr "no") upd_same, qq (.bl false) rfl _ _ (f1.trans f2) rfl (fun _ e => nomatch e)⟩
    have c0 : l ∉ [cNone, cYes, cNo] := fun z => c0 (decide_eq_true z)
    simp only [List.mem_cons, List.not_mem_nil, or_false, not_or] at c0
    obtain ⟨d1, d2, d3⟩ := c0
    refine ⟨_, rfl, (by show 3 ≤ sizeLine; decide), fun p2 n2 => ?_⟩
    have f2 := f1.trans (Fr.new (M := []) (o := .tup [V.str "steady", V.str "real", V.str "boot"]) n2)
    refine ⟨p2, _, rfl, .inr (SqT.of upd_same), rfl, rfl, _, rfl, ?_⟩
    rw [show (if false = true then !inV (V.str (S l)) [V.str "steady", V.str "real", V.str "boot"] else inV (V.str (S l)) [V.str "steady", V.str "real", V.str "boot"]) = decide (l ∈ [cSteady, cReal, cBoot]) from in_strs l [cSteady, cReal, cBoot]]
    generalize upd Ha p2 _ = Hb at f2 ⊢
    refine ite2 (fun c => ?_) (fun c0 => ?_)
    · have c : l = cSteady ∨ l = cReal ∨ l = cBoot := by simpa using of_decide_eq_true c
      exact ⟨_, rfl, qq (.str l) (by unfold readTh; rw [if_neg d1, if_neg d2, if_neg d3, if_pos c]) _ _ f2 rfl (fun _ e => nomatch e)⟩
    have d4 : ¬ (l = cSteady ∨ l = cReal ∨ l = cBoot) := fun z => c0 (decide_eq_true (by simpa using z))
    refine ⟨_, rfl, l, rfl, hz, fun Hc f3 => ?_⟩
    cases hn : isNum l with
    | true =>
      rw [numQ_num hn]
      refine ⟨true, rfl, _, rfl, l, rfl, hz, fun Hd f4 => ?_⟩
      rw [numQ_num hn]
      exact qq (.int (numV l)) (by unfold readTh; rw [if_neg d1, if_neg d2, if_neg d3, if_neg d4, if_pos hn]) _ _ (f2.trans (f3.trans f4)) rfl (fun _ e => nomatch e)
    | false =>
      rw [numQ_non hn]
      have d5 : ¬ isNum l = true := by rw [hn]; exact Bool.false_ne_true
      have f3 := f2.trans f3
      refine ⟨false, rfl, ?_⟩
      refine ⟨_, rfl, rfl, _, rfl, ?_⟩
      rw [show (decide (V.str (S l) = V.str "[]")) = decide (l = cNil) from vstr_dec (a := l) (b := cNil)]
      refine ite2 (fun c => ?_) (fun c => ?_)
      · have c := of_decide_eq_true c
        refine ⟨(by show 0 ≤ sizeLine; decide), fun p hp => qq (.lst []) (by unfold readTh; rw [if_neg d1, if_neg d2, if_neg d3, if_neg d4, if_neg d5, if_pos c]) _ _ (f3.trans (Fr.new hp)) ⟨p, rfl, upd_same⟩ (newV_at (f3.none hp))⟩
      have d6 : l ≠ cNil := fun z => c (decide_eq_true z)
      refine ⟨_, rfl, 1, rfl, S l, rfl, hS, rfl, _, rfl, ?_⟩
      rw [show cutS (S l) none (some 1) = S (l.take 1) from cut_head l 1, show (decide (V.str (S (l.take 1)) = V.str "[")) = decide (l.take 1 = [91]) from vstr_dec (a := l.take 1) (b := [91])]
      have noBr : isBr l = false → readTh l = if clkOk cThread l = true then some (.clk cThread (numV (l.drop 7))) else if clkOk cProcess l = true then some (.clk cProcess (numV (l.drop 8))) else none := fun e => by
        unfold readTh
        rw [if_neg d1, if_neg d2, if_neg d3, if_neg d4, if_neg d5, if_neg d6, if_neg (fun z => by rw [e] at z; exact Bool.false_ne_true z.1)]
      cases b1 : decide (l.take 1 = [91]) with
      | false => exact q2 _ _ f3 (noBr (by unfold isBr; rw [b1]; rfl))
      | true =>
        refine ⟨_, rfl, 1, rfl, -1, rfl, S l, rfl, hS, rfl, _, rfl, ?_⟩
        rw [cut_last, show (decide (V.str (S (l.drop (l.length - 1))) = V.str "]")) = decide (l.drop (l.length - 1) = [93]) from vstr_dec (a := l.drop (l.length - 1)) (b := [93])]
        cases b2 : decide (l.drop (l.length - 1) = [93]) with
        | false => exact q2 _ _ f3 (noBr (by unfold isBr; rw [b1, b2]; rfl))
        | true =>
          have hb : isBr l = true := by unfold isBr; rw [b1, b2]; rfl
          refine ⟨_, rfl, 1, rfl, 1, rfl, -1, rfl, S l, rfl, hS, ?_⟩
          rw [cut_inner]
          have hin : (inner l).length ≤ l.length := by unfold inner; rw [List.length_take, List.length_drop]; omega
          refine ⟨⟨_, rfl⟩, S (inner l), S [44], rfl, rfl, rfl, by rw [S_len, sizeLine_eq]; omega, fun p4 n4 => ?_⟩
          rw [show Txt.split (S (inner l)) (S [44]) = (parts l).map S from split_S (by simp) (by decide)]
          have f4 := f3.trans (Fr.new (M := []) (o := .lst (((parts l).map S).map V.str)) n4)
          have h4 : (upd Hc p4 (.lst (((parts l).map S).map V.str))) p4 = some (.lst (((parts l).map S).map V.str)) := upd_same
          generalize upd Hc p4 _ = Hd at f4 h4 ⊢
          have hpl : ∀ a ∈ parts l, a.length ≤ 1000000 := fun a ha => by
            have := part_short (x := S (inner l)) (y := S [44]) (a := S a) (by rw [split_S (by simp) (by decide)]; exact List.mem_map_of_mem ha)
            rw [S_len, S_len] at this
            omega
          have hpn : (parts l).length ≤ l.length + 2 := by
            have := split_le (S (inner l)) (S [44])
            rw [split_S (by simp) (by decide), List.length_map, S_len] at this
            exact Nat.le_trans this (by omega)
          refine ⟨p4, rfl, ⟨_, SqL.of h4⟩, fun D hD => ?_⟩
          refine lc_listR (K := K) (fun _ => true) (fun x y _ => y = nqV x) (fun _ _ _ _ _ h => h) hD (by rw [List.length_map, List.length_map, sizeLine_eq]; omega) (fun _ => rfl) (fun x H' Q' _ _ _ h => h H' (Fr.refl _ _)) ?_ ?_ (SqL.of h4)
          · intro y H' Q' hy _ fr _ hq
            rw [List.map_map] at hy
            obtain ⟨a, ha, rfl⟩ := List.mem_map.mp hy
            exact ⟨_, rfl, a, rfl, hpl a ha, fun H2 fr2 => hq _ _ fr2 rfl⟩
          · intro H2 ys hD2 fr2 md
            have e : ys = (parts l).map numQ := by
              have e := md.pure (f := nqV) (fun _ _ _ h => h)
              rw [List.filter_eq_self.mpr (fun _ _ => rfl), List.map_map, List.map_map] at e
              rw [e]
              rfl
            subst e
            have f5 := f4.trans fr2
            refine ⟨_, rfl, D, _, rfl, .inl (SqL.of hD2), rfl, flat_nums _, _, rfl, ?_⟩
            rw [if_pos rfl, in_nums, Bool.not_not]
            cases ha : (parts l).all isNum with
            | true =>
              refine ⟨_, rfl, qq (.lst ((parts l).map numV)) (by unfold readTh; rw [if_neg d1, if_neg d2, if_neg d3, if_neg d4, if_neg d5, if_neg d6, if_pos ⟨hb, ha⟩]) _ _ f5 ⟨D, rfl, ?_⟩ (newV_at (f4.none hD))⟩
              rw [hD2, List.map_map]
              exact congrArg (fun z => some (HO.lst z)) (List.map_congr_left fun a h => numQ_num (List.all_eq_true.mp ha a h))
            | false =>
              exact q2 _ _ f5 (by unfold readTh; rw [if_neg d1, if_neg d2, if_neg d3, if_neg d4, if_neg d5, if_neg d6, if_neg (fun z => by rw [ha] at z; exact Bool.false_ne_true z.2)])
  refine ⟨_, (pss_cons (ps_for (passes_of rfl) rfl (pi_tup (pe_tup (pa_cons pe_str (pa_cons pe_str pa_nil)))) (pg_name (i := 2) nd rfl (.inl rfl))
      (pss_cons (ps_set (i := 4) nd rfl (.inl rfl) (pe_c C_number_of (hr.mono (by decide)) (by rfl) pass0 (pa_cons (pe_slice sl_str (pv 0) (po_some (pe_op op_add (pe_callB call_len_str (by rfl) G.len (by decide +kernel) (pa_cons (pv 2) pa_nil)) pe_int)) po_none) pa_nil)))
      (pss_one (ps_if (PW.pt (pw_and (pt_cmpR op_eq (pe_slice sl_str (pv 0) po_none (po_some (pe_op op_add (pe_callB call_len_str (by rfl) G.len (by decide +kernel) (pa_cons (pv 2) pa_nil)) pe_int))) (pe_op op_add_str (pv 2) pe_str) (nomark _)) (pw_and (pt_cmp (pc_notN (pv 4)) rfl) (pw_and1 (pt_cmpR op_ge (pv 4) pe_int (nomark _))))))
        (pss_one (ps_ret (pe_tup (pa_cons (pv 2) (pa_cons (pv 4) pa_nil)))))
        pss_nil))))
    (pss_one (ps_raise rfl (takes_of rfl rfl rfl rfl) (pmk_row2 NR hr _ (i := 1) rfl (.inl rfl))))), ?_⟩
  intro s3 Hx fx hcl
  refine ⟨(by show 2 ≤ sizeLine; decide), fun p3 n3 => ⟨p3, rfl, ⟨_, SqT.of upd_same⟩, ?_⟩⟩
  have f0 := fx.trans (Fr.new (M := []) (o := .tup [V.str "thread", V.str "process"]) n3)
  have h0 : (upd Hx p3 (.tup [V.str "thread", V.str "process"])) p3 = some (.tup [V.str "thread", V.str "process"]) := upd_same
  generalize upd Hx p3 _ = Hy at f0 h0 ⊢
  refine for_tup (K := K) (a := p3) (xs := [V.str "thread", V.str "process"]) (fun j σ Hz => ∃ s2 s4, σ = [some (.str (S l)), some (.int i), s2, s3, s4, none] ∧ Fr [] Hy Hz ∧ (0 < j → clkOk cThread l = false) ∧ (1 < j → clkOk cProcess l = false))
    ⟨_, _, rfl, Fr.refl _ _, fun z => absurd z (Nat.lt_irrefl _), fun z => absurd z (by decide)⟩ (fun j σ Hz hj hp => ?_) (fun j x σ Hz hx hp => ?_) (fun σ Hz hp => ?_)
  · obtain ⟨_, _, _, fz, _⟩ := hp
    exact SqT.of (fz.same _ _ h0)
  · obtain ⟨s2, s4, rfl, fz, g1, g2⟩ := hp
    have fz' := f0.trans fz
    obtain ⟨n, rfl, hn, hl7⟩ : ∃ n : List Nat, x = .str (S n) ∧ ((j = 0 ∧ n = cThread) ∨ (j = 1 ∧ n = cProcess)) ∧ n.length ≤ 8 := by
      match j, hx with
      | 0, hx => cases hx; exact ⟨cThread, rfl, .inl ⟨rfl, rfl⟩, by decide⟩
      | 1, hx => cases hx; exact ⟨cProcess, rfl, .inr ⟨rfl, rfl⟩, by decide⟩
      | j + 2, hx => simp at hx
    have hSn : (S n).length ≤ sizeLine := by rw [S_len, sizeLine_eq]; omega
    refine ⟨_, rfl, _, rfl, _, rfl, hSn, _, _, rfl, rfl, _, rfl, S l, rfl, hS, ?_⟩
    have eD : cutS (S l) (some (((S n).length : Int) + 1)) none = S (l.drop (n.length + 1)) := by rw [S_len]; exact cut_tail l (n.length + 1)
    have eT : cutS (S l) none (some (((S n).length : Int) + 1)) = S (l.take (n.length + 1)) := by rw [S_len]; exact cut_head l (n.length + 1)
    rw [eD]
    obtain ⟨r, hr'⟩ : ∃ r, l.drop (n.length + 1) = r := ⟨_, rfl⟩
    have hrl : r.length ≤ 1000000 := by rw [← hr', List.length_drop]; omega
    rw [hr']
    refine ⟨r, rfl, hrl, fun Hw f6 => ?_⟩
    have f6' := fz'.trans f6
    refine ⟨_, rfl, _, rfl, _, rfl, hSn, _, _, rfl, rfl, _, rfl, S l, rfl, hS, ?_⟩
    rw [eT]
    refine ⟨_, rfl, S n, S [58], rfl, rfl, by rw [S_len, S_len, sizeLine_eq]; simp; omega, rfl, _, rfl, ?_⟩
    rw [S_cat, vstr_dec]
    have next : clkOk n l = false → ∀ s4, ∃ s2 s4', ([some (V.str (S l)), some (V.int i), some (V.str (S n)), s3, s4, none] : L2.St) = [some (.str (S l)), some (.int i), s2, s3, s4', none] ∧ Fr [] Hy Hw ∧ (0 < j + 1 → clkOk cThread l = false) ∧ (1 < j + 1 → clkOk cProcess l = false) := fun e s4 => by
      refine ⟨_, _, rfl, fz.trans f6, fun _ => ?_, fun z => ?_⟩
      · rcases hn with ⟨rfl, rfl⟩ | ⟨rfl, rfl⟩
        · exact e
        · exact g1 (by decide)
      · rcases hn with ⟨rfl, rfl⟩ | ⟨rfl, rfl⟩
        · omega
        · exact e
    cases b1 : decide (l.take (n.length + 1) = n ++ [58]) with
    | false => exact next (by unfold clkOk; rw [b1]; rfl) _
    | true =>
      cases hnum : isNum r with
      | false =>
        rw [numQ_non hnum]
        exact ⟨_, rfl, false, rfl, next (by unfold clkOk; rw [hr', hnum, b1]; rfl) _⟩
      | true =>
        rw [numQ_num hnum]
        refine ⟨_, rfl, true, rfl, _, rfl, _, _, rfl, rfl, _, rfl, ?_⟩
        cases b2 : decide (0 ≤ numV r) with
        | false => exact next (by unfold clkOk; rw [hr', hnum, b1, b2]; rfl) _
        | true =>
          have hc : clkOk n l = true := by unfold clkOk; rw [hr', hnum, b1, b2]; rfl
          refine ⟨_, rfl, _, rfl, (by show 2 ≤ sizeLine; decide), fun pt nt => qq (.clk n (numV r)) ?_ _ _ (f6'.trans (Fr.new nt)) ⟨pt, rfl, upd_same⟩ (newV_at (f6'.none nt))⟩
          rw [hcl]
          rcases hn with ⟨rfl, rfl⟩ | ⟨rfl, rfl⟩
          · rw [if_pos hc, ← hr']; rfl
          · rw [if_neg (by rw [g1 (by decide)]; exact Bool.false_ne_true), if_pos hc, ← hr']; rfl
  · obtain ⟨s2, s4, rfl, fz, g1, g2⟩ := hp
    have g1 := g1 (by decide)
    have g2 := g2 (by decide)
    exact ⟨i, rfl, fun d hd => qe (by rw [hcl, if_neg (by rw [g1]; exact Bool.false_ne_true), if_neg (by rw [g2]; exact Bool.false_ne_true)]) _ _ (f0.trans fz) hd⟩
end
end Tk

set_option Elab.async false
set_option linter.all false
set_option maxRecDepth 100000
set_option maxHeartbeats 4000000
/-! is_clock_pair, word_of -/
namespace Tk
open PySem PySem.Spec PyProof.Rows L2 SX TL
/-- what may be asked for its word -/
inductive Arg (H : Hp) : V → Prop where
  | non : Arg H .non
  | bl (b : Bool) : Arg H (.bl b)
  | int (i : Int) : Arg H (.int i)
  | str (x : Str) : Arg H (.str x)
  | tup {a : Addr} {xs : List V} (h : H a = some (.tup xs)) (k : ∀ y, y ∈ xs → ∃ t, Kd H y t) (z : xs.length < 1000000) : Arg H (.ref a)
  | lst {a : Addr} {xs : List V} (h : H a = some (.lst xs)) (k : ∀ y, y ∈ xs → ∃ t, Kd H y t) (z : xs.length < 1000000) : Arg H (.ref a)
  | dK {a : Addr} {kvs : List (Key × V)} (h : H a = some (.dK kvs)) : Arg H (.ref a)
theorem Arg.same {H H' : Hp} {x : V} (e : Same H H') (h : Arg H x) : Arg H' x := by
  cases h with
  | non => exact .non
  | bl b => exact .bl b
  | int i => exact .int i
  | str y => exact .str y
  | tup h k z => exact .tup (e _ _ h) (fun y hy => let ⟨t, kt⟩ := k y hy; ⟨t, kt.same e⟩) z
  | lst h k z => exact .lst (e _ _ h) (fun y hy => let ⟨t, kt⟩ := k y hy; ⟨t, kt.same e⟩) z
  | dK h => exact .dK (e _ _ h)
theorem Arg.kd {H : Hp} {x : V} (h : Arg H x) : ∃ t, Kd H x t := by
  cases h with
  | non => exact ⟨_, .non⟩
  | bl b => exact ⟨_, .bl b⟩
  | int i => exact ⟨_, .int i⟩
  | str y => exact ⟨_, .str y⟩
  | tup h k z => exact ⟨_, .tup h⟩
  | lst h k z => exact ⟨_, .lst h⟩
  | dK h => exact ⟨_, .dK h⟩
def isClkName (n : List Nat) : Bool := decide (n ∈ [cThread, cProcess])
def clkL : List V → Option (List Nat)
  | [.str n, .int i] => if (isClkName n.cps.toList && (shortI i && decide (0 ≤ i))) = true then some (n.cps.toList ++ [58] ++ showI i) else none
  | _ => none
def showV : V → List Nat
  | .int i => showI i
  | _ => []
def lstL (xs : List V) : Option (List Nat) := if xs.all shortV = true then some ([91] ++ joinL [44] (xs.map showV) ++ [93]) else none
def refW : Option HO → Option (List Nat)
  | some (.tup xs) => clkL xs
  | some (.lst xs) => lstL xs
  | _ => none
/-- the word of x, if it has one -/
def wordO (H : Hp) : V → Option (List Nat)
  | .non => some cNone
  | .bl b => some (if b then cYes else cNo)
  | .int i => if shortI i = true then some (showI i) else none
  | .str s => if s.cps.toList ∈ [cSteady, cReal, cBoot] then some s.cps.toList else none
  | .ref a => refW (H a)
  | _ => none
theorem wordO_same {H H' : Hp} {x : V} (e : Same H H') (h : Arg H x) : wordO H' x = wordO H x := by
  cases h with
  | tup h k z => show refW (H' _) = refW (H _); rw [h, e _ _ h]
  | lst h k z => show refW (H' _) = refW (H _); rw [h, e _ _ h]
  | dK h => show refW (H' _) = refW (H _); rw [h, e _ _ h]
  | _ => rfl
theorem wordO_tup {H : Hp} {a : Addr} {xs : List V} (h : H a = some (.tup xs)) : wordO H (.ref a) = clkL xs := by show refW (H a) = _; rw [h]; rfl
theorem wordO_lst {H : Hp} {a : Addr} {xs : List V} (h : H a = some (.lst xs)) : wordO H (.ref a) = lstL xs := by show refW (H a) = _; rw [h]; rfl
theorem wordO_dK {H : Hp} {a : Addr} {kvs : List (Key × V)} (h : H a = some (.dK kvs)) : wordO H (.ref a) = none := by show refW (H a) = _; rw [h]; rfl
/-- how long lists are when written -/
def refWt : Option HO → Nat
  | some (.lst xs) => (xs.map fun v => (showV v).length).sum + xs.length
  | _ => 0
def wtV (H : Hp) : V → Nat
  | .ref a => refWt (H a)
  | _ => 0
theorem wtV_lst {H : Hp} {a : Addr} {xs : List V} (h : H a = some (.lst xs)) : wtV H (.ref a) = (xs.map fun v => (showV v).length).sum + xs.length := by show refWt (H a) = _; rw [h]; rfl
section
variable {P : Program} {w : World} {K : PySem.W.Frag} {mg : Str → Option Value} {base : Heap} {C : Addr}
def spClk : Sp := fun vs H Q _ => ∃ x, vs = [x] ∧ Arg H x ∧ ((∃ a xs, x = .ref a ∧ H a = some (.tup xs) ∧ ∀ H', Fr [] H H' → Q (.bl (clkL xs).isSome) H') ∨ ((∀ a xs, x = .ref a → H a ≠ some (.tup xs)) ∧ ∀ H', Fr [] H H' → Q (.bl false) H'))
theorem sc_clk : FnScope ["thing", "good"] ["thing"] (defScope s_is_clock_pair) := ⟨rfl, rfl, rfl, by decide +kernel, rfl, by decide +kernel, by decide +kernel⟩
theorem ok_clk (F : FunAt K mg "is_clock_pair" s_is_clock_pair) (G : NoGl mg) (C_is_short : Cal P w K mg base CX0 2 "is_short" ["thing"] [] spShort) : Cal P w K mg base CX0 3 "is_clock_pair" ["thing"] [] spClk := by
  refine Cal.mk0 F sc_clk (by rintro _ _ _ _ ⟨_, rfl, _⟩; rfl) (fun _ _ _ _ _ _ us hl => match us, hl with | [_], _ => rfl) ?_
  rintro f cdv A outer s H vs Q E hr ⟨x, rfl, ha, q⟩
  have nd := sc_clk.nd
  refine ⟨_, (pss_cons (ps_set (i := 1) nd rfl (.inl rfl) (pe_and (pe_is (n := "tuple") G G.tuple (pv 0)) (pe_and (pe_cmpR op_eq (pe_callB call_len_seq (by rfl) G.len (by decide +kernel) (pa_cons (pv 0) pa_nil)) pe_int (nomark _)) (pe_one (pe_is (n := "str") G G.str (pe_ix ix_tup (pv 0) pe_int (fun _ _ => rfl)))))))
    (pss_one (ps_ret (pe_and (pv 1) (pe_and (pe_cmpR op_in_seq (pe_ix ix_tup (pv 0) pe_int (fun _ _ => rfl)) (pe_tup (pa_cons pe_str (pa_cons pe_str pa_nil))) rfl) (pe_and (pe_c C_is_short (hr.mono (by decide)) (by rfl) pass0 (pa_cons (pe_ix ix_tup (pv 0) pe_int (fun _ _ => rfl)) pa_nil)) (pe_one (pe_cmpR op_ge (pe_ix ix_tup (pv 0) pe_int (fun _ _ => rfl)) pe_int (nomark _))))))))), ?_⟩
  obtain ⟨t, k⟩ := ha.kd
  rcases q with ⟨a, xs, rfl, h, q⟩ | ⟨nt, q⟩
  · have et : t = "tuple" := by
      cases k with
      | tup e => rfl
      | lst e => cases h.symm.trans e
      | dK e => cases h.symm.trans e
    have hk : ∀ y, y ∈ xs → ∃ t, Kd H y t := by
      cases ha with
      | tup h2 k z => cases h.symm.trans h2; exact k
      | lst h2 k z => cases h.symm.trans h2
      | dK h2 => cases h.symm.trans h2
    subst et
    refine ⟨_, rfl, _, _, "tuple", _, rfl, k, .tuple, _, rfl, ?_⟩
    refine ⟨_, rfl, a, xs, rfl, .inr (SqT.of h), rfl, _, rfl, ?_⟩
    have eq2 : (decide (V.int (xs.length : Int) = V.int 2)) = decide (xs.length = 2) := decide_eq_decide.mpr ⟨fun z => by injection z with z; omega, fun z => by rw [z]; rfl⟩
    rw [eq2]
    cases c2 : decide (xs.length = 2) with
    | false =>
      have e : clkL xs = none := by
        have c2 := of_decide_eq_false c2
        unfold clkL
        split
        · exact absurd rfl c2
        · rfl
      rw [e] at q
      exact ⟨_, rfl, _, rfl, q H (Fr.refl _ _)⟩
    | true =>
      have c2 := of_decide_eq_true c2
      obtain ⟨x0, x1, rfl⟩ : ∃ x0 x1, xs = [x0, x1] := match xs, c2 with | [x0, x1], _ => ⟨x0, x1, rfl⟩
      obtain ⟨t0, k0⟩ := hk x0 (by simp)
      obtain ⟨t1, k1⟩ := hk x1 (by simp)
      refine ⟨_, rfl, a, _, 0, x0, rfl, rfl, SqT.of h, rfl, x0, t0, "str", _, rfl, k0, .str, ?_⟩
      cases x0 with
      | str m =>
        obtain ⟨n, rfl⟩ := S_ex m
        refine ⟨_, rfl, _, rfl, _, rfl, a, _, 0, .str (S n), rfl, rfl, SqT.of h, rfl, (by show 2 ≤ sizeLine; decide), fun p np => ⟨p, _, rfl, .inr (SqT.of upd_same), rfl, rfl, ?_⟩⟩
        have f1 := Fr.new (M := []) (o := .tup [V.str "thread", V.str "process"]) np
        rw [show (if false = true then !inV (V.str (S n)) [V.str "thread", V.str "process"] else inV (V.str (S n)) [V.str "thread", V.str "process"]) = decide (n ∈ [cThread, cProcess]) from in_strs n [cThread, cProcess]]
        have h1 := f1.same _ _ h
        have k1 := k1.same f1.same
        generalize upd H p _ = Ha at f1 h1 k1 ⊢
        refine ⟨_, rfl, ?_⟩
        have q := q _ f1
        cases c1 : decide (n ∈ [cThread, cProcess]) with
        | false =>
          have e : clkL [V.str (S n), x1] = none := by
            unfold clkL
            split
            · rename_i n' i' e
              injection e with e1 e2
              injection e1 with e1
              subst e1
              rw [show isClkName (S n).cps.toList = false from c1]
              rfl
            · rfl
          rw [e] at q
          exact q
        | true =>
          refine ⟨_, rfl, a, _, 1, x1, rfl, rfl, SqT.of h1, rfl, x1, t1, rfl, k1, _, rfl, ?_⟩
          cases x1 with
          | int i =>
            have e : (clkL [V.str (S n), .int i]).isSome = (shortI i && decide (0 ≤ i)) := by
              unfold clkL
              dsimp only
              rw [show isClkName (S n).cps.toList = true from c1, Bool.true_and]
              cases shortI i && decide (0 ≤ i) <;> rfl
            rw [e] at q
            show (if shortI i = true then _ else _)
            cases c3 : shortI i with
            | false => rw [c3] at q; exact q
            | true =>
              rw [c3] at q
              exact ⟨_, rfl, a, _, 1, .int i, rfl, rfl, SqT.of h1, rfl, i, 0, rfl, rfl, q⟩
          | _ => exact q
      | _ => exact ⟨_, rfl, _, rfl, q H (Fr.refl _ _)⟩
  · refine ⟨_, rfl, x, t, "tuple", _, rfl, k, .tuple, _, rfl, ?_⟩
    have et : t ≠ "tuple" := fun e => by
      cases k with
      | tup e2 => exact nt _ _ rfl e2
      | _ => exact absurd e (by decide)
    rw [decide_eq_false et]
    exact ⟨_, rfl, _, rfl, q H (Fr.refl _ _)⟩
end
end Tk

set_option Elab.async false
set_option linter.all false
set_option maxRecDepth 100000
set_option maxHeartbeats 4000000
/-! word_of -/
namespace Tk
open PySem PySem.Spec PyProof.Rows L2 SX TL
theorem toStr_S (i : Int) : (Str.ofString (toString i)) = S (showI i) := (S_tl _).symm
theorem short_lt {i : Int} (h : shortI i = true) : i.natAbs < 10 ^ 4300 := by
  have h : i.natAbs < lim := of_decide_eq_true h
  exact Nat.lt_trans h (Nat.lt_trans lim_two two_ten)
theorem joinL_len (c : Nat) (ys : List (List Nat)) : (joinL [c] ys).length ≤ (ys.map (·.length)).sum + ys.length := by
  induction ys with
  | nil => simp [joinL]
  | cons a r ih =>
    cases r with
    | nil => simp [joinL]
    | cons b r =>
      have : joinL [c] (a :: b :: r) = a ++ ([c] ++ joinL [c] (b :: r)) := rfl
      rw [this]
      simp only [List.length_append, List.length_cons, List.length_nil, List.map_cons, List.sum_cons] at ih ⊢
      omega
section
variable {P : Program} {w : World} {K : PySem.W.Frag} {mg : Str → Option Value} {base : Heap} {C : Addr}
def spWord (C : Addr) : Sp := fun vs H Q E => ∃ x, vs = [x] ∧ Arg H x ∧ wtV H x ≤ 16000000 ∧ ∀ H', Fr [] H H' → match wordO H x with
  | some l => Q (.str (S l)) H'
  | none => E (.ref C) none H'
theorem sc_word : FnScope ["thing", "one"] ["thing"] (defScope s_word_of) := ⟨rfl, rfl, rfl, by decide +kernel, rfl, by decide +kernel, by decide +kernel⟩
theorem ok_word (F : FunAt K mg "word_of" s_word_of) (G : NoGl mg) (ND : NoDig K) (T_NoCall : ExcC K mg "NoCall" C) (C_is_short : Cal P w K mg base CX0 2 "is_short" ["thing"] [] spShort) (C_is_clock_pair : Cal P w K mg base CX0 3 "is_clock_pair" ["thing"] [] spClk) :
    Cal P w K mg base (L2.CX P w) 4 "word_of" ["thing"] [] (spWord C) := by
  refine Cal.mkX F sc_word (by rintro _ _ _ _ ⟨_, rfl, _⟩; rfl) (fun _ _ _ _ _ _ us hl => match us, hl with | [_], _ => rfl) ?_
  rintro f cdv A outer s H vs Q E hr ⟨x, rfl, ha, hw, q⟩
  have nd := sc_word.nd
  refine ⟨_, (pss_cons (ps_if (pt_cmp (pc_isN (pv 0)) rfl)
      (pss_one (ps_ret pe_str))
      pss_nil)
    (pss_cons (ps_if (pt_val (pe_is (n := "bool") G G.bool (pv 0)))
      (pss_one (ps_ret (pe_ifExp (pt_val (pv 0)) pe_str pe_str)))
      pss_nil)
    (pss_cons (ps_if (pt_val (pe_c C_is_short (hr.mono (by decide)) (by rfl) pass0 (pa_cons (pv 0) pa_nil)))
      (pss_one (ps_ret (pe_callTy (T := "str") (call_strN rfl ND) (by rfl) G.str (by decide +kernel) (pa_cons (pv 0) pa_nil))))
      pss_nil)
    (pss_cons (ps_if (PW.pt (pw_and (pt_val (pe_is (n := "str") G G.str (pv 0))) (pw_and1 (pt_cmpR op_in_seq (pv 0) (pe_tup (pa_cons pe_str (pa_cons pe_str (pa_cons pe_str pa_nil)))) rfl))))
      (pss_one (ps_ret (pv 0)))
      pss_nil)
    (pss_cons (ps_if (pt_val (pe_c C_is_clock_pair (hr.mono (by decide)) (by rfl) pass0 (pa_cons (pv 0) pa_nil)))
      (pss_one (ps_ret (pe_op op_add_str (pe_op op_add_str (pe_ix ix_tup (pv 0) pe_int (fun _ _ => rfl)) pe_str) (pe_callTy (T := "str") (call_strN rfl ND) (by rfl) G.str (by decide +kernel) (pa_cons (pe_ix ix_tup (pv 0) pe_int (fun _ _ => rfl)) pa_nil)))))
      pss_nil)
    (pss_cons (ps_if (PW.pt (pw_and (pt_val (pe_is (n := "list") G G.list (pv 0))) (pw_and1 (pt_val (pe_callB (cr_all rfl) (by rfl) G.all (by decide +kernel) (pa_cons (pe_lc (own := [("one", 1)]) (g := gName 1) (tt := tYes) rfl nd (pi_list (pv 0))
        (blkOk_by (own := [("one", 1)]) (N := ["thing", "one"]) (sc := defScope s_word_of) (by decide +kernel))
        (fun _ _ _ _ _ => (pg_name (i := 1) nd rfl (.inl rfl) (Or.inr rfl))) (fun _ _ _ _ _ => pts_nil)
        (fun _ _ _ _ _ => (pe_c C_is_short (hr.mono (by decide)) (by rfl) pass0 (pa_cons (pv 1) pa_nil)))) pa_nil))))))
      (pss_one (ps_ret (pe_op op_add_str (pe_op op_add_str pe_str (pe_join pe_str (pe_lc (own := [("one", 1)]) (g := gName 1) (tt := tYes) rfl nd (pi_list (pv 0))
        (blkOk_by (own := [("one", 1)]) (N := ["thing", "one"]) (sc := defScope s_word_of) (by decide +kernel))
        (fun _ _ _ _ _ => (pg_name (i := 1) nd rfl (.inl rfl) (Or.inr rfl))) (fun _ _ _ _ _ => pts_nil)
        (fun _ _ _ _ _ => (pe_callTy (T := "str") (call_strN rfl ND) (by rfl) G.str (by decide +kernel) (pa_cons (pv 1) pa_nil)))))) pe_str)))
      pss_nil)
    (pss_one (ps_rs T_NoCall rfl (takes_of rfl rfl rfl rfl))))))))), ?_⟩
  obtain ⟨t, k⟩ := ha.kd
  have none_end : wordO H x = none → ∀ H', Fr [] H H' → E (.ref C) none H' := fun e H' fr => by
    have := q H' fr
    rw [e] at this
    exact this
  have some_end : ∀ l, wordO H x = some l → ∀ H', Fr [] H H' → Q (.str (S l)) H' := fun l e H' fr => by
    have := q H' fr
    rw [e] at this
    exact this
  cases ha with
  | non => exact ⟨_, rfl, _, rfl, some_end _ rfl H (Fr.refl _ _)⟩
  | bl b =>
    refine ⟨_, rfl, _, rfl, _, rfl, _, t, "bool", _, rfl, k, .bool, _, rfl, _, rfl, _, rfl, ?_⟩
    cases b with
    | true => exact some_end _ rfl H (Fr.refl _ _)
    | false => exact some_end _ rfl H (Fr.refl _ _)
  | int i =>
    have k : Kd H (.int i) "int" := .int i
    refine ⟨_, rfl, _, rfl, _, rfl, _, _, "bool", _, rfl, k, .bool, _, rfl, _, rfl, _, _, rfl, k, _, rfl, ?_⟩
    show (if shortI i = true then _ else _)
    cases c : shortI i with
    | true =>
      refine ⟨_, rfl, i, rfl, short_lt c, ?_⟩
      rw [toStr_S]
      exact some_end (showI i) (if_pos c) H (Fr.refl _ _)
    | false =>
      have e : wordO H (.int i) = none := if_neg (by rw [c]; exact Bool.false_ne_true)
      refine ⟨_, rfl, _, _, "str", _, rfl, k, .str, _, rfl, _, rfl, .int i, rfl, .int i, .inr ⟨fun a xs z => (by cases z), fun H1 f1 => ⟨_, rfl, ?_⟩⟩⟩
      exact ⟨_, rfl, _, _, "list", _, rfl, .int i, .list, _, rfl, none_end e _ f1⟩
  | str m =>
    obtain ⟨l, rfl⟩ := S_ex m
    have k : Kd H (.str (S l)) "str" := .str _
    refine ⟨_, rfl, _, rfl, _, rfl, _, _, "bool", _, rfl, k, .bool, _, rfl, _, rfl, _, _, rfl, k, _, rfl, _, rfl, _, _, "str", _, rfl, k, .str, _, rfl, ?_⟩
    refine ⟨_, rfl, (by show 3 ≤ sizeLine; decide), fun p np => ⟨p, _, rfl, .inr (SqT.of upd_same), rfl, rfl, ?_⟩⟩
    have f1 := Fr.new (M := []) (o := .tup [V.str "steady", V.str "real", V.str "boot"]) np
    rw [show (if false = true then !inV (V.str (S l)) [V.str "steady", V.str "real", V.str "boot"] else inV (V.str (S l)) [V.str "steady", V.str "real", V.str "boot"]) = decide (l ∈ [cSteady, cReal, cBoot]) from in_strs l [cSteady, cReal, cBoot]]
    generalize upd H p _ = Ha at f1 ⊢
    refine ⟨_, rfl, ?_⟩
    cases c : decide (l ∈ [cSteady, cReal, cBoot]) with
    | true => exact ⟨_, rfl, some_end l (if_pos (of_decide_eq_true c)) _ f1⟩
    | false =>
      have e : wordO H (.str (S l)) = none := if_neg (of_decide_eq_false c)
      refine ⟨_, rfl, .str (S l), rfl, .str _, .inr ⟨fun a xs z => (by cases z), fun H1 f2 => ⟨_, rfl, ?_⟩⟩⟩
      exact ⟨_, rfl, _, _, "list", _, rfl, .str _, .list, _, rfl, none_end e _ (f1.trans f2)⟩
  | @tup a xs h ks z =>
    have k : Kd H (.ref a) "tuple" := .tup h
    refine ⟨_, rfl, _, rfl, _, rfl, _, _, "bool", _, rfl, k, .bool, _, rfl, _, rfl, _, _, rfl, k, _, rfl, _, rfl, _, _, "str", _, rfl, k, .str, _, rfl, ?_⟩
    refine ⟨_, rfl, .ref a, rfl, .tup h ks z, .inl ⟨a, xs, rfl, h, fun H1 f1 => ⟨_, rfl, ?_⟩⟩⟩
    have h1 := f1.same _ _ h
    cases c : clkL xs with
    | none => exact ⟨_, rfl, _, _, "list", _, rfl, .tup h1, .list, _, rfl, none_end (by rw [wordO_tup h, c]) _ f1⟩
    | some o =>
      have cc := c
      unfold clkL at cc
      split at cc
      · rename_i n i
        split at cc
        · rename_i hc
          cases cc
          obtain ⟨n, rfl⟩ := S_ex n
          rw [Bool.and_eq_true, Bool.and_eq_true] at hc
          have hn : n.length ≤ 8 := by
            have : n ∈ [cThread, cProcess] := of_decide_eq_true hc.1
            rcases List.mem_cons.mp this with rfl | this
            · decide
            · obtain rfl := List.mem_singleton.mp this
              decide
          have hi := showI_len hc.2.1
          refine ⟨_, rfl, a, _, 0, .str (S n), rfl, rfl, SqT.of h1, rfl, S n, S [58], rfl, rfl, by rw [S_len, S_len, sizeLine_eq]; simp; omega, ?_⟩
          rw [S_cat]
          refine ⟨_, rfl, a, _, 1, .int i, rfl, rfl, SqT.of h1, rfl, i, rfl, short_lt hc.2.1, ?_⟩
          rw [toStr_S]
          refine ⟨_, _, rfl, rfl, by rw [S_len, S_len, sizeLine_eq]; simp; omega, ?_⟩
          rw [S_cat]
          exact some_end _ (by rw [wordO_tup h, c]) _ f1
        · cases cc
      · cases cc
  | @lst a xs h ks z =>
    have k : Kd H (.ref a) "list" := .lst h
    refine ⟨_, rfl, _, rfl, _, rfl, _, _, "bool", _, rfl, k, .bool, _, rfl, _, rfl, _, _, rfl, k, _, rfl, _, rfl, _, _, "str", _, rfl, k, .str, _, rfl, ?_⟩
    refine ⟨_, rfl, .ref a, rfl, .lst h ks z, .inr ⟨fun a' xs' e => (by cases e; rw [h]; exact fun z => (by cases z)), fun H1 f1 => ⟨_, rfl, ?_⟩⟩⟩
    have h1 := f1.same _ _ h
    refine ⟨_, rfl, _, _, "list", _, rfl, .lst h1, .list, _, rfl, ?_⟩
    refine ⟨_, rfl, a, rfl, ⟨xs, SqL.of h1⟩, fun D hD => ?_⟩
    refine lc_listR (K := K) (fun _ => true) (fun x y _ => y = .bl (shortV x)) (fun _ _ _ _ _ h => h) hD (by rw [sizeLine_eq]; omega) (fun _ => rfl) (fun x H' Q' _ _ _ h => h H' (Fr.refl _ _)) ?_ ?_ (SqL.of h1)
    · intro y H' Q' hy _ fr _ hq
      obtain ⟨ty, ky⟩ := ks y hy
      exact ⟨_, rfl, y, ty, rfl, (ky.same f1.same).same fr.same, hq _ _ (Fr.refl _ _) rfl⟩
    · intro H2 ys hD2 fr2 md
      have e : ys = (xs.map shortV).map V.bl := by
        have e := md.pure (f := fun x => V.bl (shortV x)) (fun _ _ _ h => h)
        rw [List.filter_eq_self.mpr (fun _ _ => rfl), map_bl] at e
        exact e
      subst e
      refine ⟨D, _, rfl, SqL.of hD2, _, rfl, ?_⟩
      rw [all_map]
      have f2 := f1.trans fr2
      have h2 := f2.same _ _ h
      cases c : xs.all shortV with
      | false => exact none_end (by rw [wordO_lst h]; exact if_neg (by rw [c]; exact Bool.false_ne_true)) _ f2
      | true =>
        have hint : ∀ y, y ∈ xs → ∃ i, y = .int i ∧ shortI i = true := fun y hy => by
          have := List.all_eq_true.mp c y hy
          cases y with
          | int i => exact ⟨i, rfl, this⟩
          | _ => cases this
        have hw2 : (xs.map fun v => (showV v).length).sum + xs.length ≤ 16000000 := by rw [wtV_lst h] at hw; exact hw
        refine ⟨⟨_, rfl⟩, _, rfl, a, rfl, ⟨xs, SqL.of h2⟩, fun D2 hD2 => ?_⟩
        refine lc_listR (K := K) (fun _ => true) (fun x y _ => y = .str (S (showV x))) (fun _ _ _ _ _ h => h) hD2 (by rw [sizeLine_eq]; omega) (fun _ => rfl) (fun x H' Q' _ _ _ h => h H' (Fr.refl _ _)) ?_ ?_ (SqL.of h2)
        · intro y H' Q' hy _ fr _ hq
          obtain ⟨i, rfl, hi⟩ := hint y hy
          refine ⟨_, rfl, i, rfl, short_lt hi, ?_⟩
          rw [toStr_S]
          exact hq _ _ (Fr.refl _ _) rfl
        · intro H3 ys hD3 fr3 md
          have e : ys = ((xs.map showV).map S).map V.str := by
            have e := md.pure (f := fun x => V.str (S (showV x))) (fun _ _ _ h => h)
            rw [List.filter_eq_self.mpr (fun _ _ => rfl)] at e
            rw [e, List.map_map, List.map_map]
            rfl
          subst e
          have f3 := f2.trans fr3
          have hsum : ((xs.map showV).map (·.length)).sum + xs.length ≤ 16000000 := by rw [List.map_map]; exact hw2
          have hj := joinL_len 44 (xs.map showV)
          rw [List.length_map] at hj
          refine ⟨S [44], D2, (xs.map showV).map S, rfl, rfl, .inl (SqL.of hD3), ?_, ?_⟩
          · rw [lens, List.length_map, List.length_map]
            show _ + xs.length * 1 ≤ _
            omega
          rw [join_S]
          refine ⟨S [91], _, rfl, rfl, by rw [S_len, S_len, sizeLine_eq]; simp only [List.length_cons, List.length_nil]; omega, ?_⟩
          rw [S_cat]
          refine ⟨_, S [93], rfl, rfl, by rw [S_len, S_len, sizeLine_eq]; simp only [List.length_append, List.length_cons, List.length_nil]; omega, ?_⟩
          rw [S_cat]
          exact some_end _ (by rw [wordO_lst h]; exact if_pos c) _ f3
  | @dK a kvs h =>
    have k : Kd H (.ref a) "dict" := .dK h
    refine ⟨_, rfl, _, rfl, _, rfl, _, _, "bool", _, rfl, k, .bool, _, rfl, _, rfl, _, _, rfl, k, _, rfl, _, rfl, _, _, "str", _, rfl, k, .str, _, rfl, ?_⟩
    refine ⟨_, rfl, .ref a, rfl, .dK h, .inr ⟨fun a' xs' e => (by cases e; rw [h]; exact fun z => (by cases z)), fun H1 f1 => ⟨_, rfl, ?_⟩⟩⟩
    exact ⟨_, rfl, _, _, "list", _, rfl, .dK (f1.same _ _ h), .list, _, rfl, none_end (wordO_dK h) _ f1⟩
end
end Tk

set_option Elab.async false
set_option linter.all false
set_option maxRecDepth 100000
set_option maxHeartbeats 4000000
/-! show_log -/
namespace Tk
open PySem PySem.Spec PyProof.Rows L2 SX TL
def wordsO (H : Hp) (vs : List V) : Option (List (List Nat)) := if (vs.all fun v => (wordO H v).isSome) = true then some (vs.map fun v => (wordO H v).getD []) else none
def tupO (H : Hp) : Option HO → Option (List Nat)
  | some (.tup (.str z :: vs)) => (wordsO H vs).map fun ws => joinL [32] (z.cps.toList :: ws)
  | _ => none
def rowO (H : Hp) : V → Option (List Nat)
  | .ref p => tupO H (H p)
  | _ => none
def logO (H : Hp) (xs : List V) : Option (List Nat) := if (xs.all fun y => (rowO H y).isSome) = true then some (joinL [10] (xs.map fun y => (rowO H y).getD [])) else none
theorem wtV_same {H H' : Hp} {x : V} (e : Same H H') (h : Arg H x) : wtV H' x = wtV H x := by
  cases h with
  | tup h k z => show refWt (H' _) = refWt (H _); rw [h, e _ _ h]
  | lst h k z => show refWt (H' _) = refWt (H _); rw [h, e _ _ h]
  | dK h => show refWt (H' _) = refWt (H _); rw [h, e _ _ h]
  | _ => rfl
theorem rowO_at {H : Hp} {p : Addr} {z : List Nat} {vs : List V} (h : H p = some (.tup (.str (S z) :: vs))) : rowO H (.ref p) = (wordsO H vs).map fun ws => joinL [32] (z :: ws) := by
  show tupO H (H p) = _
  rw [h]
  rfl
theorem made_all {p : V → Bool} {R : V → V → Hp → Prop} {H : Hp} (hp : ∀ x, p x = true) : ∀ {xs ys : List V}, Made p R H xs ys → ∀ x ∈ xs, ∃ y, R x y H
  | _, _, .nil, x, hx => by cases hx
  | _, _, .take _ b c, x, hx => by
    rcases List.mem_cons.mp hx with rfl | hx
    · exact ⟨_, b⟩
    · exact made_all hp c x hx
  | _, _, .skip a c, x, hx => by
    rw [hp] at a
    cases a
structure RowA (H : Hp) (y : V) : Prop where
  ex : ∃ (p : Addr) (z : List Nat) (vs : List V), y = .ref p ∧ H p = some (.tup (.str (S z) :: vs)) ∧ (∀ v ∈ vs, Arg H v ∧ wtV H v ≤ 16000000) ∧ vs.length ≤ 900000 ∧ z.length + (vs.map fun v => ((wordO H v).getD []).length).sum + vs.length ≤ 16000000
/-- sep.join(a list | a tuple of texts) -/
def rJoin (K : PySem.W.Frag) : V → List V → Hp → VK → Prop := fun x xs H Q => ∃ a p, ∃ ys : List Str, x = .str a ∧ xs = [.ref p] ∧ (SqL K H p (ys.map V.str) ∨ SqT K H p (ys.map V.str)) ∧
    (ys.map (·.length)).sum + ys.length * a.length ≤ 16777216 ∧ Q (.str (Txt.join a ys)) H
abbrev teRow (K : PySem.W.Frag) (C : Addr) (E : XK) : TE := tM1 (rJoin K) (tC (.str " ")) (tOp rCat (tLst (tCons (tOp (rIxT K) (tVar 1) (tC (.int 0))) tNil)) (tLc (iTup K (L2.tSl (rSlT K) (tVar 1) (tPart (tC (.int 1))) tNoPart)) (gName 2) tYes (tCall (spWord C) [] E (tCons (tVar 2) tNil)) [2]))
section
variable {P : Program} {w : World} {K : PySem.W.Frag} {mg : Str → Option Value} {base : Heap} {C : Addr}
def spShow (C : Addr) : Sp := fun vs H Q E => ∃ x, vs = [x] ∧ ((LogIs H x false ∧ ∀ H', Fr [] H H' → E (.ref C) none H') ∨
  ∃ a xs, x = .ref a ∧ H a = some (.lst xs) ∧ LogIs H x true ∧ (∀ y ∈ xs, RowA H y) ∧ xs.length ≤ 900000 ∧ (xs.map fun y => ((rowO H y).getD []).length).sum + xs.length ≤ 16000000 ∧
    ∀ H', Fr [] H H' → match logO H xs with
      | some l => Q (.str (S l)) H'
      | none => E (.ref C) none H')
theorem sc_show : FnScope ["log", "row", "one"] ["log"] (defScope s_show_log) := ⟨rfl, rfl, rfl, by decide +kernel, rfl, by decide +kernel, by decide +kernel⟩
theorem ok_show (F : FunAt K mg "show_log" s_show_log) (G : NoGl mg) (C_check_log : Cal P w K mg base (L2.CX P w) 3 "check_log" ["log"] [] (spCheckLog C)) (C_word_of : Cal P w K mg base (L2.CX P w) 4 "word_of" ["thing"] [] (spWord C)) :
    Cal P w K mg base (L2.CX P w) 5 "show_log" ["log"] [] (spShow C) := by
  refine Cal.mkX F sc_show (by rintro _ _ _ _ ⟨_, rfl, _⟩; rfl) (fun _ _ _ _ _ _ us hl => match us, hl with | [_], _ => rfl) ?_
  rintro f cdv A outer s H vs Q E hr ⟨x, rfl, q⟩
  have nd := sc_show.nd
  refine' ⟨_, pss_cons (ps_expr (pe_c C_check_log (hr.mono (by decide)) (by rfl) (passes_call (takes_of rfl rfl rfl rfl) (fun _ _ _ _ h => h)) (pa_cons (pv 0) pa_nil)))
    (pss_one (ps_ret (pe_join pe_str (pe_lcY (L := s.heap.objs.size) (W := E) (own := [("row", 1)]) (g := gName 1) (tt := tYes) (te := teRow K C E) rfl nd rfl rfl rfl (takesF (takes_of rfl rfl rfl rfl)) (pi_list (pv 0))
        (blkOk_by (own := [("row", 1)]) (N := ["log", "row", "one"]) (sc := defScope s_show_log) (by decide +kernel))
        (fun _ _ _ _ _ => pg_name (i := 1) nd rfl (.inl rfl) (Or.inr rfl)) (fun _ _ _ _ _ => pts_nil) ?he)))), ?_⟩
  case he =>
    intro s1 H1 C1 cl1 fp1
    refine' pe_join pe_str (pe_op op_cat (pe_lst (pa_cons (pe_ix ix_tup (pv 1) pe_int (fun _ _ => rfl)) pa_nil)) (pe_lcY (L := s.heap.objs.size) (W := E) (own := [("one", 2)]) (g := gName 2) (tt := tYes) rfl nd rfl rfl rfl takesF_blk (pi_tup (pe_slice sl_tup (pv 1) (po_some pe_int) po_none))
          (blkOk_by (own := [("one", 2)]) (N := ["log", "row", "one"]) (by rfl))
          (fun _ _ _ _ _ => pg_name (i := 2) nd rfl (.inl rfl) (Or.inr rfl)) (fun _ _ _ _ _ => pts_nil) ?he2))
    intro s2 H2 C2 cl2 fp2
    exact pe_c C_word_of (hr.mono (by decide)) (by rfl) (passes_call takes_blk (fun _ _ _ _ h => h)) (pa_cons (pv 2) pa_nil)
  rcases q with ⟨L, q⟩ | ⟨a, xs, rfl, h, L, hrow, hz, hwt, q⟩
  · exact ⟨_, rfl, x, false, rfl, L, fun H' fr => q H' fr⟩
  have none_end : ∀ y ∈ xs, rowO H y = none → ∀ H', Fr [] H H' → E (.ref C) none H' := fun y hy e H' fr => by
    have q := q H' fr
    have : logO H xs = none := if_neg fun z => by
      have := List.all_eq_true.mp z y hy
      rw [e] at this
      cases this
    rw [this] at q
    exact q
  refine ⟨_, rfl, _, true, rfl, L, fun Ha f1 => ?_⟩
  have h1 := f1.same _ _ h
  refine ⟨⟨_, rfl⟩, _, rfl, a, rfl, ⟨xs, SqL.of h1⟩, fun D hD => ?_⟩
  refine lc_listR (K := K) (fun _ => true) (fun y z _ => ∃ l, rowO H y = some l ∧ z = .str (S l)) (fun _ _ _ _ _ h => h) hD (by rw [sizeLine_eq]; omega) (fun _ => rfl) (fun x H' Q' _ _ _ h => h H' (Fr.refl _ _)) ?_ ?_ (SqL.of h1)
  · intro y Hb Q' hy _ fr2 _ hq
    have f2 := f1.trans fr2
    obtain ⟨p, z, vs, rfl, hp, hargs, hvl, hvw⟩ := (hrow y hy).ex
    have hpb := f2.same _ _ hp
    have none_row : ∀ v ∈ vs, wordO H v = none → ∀ H', Fr [] H H' → E (.ref C) none H' := fun v hv e => none_end _ hy (by
      rw [rowO_at hp]
      have : wordsO H vs = none := if_neg fun z => by
        have := List.all_eq_true.mp z v hv
        rw [e] at this
        cases this
      rw [this]
      rfl)
    refine ⟨⟨_, rfl⟩, _, rfl, p, _, 0, .str (S z), rfl, rfl, SqT.of hpb, atI_nat (j := 0) rfl, (by show 1 ≤ sizeLine; decide), fun l1 nl1 => ?_⟩
    have f3 := f2.trans (Fr.new (M := []) (o := .lst [V.str (S z)]) nl1)
    have hl1 : (upd Hb l1 (.lst [V.str (S z)])) l1 = some (.lst [V.str (S z)]) := upd_same
    have frb : Fr [] Hb (upd Hb l1 (.lst [V.str (S z)])) := Fr.new nl1
    generalize upd Hb l1 _ = Hc at f3 hl1 frb ⊢
    refine ⟨_, rfl, 1, rfl, p, _, rfl, SqT.of (f3.same _ _ hp), ?_, fun p2 np2 => ?_⟩
    · rw [show (some (1 : Int)) = some ((1 : Nat) : Int) from rfl, HT.sIx_nat]
      rintro ⟨z1, _⟩
      rw [List.length_cons] at z1
      omega
    rw [show cutV (V.str (S z) :: vs) (some 1) none = vs from cut_from _ 1]
    have f4 := f3.trans (Fr.new (M := []) (o := .tup vs) np2)
    have hp2 : (upd Hc p2 (.tup vs)) p2 = some (.tup vs) := upd_same
    have hl2 : (upd Hc p2 (.tup vs)) l1 = some (.lst [V.str (S z)]) := by rw [upd_ne (ne_of_none hl1 np2)]; exact hl1
    have frc := frb.trans (Fr.new (M := []) (o := .tup vs) np2)
    generalize upd Hc p2 _ = Hd at f4 hp2 hl2 frc ⊢
    refine ⟨p2, rfl, ⟨_, SqT.of hp2⟩, fun D2 hD2 => ?_⟩
    refine lc_tupR (K := K) (fun _ => true) (fun v z _ => ∃ l, wordO H v = some l ∧ z = .str (S l)) (fun _ _ _ _ _ h => h) hD2 (by rw [sizeLine_eq]; omega) (fun _ => rfl) (fun x H' Q' _ _ _ h => h H' (Fr.refl _ _)) ?_ ?_ (SqT.of hp2)
    · intro v He Q2 hv _ fr5 _ hq2
      obtain ⟨ha, hwv⟩ := hargs v hv
      have f5 := f4.trans fr5
      refine ⟨_, rfl, v, rfl, ha.same f5.same, by rw [wtV_same f5.same ha]; exact hwv, fun Hf fr6 => ?_⟩
      rw [wordO_same f5.same ha]
      cases c : wordO H v with
      | none => exact none_row v hv c _ (f5.trans fr6)
      | some l => exact hq2 _ _ fr6 ⟨l, c, rfl⟩
    · intro He ys hDe fr5 md
      have f5 := f4.trans fr5
      have e : ys = ((vs.map fun v => (wordO H v).getD []).map S).map V.str := by
        have e := md.pure (f := fun v => V.str (S ((wordO H v).getD []))) (fun v z _ r => by obtain ⟨l, e1, e2⟩ := r; rw [e2, e1]; rfl)
        rw [List.filter_eq_self.mpr (fun _ _ => rfl)] at e
        rw [e, List.map_map, List.map_map]
        rfl
      have hall : wordsO H vs = some (vs.map fun v => (wordO H v).getD []) := if_pos (List.all_eq_true.mpr fun v hv => by
        obtain ⟨z, l, e1, _⟩ := made_all (fun _ => rfl) md v hv
        rw [e1]
        rfl)
      subst e
      have hle := fr5.same _ _ hl2
      refine ⟨l1, D2, _, _, rfl, rfl, hle, hDe, (by rw [List.length_map, List.length_map, List.length_map, sizeLine_eq]; show 1 + _ ≤ _; omega), fun pc npc => ?_⟩
      have f6 := Fr.new (M := []) (o := .lst ([V.str (S z)] ++ ((vs.map fun v => (wordO H v).getD []).map S).map V.str)) npc
      refine ⟨S [32], pc, (z :: vs.map fun v => (wordO H v).getD []).map S, rfl, rfl, .inl (SqL.of upd_same), ?_, ?_⟩
      · rw [lens, List.length_map, List.length_cons, List.length_map, List.map_cons, List.sum_cons, List.map_map]
        show z.length + (vs.map fun v => ((wordO H v).getD []).length).sum + (vs.length + 1) * 1 ≤ _
        omega
      rw [join_S]
      exact hq _ _ (frc.trans (fr5.trans f6)) ⟨_, by rw [rowO_at hp, hall]; rfl, rfl⟩
  · intro Hb ys hDb fr2 md
    have f2 := f1.trans fr2
    have e : ys = ((xs.map fun y => (rowO H y).getD []).map S).map V.str := by
      have e := md.pure (f := fun v => V.str (S ((rowO H v).getD []))) (fun v z _ r => by obtain ⟨l, e1, e2⟩ := r; rw [e2, e1]; rfl)
      rw [List.filter_eq_self.mpr (fun _ _ => rfl)] at e
      rw [e, List.map_map, List.map_map]
      rfl
    have hall : logO H xs = some (joinL [10] (xs.map fun y => (rowO H y).getD [])) := if_pos (List.all_eq_true.mpr fun v hv => by
      obtain ⟨z, l, e1, _⟩ := made_all (fun _ => rfl) md v hv
      rw [e1]
      rfl)
    subst e
    refine ⟨S [10], D, (xs.map fun y => (rowO H y).getD []).map S, rfl, rfl, .inl (SqL.of hDb), ?_, ?_⟩
    · rw [lens, List.length_map, List.length_map, List.map_map]
      show (xs.map fun y => ((rowO H y).getD []).length).sum + xs.length * 1 ≤ _
      omega
    rw [join_S]
    have q := q _ f2
    rw [hall] at q
    exact q
end
end Tk

set_option Elab.async false
set_option linter.all false
set_option maxRecDepth 100000
set_option maxHeartbeats 4000000
/-! read_log -/
namespace Tk
open PySem PySem.Spec PyProof.Rows L2 SX TL
theorem pairApp {α β : Type} {F : α → β → Prop} : ∀ {xs xs' : List α} {ys ys' : List β}, Paired F xs ys → Paired F xs' ys' → Paired F (xs ++ xs') (ys ++ ys')
  | _, _, _, _, .nil, b => b
  | _, _, _, _, .cons a c, b => .cons a (pairApp c b)
/-- y is the row r -/
def RowTh (H : Hp) (y : V) (r : List Nat × List Th) : Prop := ∃ a vs, y = .ref a ∧ H a = some (.tup (.str (S r.1) :: vs)) ∧ Paired (IsTh H) vs r.2
theorem RowTh.same {H H' : Hp} {y : V} {r : List Nat × List Th} (e : Same H H') (h : RowTh H y r) : RowTh H' y r := by
  obtain ⟨a, vs, e1, e2, e3⟩ := h
  exact ⟨a, vs, e1, e _ _ e2, L2.Paired.mapP e3 fun x t c => c.same e⟩
def LogTh (H : Hp) (p : Addr) (rs : List (List Nat × List Th)) : Prop := ∃ ys, H p = some (.lst ys) ∧ Paired (RowTh H) ys rs
/-- a list with its places, each item in a new pair -/
theorem for_enum {K : PySem.W.Frag} {a : Addr} {xs : List V} {g : TG} {tb : TS} {D : Ends} {σ : L2.St} {H : Hp} (Pv : Nat → L2.St → Hp → Prop) (h0 : Pv 0 σ H) (hl : ∀ i σ H, i ≤ xs.length → Pv i σ H → SqL K H a xs)
    (hs : ∀ i x σ H T, xs[i]? = some x → Pv i σ H → H T = none → g (.ref T) σ (upd H T (.tup [.int (i : Nat), x])) fun σ2 H2 => tb { D with nx := Pv (i + 1), ct := Pv (i + 1), bk := D.nx } σ2 H2) (hd : ∀ σ H, Pv xs.length σ H → D.nx σ H) :
    ∃ W : Nat → Nat → L2.St → Hp → Prop, (∃ m, W 0 m σ H) ∧ ∀ i m σ H, W i m σ H →
      ((Ite K a).stop i H ∧ D.nx σ H) ∨ ((Ite K a).go i H ∧ ∃ N : L2.St → Hp → Prop, (∀ σ' H', N σ' H' → ∃ m', m' < m ∧ W (i + 1) m' σ' H') ∧ ∀ x H', (Ite K a).yld i H x H' → g x σ H' fun σ2 H2 => tb { D with nx := N, ct := N, bk := D.nx } σ2 H2) := by
  refine ⟨fun i m σ H => m = xs.length - i ∧ i ≤ xs.length ∧ Pv i σ H, ⟨xs.length, by simp, Nat.zero_le _, h0⟩, ?_⟩
  rintro i m σ H ⟨rfl, hi, p⟩
  have q := hl i σ H hi p
  by_cases hlt : i < xs.length
  · refine .inr ⟨⟨xs, xs[i], q, by simp [hlt]⟩, Pv (i + 1), fun σ' H' p' => ⟨xs.length - (i + 1), by omega, rfl, hlt, p'⟩, fun x H' y => ?_⟩
    obtain ⟨T, x, rfl, nT, rfl, y⟩ := y
    exact hs i x σ H T (y xs q) p nT
  · have e : i = xs.length := by omega
    subst e
    exact .inl ⟨⟨xs, q, Nat.le_refl _⟩, hd σ H p⟩
theorem same_hd {M : List Addr} {H H' : Hp} (e : Same H H') : Same (Hd M H) (Hd M H') := fun b o h => by
  obtain ⟨n, h⟩ := of_Hd h
  rw [Hd_of n]; exact e b o h
theorem made_read {D : Addr} {H : Hp} : ∀ {ws : List (List Nat)} {vs : List V}, Made (fun _ => true) (fun y v Hq => ∃ w t, y = .str (S w) ∧ readTh w = some t ∧ IsTh (Hd [D] Hq) v t) H ((ws.map S).map V.str) vs → ∃ ts, readAll ws = some ts ∧ Paired (IsTh (Hd [D] H)) vs ts
  | [], _, .nil => ⟨[], rfl, .nil⟩
  | w :: ws, _, .take _ b c => by
    obtain ⟨ts, e, r⟩ := made_read (D := D) c
    obtain ⟨w', t, e1, e2, e3⟩ := b
    have e1 := S_inj (V.str.inj e1)
    subst e1
    refine ⟨t :: ts, ?_, .cons e3 r⟩
    show (match readTh w, readAll ws with
      | some t, some ts => some (t :: ts)
      | _, _ => none) = _
    rw [e2, e]
  | _ :: _, _, .skip a _ => nomatch a
theorem readAll_none {ws : List (List Nat)} {w : List Nat} (hw : w ∈ ws) (h : readTh w = none) : readAll ws = none := by
  cases e : readAll ws with
  | none => rfl
  | some ts =>
    have z := readAll_isSome ws
    rw [e] at z
    have := List.all_eq_true.mp z.symm w hw
    rw [law_read, h] at this
    cases this
def appR (rows : List (List Nat × List Th)) : Nat ⊕ List (List Nat × List Th) → Nat ⊕ List (List Nat × List Th)
  | .inl k => .inl k
  | .inr rs => .inr (rows ++ rs)
section
variable {P : Program} {w : World} {K : PySem.W.Frag} {mg : Str → Option Value} {base : Heap} {C : Addr}
def spRead (C : Addr) : Sp := fun vs H Q E => ∃ x, vs = [x] ∧ ((∃ t, Kd H x t ∧ isStrV x = false ∧ ∀ H' d, Fr [] H H' → H' d = none → E (.ref C) (some d) (upd H' d (.xd [("line", .int 0)]))) ∨
  ∃ l, x = .str (S l) ∧ l.length ≤ 900000 ∧ (∀ (k : Nat), logOf 0 (lines l) = .inl k → ∀ H' d, Fr [] H H' → H' d = none → E (.ref C) (some d) (upd H' d (.xd [("line", .int (k : Int))]))) ∧
    ∀ rs, logOf 0 (lines l) = .inr rs → ∀ H' p, Fr [] H H' → LogTh H' p rs → Q (.ref p) H')
theorem sc_read : FnScope ["text", "found", "line", "row", "words", "word"] ["text"] (defScope s_read_log) := ⟨rfl, rfl, rfl, by decide +kernel, rfl, by decide +kernel, by decide +kernel⟩
theorem ok_read (F : FunAt K mg "read_log" s_read_log) (G : NoGl mg) (Genum : mg "enumerate" = none) (NR : NoRowX P K mg C) (C_size_of : Cal P w K mg base CX0 1 "size_of" ["name"] [] spSizeOf) (C_thing_of : Cal P w K mg base (L2.CX P w) 3 "thing_of" ["word", "line"] [] (spThing C)) :
    Cal P w K mg base (L2.CX P w) 4 "read_log" ["text"] [] (spRead C) := by
  refine Cal.mkX F sc_read (by rintro _ _ _ _ ⟨_, rfl, _⟩; rfl) (fun _ _ _ _ _ _ us hl => match us, hl with | [_], _ => rfl) ?_
  rintro f cdv A outer s H vs Q E hr ⟨x, rfl, q⟩
  have nd := sc_read.nd
  refine ⟨_, (pss_cons (ps_if (pt_not (pt_val (pe_is (n := "str") G G.str (pv 0))))
      (pss_one (ps_raise rfl (takes_of rfl rfl rfl rfl) (pmk_row1 NR (hr.mono (by decide)) _)))
      pss_nil)
    (pss_cons (ps_set (i := 1) nd rfl (.inl rfl) (pe_lst pa_nil))
    (pss_cons (ps_for (passes_of rfl) rfl (pi_enum (by rfl) Genum (pa_cons (pe_ifExp (pt_cmpR op_ne (pv 0) pe_str (nomark _)) (pe_split (pv 0) pe_str) (pe_lst pa_nil)) pa_nil)) (pg_tup rfl (pgs_cons (pg_name (i := 2) nd rfl (.inr rfl)) (pgs_cons (pg_name (i := 3) nd rfl (.inl rfl)) pgs_nil)))
      (pss_cons (ps_set (i := 4) nd rfl (.inl rfl) (pe_split (pv 3) pe_str))
      (pss_cons (ps_if (pt_cmpR op_ne (pe_callB call_len_seq (by rfl) G.len (by decide +kernel) (pa_cons (pv 4) pa_nil)) (pe_c C_size_of (hr.mono (by decide)) (by rfl) pass0 (pa_cons (pe_ix ix_list (pv 4) pe_int (fun _ _ => rfl)) pa_nil)) (nomark _))
        (pss_one (ps_raise rfl (takes_of rfl rfl rfl rfl) (pmk_row2 NR (hr.mono (by decide)) _ (i := 2) rfl (.inr (.inl rfl)))))
        pss_nil)
      (pss_one (ps_expr (pe_bm PySem.F.plainAttrs_list PySem.F.slot_list_append PySem.F.type_list_append mt_append (pv 1) (pa_cons (pe_op op_catT (pe_tup (pa_cons (pe_ix ix_list (pv 4) pe_int (fun _ _ => rfl)) pa_nil)) (pe_callTy (T := "tuple") call_tuple_of (by rfl) G.tuple (by decide +kernel) (pa_cons (pe_lcY (L := s.heap.objs.size) (W := E) (own := [("word", 5)]) (g := gName 5) (tt := tYes) (te := (tCall (spThing C) [] E (tCons (tVar 5) (tCons (tVar 2) tNil)))) rfl nd rfl rfl rfl (takesF (takes_of rfl rfl rfl rfl)) (pi_list (pe_slice sl_list (pv 4) (po_some pe_int) po_none))
        (blkOk_by (own := [("word", 5)]) (N := ["text", "found", "line", "row", "words", "word"]) (sc := defScope s_read_log) (by decide +kernel))
        (fun _ _ _ _ _ => (pg_name (i := 5) nd rfl (.inl rfl) (Or.inr rfl))) (fun _ _ _ _ _ => pts_nil)
        (fun _ _ _ _ _ => (pe_c C_thing_of (hr.mono (by decide)) (by rfl) (by exact passes_call takes_blk (fun _ _ _ _ h => h)) (pa_cons (pv 5) (pa_cons (pv 2) pa_nil))))) pa_nil))) pa_nil)))))))
    (pss_one (ps_ret (pv 1)))))), ?_⟩
  rcases q with ⟨t, k, hs, qe⟩ | ⟨l, rfl, hz, qe, qs⟩
  · refine ⟨_, rfl, x, t, "str", _, rfl, k, .str, _, rfl, ?_⟩
    rw [hs]
    exact fun d hd => qe H d (Fr.refl _ _) hd
  refine ⟨_, rfl, _, _, "str", _, rfl, .str _, .str, _, rfl, (by show 0 ≤ sizeLine; decide), fun fo nfo => ?_⟩
  have f1 := Fr.new (M := []) (o := .lst []) nfo
  have hfo : (upd H fo (.lst [])) fo = some (.lst []) := upd_same
  generalize upd H fo _ = Ha at f1 hfo ⊢
  have lsl : (lines l).length ≤ l.length + 2 := by
    unfold lines
    by_cases e : l = []
    · rw [if_pos e]; exact Nat.zero_le _
    · rw [if_neg e]
      have := split_le (S l) (S [10])
      rw [split_S (by simp) (by decide), List.length_map, S_len] at this
      exact this
  have lpl : ∀ a ∈ lines l, a.length ≤ l.length := fun a ha => by
    unfold lines at ha
    by_cases e : l = []
    · rw [if_pos e] at ha; cases ha
    · rw [if_neg e] at ha
      have := part_short (x := S l) (y := S [10]) (a := S a) (by rw [split_S (by simp) (by decide)]; exact List.mem_map_of_mem ha)
      rw [S_len, S_len] at this
      exact this
  refine ⟨_, rfl, rfl, _, rfl, ?_⟩
  rw [show (!decide (V.str (S l) = V.str "")) = !decide (l = []) from congrArg Bool.not (vstr_dec (a := l) (b := []))]
  refine ite2 (fun c => ?a) (fun c => ?b)
  case' a =>
    have ne : l ≠ [] := by simpa using c
    refine ⟨_, rfl, ⟨_, rfl⟩, S l, S [10], rfl, rfl, rfl, by rw [S_len, sizeLine_eq]; omega, fun p1 n1 => ?_⟩
    rw [show Txt.split (S l) (S [10]) = (lines l).map S by rw [split_S (by simp) (by decide)]; unfold lines; rw [if_neg ne]]
  case' b =>
    have e : l = [] := by simpa using c
    refine ⟨(by show 0 ≤ sizeLine; decide), fun p1 n1 => ?_⟩
    rw [show upd Ha p1 (.lst []) = upd Ha p1 (.lst (((lines l).map S).map V.str)) by rw [e]; rfl]
  all_goals
    have f2 := f1.trans (Fr.new (M := []) (o := .lst (((lines l).map S).map V.str)) n1)
    have h1 : (upd Ha p1 (.lst (((lines l).map S).map V.str))) p1 = some (.lst (((lines l).map S).map V.str)) := upd_same
    have np1 : fo ≠ p1 := ne_of_none hfo n1
    have hfo : (upd Ha p1 (.lst (((lines l).map S).map V.str))) fo = some (.lst []) := by rw [upd_ne (ne_of_none hfo n1)]; exact hfo
    generalize upd Ha p1 _ = Hx at f2 h1 hfo ⊢
    refine ⟨p1, _, rfl, SqL.of h1, ?_⟩
    refine for_enum (K := K) (a := p1) (xs := ((lines l).map S).map V.str) (fun i σ Hz => ∃ s2 s3 s4 rows ys, σ = [some (.str (S l)), some (.ref fo), s2, s3, s4, none] ∧ Fr [fo] Hx Hz ∧ Hz fo = some (.lst ys) ∧ ys.length ≤ i ∧ Paired (RowTh (Hd [fo] Hz)) ys rows ∧ logOf 0 (lines l) = appR rows (logOf i ((lines l).drop i)))
      ⟨none, none, none, [], [], rfl, Fr.refl _ _, hfo, Nat.zero_le _, .nil, by rw [List.drop_zero]; cases logOf 0 (lines l) <;> rfl⟩ (fun i σ Hz hi hp => ?_) (fun i x σ Hz T hx hp nT => ?_) (fun σ Hz hp => ?_)
    · obtain ⟨_, _, _, _, _, _, fz, _⟩ := hp
      exact SqL.of (fz.at h1 (by simpa using np1.symm))
    · obtain ⟨s2, s3, s4, rows, ys0, rfl, fz, hfz, hyl, hpr, hlog⟩ := hp
      obtain ⟨ln, hln, rfl⟩ : ∃ ln, (lines l)[i]? = some ln ∧ x = .str (S ln) := by
        rw [List.getElem?_map, List.getElem?_map] at hx
        cases e : (lines l)[i]? with
        | none => rw [e] at hx; cases hx
        | some ln => rw [e] at hx; cases hx; exact ⟨ln, rfl, rfl⟩
      have lnl := lpl ln (List.mem_of_getElem? hln)
      have hil : i < (lines l).length := (List.getElem?_eq_some_iff.mp hln).1
      have hdrop : (lines l).drop i = ln :: (lines l).drop (i + 1) := by
        rw [List.drop_eq_getElem_cons hil]
        congr 1
        exact (List.getElem?_eq_some_iff.mp hln).2
      have bad : rowOf ln = none → ∀ H' d, Fr [] H H' → H' d = none → E (.ref C) (some d) (upd H' d (.xd [("line", .int (i : Int))])) := fun e => qe i (by
        rw [hlog, hdrop]
        have : logOf i (ln :: (lines l).drop (i + 1)) = .inl i := by
          unfold logOf
          rw [e]
        rw [this]
        rfl)
      have frH : ∀ {H'}, Fr [fo] Hx H' → Fr [] H H' := fun fr => Fr.drop (f2.weak.trans fr) nfo
      have fT : Fr [fo] Hz (upd Hz T (.tup [.int (i : Nat), .str (S ln)])) := Fr.new nT
      have hfT : (upd Hz T (.tup [.int (i : Nat), .str (S ln)])) fo = some (.lst ys0) := by rw [upd_ne (ne_of_none hfz nT)]; exact hfz
      refine ⟨T, [.int (i : Nat), .str (S ln)], rfl, SqT.of upd_same, rfl, _, _, rfl, _, _, rfl, rfl, ?_⟩
      generalize upd Hz T _ = Hb at fT hfT ⊢
      refine ⟨_, rfl, ⟨_, rfl⟩, S ln, S [32], rfl, rfl, rfl, by rw [S_len, sizeLine_eq]; omega, fun p2 n2 => ?_⟩
      rw [show Txt.split (S ln) (S [32]) = (spl [32] 0 [] ln).map S from split_S (by simp) (by decide)]
      have wl : ∀ a ∈ spl [32] 0 [] ln, a.length ≤ ln.length := fun a ha => by
        have := part_short (x := S ln) (y := S [32]) (a := S a) (by rw [split_S (by simp) (by decide)]; exact List.mem_map_of_mem ha)
        rw [S_len, S_len] at this
        exact this
      have wn : (spl [32] 0 [] ln).length ≤ ln.length + 2 := by
        have := split_le (S ln) (S [32])
        rw [split_S (by simp) (by decide), List.length_map, S_len] at this
        exact this
      obtain ⟨z, ws, hsp⟩ : ∃ z ws, spl [32] 0 [] ln = z :: ws := by
        cases e : spl [32] 0 [] ln with
        | nil => exact absurd e (spl_ne 32 ln)
        | cons z ws => exact ⟨z, ws, rfl⟩
      rw [hsp] at wl wn ⊢
      have f3 := fT.trans (Fr.new (M := [fo]) (o := .lst (((z :: ws).map S).map V.str)) n2)
      have h2 : (upd Hb p2 (.lst (((z :: ws).map S).map V.str))) p2 = some (.lst (((z :: ws).map S).map V.str)) := upd_same
      have np2 : fo ≠ p2 := ne_of_none hfT n2
      have hf3 : (upd Hb p2 (.lst (((z :: ws).map S).map V.str))) fo = some (.lst ys0) := by rw [upd_ne np2]; exact hfT
      generalize upd Hb p2 _ = Hc at f3 h2 hf3 ⊢
      have hrow : rowOf ln = if sizeOk z (ws.length + 1) = true then (readAll ws).map (Prod.mk z) else none := by
        unfold rowOf
        rw [hsp]
      refine ⟨_, rfl, p2, _, rfl, .inl (SqL.of h2), _, rfl, p2, _, 0, .str (S z), rfl, rfl, SqL.of h2, atI_nat (j := 0) rfl, S z, rfl, size_scal _ _, _, rfl, ?_⟩
      rw [List.length_map, List.length_map, List.length_cons]
      have esz : (!decide (V.int ((ws.length + 1 : Nat) : Int) = sizeV (S z))) = !(sizeOk z (ws.length + 1)) := by
        unfold sizeOk
        congr 1
        exact decide_eq_decide.mpr eq_comm
      rw [esz]
      cases hso : sizeOk z (ws.length + 1) with
      | false =>
        rw [hso] at hrow
        exact ⟨(i : Int), rfl, fun d hd => bad hrow _ _ (frH (fz.trans f3)) hd⟩
      | true =>
        rw [hso, if_pos rfl] at hrow
        have badw : ∀ w ∈ ws, readTh w = none → ∀ H' d, Fr [] H H' → H' d = none → E (.ref C) (some d) (upd H' d (.xd [("line", .int (i : Int))])) := fun w hw e => bad (by rw [hrow, readAll_none hw e]; rfl)
        refine ⟨_, rfl, .inl ⟨rfl, _, SqL.of hf3⟩, _, rfl, p2, _, 0, .str (S z), rfl, rfl, SqL.of h2, atI_nat (j := 0) rfl, (by show 1 ≤ sizeLine; decide), fun t0 nt0 => ?_⟩
        have f4 := f3.trans (Fr.new (M := [fo]) (o := .tup [V.str (S z)]) nt0)
        have ht0 : (upd Hc t0 (.tup [V.str (S z)])) t0 = some (.tup [V.str (S z)]) := upd_same
        have h24 : (upd Hc t0 (.tup [V.str (S z)])) p2 = some (.lst (((z :: ws).map S).map V.str)) := by rw [upd_ne (ne_of_none h2 nt0)]; exact h2
        have nt0f : fo ≠ t0 := ne_of_none hf3 nt0
        have hf4 : (upd Hc t0 (.tup [V.str (S z)])) fo = some (.lst ys0) := by rw [upd_ne nt0f]; exact hf3
        generalize upd Hc t0 _ = Hd' at f4 ht0 h24 hf4 ⊢
        refine ⟨_, rfl, 1, rfl, p2, _, rfl, SqL.of h24, fun p3 np3 => ?_⟩
        rw [show cutV (((z :: ws).map S).map V.str) (some 1) none = (ws.map S).map V.str from cut_from _ 1]
        have f5 := f4.trans (Fr.new (M := [fo]) (o := .lst ((ws.map S).map V.str)) np3)
        have h3 : (upd Hd' p3 (.lst ((ws.map S).map V.str))) p3 = some (.lst ((ws.map S).map V.str)) := upd_same
        have ht5 : (upd Hd' p3 (.lst ((ws.map S).map V.str))) t0 = some (.tup [V.str (S z)]) := by rw [upd_ne (ne_of_none ht0 np3)]; exact ht0
        have hf5 : (upd Hd' p3 (.lst ((ws.map S).map V.str))) fo = some (.lst ys0) := by rw [upd_ne (ne_of_none hf4 np3)]; exact hf4
        generalize upd Hd' p3 _ = He at f5 h3 ht5 hf5 ⊢
        refine ⟨p3, rfl, ⟨_, SqL.of h3⟩, fun D hD => ?_⟩
        have nDf : fo ≠ D := ne_of_none hf5 hD
        have hwn : ws.length ≤ 1000000 := by rw [List.length_cons] at wn; omega
        refine lc_listR (K := K) (fun _ => true) (fun y v Hq => ∃ w t, y = .str (S w) ∧ readTh w = some t ∧ IsTh (Hd [fo] Hq) v t) (fun _ _ _ _ e h => by obtain ⟨w, t, e1, e2, e3⟩ := h; exact ⟨w, t, e1, e2, e3.same (same_hd e)⟩) hD (by rw [List.length_map, List.length_map, sizeLine_eq]; omega) (fun _ => rfl) (fun x H' Q' _ _ _ h => h H' (Fr.refl _ _)) ?_ ?_ (SqL.of h3)
        · intro y Hf Q' hy _ fr6 ⟨acc, hacc⟩ hq
          rw [List.map_map] at hy
          obtain ⟨w, hw, rfl⟩ := List.mem_map.mp hy
          have f6 := f5.trans (fr6.mono (N := [fo]) fun _ h => nomatch h)
          refine ⟨_, rfl, _, rfl, w, (i : Int), rfl, by have := wl w (List.mem_cons_of_mem _ hw); omega, fun t ht Hg v fr7 hv hnew => hq _ _ fr7 ⟨w, t, rfl, ht, (hv.hd fun p e => ?_).hd fun p e => ?_⟩, fun hn Hg d fr7 hd => badw w hw hn _ _ ((frH (fz.trans f6)).trans fr7) hd⟩
          · have n1 := hnew p e
            intro h
            rw [List.mem_singleton.mp h, hacc] at n1
            cases n1
          · have n1 := hnew p e
            intro h
            rw [List.mem_singleton.mp h, fr6.same _ _ hf5] at n1
            cases n1
        · intro Hf vs hDf fr6 md
          obtain ⟨ts, hts, hvs⟩ := made_read (D := fo) md
          have hrow2 : rowOf ln = some (z, ts) := by rw [hrow, hts]; rfl
          have hlog2 : logOf 0 (lines l) = appR (rows ++ [(z, ts)]) (logOf (i + 1) ((lines l).drop (i + 1))) := by
            rw [hlog, hdrop]
            have : logOf i (ln :: (lines l).drop (i + 1)) = match logOf (i + 1) ((lines l).drop (i + 1)) with
              | .inl i => .inl i
              | .inr xs => .inr ((z, ts) :: xs) := by
              conv => lhs; unfold logOf
              rw [hrow2] <;> (cases logOf (i + 1) ((lines l).drop (i + 1)) <;> rfl)
            rw [this]
            cases logOf (i + 1) ((lines l).drop (i + 1)) with
            | inl k => rfl
            | inr xs => show Sum.inr (rows ++ (z, ts) :: xs) = Sum.inr (rows ++ [(z, ts)] ++ xs); rw [List.append_assoc]; rfl
          have f6 := f5.trans (fr6.mono (N := [fo]) fun _ h => nomatch h)
          have hf6 := fr6.same _ _ hf5
          have ht6 := fr6.same _ _ ht5
          have fin : ∀ pr Hr σ', Fr [] Hf Hr → Hr pr = some (.tup (.str (S z) :: vs)) → pr ≠ fo → (∃ s2 s3 s4, σ' = ([some (.str (S l)), some (.ref fo), s2, s3, s4, none] : L2.St)) →
              ∃ s2 s3 s4 rows ys, σ' = ([some (.str (S l)), some (.ref fo), s2, s3, s4, none] : L2.St) ∧ Fr [fo] Hx (upd Hr fo (.lst (ys0 ++ [.ref pr]))) ∧ (upd Hr fo (.lst (ys0 ++ [.ref pr]))) fo = some (.lst ys) ∧ ys.length ≤ i + 1 ∧ Paired (RowTh (Hd [fo] (upd Hr fo (.lst (ys0 ++ [.ref pr]))))) ys rows ∧ logOf 0 (lines l) = appR rows (logOf (i + 1) ((lines l).drop (i + 1))) := by
            rintro pr Hr σ' frr hpr' hne ⟨s2, s3, s4, rfl⟩
            have fset : Fr [fo] Hr (upd Hr fo (.lst (ys0 ++ [.ref pr]))) := Fr.set (List.mem_singleton.mpr rfl)
            have frall : Fr [fo] Hz Hr := f6.trans (frr.mono (N := [fo]) fun _ h => nomatch h)
            have hdall : Same (Hd [fo] Hz) (Hd [fo] (upd Hr fo (.lst (ys0 ++ [.ref pr])))) := (frall.trans fset).hd
            refine ⟨s2, s3, s4, rows ++ [(z, ts)], ys0 ++ [.ref pr], rfl, fz.trans (frall.trans fset), upd_same, by rw [List.length_append]; show _ + 1 ≤ _; omega, pairApp (L2.Paired.mapP hpr fun x t c => c.same hdall) (.cons ⟨pr, vs, rfl, ?_, L2.Paired.mapP hvs fun x t c => c.same ?_⟩ .nil), hlog2⟩
            · rw [Hd_of (by simpa using hne), upd_ne hne]
              exact hpr'
            · intro b o h
              obtain ⟨m1, h⟩ := of_Hd h
              obtain ⟨m2, h⟩ := of_Hd h
              rw [Hd_of m1, upd_ne (by simpa using m1)]
              exact frr.same _ _ h
          refine ⟨D, vs, rfl, .inl ⟨SqL.of hDf, fun l5 nl5 => ?_⟩⟩
          have f7 := Fr.new (M := []) (o := .tup vs) nl5
          have hvl : vs.length ≤ ws.length := by have := md.len; rw [List.length_map, List.length_map] at this; exact this
          refine ⟨t0, l5, _, _, rfl, rfl, SqT.of (f7.same _ _ ht6), SqT.of upd_same, by simp, by rw [sizeLine_eq]; show 1 + _ ≤ _; omega, fun e => ?_, fun ne pt npt => ?_⟩
          · subst e
            exact ⟨fo, ys0, _, rfl, rfl, f7.same _ _ hf6, by rw [sizeLine_eq]; omega, fin t0 _ _ f7 (f7.same _ _ ht6) (Ne.symm nt0f) ⟨_, _, _, rfl⟩⟩
          · have f8 := f7.trans (Fr.new (M := []) (o := .tup ([V.str (S z)] ++ vs)) npt)
            exact ⟨fo, ys0, _, rfl, rfl, f8.same _ _ hf6, by rw [sizeLine_eq]; omega, fin pt _ _ f8 upd_same (fun z => ne_of_none (f7.same _ _ hf6) npt z.symm) ⟨_, _, _, rfl⟩⟩
    · obtain ⟨s2, s3, s4, rows, ys, rfl, fz, hfz, hyl, hpr, hlog⟩ := hp
      have hl0 : logOf ((((lines l).map S).map V.str).length) ((lines l).drop ((((lines l).map S).map V.str).length)) = .inr [] := by
        rw [List.length_map, List.length_map, List.drop_eq_nil_of_le (Nat.le_refl _)]
        rfl
      rw [hl0] at hlog
      have frH := Fr.drop (f2.weak.trans fz) nfo
      exact ⟨_, rfl, qs (rows ++ []) hlog _ _ frH ⟨ys, hfz, by rw [List.append_nil]; exact L2.Paired.mapP hpr fun x t c => c.same Hd_same⟩⟩
end
end Tk

set_option Elab.async false
set_option linter.all false
set_option maxRecDepth 100000
set_option maxHeartbeats 4000000
/-! _law_thing -/
namespace Tk
open PySem PySem.Spec PyProof.Rows L2 SX TL
def GTh (t : Th) : Prop := OkTh t ∧ (showTh t).length ≤ 200
theorem small_int {i : Int} (h : i.natAbs < 10 ^ 50) : shortI i = true ∧ (showI i).length ≤ 51 := by
  refine ⟨decide_eq_true (lim_of h (by decide)), ?_⟩
  rcases Int.natAbs_eq i with e | e
  · rw [e, showI_nat]
    exact Nat.le_trans ((numL_len_iff (k := 50) (by decide)).mpr h) (by decide)
  · by_cases z : i.natAbs = 0
    · rw [e, z]; decide +kernel
    · rw [e, showI_neg (by omega), List.length_cons]
      exact Nat.succ_le_succ ((numL_len_iff (k := 50) (by decide)).mpr h)
theorem g_int {i : Int} (h : i.natAbs < 10 ^ 50) : GTh (.int i) := ⟨(small_int h).1, Nat.le_trans (small_int h).2 (by decide)⟩
theorem g_clk {n : List Nat} {i : Int} (hn : n = cThread ∨ n = cProcess) (h : i.natAbs < 10 ^ 50) (h0 : 0 ≤ i) : GTh (.clk n i) := by
  refine ⟨⟨hn, (small_int h).1, h0⟩, ?_⟩
  show (n ++ [58] ++ showI i).length ≤ 200
  have := (small_int h).2
  rw [List.length_append, List.length_append]
  rcases hn with rfl | rfl <;> simp [cThread, cProcess] <;> omega
theorem g_lst {l : List Int} (h : ∀ i ∈ l, i.natAbs < 10 ^ 50) (hl : l.length ≤ 3) : GTh (.lst l) := by
  refine ⟨fun i hi => (small_int (h i hi)).1, ?_⟩
  show ([91] ++ joinL [44] (l.map showI) ++ [93]).length ≤ 200
  have e : ((l.map showI).map (·.length)).sum ≤ 51 * l.length := by
    clear hl
    induction l with
    | nil => exact Nat.le_refl _
    | cons i l ih =>
      rw [List.map_cons, List.map_cons, List.sum_cons, List.length_cons]
      have := ih fun j hj => h j (.tail _ hj)
      have := (small_int (h i (.head _))).2
      omega
  have j := joinL_len 44 (l.map showI)
  rw [List.length_map] at j
  rw [List.length_append, List.length_append]
  simp only [List.length_cons, List.length_nil]
  omega
theorem stepN {M : List Addr} {Ha : Hp} {p : Addr} {o : HO} (n : Ha p = none) : ∃ Hb, upd Ha p o = Hb ∧ Hb p = some o ∧ Same Ha Hb ∧ Fr M Ha Hb := ⟨_, rfl, upd_same, (Fr.new (M := []) n).same, Fr.new n⟩
section
variable {P : Program} {w : World} {K : PySem.W.Frag} {mg : Str → Option Value} {base : Heap}
def spGTh : Sp := fun vs H Q _ => ∃ (a : Addr) (x y z : Int), vs = [.ref a] ∧ H a = some (srcO x y z) ∧
  ∀ v t H', NewV H v → IsTh (Hd [a] H') v t → GTh t → (∃ x y z, H' a = some (srcO x y z)) → Fr [a] H H' → Q v H'
theorem sc_gTh : FnScope ["source", "number", "some"] ["source"] (defScope s__law_thing) := ⟨rfl, rfl, rfl, by decide +kernel, rfl, by decide +kernel, by decide +kernel⟩
theorem ok_gTh (F : FunAt K mg "_law_thing" s__law_thing) (G : NoGl mg) (C__law_next : Cal P w K mg base CX0 2 "_law_next" ["source", "many"] [] spDraw) : Cal P w K mg base CX0 3 "_law_thing" ["source"] [] spGTh := by
  refine Cal.mk0 F sc_gTh (by rintro _ _ _ _ ⟨_, _, _, _, rfl, _⟩; rfl) (fun _ _ _ _ _ _ us hl => match us, hl with | [_], _ => rfl) ?_
  rintro f cdv A outer s H vs Q E hr ⟨a, x, y, z, rfl, hs, q⟩
  have nd := sc_gTh.nd
  refine ⟨_, (pss_cons (ps_set (i := 1) nd rfl (.inl rfl) (pe_ix ix_list (pe_lst (pa_cons pe_int (pa_cons (pe_c C__law_next (hr.mono (by decide)) (by rfl) pass0 (pa_cons (pv 0) (pa_cons pe_int pa_nil))) (pa_cons (pe_op op_add (pe_op op_pow pe_int pe_int) (pe_c C__law_next (hr.mono (by decide)) (by rfl) pass0 (pa_cons (pv 0) (pa_cons pe_int pa_nil)))) pa_nil)))) (pe_c C__law_next (hr.mono (by decide)) (by rfl) pass0 (pa_cons (pv 0) (pa_cons pe_int pa_nil))) (fun _ _ => rfl)))
    (pss_cons (ps_set (i := 2) nd rfl (.inl rfl) (pe_lst (pa_cons (pv 1) (pa_cons (pe_op op_sub pe_int (pv 1)) (pa_cons pe_non (pa_cons pe_bl (pa_cons pe_bl (pa_cons pe_str (pa_cons pe_str (pa_cons pe_str (pa_cons (pe_tup (pa_cons pe_str (pa_cons (pv 1) pa_nil))) (pa_cons (pe_tup (pa_cons pe_str (pa_cons (pv 1) pa_nil))) pa_nil))))))))))))
    (pss_one (ps_ret (pe_ix ix_list (pe_op op_cat (pv 2) (pe_lst (pa_cons (pe_lst pa_nil) (pa_cons (pe_lst (pa_cons (pv 1) pa_nil)) (pa_cons (pe_lst (pa_cons pe_int (pa_cons (pe_op op_sub pe_int (pv 1)) (pa_cons pe_int pa_nil)))) (pa_cons (pe_op op_rep (pe_lst (pa_cons (pv 1) pa_nil)) pe_int) pa_nil)))))) (pe_c C__law_next (hr.mono (by decide)) (by rfl) pass0 (pa_cons (pv 0) (pa_cons pe_int pa_nil))) (fun _ _ => rfl)))))), ?_⟩
  refine ⟨_, rfl, a, x, y, z, 99, rfl, hs, by decide, by decide, fun d1 x2 z2 H2 d10 d11 s2 fr2 => ?_⟩
  refine ⟨_, _, rfl, rfl, ⟨by decide, by decide, by decide⟩, _, rfl, a, x2, y, z2, 99, rfl, s2, by decide, by decide, fun d2 x3 z3 H3 d20 d21 s3 fr3 => ⟨_, _, rfl, rfl, (by show 3 ≤ sizeLine; decide), fun p1 n1 => ?_⟩⟩
  have f1 := Fr.new (M := [a]) (o := .lst [V.int 0, V.int d1, V.int (10 ^ (40 : Int).toNat + d2)]) n1
  dsimp only
  have na1 : a ≠ p1 := ne_of_none s3 n1
  have s4 : (upd H3 p1 (.lst [V.int 0, V.int d1, V.int (10 ^ (40 : Int).toNat + d2)])) a = some (srcO x3 y z3) := by rw [upd_ne na1]; exact s3
  have h1 : (upd H3 p1 (.lst [V.int 0, V.int d1, V.int (10 ^ (40 : Int).toNat + d2)])) p1 = some (.lst [V.int 0, V.int d1, V.int (10 ^ (40 : Int).toNat + d2)]) := upd_same
  generalize upd H3 p1 _ = H4 at f1 s4 h1 ⊢
  refine ⟨_, rfl, a, x3, y, z3, 3, rfl, s4, by decide, by decide, fun d3 x4 z4 H5 d30 d31 s5 fr5 => ?_⟩
  have h5 : H5 p1 = some (.lst [V.int 0, V.int d1, V.int (10 ^ (40 : Int).toNat + d2)]) := fr5.at h1 (by simpa using na1.symm)
  obtain ⟨n, hn0, hn1, hat⟩ : ∃ n : Int, 0 ≤ n ∧ n < 10 ^ 50 ∧ atI [V.int 0, V.int d1, V.int (10 ^ (40 : Int).toNat + d2)] d3 = some (.int n) := by
    have e : d3 = 0 ∨ d3 = 1 ∨ d3 = 2 := by omega
    have t40 : ((10 : Int) ^ (40 : Int).toNat) = 10 ^ 40 := rfl
    rcases e with rfl | rfl | rfl
    · exact ⟨0, by decide, by decide, rfl⟩
    · exact ⟨d1, d10, by omega, rfl⟩
    · exact ⟨10 ^ 40 + d2, by omega, by omega, rfl⟩
  have hnA : n.natAbs < 10 ^ 50 := by omega
  have hnB : (0 - n).natAbs < 10 ^ 50 := by omega
  refine ⟨p1, _, d3, .int n, rfl, rfl, SqL.of h5, hat, ?_⟩
  have fr : Fr [a] H H5 := fr2.trans (fr3.trans (f1.trans fr5))
  refine ⟨_, rfl, _, rfl, _, _, rfl, rfl, _, rfl, (by show 2 ≤ sizeLine; decide), fun q1 m1 => ⟨_, rfl, (by show 2 ≤ sizeLine; decide), fun q2 m2 => ⟨(by show 10 ≤ sizeLine; decide), fun q3 m3 => ?_⟩⟩⟩
  have c1 : ∀ {H' : Hp} {p : Addr} {o : HO}, H' p = none → Same H' (upd H' p o) := fun n => (Fr.new n).same
  have g1 := c1 (o := .tup [V.str "thread", .int n]) m1
  have g2 := c1 (o := .tup [V.str "process", .int n]) m2
  have t1 := g2 _ _ (upd_same (H := H5) (a := q1) (o := .tup [V.str "thread", .int n]))
  have t2 := upd_same (H := upd H5 q1 (.tup [V.str "thread", .int n])) (a := q2) (o := .tup [V.str "process", .int n])
  have ff := (Fr.new (M := [a]) (o := .tup [V.str "thread", .int n]) m1).trans (Fr.new (M := [a]) (o := .tup [V.str "process", .int n]) m2)
  have s6 := g2 _ _ (g1 _ _ s5)
  dsimp only at m3 ⊢
  generalize upd (upd H5 q1 (.tup [V.str "thread", .int n])) q2 (.tup [V.str "process", .int n]) = H6 at m3 t1 t2 ff s6 ⊢
  obtain ⟨H7, e7, l7, w7, f7⟩ := stepN (M := [a]) (o := .lst [V.int n, V.int (0 - n), V.non, V.bl true, V.bl false, V.str "steady", V.str "real", V.str "boot", V.ref q1, V.ref q2]) m3
  rw [e7]
  refine ⟨_, rfl, (by show 0 ≤ sizeLine; decide), fun q4 m4 => ?_⟩
  obtain ⟨H8, e8, l8, w8, f8⟩ := stepN (M := [a]) (o := .lst []) m4
  rw [e8]
  refine ⟨_, rfl, (by show 1 ≤ sizeLine; decide), fun q5 m5 => ?_⟩
  obtain ⟨H9, e9, l9, w9, f9⟩ := stepN (M := [a]) (o := .lst [V.int n]) m5
  rw [e9]
  refine ⟨_, rfl, _, _, rfl, rfl, (by show 3 ≤ sizeLine; decide), fun q6 m6 => ?_⟩
  dsimp only
  obtain ⟨Ha, ea, la, wa, fa⟩ := stepN (M := [a]) (o := .lst [V.int 0, V.int (0 - n), V.int 7]) m6
  rw [ea]
  refine ⟨_, rfl, (by show 1 ≤ sizeLine; decide), fun q7 m7 => ?_⟩
  obtain ⟨Hb, eb, lb, wb, fb⟩ := stepN (M := [a]) (o := .lst [V.int n]) m7
  rw [eb]
  refine ⟨q7, 3, [.int n], rfl, rfl, lb, by decide, by decide, (by show 3 ≤ sizeLine; decide), fun q8 m8 => ?_⟩
  rw [show (List.replicate (3 : Int).toNat [V.int n]).flatten = [V.int n, V.int n, V.int n] from rfl]
  obtain ⟨Hc, ec, lc, wc, fc⟩ := stepN (M := [a]) (o := .lst [V.int n, V.int n, V.int n]) m8
  rw [ec]
  refine ⟨(by show 4 ≤ sizeLine; decide), fun q9 m9 => ?_⟩
  obtain ⟨Hd', ed, ld, wd, fd⟩ := stepN (M := [a]) (o := .lst [V.ref q4, V.ref q5, V.ref q6, V.ref q8]) m9
  rw [ed]
  refine ⟨q3, q9, _, _, rfl, rfl, wd _ _ (wc _ _ (wb _ _ (wa _ _ (w9 _ _ (w8 _ _ l7))))), ld, (by show 14 ≤ sizeLine; decide), fun qa ma => ?_⟩
  dsimp only [List.cons_append, List.nil_append]
  obtain ⟨He, ee, le, we, fe⟩ := stepN (M := [a]) (o := .lst [V.int n, V.int (0 - n), V.non, V.bl true, V.bl false, V.str "steady", V.str "real", V.str "boot", V.ref q1, V.ref q2, V.ref q4, V.ref q5, V.ref q6, V.ref q8]) ma
  rw [ee]
  have up : ∀ {b : Addr} {o : HO}, H7 b = some o → He b = some o := fun h => we _ _ (wd _ _ (wc _ _ (wb _ _ (wa _ _ (w9 _ _ (w8 _ _ h))))))
  have se := up (w7 _ _ s6)
  refine ⟨_, rfl, a, x4, y, z4, 14, rfl, se, by decide, by decide, fun d4 x5 z5 Hf d40 d41 sf ff2 => ?_⟩
  have nn : ∀ {b : Addr} {Hx : Hp}, Hx a = some (srcO x4 y z4) → Hx b = none → b ∉ [a] := fun h n => by
    simp only [List.mem_singleton]
    exact (ne_of_none h n).symm
  have k : ∀ {b : Addr} {o : HO}, He b = some o → b ∉ [a] → Hd [a] Hf b = some o := fun h n => by
    rw [Hd_of n]
    exact ff2.at h n
  have frA : Fr [a] H Hf := fr.trans (ff.trans (f7.trans (f8.trans (f9.trans (fa.trans (fb.trans (fc.trans (fd.trans (fe.trans ff2)))))))))
  have s7 := w7 _ _ s6
  have s8 := w8 _ _ s7
  have s9 := w9 _ _ s8
  have sa := wa _ _ s9
  have sb := wb _ _ sa
  have k1 := k (up (w7 _ _ t1)) (nn s5 m1)
  have k2 := k (up (w7 _ _ t2)) (nn (g1 _ _ s5) m2)
  have k4 := k (we _ _ (wd _ _ (wc _ _ (wb _ _ (wa _ _ (w9 _ _ l8)))))) (nn s7 m4)
  have k5 := k (we _ _ (wd _ _ (wc _ _ (wb _ _ (wa _ _ l9))))) (nn s8 m5)
  have k6 := k (we _ _ (wd _ _ (wc _ _ (wb _ _ la)))) (nn s9 m6)
  have k8 := k (we _ _ (wd _ _ lc)) (nn sb m8)
  have le2 := ff2.at le (nn (wd _ _ (wc _ _ sb)) ma)
  have fin : ∀ (v : V) (t : Th), atI [V.int n, V.int (0 - n), V.non, V.bl true, V.bl false, V.str "steady", V.str "real", V.str "boot", V.ref q1, V.ref q2, V.ref q4, V.ref q5, V.ref q6, V.ref q8] d4 = some v → NewV H v → IsTh (Hd [a] Hf) v t → GTh t → rIxL K (.ref qa) (.int d4) Hf Q := fun v t h1 h0 h2 h3 => ⟨qa, _, d4, v, rfl, rfl, SqL.of le2, h1, q v t Hf h0 h2 h3 ⟨_, _, _, sf⟩ frA⟩
  have cs : d4 = 0 ∨ d4 = 1 ∨ d4 = 2 ∨ d4 = 3 ∨ d4 = 4 ∨ d4 = 5 ∨ d4 = 6 ∨ d4 = 7 ∨ d4 = 8 ∨ d4 = 9 ∨ d4 = 10 ∨ d4 = 11 ∨ d4 = 12 ∨ d4 = 13 := by omega
  have h3 : ∀ {l : List Int}, (∀ i ∈ l, i = n ∨ i = 0 - n ∨ i = 0 ∨ i = 7) → ∀ i ∈ l, i.natAbs < 10 ^ 50 := fun h i hi => by
    rcases h i hi with rfl | rfl | rfl | rfl
    · exact hnA
    · exact hnB
    · decide
    · decide
  rcases cs with rfl | rfl | rfl | rfl | rfl | rfl | rfl | rfl | rfl | rfl | rfl | rfl | rfl | rfl
  · exact fin _ (.int n) rfl (fun _ e => nomatch e) rfl (g_int hnA)
  · exact fin _ (.int (0 - n)) rfl (fun _ e => nomatch e) rfl (g_int hnB)
  · exact fin _ .non rfl (fun _ e => nomatch e) rfl ⟨trivial, by decide⟩
  · exact fin _ (.bl true) rfl (fun _ e => nomatch e) rfl ⟨trivial, by decide⟩
  · exact fin _ (.bl false) rfl (fun _ e => nomatch e) rfl ⟨trivial, by decide⟩
  · exact fin _ (.str cSteady) rfl (fun _ e => nomatch e) rfl ⟨.inl rfl, by decide⟩
  · exact fin _ (.str cReal) rfl (fun _ e => nomatch e) rfl ⟨.inr (.inl rfl), by decide⟩
  · exact fin _ (.str cBoot) rfl (fun _ e => nomatch e) rfl ⟨.inr (.inr rfl), by decide⟩
  · exact fin _ (.clk cThread n) rfl (newV_at (fr.none m1)) ⟨_, rfl, k1⟩ (g_clk (.inl rfl) hnA hn0)
  · exact fin _ (.clk cProcess n) rfl (newV_at ((fr.trans (Fr.new m1)).none m2)) ⟨_, rfl, k2⟩ (g_clk (.inr rfl) hnA hn0)
  · exact fin _ (.lst []) rfl (newV_at ((fr.trans (ff.trans f7)).none m4)) ⟨_, rfl, k4⟩ (g_lst (fun _ h => nomatch h) (by decide))
  · exact fin _ (.lst [n]) rfl (newV_at (((fr.trans (ff.trans f7)).trans f8).none m5)) ⟨_, rfl, k5⟩ (g_lst (h3 (by simp)) (by simp))
  · exact fin _ (.lst [0, 0 - n, 7]) rfl (newV_at (((fr.trans (ff.trans f7)).trans (f8.trans f9)).none m6)) ⟨_, rfl, k6⟩ (g_lst (h3 (by simp)) (by simp))
  · exact fin _ (.lst [n, n, n]) rfl (newV_at (((fr.trans (ff.trans f7)).trans (f8.trans (f9.trans (fa.trans fb)))).none m8)) ⟨_, rfl, k8⟩ (g_lst (h3 (by simp)) (by simp))
end
end Tk

set_option Elab.async false
set_option linter.all false
set_option maxRecDepth 100000
set_option maxHeartbeats 4000000
/-! _law_any_rows -/
namespace Tk
open PySem PySem.Spec PyProof.Rows L2 SX TL
def GRow (r : List Nat × List Th) : Prop := (∃ q ∈ lawSizes, q.1 = S r.1 ∧ ((r.2.length : Nat) : Int) = q.2) ∧ ∀ t ∈ r.2, GTh t
theorem mapPm {α β : Type} {F G : α → β → Prop} : ∀ {xs : List α} {ys : List β}, Paired F xs ys → (∀ x y, x ∈ xs → F x y → G x y) → Paired G xs ys
  | _, _, .nil, _ => .nil
  | _, _, .cons a b, h => .cons (h _ _ (.head _) a) (mapPm b fun x y m => h x y (.tail _ m))
structure ARowsI (H : Hp) (a pn : Addr) (names : List Str) (i : Nat) (fo : Addr) (H' : Hp) : Prop where
  src : ∃ x y z, H' a = some (srcO x y z)
  nm : H' pn = some (.lst (names.map V.str))
  ls : ∃ ys rs, H' fo = some (.lst ys) ∧ Paired (RowTh (Hd [a, fo] H')) ys rs ∧ (∀ r ∈ rs, GRow r) ∧ rs.length = i
  fr : Fr [a, fo] H H'
section
variable {P : Program} {w : World} {K : PySem.W.Frag} {mg : Str → Option Value} {base : Heap}
def spARows : Sp := fun vs H Q _ => ∃ (a : Addr) (x y z : Int) (many : Nat), vs = [.ref a, .int many] ∧ H a = some (srcO x y z) ∧ many ≤ 5 ∧
  ∀ p ys rs H', H p = none → p ≠ a → H' p = some (.lst ys) → Paired (RowTh (Hd [a] H')) ys rs → (∀ r ∈ rs, GRow r) → rs.length ≤ 5 → (∃ x y z, H' a = some (srcO x y z)) → Fr [a] H H' → Q (.ref p) H'
theorem sc_aRows : FnScope ["source", "many", "names", "found", "turn", "name", "place"] ["source", "many"] (defScope s__law_any_rows) := ⟨rfl, rfl, rfl, by decide +kernel, rfl, by decide +kernel, by decide +kernel⟩
theorem ok_aRows (F : FunAt K mg "_law_any_rows" s__law_any_rows) (G : NoGl mg) (C__law_sizes : Cal P w K mg base CX0 1 "_law_sizes" [] [] spSizes) (C__law_next : Cal P w K mg base CX0 2 "_law_next" ["source", "many"] [] spDraw)
    (C__law_thing : Cal P w K mg base CX0 3 "_law_thing" ["source"] [] spGTh) :
    Cal P w K mg base CX0 4 "_law_any_rows" ["source", "many"] [] spARows := by
  refine Cal.mk0 F sc_aRows (by rintro _ _ _ _ ⟨_, _, _, _, _, rfl, _⟩; rfl) (fun _ _ _ _ _ _ us hl => match us, hl with | [_, _], _ => rfl) ?_
  rintro f cdv A outer s H vs Q E hr ⟨a, x, y, z, many, rfl, hs, hm, q⟩
  have nd := sc_aRows.nd
  have hu1 := hu_of hr
  refine ⟨_, (pss_cons (ps_set (i := 2) nd rfl (.inl rfl) (pe_callB (call_sortedD rfl) (by rfl) G.sorted (by decide +kernel) (pa_cons (pe_c0 C__law_sizes (hr.mono (by decide)) (by rfl) pass0) pa_nil)))
    (pss_cons (ps_set (i := 3) nd rfl (.inl rfl) (pe_lst pa_nil))
    (pss_cons (ps_for PassesOwn.never rfl (pi_range1 (by rfl) G.range (pa_cons (pv 1) pa_nil)) (pg_name (i := 4) nd rfl (.inl rfl))
      (pss_cons (ps_set (i := 5) nd rfl (.inl rfl) (pe_ix ix_list (pv 2) (pe_c C__law_next (hr.mono (by decide)) (by rfl) pass0 (pa_cons (pv 0) (pa_cons (pe_callB call_len_seq (by rfl) G.len (by decide +kernel) (pa_cons (pv 2) pa_nil)) pa_nil))) (fun _ _ => rfl)))
      (pss_one (ps_expr (pe_bm PySem.F.plainAttrs_list PySem.F.slot_list_append PySem.F.type_list_append mt_append (pv 3) (pa_cons (pe_op op_catT (pe_tup (pa_cons (pv 5) pa_nil)) (pe_callTy (T := "tuple") call_tuple_of (by rfl) G.tuple (by decide +kernel) (pa_cons (pe_lc (own := [("place", 6)]) (g := gName 6) (tt := tYes) rfl nd (pi_range1 (by rfl) G.range (pa_cons (pe_dget (hu_of hr) (pe_c0 C__law_sizes (hr.mono (by decide)) (by rfl) pass0) (pv 5) (fun _ _ => rfl)) pa_nil))
        (blkOk_by (own := [("place", 6)]) (N := ["source", "many", "names", "found", "turn", "name", "place"]) (sc := defScope s__law_any_rows) (by decide +kernel))
        (fun _ _ _ _ _ => (pg_name (i := 6) nd rfl (.inl rfl) (Or.inr rfl))) (fun _ _ _ _ _ => pts_nil)
        (fun _ _ _ _ _ => (pe_c C__law_thing (hr.mono (by decide)) (by rfl) pass0 (pa_cons (pv 0) pa_nil)))) pa_nil))) pa_nil))))))
    (pss_one (ps_ret (pv 3)))))), ?_⟩
  refine ⟨rfl, fun d H1 hd hd1 fr1 => ?_⟩
  refine ⟨d, _, lawSizes.map (·.1), rfl, .inl hd1, keys_kv _, (by decide), fun names pn hperm _ hpn => ?_⟩
  have frn := Fr.new (M := []) (o := .lst (names.map V.str)) hpn
  have ln : names.length = 23 := hperm.length_eq
  have s1 := (fr1.trans frn).same _ _ hs
  refine ⟨(by show 0 ≤ sizeLine; decide), fun fo hf0 => ?_⟩
  have frf := Fr.new (M := []) (o := .lst []) hf0
  have fr0 := fr1.trans (frn.trans frf)
  have npn : pn ≠ a := (ne_of_none (fr1.same _ _ hs) hpn).symm
  have nfa : fo ≠ a := (ne_of_none s1 hf0).symm
  have npf : pn ≠ fo := ne_of_none upd_same hf0
  have new : H fo = none := (fr1.trans frn).none hf0
  refine ⟨_, rfl, many, rfl, (by omega), (by omega), ?_⟩
  refine for_range (lo := 0) (n := many) (fun i σ H' => ∃ s4 s5 s6, σ = [some (V.ref a), some (V.int many), some (V.ref pn), some (V.ref fo), s4, s5, s6] ∧ ARowsI H a pn names i fo H')
    ⟨_, _, _, rfl, ⟨x, y, z, frf.same _ _ s1⟩, frf.same _ _ upd_same, ⟨[], [], upd_same, .nil, (fun _ h => nomatch h), rfl⟩, fr0.mono (fun _ h => nomatch h)⟩ ?_ ?_
  · rintro i σ H' hi ⟨s4, s5, s6, rfl, I⟩
    obtain ⟨⟨x1, y1, z1, src1⟩, nm1, ⟨ys, rs, hfo, pr, good, len⟩, fr⟩ := I
    have K1 : ∀ {H1 H2 : Hp}, Fr [a] H1 H2 → ∀ {b o}, H1 b = some o → b ≠ a → H2 b = some o := fun fr b o h ne => fr.at h (by simpa using ne)
    refine ⟨_, rfl, _, rfl, _, rfl, pn, _, rfl, .inl (SqL.of nm1), a, x1, y1, z1, _, rfl, src1, (by rw [List.length_map, ln]; decide), (by rw [List.length_map, ln]; decide), fun d2 x3 z3 H3 d20 d21 src3 fr3 => ?_⟩
    have nm3 := K1 fr3 nm1 npn
    have hfo3 := K1 fr3 hfo nfa
    rw [List.length_map, ln] at d21
    obtain ⟨j, rfl⟩ : ∃ j : Nat, d2 = j := ⟨d2.toNat, by omega⟩
    have hj : j < names.length := by omega
    have mem : names[j] ∈ lawSizes.map (·.1) := hperm.mem_iff.mp (List.getElem_mem hj)
    generalize hn : names[j] = n at mem
    obtain ⟨zn, rfl⟩ := S_ex n
    refine ⟨pn, _, _, V.str (S zn), rfl, rfl, SqL.of nm3, atI_nat (j := j) (by rw [List.getElem?_map, List.getElem?_eq_getElem hj, hn]; rfl), ?_⟩
    obtain ⟨⟨n', k⟩, mk', en⟩ := List.mem_map.mp mem
    obtain rfl : n' = S zn := en
    obtain ⟨_, k1, k6⟩ := sz_size mk'
    have k1 : 1 ≤ k := k1
    have k6 : k ≤ 6 := k6
    refine ⟨_, rfl, .inl ⟨rfl, _, SqL.of hfo3⟩, _, rfl, (by show 1 ≤ sizeLine; decide), fun p1 hp1 => ?_⟩
    have frp1 := Fr.new (M := []) (o := .tup [V.str (S zn)]) hp1
    refine ⟨rfl, fun d H5 hd hd5 fr5 => ?_⟩
    have dg : DGet H5 d (V.str (S zn)) (some (V.int k)) := by
      have t := DGet.k (k := (Sum.inr (S zn) : Key)) hd5
      rw [sz_val mk'] at t
      exact t
    refine ⟨_, rfl, d, _, rfl, dg, k, rfl, (by omega), (by omega), fun D hD => ?_⟩
    have src5 := fr5.same _ _ (frp1.same _ _ src3)
    have fr15 : Fr [a] H' H5 := fr3.trans ((frp1.trans fr5).mono fun _ h => nomatch h)
    have nDa : D ≠ a := (ne_of_none src5 hD).symm
    have nDf : D ≠ fo := (ne_of_none (K1 fr15 hfo nfa) hD).symm
    have hp15 := fr5.same p1 _ upd_same
    have np1a : p1 ≠ a := (ne_of_none src3 hp1).symm
    have np1f : p1 ≠ fo := (ne_of_none hfo3 hp1).symm
    refine lc_range (lo := 0) (n := k.toNat) (fun j H6 => ∃ vs ts, ts.length = j ∧ Paired (IsTh (Hd [a, D] H6)) vs ts ∧ (∀ t ∈ ts, GTh t) ∧ H6 D = some (.lst vs) ∧ (∃ x y z, H6 a = some (srcO x y z)) ∧ (∀ p, V.ref p ∈ vs → p ≠ a ∧ p ≠ fo) ∧ Fr [a] H5 H6)
      ⟨[], [], rfl, .nil, (fun _ h => nomatch h), upd_same, ⟨x3, y1, z3, by rw [upd_ne nDa.symm]; exact src5⟩, (fun _ h => nomatch h), Fr.new hD⟩ ?_ ?_
    · rintro j H6 hj6 ⟨vs, ts, l6, pr6, g6, hD6, ⟨x6, y6, z6, src6⟩, nv6, fr6⟩
      refine ⟨rfl, _, rfl, a, x6, y6, z6, rfl, src6, fun v t H7 nv hv gt ⟨x7, y7, z7, src7⟩ fr7 => ?_⟩
      have hD7 := K1 fr7 hD6 nDa
      have lv := PySem.Paired.length pr6
      have hfo6 := K1 (fr15.trans fr6) hfo nfa
      have frq : Fr [a, D] H6 (upd H7 D (.lst (vs ++ [v]))) := (fr7.mono (by simp)).trans (Fr.set (by simp))
      refine ⟨_, hD7, (by rw [sizeLine_eq]; omega), vs ++ [v], ts ++ [t], (by rw [List.length_append]; show ts.length + 1 = _; omega), ?_, ?_, upd_same, ⟨x7, y7, z7, by rw [upd_ne nDa.symm]; exact src7⟩, ?_, ?_⟩
      · refine pairApp (L2.Paired.mapP pr6 fun x t c => c.same frq.hd) (.cons ?_ .nil)
        have nD : ∀ p, v = .ref p → p ≠ D := fun p e z => by
          have := nv p e
          rw [z, hD6] at this
          cases this
        have h2 := hv.hd (M := [D]) fun p e => by simpa using nD p e
        refine h2.same fun b o hb => ?_
        obtain ⟨m1, hb⟩ := of_Hd hb
        obtain ⟨m2, hb⟩ := of_Hd hb
        rw [Hd_of (by simp at m1 m2 ⊢; exact ⟨m2, m1⟩), upd_ne (by simpa using m1)]
        exact hb
      · intro t' ht'
        rcases List.mem_append.mp ht' with h | h
        · exact g6 _ h
        · obtain rfl := List.mem_singleton.mp h
          exact gt
      · intro p hp
        rcases List.mem_append.mp hp with h | h
        · exact nv6 p h
        · have e := List.mem_singleton.mp h
          have := nv p e.symm
          exact ⟨fun z => (by rw [z, src6] at this; cases this), fun z => (by rw [z, hfo6] at this; cases this)⟩
      · exact Fr.drop ((fr6.trans fr7).weak.trans (Fr.set List.mem_cons_self)) hD
    · rintro H6 ⟨vs, ts, l6, pr6, g6, hD6, ⟨x6, y6, z6, src6⟩, nv6, fr6⟩
      have lv := PySem.Paired.length pr6
      refine ⟨D, _, rfl, .inl ⟨SqL.of hD6, fun l hl => ?_⟩⟩
      have frl := Fr.new (M := []) (o := .tup vs) hl
      have frA : Fr [a] H' (upd H6 l (.tup vs)) := fr15.trans (fr6.trans (frl.mono fun _ h => nomatch h))
      have hp16 := frl.same _ _ (K1 fr6 hp15 np1a)
      have hfoA := K1 frA hfo nfa
      have hsrcA : (upd H6 l (.tup vs)) a = some (srcO x6 y6 z6) := frl.same _ _ src6
      have nen : vs ≠ [] := fun e => by rw [e] at lv; simp at lv; omega
      refine ⟨p1, l, _, _, rfl, rfl, SqT.of hp16, SqT.of upd_same, (fun z => nomatch z), (by rw [sizeLine_eq]; show 1 + vs.length ≤ _; omega), fun e => absurd e nen, fun _ p5 hp5 => ?_⟩
      have frp5 := Fr.new (M := []) (o := .tup ([V.str (S zn)] ++ vs)) hp5
      have np5a : p5 ≠ a := (ne_of_none hsrcA hp5).symm
      have np5f : p5 ≠ fo := (ne_of_none hfoA hp5).symm
      have nl : H6 D ≠ none := by rw [hD6]; exact fun z => nomatch z
      have frB : Fr [a] H' (upd (upd H6 l (.tup vs)) p5 (.tup ([V.str (S zn)] ++ vs))) := frA.trans (frp5.mono fun _ h => nomatch h)
      refine ⟨fo, ys, _, rfl, rfl, frp5.same _ _ hfoA, (by have := PySem.Paired.length pr; rw [sizeLine_eq]; omega), _, _, _, rfl, ?_⟩
      have frX : Fr [a, fo] H' (upd (upd (upd H6 l (.tup vs)) p5 (.tup ([V.str (S zn)] ++ vs))) fo (.lst (ys ++ [V.ref p5]))) := (frB.mono (by simp)).trans (Fr.set (by simp))
      refine ⟨⟨x6, y6, z6, by rw [upd_ne nfa.symm]; exact frp5.same _ _ hsrcA⟩, by rw [upd_ne npf]; exact K1 frB nm1 npn, ⟨ys ++ [V.ref p5], rs ++ [(zn, ts)], upd_same, ?_, ?_, by rw [List.length_append, len]; rfl⟩, fr.trans frX⟩
      · refine pairApp (L2.Paired.mapP pr fun x r c => c.same frX.hd) (.cons ⟨p5, vs, rfl, ?_, ?_⟩ .nil)
        · rw [Hd_of (by simp [np5a, np5f]), upd_ne np5f]; exact upd_same
        · refine mapPm pr6 fun x t hx c => ?_
          have c2 : IsTh (Hd [a, D, fo] H6) x t := by
            have c2 := c.hd (M := [fo]) fun p e => by
              subst e
              simpa using (nv6 p hx).2
            refine c2.same fun b o hb => ?_
            obtain ⟨m1, hb⟩ := of_Hd hb
            obtain ⟨m2, hb⟩ := of_Hd hb
            rw [Hd_of (by simp at m1 m2 ⊢; exact ⟨m2.1, m2.2, m1⟩)]
            exact hb
          refine c2.same fun b o hb => ?_
          obtain ⟨m1, hb⟩ := of_Hd hb
          simp at m1
          rw [Hd_of (by simp; exact ⟨m1.1, m1.2.2⟩), upd_ne m1.2.2]
          exact frp5.same _ _ (frl.same _ _ hb)
      · intro r hr
        rcases List.mem_append.mp hr with h | h
        · exact good r h
        · obtain rfl := List.mem_singleton.mp h
          exact ⟨⟨_, mk', rfl, by show ((ts.length : Nat) : Int) = k; omega⟩, g6⟩
  · rintro σ H' ⟨s4, s5, s6, rfl, I⟩
    obtain ⟨⟨x1, y1, z1, src1⟩, nm1, ⟨ys, rs, hfo, pr, good, len⟩, fr⟩ := I
    refine ⟨_, rfl, q fo ys rs H' new nfa hfo (L2.Paired.mapP pr fun x r c => c.same fun b o hb => ?_) good (by omega) ⟨x1, y1, z1, src1⟩ (Fr.drop (fr.mono fun b hb => by simp at hb ⊢; exact hb.symm) new)⟩
    obtain ⟨m1, hb⟩ := of_Hd hb
    rw [Hd_of (by simp at m1 ⊢; exact m1.1)]
    exact hb
end
end Tk

set_option Elab.async false
set_option linter.all false
set_option maxRecDepth 100000
set_option maxHeartbeats 4000000
/-! _law_word -/
namespace Tk
open PySem PySem.Spec PyProof.Rows L2 SX TL
theorem call_strE {X : Cx} (hc : X.calm = true) (D : NoDig X.K) : CallR X (.type "str") (fun xs H Q => rStrN xs H Q ∨ ∃ a, xs = [.str a] ∧ Q (.str a) H) := by
  intro pins s σ H xs us Q I r h
  rcases h with h | h
  · exact call_strN hc D pins s σ H xs us Q I r h
  · obtain ⟨a, rfl, q⟩ := h
    obtain ⟨u, rfl, t, rfl⟩ := vals1 r
    exact PySem.P.str_of_str ⟨.str a, H, I, ⟨t, rfl⟩, q⟩
theorem joinL_ge (c : Nat) : ∀ ys : List (List Nat), ys.length ≤ (joinL [c] ys).length + 1
  | [] => Nat.zero_le _
  | [a] => by simp
  | a :: b :: ys => by
    have := joinL_ge c (b :: ys)
    show (a :: b :: ys).length ≤ (a ++ ([c] ++ joinL [c] (b :: ys))).length + 1
    simp only [List.length_append, List.length_cons, List.length_nil] at this ⊢
    omega
section
variable {P : Program} {w : World} {K : PySem.W.Frag} {mg : Str → Option Value} {base : Heap}
def spLWord : Sp := fun vs H Q _ => ∃ x t, vs = [x] ∧ IsTh H x t ∧ GTh t ∧ ∀ H', Fr [] H H' → Q (.str (S (showTh t))) H'
theorem sc_lWord : FnScope ["thing", "one"] ["thing"] (defScope s__law_word) := ⟨rfl, rfl, rfl, by decide +kernel, rfl, by decide +kernel, by decide +kernel⟩
theorem ok_lWord (F : FunAt K mg "_law_word" s__law_word) (G : NoGl mg) (ND : NoDig K) : Cal P w K mg base CX0 1 "_law_word" ["thing"] [] spLWord := by
  refine Cal.mk0 F sc_lWord (by rintro _ _ _ _ ⟨_, _, rfl, _⟩; rfl) (fun _ _ _ _ _ _ us hl => match us, hl with | [_], _ => rfl) ?_
  rintro f cdv A outer s H vs Q E hr ⟨x, t, rfl, ht, gt, q⟩
  have nd := sc_lWord.nd
  refine ⟨_, (pss_cons (ps_if (PW.pt (pw_or (pt_cmp (pc_isN (pv 0)) rfl) (pw_or1 (pt_val (pe_is (n := "bool") G G.bool (pv 0))))))
      (pss_one (ps_ret (pe_ifExp (pt_cmp (pc_isN (pv 0)) rfl) pe_str (pe_ix ix_list (pe_lst (pa_cons pe_str (pa_cons pe_str pa_nil))) (pe_callTy (T := "int") call_int1 (by rfl) G.int (by decide +kernel) (pa_cons (pv 0) pa_nil)) (fun _ _ => rfl)))))
      pss_nil)
    (pss_cons (ps_if (pt_val (pe_is (n := "list") G G.list (pv 0)))
      (pss_one (ps_ret (pe_op op_add_str (pe_op op_add_str pe_str (pe_join pe_str (pe_lc (own := [("one", 1)]) (g := gName 1) (tt := tYes) rfl nd (pi_list (pv 0))
        (blkOk_by (own := [("one", 1)]) (N := ["thing", "one"]) (sc := defScope s__law_word) (by decide +kernel))
        (fun _ _ _ _ _ => (pg_name (i := 1) nd rfl (.inl rfl) (Or.inr rfl))) (fun _ _ _ _ _ => pts_nil)
        (fun _ _ _ _ _ => (pe_callTy (T := "str") (call_strN rfl ND) (by rfl) G.str (by decide +kernel) (pa_cons (pv 1) pa_nil)))))) pe_str)))
      pss_nil)
    (pss_one (ps_ret (pe_ifExp (pt_val (pe_is (n := "tuple") G G.tuple (pv 0))) (pe_op op_add_str (pe_op op_add_str (pe_ix ix_tup (pv 0) pe_int (fun _ _ => rfl)) pe_str) (pe_callTy (T := "str") (call_strN rfl ND) (by rfl) G.str (by decide +kernel) (pa_cons (pe_ix ix_tup (pv 0) pe_int (fun _ _ => rfl)) pa_nil))) (pe_callTy (T := "str") (call_strE rfl ND) (by rfl) G.str (by decide +kernel) (pa_cons (pv 0) pa_nil))))))), ?_⟩
  have se := q H (Fr.refl _ _)
  cases t with
  | non =>
    obtain rfl : x = .non := ht
    exact ⟨_, rfl, _, rfl, _, rfl, _, rfl, se⟩
  | bl b =>
    obtain rfl : x = .bl b := ht
    have k : Kd H (.bl b) "bool" := .bl b
    refine ⟨_, rfl, _, rfl, _, rfl, _, _, "bool", _, rfl, k, .bool, _, rfl, _, rfl, _, rfl, (by show 2 ≤ sizeLine; decide), fun p np => ?_⟩
    refine ⟨_, rfl, .inr ⟨b, rfl, p, _, _, .str (S (showTh (.bl b))), rfl, rfl, SqL.of upd_same, by cases b <;> rfl, q _ (Fr.new np)⟩⟩
  | int i =>
    obtain rfl : x = .int i := ht
    have k : Kd H (.int i) "int" := .int i
    refine ⟨_, rfl, _, rfl, _, rfl, _, _, "bool", _, rfl, k, .bool, _, rfl, _, rfl, _, _, "list", _, rfl, k, .list, _, rfl, _, rfl, _, _, "tuple", _, rfl, k, .tuple, _, rfl, ?_⟩
    refine ⟨_, rfl, .inl ⟨i, rfl, short_lt gt.1, ?_⟩⟩
    rw [toStr_S]
    exact se
  | str m =>
    obtain rfl : x = .str (S m) := ht
    have k : Kd H (.str (S m)) "str" := .str _
    refine ⟨_, rfl, _, rfl, _, rfl, _, _, "bool", _, rfl, k, .bool, _, rfl, _, rfl, _, _, "list", _, rfl, k, .list, _, rfl, _, rfl, _, _, "tuple", _, rfl, k, .tuple, _, rfl, ?_⟩
    exact ⟨_, rfl, .inr ⟨_, rfl, se⟩⟩
  | clk n i =>
    obtain ⟨a, rfl, h⟩ := ht
    have k : Kd H (.ref a) "tuple" := .tup h
    refine ⟨_, rfl, _, rfl, _, rfl, _, _, "bool", _, rfl, k, .bool, _, rfl, _, rfl, _, _, "list", _, rfl, k, .list, _, rfl, _, rfl, _, _, "tuple", _, rfl, k, .tuple, _, rfl, ?_⟩
    have hi := showI_len gt.1.2.1
    have hn : n.length ≤ 8 := by
      rcases gt.1.1 with rfl | rfl <;> decide
    refine ⟨_, rfl, a, _, 0, .str (S n), rfl, rfl, SqT.of h, rfl, S n, S [58], rfl, rfl, by rw [S_len, S_len, sizeLine_eq]; simp; omega, ?_⟩
    rw [S_cat]
    refine ⟨_, rfl, a, _, 1, .int i, rfl, rfl, SqT.of h, rfl, i, rfl, short_lt gt.1.2.1, ?_⟩
    rw [toStr_S]
    refine ⟨_, _, rfl, rfl, by rw [S_len, S_len, sizeLine_eq]; simp; omega, ?_⟩
    rw [S_cat]
    exact se
  | lst is =>
    obtain ⟨a, rfl, h⟩ := ht
    have k : Kd H (.ref a) "list" := .lst h
    refine ⟨_, rfl, _, rfl, _, rfl, _, _, "bool", _, rfl, k, .bool, _, rfl, _, rfl, _, _, "list", _, rfl, k, .list, _, rfl, ?_⟩
    refine ⟨⟨_, rfl⟩, _, rfl, a, rfl, ⟨_, SqL.of h⟩, fun D hD => ?_⟩
    have hlen : is.length ≤ 200 := by
      have := gt.2
      have e : showTh (.lst is) = [91] ++ joinL [44] (is.map showI) ++ [93] := rfl
      rw [e, List.length_append, List.length_append] at this
      simp only [List.length_cons, List.length_nil] at this
      have := joinL_ge 44 (is.map showI)
      rw [List.length_map] at this
      omega
    have hsum : ((is.map showI).map (·.length)).sum + is.length ≤ 16000000 := by
      have : ∀ l : List Int, (∀ i ∈ l, shortI i = true) → ((l.map showI).map (·.length)).sum ≤ 1001 * l.length := fun l => by
        induction l with
        | nil => exact fun _ => Nat.le_refl _
        | cons i l ih =>
          intro h
          rw [List.map_cons, List.map_cons, List.sum_cons, List.length_cons]
          have := ih fun j hj => h j (.tail _ hj)
          have := showI_len (h i (.head _))
          omega
      have := this is gt.1
      omega
    refine lc_listR (K := K) (fun _ => true) (fun x y _ => y = .str (S (showV x))) (fun _ _ _ _ _ h => h) hD (by rw [sizeLine_eq, List.length_map]; omega) (fun _ => rfl) (fun x H' Q' _ _ _ h => h H' (Fr.refl _ _)) ?_ ?_ (SqL.of h)
    · intro y H' Q' hy _ fr _ hq
      obtain ⟨i, hi, rfl⟩ := List.mem_map.mp hy
      refine ⟨_, rfl, i, rfl, short_lt (gt.1 i hi), ?_⟩
      rw [toStr_S]
      exact hq _ _ (Fr.refl _ _) rfl
    · intro H3 ys hD3 fr3 md
      have e : ys = ((is.map showI).map S).map V.str := by
        have e := md.pure (f := fun x => V.str (S (showV x))) (fun _ _ _ h => h)
        rw [List.filter_eq_self.mpr (fun _ _ => rfl)] at e
        rw [e, List.map_map, List.map_map, List.map_map]
        rfl
      subst e
      have hj := joinL_len 44 (is.map showI)
      rw [List.length_map] at hj
      refine ⟨S [44], D, (is.map showI).map S, rfl, rfl, .inl (SqL.of hD3), ?_, ?_⟩
      · rw [lens, List.length_map, List.length_map]
        show _ + is.length * 1 ≤ _
        omega
      rw [join_S]
      refine ⟨S [91], _, rfl, rfl, by rw [S_len, S_len, sizeLine_eq]; simp only [List.length_cons, List.length_nil]; omega, ?_⟩
      rw [S_cat]
      refine ⟨_, S [93], rfl, rfl, by rw [S_len, S_len, sizeLine_eq]; simp only [List.length_append, List.length_cons, List.length_nil]; omega, ?_⟩
      rw [S_cat]
      exact q _ fr3
end
end Tk

set_option Elab.async false
set_option linter.all false
set_option maxRecDepth 100000
set_option maxHeartbeats 4000000
/-! _law_text -/
namespace Tk
open PySem PySem.Spec PyProof.Rows L2 SX TL
theorem word_th {H : Hp} {x : V} {t : Th} (h : IsTh H x t) (ok : OkTh t) : wordO H x = some (showTh t) := by
  cases t with
  | non => obtain rfl : x = .non := h; rfl
  | bl b => obtain rfl : x = .bl b := h; rfl
  | int i => obtain rfl : x = .int i := h; exact if_pos ok
  | str s =>
    obtain rfl : x = .str (S s) := h
    refine if_pos ?_
    show s ∈ [cSteady, cReal, cBoot]
    rcases ok with rfl | rfl | rfl <;> simp
  | clk n i =>
    obtain ⟨p, rfl, h⟩ := h
    rw [wordO_tup h]
    refine if_pos ?_
    rw [ok.2.1, decide_eq_true ok.2.2]
    show (decide (n ∈ [cThread, cProcess]) && (true && true)) = true
    rcases ok.1 with rfl | rfl <;> simp
  | lst is =>
    obtain ⟨p, rfl, h⟩ := h
    rw [wordO_lst h]
    unfold lstL
    rw [if_pos, List.map_map]
    · rfl
    · rw [List.all_map]
      exact List.all_eq_true.mpr fun i hi => ok i hi
theorem arg_th {H : Hp} {x : V} {t : Th} (h : IsTh H x t) (hl : ∀ is, t = .lst is → is.length < 1000000) : Arg H x := by
  cases t with
  | non => obtain rfl : x = .non := h; exact .non
  | bl b => obtain rfl : x = .bl b := h; exact .bl b
  | int i => obtain rfl : x = .int i := h; exact .int i
  | str s => obtain rfl : x = .str (S s) := h; exact .str _
  | clk n i =>
    obtain ⟨p, rfl, h⟩ := h
    refine .tup h (fun y hy => ?_) (by simp)
    simp at hy
    rcases hy with rfl | rfl
    · exact ⟨_, .str _⟩
    · exact ⟨_, .int _⟩
  | lst is =>
    obtain ⟨p, rfl, h⟩ := h
    refine .lst h (fun y hy => ?_) (by rw [List.length_map]; exact hl is rfl)
    obtain ⟨i, _, rfl⟩ := List.mem_map.mp hy
    exact ⟨_, .int i⟩
theorem words_th {H : Hp} : ∀ {vs : List V} {ts : List Th}, Paired (IsTh H) vs ts → (∀ t ∈ ts, OkTh t) → (vs.all fun v => (wordO H v).isSome) = true ∧ (vs.map fun v => (wordO H v).getD []) = ts.map showTh
  | _, _, .nil, _ => ⟨rfl, rfl⟩
  | _, _, .cons a b, h => by
    obtain ⟨h1, h2⟩ := words_th b fun t ht => h t (.tail _ ht)
    have e := word_th a (h _ (.head _))
    refine ⟨?_, ?_⟩
    · rw [List.all_cons, h1, e]; rfl
    · rw [List.map_cons, h2, e]; rfl
theorem wordsO_th {H : Hp} {vs : List V} {ts : List Th} (p : Paired (IsTh H) vs ts) (h : ∀ t ∈ ts, OkTh t) : wordsO H vs = some (ts.map showTh) := by
  obtain ⟨h1, h2⟩ := words_th p h
  unfold wordsO
  rw [if_pos h1, h2]
theorem rowO_th {H : Hp} {y : V} {r : List Nat × List Th} (h : RowTh H y r) (ok : ∀ t ∈ r.2, OkTh t) : rowO H y = some (rowTxt r) := by
  obtain ⟨a, vs, rfl, h1, h2⟩ := h
  rw [rowO_at h1, wordsO_th h2 ok]
  rfl
theorem rows_th {H : Hp} : ∀ {ys : List V} {rs : List (List Nat × List Th)}, Paired (RowTh H) ys rs → (∀ r ∈ rs, ∀ t ∈ r.2, OkTh t) → (ys.all fun v => (rowO H v).isSome) = true ∧ (ys.map fun v => (rowO H v).getD []) = rs.map rowTxt
  | _, _, .nil, _ => ⟨rfl, rfl⟩
  | _, _, .cons a b, h => by
    obtain ⟨h1, h2⟩ := rows_th b fun t ht => h t (.tail _ ht)
    have e := rowO_th a (h _ (.head _))
    refine ⟨?_, ?_⟩
    · rw [List.all_cons, h1, e]; rfl
    · rw [List.map_cons, h2, e]; rfl
def txtOf (rs : List (List Nat × List Th)) : List Nat := joinL [10] (rs.map rowTxt)
theorem logO_th {H : Hp} {ys : List V} {rs : List (List Nat × List Th)} (p : Paired (RowTh H) ys rs) (h : ∀ r ∈ rs, ∀ t ∈ r.2, OkTh t) : logO H ys = some (txtOf rs) := by
  obtain ⟨h1, h2⟩ := rows_th p h
  unfold logO
  rw [if_pos h1, h2]
  rfl
theorem sum_le {α : Type} (f : α → Nat) (n : Nat) : ∀ xs : List α, (∀ x ∈ xs, f x ≤ n) → (xs.map f).sum ≤ n * xs.length
  | [], _ => Nat.zero_le _
  | x :: xs, h => by
    have := sum_le f n xs fun y hy => h y (.tail _ hy)
    have := h x (.head _)
    rw [List.map_cons, List.sum_cons, List.length_cons, Nat.mul_add]
    omega
theorem name_len {q : Str × Int} (h : q ∈ lawSizes) : q.1.length ≤ 10 := by
  have ok : (lawSizes.all fun q => decide (q.1.length ≤ 10)) = true := by decide +kernel
  exact of_decide_eq_true (List.all_eq_true.mp ok _ h)
theorem grow_len {r : List Nat × List Th} (g : GRow r) : r.2.length ≤ 6 ∧ 1 ≤ r.2.length ∧ r.1.length ≤ 10 ∧ (rowTxt r).length ≤ 1300 := by
  obtain ⟨⟨q, hq, e1, e2⟩, h⟩ := g
  obtain ⟨_, h1, h6⟩ := sz_size hq
  have hn := name_len hq
  rw [e1, S_len] at hn
  have hl : r.2.length ≤ 6 := by omega
  refine ⟨hl, by omega, hn, ?_⟩
  unfold rowTxt
  have j := joinL_len 32 (r.1 :: r.2.map showTh)
  have s := sum_le (fun t => (showTh t).length) 200 r.2 fun t ht => (h t ht).2
  rw [List.map_cons, List.sum_cons, List.length_cons, List.length_map, List.map_map] at j
  have e : (r.2.map ((·.length) ∘ showTh)).sum = (r.2.map fun t => (showTh t).length).sum := rfl
  rw [e] at j
  omega
theorem txt_len {rs : List (List Nat × List Th)} (g : ∀ r ∈ rs, GRow r) (h : rs.length ≤ 5) : (txtOf rs).length ≤ 7000 := by
  unfold txtOf
  have j := joinL_len 10 (rs.map rowTxt)
  have s := sum_le (fun r => (rowTxt r).length) 1300 rs fun r hr => (grow_len (g r hr)).2.2.2
  rw [List.length_map, List.map_map] at j
  have e : (rs.map ((·.length) ∘ rowTxt)).sum = (rs.map fun r => (rowTxt r).length).sum := rfl
  rw [e] at j
  omega
theorem pairL {α β : Type} {F : α → β → Prop} : ∀ {xs : List α} {ys : List β}, Paired F xs ys → ∀ x ∈ xs, ∃ y ∈ ys, F x y
  | _, _, .cons a b, x, h => by
    rcases List.mem_cons.mp h with rfl | h
    · exact ⟨_, .head _, a⟩
    · obtain ⟨y, m, f⟩ := pairL b x h
      exact ⟨y, .tail _ m, f⟩
abbrev teLRow (K : PySem.W.Frag) : TE := tM1 (rJoin K) (tC (.str " ")) (tOp rCat (tLst (tCons (tOp (rIxT K) (tVar 1) (tC (.int 0))) tNil)) (tLc (iTup K (L2.tSl (rSlT K) (tVar 1) (tPart (tC (.int 1))) tNoPart)) (gName 2) tYes (tCall spLWord [] E0 (tCons (tVar 2) tNil)) [2]))
section
variable {P : Program} {w : World} {K : PySem.W.Frag} {mg : Str → Option Value} {base : Heap}
def spLText : Sp := fun vs H Q _ => ∃ a ys rs, vs = [.ref a] ∧ H a = some (.lst ys) ∧ Paired (RowTh H) ys rs ∧ (∀ r ∈ rs, GRow r) ∧ rs.length ≤ 5 ∧ ∀ H', Fr [] H H' → Q (.str (S (txtOf rs))) H'
theorem sc_lText : FnScope ["rows", "row", "thing"] ["rows"] (defScope s__law_text) := ⟨rfl, rfl, rfl, by decide +kernel, rfl, by decide +kernel, by decide +kernel⟩
theorem ok_lText (F : FunAt K mg "_law_text" s__law_text) (G : NoGl mg) (C__law_word : Cal P w K mg base CX0 1 "_law_word" ["thing"] [] spLWord) : Cal P w K mg base CX0 2 "_law_text" ["rows"] [] spLText := by
  refine Cal.mk0 F sc_lText (by rintro _ _ _ _ ⟨_, _, _, rfl, _⟩; rfl) (fun _ _ _ _ _ _ us hl => match us, hl with | [_], _ => rfl) ?_
  rintro f cdv A outer s H vs Q E hr ⟨a, xs, rs, rfl, h, pr, gr, hn, q⟩
  have nd := sc_lText.nd
  refine' ⟨_, pss_one (ps_ret (pe_join pe_str (pe_lc (own := [("row", 1)]) (g := gName 1) (tt := tYes) (te := teLRow K) rfl nd (pi_list (pv 0))
        (blkOk_by (own := [("row", 1)]) (N := ["rows", "row", "thing"]) (sc := defScope s__law_text) (by decide +kernel))
        (fun _ _ _ _ _ => pg_name (i := 1) nd rfl (.inl rfl) (Or.inr rfl)) (fun _ _ _ _ _ => pts_nil) ?he))), ?_⟩
  case he =>
    intro s1 H1 C1 cl1 fp1
    refine' pe_join pe_str (pe_op op_cat (pe_lst (pa_cons (pe_ix ix_tup (pv 1) pe_int (fun _ _ => rfl)) pa_nil)) (pe_lc (own := [("thing", 2)]) (g := gName 2) (tt := tYes) rfl nd (pi_tup (pe_slice sl_tup (pv 1) (po_some pe_int) po_none))
          (blkOk_by (own := [("thing", 2)]) (N := ["rows", "row", "thing"]) (by rfl))
          (fun _ _ _ _ _ => pg_name (i := 2) nd rfl (.inl rfl) (Or.inr rfl)) (fun _ _ _ _ _ => pts_nil) ?he2))
    intro s2 H2 C2 cl2 fp2
    exact pe_c C__law_word (hr.mono (by decide)) (by rfl) pass0 (pa_cons (pv 2) pa_nil)
  have lx := PySem.Paired.length pr
  refine ⟨⟨_, rfl⟩, _, rfl, a, rfl, ⟨xs, SqL.of h⟩, fun D hD => ?_⟩
  refine lc_listR (K := K) (fun _ => true) (fun y z _ => z = .str (S ((rowO H y).getD []))) (fun _ _ _ _ _ h => h) hD (by rw [sizeLine_eq]; omega) (fun _ => rfl) (fun x H' Q' _ _ _ h => h H' (Fr.refl _ _)) ?_ ?_ (SqL.of h)
  · intro y Hb Q' hy _ f2 _ hq
    obtain ⟨r, hr, hrow⟩ := pairL pr y hy
    obtain ⟨l6, l1, ln, _⟩ := grow_len (gr r hr)
    have er := rowO_th hrow fun t ht => ((gr r hr).2 t ht).1
    obtain ⟨p, vs, rfl, hp, hargs⟩ := hrow
    have lv := PySem.Paired.length hargs
    have hpb := f2.same _ _ hp
    refine ⟨⟨_, rfl⟩, _, rfl, p, _, 0, .str (S r.1), rfl, rfl, SqT.of hpb, atI_nat (j := 0) rfl, (by show 1 ≤ sizeLine; decide), fun l1 nl1 => ?_⟩
    obtain ⟨Hc, ec, hl1, _, frb⟩ := stepN (M := []) (o := .lst [V.str (S r.1)]) nl1
    rw [ec]
    have f3 := f2.trans frb
    refine ⟨_, rfl, 1, rfl, p, _, rfl, SqT.of (f3.same _ _ hp), ?_, fun p2 np2 => ?_⟩
    · rw [show (some (1 : Int)) = some ((1 : Nat) : Int) from rfl, HT.sIx_nat]
      rintro ⟨z1, _⟩
      rw [List.length_cons] at z1
      omega
    rw [show cutV (V.str (S r.1) :: vs) (some 1) none = vs from cut_from _ 1]
    obtain ⟨Hd', ed, hp2, sd, frc⟩ := stepN (M := []) (o := .tup vs) np2
    rw [ed]
    have f4 := f3.trans frc
    have hl2 := sd _ _ hl1
    refine ⟨p2, rfl, ⟨_, SqT.of hp2⟩, fun D2 hD2 => ?_⟩
    refine lc_tupR (K := K) (fun _ => true) (fun v z _ => z = .str (S ((wordO H v).getD []))) (fun _ _ _ _ _ h => h) hD2 (by rw [sizeLine_eq]; omega) (fun _ => rfl) (fun x H' Q' _ _ _ h => h H' (Fr.refl _ _)) ?_ ?_ (SqT.of hp2)
    · intro v He Q2 hv _ fr5 _ hq2
      obtain ⟨t, ht, hth⟩ := pairL hargs v hv
      have gt := (gr r hr).2 t ht
      exact ⟨_, rfl, v, t, rfl, hth.same (f4.trans fr5).same, gt, fun Hf fr6 => hq2 _ _ fr6 (by rw [word_th hth gt.1]; rfl)⟩
    · intro He ys hDe fr5 md
      obtain ⟨_, ew⟩ := words_th hargs fun t ht => ((gr r hr).2 t ht).1
      have e : ys = ((r.2.map showTh).map S).map V.str := by
        have e := md.pure (f := fun v => V.str (S ((wordO H v).getD []))) (fun v z _ r => r)
        rw [List.filter_eq_self.mpr (fun _ _ => rfl)] at e
        rw [e, ← ew, List.map_map, List.map_map]
        rfl
      subst e
      refine ⟨l1, D2, _, _, rfl, rfl, fr5.same _ _ hl2, hDe, (by rw [List.length_map, List.length_map, List.length_map, sizeLine_eq]; show 1 + _ ≤ _; omega), fun pc npc => ?_⟩
      have f6 := Fr.new (M := []) (o := .lst ([V.str (S r.1)] ++ ((r.2.map showTh).map S).map V.str)) npc
      refine ⟨S [32], pc, (r.1 :: r.2.map showTh).map S, rfl, rfl, .inl (SqL.of upd_same), ?_, ?_⟩
      · have s := sum_le (fun t => (showTh t).length) 200 r.2 fun t ht => ((gr r hr).2 t ht).2
        rw [lens, List.length_map, List.length_cons, List.length_map, List.map_cons, List.sum_cons, List.map_map]
        show r.1.length + (r.2.map fun t => (showTh t).length).sum + (r.2.length + 1) * 1 ≤ _
        omega
      rw [join_S]
      exact hq _ _ (frb.trans (frc.trans (fr5.trans f6))) (by rw [er]; rfl)
  · intro Hb ys hDb fr2 md
    obtain ⟨_, ew⟩ := rows_th pr fun r hr t ht => ((gr r hr).2 t ht).1
    have e : ys = ((rs.map rowTxt).map S).map V.str := by
      have e := md.pure (f := fun v => V.str (S ((rowO H v).getD []))) (fun v z _ r => r)
      rw [List.filter_eq_self.mpr (fun _ _ => rfl)] at e
      rw [e, ← ew, List.map_map, List.map_map]
      rfl
    subst e
    refine ⟨S [10], D, (rs.map rowTxt).map S, rfl, rfl, .inl (SqL.of hDb), ?_, ?_⟩
    · have s := sum_le (fun r => (rowTxt r).length) 1300 rs fun r hr => (grow_len (gr r hr)).2.2.2
      rw [lens, List.length_map, List.length_map, List.map_map]
      show (rs.map fun r => (rowTxt r).length).sum + rs.length * 1 ≤ _
      omega
    rw [join_S]
    exact q _ fr2
end
end Tk

set_option Elab.async false
set_option linter.all false
set_option maxRecDepth 100000
set_option maxHeartbeats 4000000
/-! numbers of nothing but sevens; a sign many times -/
namespace Tk
open PySem PySem.Spec PyProof.Rows L2 SX TL PySem.NumText
def figs (k : Nat) : List Nat := List.replicate k 55
def sevens (k : Nat) : Nat := digitsVal (figs k)
theorem sev_0 : sevens 0 = 0 := rfl
theorem sev_s (k : Nat) : sevens (k + 1) = sevens k * 10 + 7 := by
  unfold sevens figs
  rw [List.replicate_succ', digitsVal_snoc]
theorem sev_25 (k : Nat) : sevens (k + 25) = sevens k * 10 ^ 25 + 7777777777777777777777777 := by
  simp only [sev_s]
  omega
theorem figs_all (k : Nat) : AllDigits (figs k) := fun c hc => by
  rw [List.eq_of_mem_replicate hc]
  decide
theorem sev_lt (k : Nat) : sevens k < 10 ^ k := by
  have := digits_lt (figs k) (figs_all k)
  rwa [figs, List.length_replicate] at this
theorem figs_len (k : Nat) : (figs k).length = k := List.length_replicate
theorem figs_take {k : Nat} (h : 0 < k) : (figs k).take 1 = [55] := by
  cases k with
  | zero => omega
  | succ k => rfl
theorem sev_num {k : Nat} (h : 0 < k) : numL (sevens k) = figs k := by
  refine numL_back (figs_all k) ?_ (.inl ?_)
  · intro z
    have := figs_len k
    rw [z] at this
    simp at this
    omega
  · rw [figs_take h]; decide
theorem sev_show {k : Nat} (h : 0 < k) : showI ((sevens k : Nat) : Int) = figs k := by rw [showI_nat, sev_num h]
theorem sev_pos {k : Nat} (h : 0 < k) : 0 < sevens k := by
  obtain ⟨j, rfl⟩ : ∃ j, k = j + 1 := ⟨k - 1, by omega⟩
  rw [sev_s]
  omega
theorem sev_neg {k : Nat} (h : 0 < k) : showI (0 - ((sevens k : Nat) : Int)) = 45 :: figs k := by
  rw [Int.zero_sub, showI_neg (sev_pos h), sev_num h]
theorem sev_short {k : Nat} (h : 0 < k) : shortI ((sevens k : Nat) : Int) = decide (k ≤ 1000) := by
  unfold shortI
  refine decide_eq_decide.mpr ?_
  rw [Int.natAbs_natCast, ← lim_len, sev_num h, figs_len]
theorem sev_shortN {k : Nat} (h : 0 < k) : shortI (0 - ((sevens k : Nat) : Int)) = decide (k ≤ 1000) := by
  rw [← sev_short h]
  unfold shortI
  rw [Int.zero_sub, Int.natAbs_neg]
theorem figs_free {k c : Nat} (h : c ≠ 55) : c ∉ figs k := fun z => h (List.eq_of_mem_replicate z)
/-- a sign many times -/
def rRep1 : R2 := fun x y H Q => ∃ (c n : Nat), x = .str ⟨#[c]⟩ ∧ y = .int (n : Int) ∧ 2 ≤ n ∧ n ≤ 1000000 ∧ Q (.str (S (List.replicate n c))) H
theorem fold_rep (c : Nat) : ∀ (n : Nat) (acc : Array Nat), (List.replicate n #[c]).foldl (· ++ ·) acc = acc ++ (List.replicate n c).toArray
  | 0, acc => by simp
  | n + 1, acc => by
    rw [List.replicate_succ, List.foldl_cons, fold_rep c n]
    refine Array.toList_inj.mp ?_
    simp [List.replicate_succ]
theorem op_rep1 {X : Cx} : OpR X (binaryOp .Mult) rRep1 := by
  intro pins s σ H x y v u Q I rx ry h
  obtain ⟨c, n, rfl, rfl, h2, hn, q⟩ := h
  obtain ⟨t, rfl⟩ := rx
  obtain ⟨t', rfl⟩ := ry
  have hlen : (⟨#[c]⟩ : Str).length = 1 := rfl
  refine PySem.P.mul_str ?_ ?_ ?_ ?_
  · rw [decide_eq_false (by omega), decide_eq_false (by omega)]; rfl
  · intro _ _ z
    rw [hlen] at z
    have : (1 : Int) ≤ (2 ^ 63 - 1) / (n : Int) := by
      refine (Int.le_ediv_iff_mul_le (by omega)).mpr ?_
      omega
    omega
  · intro _ _
    rw [hlen]
    unfold Builtin.Str.tooLong
    refine decide_eq_false ?_
    rw [show (n : Int).toNat = n from rfl]
    have := sizeLine_eq
    omega
  · rw [if_neg (by omega), if_neg]
    · rw [show (n : Int).toNat = n from rfl, show (⟨#[c]⟩ : Str).cps = #[c] from rfl, fold_rep]
      refine ⟨?_, ?_⟩
      · show (#[] ++ (List.replicate n c).toArray).size ≤ _
        rw [sizeLine_eq]
        simp
        omega
      · refine ⟨.str _, H, I.tok _, ⟨_, rfl⟩, ?_⟩
        have e : (⟨#[] ++ (List.replicate n c).toArray⟩ : Str) = S (List.replicate n c) := by
          rw [Array.empty_append]
        rw [e]
        exact q
    · rw [hlen]
      intro z
      rw [Bool.or_eq_true, beq_iff_eq, beq_iff_eq] at z
      omega
end Tk

set_option Elab.async false
set_option linter.all false
set_option maxRecDepth 100000
set_option maxHeartbeats 4000000
/-! the long arguments, their words, their texts -/
namespace Tk
open PySem PySem.Spec PyProof.Rows L2 SX TL PySem.NumText
def cLook : List Nat := [108, 111, 111, 107]
theorem cLook_eq : ("look" : Str) = S cLook := rfl
/-- t, w: one of the four long arguments and its word -/
def IsLong (k : Nat) (t : Th) (w : List Nat) : Prop :=
  (t = .int (sevens k : Nat) ∧ w = figs k) ∨ (t = .int (0 - (sevens k : Nat)) ∧ w = [45] ++ figs k) ∨ (t = .lst [1, (sevens k : Nat)] ∧ w = [91, 49, 44] ++ figs k ++ [93]) ∨ (t = .clk cThread (sevens k : Nat) ∧ w = cThread ++ [58] ++ figs k)
def lookTxt (w : List Nat) : List Nat := cLook ++ [32, 53, 10] ++ cLook ++ [32] ++ w
theorem spl_pair (c : Nat) {n r : List Nat} (hn : c ∉ n) (hr : c ∉ r) : spl [c] 0 [] (n ++ [c] ++ r) = [n, r] := by
  have e := spl_join (c := c) (sep := []) (parts := [n, r]) (by simp) (by
    intro p hp
    rcases List.mem_cons.mp hp with rfl | hp
    · exact hn
    · obtain rfl := List.mem_singleton.mp hp; exact hr)
  have e2 : joinL [c] [n, r] = n ++ [c] ++ r := by simp [joinL]
  rw [e2] at e
  exact e
theorem spl_single (c : Nat) {n : List Nat} (hn : c ∉ n) : spl [c] 0 [] n = [n] := by
  have e := spl_join (c := c) (sep := []) (parts := [n]) (by simp) (by
    intro p hp
    obtain rfl := List.mem_singleton.mp hp; exact hn)
  exact e
variable {k : Nat} {t : Th} {w : List Nat}
theorem long_show (h : 0 < k) (l : IsLong k t w) : showTh t = w := by
  have e1 : showI 1 = [49] := by decide +kernel
  rcases l with ⟨rfl, rfl⟩ | ⟨rfl, rfl⟩ | ⟨rfl, rfl⟩ | ⟨rfl, rfl⟩
  · exact sev_show h
  · exact sev_neg h
  · show [91] ++ joinL [44] [showI 1, showI (sevens k : Nat)] ++ [93] = _
    rw [e1, sev_show h]
    show [91] ++ ([49] ++ ([44] ++ figs k)) ++ [93] = _
    simp
  · show cThread ++ [58] ++ showI (sevens k : Nat) = _
    rw [sev_show h]
theorem long_ok (h : 0 < k) (hk : k ≤ 1000) (l : IsLong k t w) : OkTh t := by
  have s := sev_short h
  have s2 := sev_shortN h
  rw [decide_eq_true hk] at s s2
  rcases l with ⟨rfl, rfl⟩ | ⟨rfl, rfl⟩ | ⟨rfl, rfl⟩ | ⟨rfl, rfl⟩
  · exact s
  · exact s2
  · intro i hi
    simp at hi
    rcases hi with rfl | rfl
    · decide +kernel
    · exact s
  · exact ⟨.inl rfl, s, by omega⟩
theorem long_free (l : IsLong k t w) : 10 ∉ w ∧ 32 ∉ w ∧ w.length ≤ k + 10 := by
  have f : ∀ {c : Nat}, c ≠ 55 → c ∉ figs k := fun h => figs_free h
  have f1 := f (c := 10) (by decide)
  have f2 := f (c := 32) (by decide)
  have fl := figs_len k
  rcases l with ⟨rfl, rfl⟩ | ⟨rfl, rfl⟩ | ⟨rfl, rfl⟩ | ⟨rfl, rfl⟩ <;> refine ⟨?_, ?_, ?_⟩ <;> simp [f1, f2, fl, cThread]
theorem figs_bad (hk : 1000 < k) : isNum (figs k) = false := by
  unfold isNum
  have d : digs (figs k) = figs k := by
    unfold digs
    rw [figs_take (by omega), if_neg (by decide)]
  rw [d, figs_len, decide_eq_false (p := k ≤ 1000) (by omega)]
  simp
theorem nfigs_bad (hk : 1000 < k) : isNum ([45] ++ figs k) = false := by
  unfold isNum
  have d : digs ([45] ++ figs k) = figs k := rfl
  rw [d, figs_len, decide_eq_false (p := k ≤ 1000) (by omega)]
  simp
theorem not_short {l : List Nat} (h : 7 < l.length) : decide (l = cNone ∨ l = cYes ∨ l = cNo ∨ l = cSteady ∨ l = cReal ∨ l = cBoot ∨ l = cNil) = false := by
  refine decide_eq_false ?_
  rintro (rfl | rfl | rfl | rfl | rfl | rfl | rfl) <;> exact absurd h (by decide)
theorem long_bad (hk : 1000 < k) (l : IsLong k t w) : readTh w = none := by
  have fl := figs_len k
  have z : lawTh w = false := by
    have one : ∀ {u : List Nat}, isNum u = false → u.take 1 ≠ [91] → 58 ∉ u → 8 < u.length → lawTh u = false := by
      intro u h1 h2 h3 h4
      unfold lawTh
      rw [not_short (by omega), h1, if_neg (by unfold isBr; rw [decide_eq_false h2]; simp), spl_single 58 h3]
      show (decide (u = cThread ∨ u = cProcess) && _) = false
      rw [decide_eq_false]
      · rfl
      · rintro (rfl | rfl) <;> exact absurd h4 (by decide)
    rcases l with ⟨rfl, rfl⟩ | ⟨rfl, rfl⟩ | ⟨rfl, rfl⟩ | ⟨rfl, rfl⟩
    · exact one (figs_bad hk) (by rw [figs_take (by omega)]; decide) (figs_free (by decide)) (by omega)
    · exact one (nfigs_bad hk) (by simp) (by have := figs_free (k := k) (c := 58) (by decide); simp [this]) (by simp; omega)
    · have e : ([91, 49, 44] ++ figs k ++ [93] : List Nat) = [91] ++ ([49] ++ [44] ++ figs k) ++ [93] := by simp
      rw [e]
      unfold lawTh
      have nn : isNum ([91] ++ ([49] ++ [44] ++ figs k) ++ [93]) = false := not_num_mem (s := 91) (by simp) (by decide)
      rw [not_short (by simp; omega), nn, br_of, if_pos rfl]
      unfold parts
      rw [inner_of, spl_pair 44 (by decide) (figs_free (by decide))]
      show (isNum [49] && (isNum (figs k) && true)) = false
      rw [figs_bad hk]
      simp
    · unfold lawTh
      have nn : isNum (cThread ++ [58] ++ figs k) = false := not_num_mem (s := 58) (by simp) (by decide)
      rw [not_short (by simp [cThread]; omega), nn, if_neg (show ¬ (isBr (cThread ++ [58] ++ figs k) = true) by unfold isBr; simp [cThread]), spl_pair 58 (by decide) (figs_free (by decide))]
      show (decide (cThread = cThread ∨ cThread = cProcess) && (_ && (isNum (figs k) && _))) = false
      rw [figs_bad hk]
      simp
  have := law_read w
  rw [z] at this
  cases h : readTh w with
  | none => rfl
  | some t => rw [h] at this; cases this
theorem look_lines (f : 10 ∉ w) : lines (lookTxt w) = [cLook ++ [32, 53], cLook ++ [32] ++ w] := by
  unfold lines
  rw [if_neg (by simp [lookTxt, cLook])]
  have e : lookTxt w = (cLook ++ [32, 53]) ++ [10] ++ (cLook ++ [32] ++ w) := by simp [lookTxt]
  rw [e]
  exact spl_pair 10 (by decide) (by simp [cLook, f])
theorem look_row (f : 32 ∉ w) : rowOf (cLook ++ [32] ++ w) = (readTh w).map fun t => (cLook, [t]) := by
  unfold rowOf
  rw [spl_pair 32 (by decide) f]
  show (if sizeOk cLook 2 = true then (readAll [w]).map (Prod.mk cLook) else none) = _
  rw [if_pos (by decide +kernel)]
  show (match readTh w, some [] with
    | some t, some ts => some (t :: ts)
    | _, _ => none).map (Prod.mk cLook) = _
  cases readTh w <;> rfl
theorem look_row5 : rowOf (cLook ++ [32, 53]) = some (cLook, [.int 5]) := by
  have e := look_row (w := [53]) (by decide)
  have e2 : cLook ++ [32] ++ [53] = cLook ++ [32, 53] := rfl
  rw [e2] at e
  rw [e]
  have : readTh [53] = some (.int 5) := by
    have := show_back (t := .int 5) (show shortI 5 = true by decide +kernel)
    have e3 : showTh (.int 5) = [53] := by show showI 5 = _; decide +kernel
    rw [e3] at this
    exact this
  rw [this]
  rfl
theorem long_log_bad (hk : 1000 < k) (l : IsLong k t w) : logOf 0 (lines (lookTxt w)) = .inl 1 := by
  obtain ⟨f1, f2, _⟩ := long_free l
  rw [look_lines f1]
  unfold logOf
  rw [look_row5]
  unfold logOf
  rw [look_row f2, long_bad hk l]
  rfl
theorem long_log_ok (h : 0 < k) (hk : k ≤ 1000) (l : IsLong k t w) : logOf 0 (lines (lookTxt w)) = .inr [(cLook, [.int 5]), (cLook, [t])] := by
  obtain ⟨f1, f2, _⟩ := long_free l
  rw [look_lines f1]
  have e := show_back (long_ok h hk l)
  rw [long_show h l] at e
  unfold logOf
  rw [look_row5]
  unfold logOf
  rw [look_row f2, e]
  rfl
theorem long_txt (h : 0 < k) (l : IsLong k t w) : txtOf [(cLook, [.int 5]), (cLook, [t])] = lookTxt w := by
  have e := long_show h l
  have e3 : showTh (.int 5) = [53] := by show showI 5 = _; decide +kernel
  show (cLook ++ ([32] ++ showTh (.int 5))) ++ ([10] ++ (cLook ++ ([32] ++ showTh t))) = _
  rw [e, e3]
  simp [lookTxt]
theorem long_word_bad {H : Hp} {x : V} (hk : 1000 < k) (l : IsLong k t w) (h : IsTh H x t) : wordO H x = none := by
  have s := sev_short (k := k) (by omega)
  have s2 := sev_shortN (k := k) (by omega)
  rw [decide_eq_false (by omega)] at s s2
  rcases l with ⟨rfl, rfl⟩ | ⟨rfl, rfl⟩ | ⟨rfl, rfl⟩ | ⟨rfl, rfl⟩
  · obtain rfl : x = _ := h
    exact if_neg (by rw [s]; decide)
  · obtain rfl : x = _ := h
    exact if_neg (by rw [s2]; decide)
  · obtain ⟨p, rfl, h⟩ := h
    rw [wordO_lst h]
    refine if_neg ?_
    show ¬ ((shortI 1 && (shortI (sevens k : Nat) && true)) = true)
    rw [s]
    simp
  · obtain ⟨p, rfl, h⟩ := h
    rw [wordO_tup h]
    refine if_neg ?_
    rw [s]
    simp
end Tk

set_option Elab.async false
set_option linter.all false
set_option maxRecDepth 100000
set_option maxHeartbeats 4000000
/-! _law_said, _law_refused -/
namespace Tk
open PySem PySem.Spec PyProof.Rows L2 SX TL
section
variable {X : Cx} {CX : CXT} {k : Nat} {ps : List Str} {sp : Sp} {E : L2.St → XK} {x : Str} {p pos : Pos} {e : Expr} {es : List Expr} {t : TA}
theorem pe_cS (C : Cal X.prog X.w X.K X.mg X.base CX k x ps [] sp) (hr : Room k X.A) (hg : Gl X x) (hx : ∀ σ, PassesAt CX X σ (E σ)) (ha : PA X (e :: es) t) (hdb : (x == ("__debug__" : Str)) = false := by decide)
    (he : starEach (e :: es) X.env = (false, eval e X.env) :: starEach es X.env := by rfl) (hpl : (backTo pos (starEach es X.env)).any (·.1) = false := by rfl) :
    PE X (.Call (.Name x p) (e :: es) [] pos) (tCallS sp E t) := by
  obtain ⟨f, fd, ds, hm, hk, F, hb, hd, _⟩ := C.ex
  cases hd
  exact pe_callS F hr hg hm hk hb hx ha hdb he hpl
end
/-- isinstance(e, C), the error with a dict -/
def rIsD (K : PySem.W.Frag) (cls : Value) (d : Option Addr) (a : Addr) : List V → Hp → VK → Prop := fun xs H Q => ∃ (D C : Addr) (b : Bool), cls = .ref D ∧ (d = none ∨ ∃ dd fs, d = some dd ∧ H dd = some (.xd fs)) ∧ L2.ExcC K D ∧ xs = [.ref a, .ref C] ∧ PySem.W.kitOne K (.ref D) (.ref C) = some b ∧ Q (.bl b) H
theorem call_isD {X : Cx} {a : Addr} {oe : Obj} {cls : Value} {d : Option Addr} {pn : List (Addr × Obj)} (hz : Zc cls d oe) (hf : ∃ vs, oe.data = .fields vs) : CallR (X.suite a ((a, oe) :: pn)) (.builtin "isinstance") (rIsD X.K cls d a) := by
  intro pins s σ H xs us Q I r h
  obtain ⟨D, C, b, rfl, hd, k, rfl, e, q⟩ := h
  rcases hd with rfl | ⟨dd, fs, rfl, hd⟩
  · exact call_isE k hz hf pins s σ H _ us Q I r ⟨.ref C, .ref C, b, rfl, fun u hu => hu, e, q⟩
  cases r with
  | cons rx rr =>
    cases rr with
    | cons rt rr =>
      cases rr
      cases rx
      cases rt
      obtain ⟨hget, _⟩ := I.pin (a, oe) (List.mem_append.mpr (.inl List.mem_cons_self))
      obtain ⟨vs, hv⟩ := hf
      have hx : ObjOk X.prog X.w H s.heap dd (.xd fs) := I.hok dd _ hd
      obtain ⟨mA, hns, hr⟩ := hx
      obtain ⟨od, ho, hl⟩ := lookIn_ns hns
      have J : PySem.W.InstAt s.heap a oe D (some od) := ⟨hget, hz.1, by unfold PySem.W.notCls; rw [hv] <;> rfl, by rw [hz.2]; exact ho⟩
      obtain ⟨cd, hc, _⟩ := PySem.W.any_some k.hd
      exact PySem.W.kia_one (PySem.W.kitx_exc (by rw [hc]; rfl) k.hg k.hk k.hs k.ha k.hn k.ht k.hm) I.kIn J e (fun z => nomatch z) fun tk => ⟨.bl b, H, I.kept (t' := tk) fun _ _ z => z, rfl, q⟩
theorem pe_isD {X : Cx} {a C : Addr} {oe : Obj} {cls : Value} {d : Option Addr} {pn : List (Addr × Obj)} {e : Expr} {te : TE} {T : Str} {p p2 pos : Pos} (G : NoGl X.mg) (hz : Zc cls d oe) (hf : ∃ vs, oe.data = .fields vs) (hT : X.mg T = some (.ref C)) (he : PE (X.suite a ((a, oe) :: pn)) e te)
    (hg : Gl X "isinstance" := by rfl) (hg2 : Gl X T := by rfl) (hd : (T == ("__debug__" : Str)) = false := by decide)
    (h1 : starEach [e, .Name T p2] X.env = (false, eval e X.env) :: starEach [.Name T p2] X.env := by rfl) (h2 : starEach [.Name T p2] X.env = (false, eval (.Name T p2) X.env) :: starEach [] X.env := by rfl)
    (h3 : (backTo pos (starEach [.Name T p2] X.env)).any (·.1) = false := by rfl) :
    PE (X.suite a ((a, oe) :: pn)) (.Call (.Name "isinstance" p) [e, .Name T p2] [] pos) (tCB (rIsD X.K cls d a) (tCons te (tCons (tC (.ref C)) tNil))) :=
  pe_callB (X := X.suite a ((a, oe) :: pn)) (call_isD hz hf) hg G.isinstance (by decide +kernel) (pa_cons he (pa_cons (pe_glob (v := .ref C) hg2 hT rfl hd) pa_nil h2) h1) (by decide) (by decide) h1 h3
/-- the errors caught: C0 KernelError, CR NoRow, CC NoCall -/
structure ErrR (K : PySem.W.Frag) (mg : Str → Option Value) (C0 CR CC : Addr) : Prop where
  g0 : mg "KernelError" = some (.ref C0)
  gR : mg "NoRow" = some (.ref CR)
  gC : mg "NoCall" = some (.ref CC)
  eR : ErrF K C0 CR [(CR, true), (CC, false)]
  eC : ErrF K C0 CC [(CC, true), (CR, false)]
  xf : XfC K CR
  no : PySem.W.findIn K (.ref CR) "line" = some none
section
variable {P : Program} {w : World} {K : PySem.W.Frag} {mg : Str → Option Value} {base : Heap} {C0 CR CC : Addr}
def saidV (l : List Nat) : V := match logOf 0 (lines l) with | .inl i => .int (i : Int) | .inr _ => .non
def spSaid : Sp := fun vs H Q _ => ∃ x, vs = [x] ∧ ((∃ t, Kd H x t ∧ isStrV x = false ∧ ∀ H', Fr [] H H' → Q (.int 0) H') ∨
  ∃ l, x = .str (S l) ∧ l.length ≤ 900000 ∧ ∀ H', Fr [] H H' → Q (saidV l) H')
theorem sc_said : FnScope ["text", "e"] ["text"] (defScope s__law_said) := ⟨rfl, rfl, rfl, by decide +kernel, rfl, by decide +kernel, by decide +kernel⟩
theorem ok_said (F : FunAt K mg "_law_said" s__law_said) (G : NoGl mg) (EK : ErrR K mg C0 CR CC) (C_read_log : Cal P w K mg base (L2.CX P w) 4 "read_log" ["text"] [] (spRead CR)) :
    Cal P w K mg base CX0 5 "_law_said" ["text"] [] spSaid := by
  refine Cal.mk0 F sc_said (by rintro _ _ _ _ ⟨_, rfl, _⟩; rfl) (fun _ _ _ _ _ _ us hl => match us, hl with | [_], _ => rfl) ?_
  rintro f cdv A outer s H vs Q E hr ⟨x, rfl, q⟩
  have nd := sc_said.nd
  refine' ⟨_, pss_cons (ps_try_as (i := 1) (c := .ref C0) (Wout := fun _ _ _ _ => False)
      (tb := fun W D σ H => tCallS (spRead CR) (WE W) (tCons (tVar 0) tNil) σ H fun _ H' => D.nx σ H')
      rfl rfl nd rfl rfl ⟨by rfl, by decide, .inl EK.g0⟩ takes0
      (fun W pn xe tk _ => ?body) (fun a oe cls d pn hz hf => ?suite))
    (pss_one (ps_ret pe_non)), ?_⟩
  case suite =>
    exact pss_one (ps_ret (pe_ifExp (PW.pt (pw_and (pt_val (pe_isD G hz hf EK.gR (pv 1))) (pw_and1 (pt_not (pt_val (pe_isD G hz hf EK.gC (pv 1))))))) (pe_xf EK.xf EK.no hz hf (pv 1)) pe_str))
  case body =>
    exact pss_one (ps_expr (pe_cS C_read_log (hr.mono (by decide)) (by rfl) (fun σ => passAt tk σ) (pa_cons (pv 0) pa_nil)))
  have key : ∀ (EW : XK) (QW : VK), (∀ (i : Int) H' d, (∀ H', Fr [] H H' → Q (.int i) H') → Fr [] H H' → H' d = none → EW (.ref CR) (some d) (upd H' d (.xd [("line", .int i)]))) → (∀ v H', Q .non H' → QW v H') → spRead CR [x] H QW EW := by
    intro EW QW h1 h2
    refine ⟨x, rfl, ?_⟩
    rcases q with ⟨t, k, hs, qi⟩ | ⟨l, rfl, hz, qi⟩
    · exact .inl ⟨t, k, hs, fun H' d => h1 0 H' d qi⟩
    · refine .inr ⟨l, rfl, hz, fun k e H' d => h1 k H' d fun H' fr => ?_, fun rs e H' p fr _ => h2 _ _ ?_⟩
      · have := qi H' fr
        unfold saidV at this
        rw [e] at this
        exact this
      · have := qi H' fr
        unfold saidV at this
        rw [e] at this
        exact this
  refine ⟨_, rfl, key _ _ (fun i H' d qi fr nd => ?_) fun v H' q => q⟩
  refine ⟨true, EK.eR.exm, fun _ a na => ?_, fun z => nomatch z⟩
  have hd : (upd H' d (.xd [("line", .int i)])) d = some (.xd [("line", .int i)]) := upd_same
  refine ⟨_, rfl, CR, CR, true, rfl, .inr ⟨d, _, rfl, hd⟩, EK.eR.is, rfl, EK.eR.kit _ (.head _), true, rfl, ?_⟩
  refine ⟨_, rfl, CR, CC, false, rfl, .inr ⟨d, _, rfl, hd⟩, EK.eR.is, rfl, EK.eR.kit _ (.tail _ (.head _)), false, rfl, ?_⟩
  exact ⟨_, rfl, rfl, rfl, d, _, _, rfl, hd, rfl, qi _ (fr.trans (Fr.new nd))⟩
def spRefused : Sp := fun vs H Q _ => ∃ x, vs = [x] ∧ ((LogIs H x false ∧ ∀ H', Fr [] H H' → Q (.bl true) H') ∨
  ∃ a xs, x = .ref a ∧ H a = some (.lst xs) ∧ LogIs H x true ∧ (∀ y ∈ xs, RowA H y) ∧ xs.length ≤ 900000 ∧ (xs.map fun y => ((rowO H y).getD []).length).sum + xs.length ≤ 16000000 ∧ logO H xs = none ∧ ∀ H', Fr [] H H' → Q (.bl true) H')
theorem sc_refused : FnScope ["rows", "e"] ["rows"] (defScope s__law_refused) := ⟨rfl, rfl, rfl, by decide +kernel, rfl, by decide +kernel, by decide +kernel⟩
theorem ok_refused (F : FunAt K mg "_law_refused" s__law_refused) (G : NoGl mg) (EK : ErrR K mg C0 CR CC) (C_show_log : Cal P w K mg base (L2.CX P w) 5 "show_log" ["log"] [] (spShow CC)) :
    Cal P w K mg base CX0 6 "_law_refused" ["rows"] [] spRefused := by
  refine Cal.mk0 F sc_refused (by rintro _ _ _ _ ⟨_, rfl, _⟩; rfl) (fun _ _ _ _ _ _ us hl => match us, hl with | [_], _ => rfl) ?_
  rintro f cdv A outer s H vs Q E hr ⟨x, rfl, q⟩
  have nd := sc_refused.nd
  refine' ⟨_, pss_cons (ps_try_as (i := 1) (c := .ref C0) (Wout := fun _ _ _ _ => False)
      (tb := fun W D σ H => tCallS (spShow CC) (WE W) (tCons (tVar 0) tNil) σ H fun _ H' => D.nx σ H')
      rfl rfl nd rfl rfl ⟨by rfl, by decide, .inl EK.g0⟩ takes0
      (fun W pn xe tk _ => ?body) (fun a oe cls d pn hz hf => ?suite))
    (pss_one (ps_ret pe_bl)), ?_⟩
  case suite =>
    exact pss_one (ps_ret (pe_and (pe_isD G hz hf EK.gC (pv 1)) (pe_one (pe_not (pe_isD G hz hf EK.gR (pv 1))))))
  case body =>
    exact pss_one (ps_expr (pe_cS C_show_log (hr.mono (by decide)) (by rfl) (fun σ => passAt tk σ) (pa_cons (pv 0) pa_nil)))
  have key : ∀ (EW : XK) (QW : VK), (∀ H', (∀ H', Fr [] H H' → Q (.bl true) H') → Fr [] H H' → EW (.ref CC) none H') → spShow CC [x] H QW EW := by
    intro EW QW h1
    refine ⟨x, rfl, ?_⟩
    rcases q with ⟨k, qi⟩ | ⟨a, xs, rfl, h, k, hr, hl, hw, hn, qi⟩
    · exact .inl ⟨k, fun H' => h1 H' qi⟩
    · refine .inr ⟨a, xs, rfl, h, k, hr, hl, hw, fun H' fr => ?_⟩
      rw [hn]
      exact h1 H' qi fr
  refine ⟨_, rfl, key _ (fun _ H' => Q (.bl false) H') fun H' qi fr => ?_⟩
  refine ⟨true, EK.eC.exm, fun _ a na => ?_, fun z => nomatch z⟩
  refine ⟨_, rfl, CC, CC, true, rfl, .inl rfl, EK.eC.is, rfl, EK.eC.kit _ (.head _), true, rfl, ?_⟩
  refine ⟨_, rfl, CC, CR, false, rfl, .inl rfl, EK.eC.is, rfl, EK.eC.kit _ (.tail _ (.head _)), false, rfl, ?_⟩
  exact qi _ fr
end
end Tk

set_option Elab.async false
set_option linter.all false
set_option maxRecDepth 100000
set_option maxHeartbeats 4000000
/-! rows and logs as the law makes them -/
namespace Tk
open PySem PySem.Spec PyProof.Rows L2 SX TL PySem.NumText
/-- y is a row: is_row says so, show_log can be asked, its text is short -/
structure RowG (H : Hp) (y : V) : Prop where
  is : RowIs H y true
  a : RowA H y
  len : ((rowO H y).getD []).length ≤ 2000000
theorem wt_th {H : Hp} {x : V} {t : Th} (h : IsTh H x t) : wtV H x ≤ match t with | .lst is => (is.map fun i => (showI i).length).sum + is.length | _ => 0 := by
  cases t with
  | lst is =>
    obtain ⟨p, rfl, h⟩ := h
    rw [wtV_lst h, List.map_map, List.length_map]
    exact Nat.le_refl _
  | clk n i =>
    obtain ⟨p, rfl, h⟩ := h
    show refWt (H p) ≤ 0
    rw [h]
    exact Nat.le_refl _
  | non => obtain rfl : x = .non := h; exact Nat.le_refl _
  | bl b => obtain rfl : x = .bl b := h; exact Nat.le_refl _
  | int i => obtain rfl : x = .int i := h; exact Nat.le_refl _
  | str s => obtain rfl : x = .str (S s) := h; exact Nat.le_refl _
theorem rowG_look {H : Hp} {p : Addr} {x : V} (h : H p = some (.tup [.str (S cLook), x])) (ha : Arg H x) (hw : wtV H x ≤ 1000000) (hl : ((wordO H x).getD []).length ≤ 1000000) : RowG H (.ref p) := by
  refine ⟨?_, ⟨p, cLook, [x], rfl, h, ?_, by simp, ?_⟩, ?_⟩
  · exact .tup (xs := [.str (S cLook), x]) rfl h (fun y hy => by cases hy; exact ⟨_, .str _⟩) (by simp)
  · intro v hv
    obtain rfl := List.mem_singleton.mp hv
    exact ⟨ha, by omega⟩
  · simp [cLook]
    omega
  · rw [rowO_at h]
    unfold wordsO
    split
    · show (cLook ++ ([32] ++ (wordO H x).getD [])).length ≤ _
      simp [cLook]
      omega
    · exact Nat.zero_le _
theorem rowG_th {H : Hp} {y : V} {r : List Nat × List Th} (h : RowTh H y r) (g : GRow r) : RowG H y := by
  have er := rowO_th h fun t ht => (g.2 t ht).1
  obtain ⟨l6, l1, ln, lt⟩ := grow_len g
  obtain ⟨p, vs, rfl, h1, h2⟩ := h
  have lv := PySem.Paired.length h2
  refine ⟨?_, ⟨p, r.1, vs, rfl, h1, ?_, by omega, ?_⟩, by rw [er]; show (rowTxt r).length ≤ _; omega⟩
  · have e : isRowL (.str (S r.1) :: vs) = true := by
      obtain ⟨⟨q, hq, e1, e2⟩, _⟩ := g
      have := (sz_size hq).1
      rw [e1] at this
      unfold isRowL
      simp [this]
      omega
    rw [← e]
    exact .tup rfl h1 (fun y hy => by cases hy; exact ⟨_, .str _⟩) (by rw [List.length_cons]; omega)
  · intro v hv
    obtain ⟨t, ht, hth⟩ := pairL h2 v hv
    have gt := g.2 t ht
    have wt := wt_th hth
    cases t with
    | lst is =>
      have e : (showTh (.lst is)).length = 1 + (joinL [44] (is.map showI)).length + 1 := by
        show ([91] ++ joinL [44] (is.map showI) ++ [93]).length = _
        simp
        omega
      have j := joinL_ge 44 (is.map showI)
      have hl : is.length ≤ 200 := by
        have := gt.2
        rw [List.length_map] at j
        omega
      have s := sum_le (fun i => (showI i).length) 1001 is fun i hi => showI_len (gt.1 i hi)
      refine ⟨arg_th hth fun is' e => by cases e; omega, ?_⟩
      dsimp only at wt
      omega
    | _ => exact ⟨arg_th hth fun is' e => (by cases e), by dsimp only at wt; omega⟩
  · obtain ⟨_, e⟩ := words_th h2 fun t ht => (g.2 t ht).1
    have s := sum_le (fun t => (showTh t).length) 200 r.2 fun t ht => (g.2 t ht).2
    have e2 : (vs.map fun v => ((wordO H v).getD []).length) = r.2.map fun t => (showTh t).length := by
      have := congrArg (List.map List.length) e
      rw [List.map_map, List.map_map] at this
      exact this
    rw [e2]
    omega
/-- a list of rows -/
theorem logIs_rows {H : Hp} {p : Addr} {ys : List V} (h : H p = some (.lst ys)) (g : ∀ y ∈ ys, RowG H y) (z : ys.length ≤ 1000) : LogIs H (.ref p) true ∧ (∀ y ∈ ys, RowA H y) ∧ (ys.map fun y => ((rowO H y).getD []).length).sum + ys.length ≤ 2000001 * ys.length := by
  refine ⟨?_, fun y hy => (g y hy).a, ?_⟩
  · have e : ys.all (fun _ => true) = true := by simp
    rw [← e]
    exact .lst _ rfl h (fun y hy => (g y hy).is) (by rw [sizeLine_eq]; omega)
  · have s := sum_le (fun y => ((rowO H y).getD []).length) 2000000 ys fun y hy => (g y hy).len
    omega
end Tk

set_option Elab.async false
set_option linter.all false
set_option maxRecDepth 100000
set_option maxHeartbeats 4000000
/-! a log that was read is shown as the text it was read from -/
namespace Tk
open PySem PySem.Spec PyProof.Rows L2 SX TL PySem.NumText
theorem part_le {c : Nat} : ∀ {ys : List (List Nat)} {p : List Nat}, p ∈ ys → p.length ≤ (joinL [c] ys).length
  | [a], p, h => by
    obtain rfl := List.mem_singleton.mp h
    exact Nat.le_refl _
  | a :: b :: ys, p, h => by
    have e : (joinL [c] (a :: b :: ys)).length = a.length + (1 + (joinL [c] (b :: ys)).length) := by
      show (a ++ ([c] ++ joinL [c] (b :: ys))).length = _
      simp
      omega
    rcases List.mem_cons.mp h with rfl | h
    · omega
    · have := part_le (c := c) h
      omega
theorem join_sum {c : Nat} : ∀ {ys : List (List Nat)}, (ys.map (·.length)).sum + ys.length ≤ (joinL [c] ys).length + 1
  | [] => Nat.zero_le _
  | [a] => by simp [joinL]
  | a :: b :: ys => by
    have e : (joinL [c] (a :: b :: ys)).length = a.length + (1 + (joinL [c] (b :: ys)).length) := by
      show (a ++ ([c] ++ joinL [c] (b :: ys))).length = _
      simp
      omega
    have := join_sum (c := c) (ys := b :: ys)
    simp only [List.map_cons, List.sum_cons, List.length_cons] at this ⊢
    omega
theorem rowA_read {H : Hp} {y : V} {r : List Nat × List Th} (h : RowTh H y r) (so : sizeOk r.1 (r.2.length + 1) = true) (ok : ∀ t ∈ r.2, OkTh t) (hl : (rowTxt r).length ≤ 100000) : RowIs H y true ∧ RowA H y := by
  have js := join_sum (c := 32) (ys := r.1 :: r.2.map showTh)
  have e0 : joinL [32] (r.1 :: r.2.map showTh) = rowTxt r := rfl
  rw [e0] at js
  simp only [List.map_cons, List.sum_cons, List.length_cons, List.length_map, List.map_map] at js
  have e1 : (r.2.map ((·.length) ∘ showTh)).sum = (r.2.map fun t => (showTh t).length).sum := rfl
  rw [e1] at js
  obtain ⟨p, vs, rfl, h1, h2⟩ := h
  have lv := PySem.Paired.length h2
  refine ⟨?_, ⟨p, r.1, vs, rfl, h1, ?_, by omega, ?_⟩⟩
  · have e : isRowL (.str (S r.1) :: vs) = true := by
      have so : sizeV (S r.1) = V.int ((r.2.length + 1 : Nat) : Int) := of_decide_eq_true so
      show decide (V.int ((vs.length + 1 : Nat) : Int) = sizeV (S r.1)) = true
      rw [so, lv]
      simp
    rw [← e]
    exact .tup rfl h1 (fun y hy => by cases hy; exact ⟨_, .str _⟩) (by rw [List.length_cons]; omega)
  · intro v hv
    obtain ⟨t, ht, hth⟩ := pairL h2 v hv
    have gt := ok t ht
    have wt := wt_th hth
    have pl := part_le (c := 32) (ys := r.1 :: r.2.map showTh) (p := showTh t) (.tail _ (List.mem_map_of_mem ht))
    rw [e0] at pl
    cases t with
    | lst is =>
      have e : (showTh (.lst is)).length = 1 + (joinL [44] (is.map showI)).length + 1 := by
        show ([91] ++ joinL [44] (is.map showI) ++ [93]).length = _
        simp
        omega
      have j := join_sum (c := 44) (ys := is.map showI)
      rw [List.length_map, List.map_map] at j
      have e2 : (is.map ((·.length) ∘ showI)).sum = (is.map fun i => (showI i).length).sum := rfl
      rw [e2] at j
      refine ⟨arg_th hth fun is' e => by cases e; omega, ?_⟩
      dsimp only at wt
      omega
    | _ => exact ⟨arg_th hth fun is' e => (by cases e), by dsimp only at wt; omega⟩
  · obtain ⟨_, e⟩ := words_th h2 ok
    have e2 : (vs.map fun v => ((wordO H v).getD []).length) = r.2.map fun t => (showTh t).length := by
      have := congrArg (List.map List.length) e
      rw [List.map_map, List.map_map] at this
      exact this
    rw [e2]
    omega
theorem log_read {H : Hp} {p : Addr} {rs : List (List Nat × List Th)} {l : List Nat} (h : LogTh H p rs) (e : logOf 0 (lines l) = .inr rs) (hl : l.length ≤ 100000) :
    ∃ xs, H p = some (.lst xs) ∧ LogIs H (.ref p) true ∧ (∀ y ∈ xs, RowA H y) ∧ xs.length ≤ 900000 ∧ (xs.map fun y => ((rowO H y).getD []).length).sum + xs.length ≤ 16000000 ∧ logO H xs = some l := by
  obtain ⟨e1, ok⟩ := logOf_some e
  obtain ⟨xs, hx, hp⟩ := h
  have et : txtOf rs = l := by
    unfold txtOf
    rw [e1, lines_join]
  have lx := PySem.Paired.length hp
  have js := join_sum (c := 10) (ys := rs.map rowTxt)
  have e0 : joinL [10] (rs.map rowTxt) = l := et
  rw [e0, List.length_map, List.map_map] at js
  have okt : ∀ r ∈ rs, ∀ t ∈ r.2, OkTh t := fun r hr => (ok r hr).2
  have each : ∀ y ∈ xs, RowIs H y true ∧ RowA H y := fun y hy => by
    obtain ⟨r, hr, hrow⟩ := pairL hp y hy
    have pl := part_le (c := 10) (ys := rs.map rowTxt) (p := rowTxt r) (List.mem_map_of_mem hr)
    rw [e0] at pl
    exact rowA_read hrow (ok r hr).1 (okt r hr) (by omega)
  have lo := logO_th hp okt
  rw [et] at lo
  obtain ⟨_, ew⟩ := rows_th hp okt
  have e2 : (xs.map fun v => ((rowO H v).getD []).length) = rs.map ((·.length) ∘ rowTxt) := by
    have := congrArg (List.map List.length) ew
    rw [List.map_map, List.map_map] at this
    exact this
  refine ⟨xs, hx, ?_, fun y hy => (each y hy).2, by omega, by rw [e2]; omega, lo⟩
  have ea : xs.all (fun _ => true) = true := by simp
  rw [← ea]
  exact .lst _ rfl hx (fun y hy => (each y hy).1) (by rw [sizeLine_eq]; omega)
end Tk

set_option Elab.async false
set_option linter.all false
set_option maxRecDepth 100000
set_option maxHeartbeats 4000000
/-! logs with one row that is none -/
namespace Tk
open PySem PySem.Spec PyProof.Rows L2 SX TL PySem.NumText
/-- a row among the others that cannot be written -/
theorem mid_odd {H : Hp} {p : Addr} {us ws : List V} {y : V} (h : H p = some (.lst (us ++ [y] ++ ws))) (g : ∀ z ∈ us ++ ws, RowG H z) (gy : RowG H y) (n : rowO H y = none) (l : (us ++ ws).length ≤ 6) :
    LogIs H (.ref p) true ∧ (∀ z ∈ us ++ [y] ++ ws, RowA H z) ∧ (us ++ [y] ++ ws).length ≤ 900000 ∧ ((us ++ [y] ++ ws).map fun z => ((rowO H z).getD []).length).sum + (us ++ [y] ++ ws).length ≤ 16000000 ∧ logO H (us ++ [y] ++ ws) = none := by
  have gg : ∀ z ∈ us ++ [y] ++ ws, RowG H z := fun z hz => by
    simp only [List.mem_append, List.mem_singleton] at hz g
    rcases hz with (hz | rfl) | hz
    · exact g z (.inl hz)
    · exact gy
    · exact g z (.inr hz)
  have ln : (us ++ [y] ++ ws).length ≤ 7 := by
    simp only [List.length_append, List.length_cons, List.length_nil] at l ⊢
    omega
  obtain ⟨a, b, c⟩ := logIs_rows h gg (by omega)
  refine ⟨a, b, by omega, by omega, if_neg fun z => ?_⟩
  have := List.all_eq_true.mp z y (by simp)
  rw [n] at this
  cases this
/-- something among the rows that is none -/
theorem mid_bad {H : Hp} {p : Addr} {us ws : List V} {y : V} (h : H p = some (.lst (us ++ [y] ++ ws))) (g : ∀ z ∈ us ++ ws, RowG H z ∧ z ≠ y) (b : RowIs H y false) (l : (us ++ ws).length ≤ 6) : LogIs H (.ref p) false := by
  have e : (us ++ [y] ++ ws).all (fun z => !decide (z = y)) = false := by
    rw [List.all_eq_false]
    exact ⟨y, by simp, by simp⟩
  rw [← e]
  refine .lst _ rfl h (fun z hz => ?_) ?_
  · by_cases c : z = y
    · subst c
      rw [decide_eq_true rfl]
      exact b
    · rw [decide_eq_false c]
      simp only [List.mem_append, List.mem_singleton] at hz g
      rcases hz with (hz | hz) | hz
      · exact (g z (.inl hz)).1.is
      · exact absurd hz c
      · exact (g z (.inr hz)).1.is
  · rw [sizeLine_eq]
    simp only [List.length_append, List.length_cons, List.length_nil] at l ⊢
    omega
theorem look_odd {H : Hp} {p : Addr} {x : V} (h : H p = some (.tup [.str (S cLook), x])) (n : wordO H x = none) : rowO H (.ref p) = none := by
  rw [rowO_at (z := cLook) h]
  have e : wordsO H [x] = none := if_neg fun z => by
    have := List.all_eq_true.mp z x (by simp)
    rw [n] at this
    cases this
  rw [e]
  rfl
theorem rowIs_one {H : Hp} {x : V} {b c : Bool} (h : RowIs H x b) (k : RowIs H x c) : b = c := by
  cases h with
  | no k1 n1 =>
    cases k with
    | no _ _ => rfl
    | tup e h2 _ _ =>
      subst e
      cases k1 with
      | tup _ => exact absurd rfl n1
      | lst e => cases h2.symm.trans e
      | dK e => cases h2.symm.trans e
  | tup e h1 _ _ =>
    cases k with
    | no k1 n1 =>
      subst e
      cases k1 with
      | tup _ => exact absurd rfl n1
      | lst e => cases h1.symm.trans e
      | dK e => cases h1.symm.trans e
    | tup e2 h2 _ _ =>
      subst e
      cases e2
      cases h1.symm.trans h2
      rfl
theorem row_bad {H : Hp} {p : Addr} {xs : List V} (h : H p = some (.tup xs)) (k : ∀ y, xs[0]? = some y → ∃ t, Kd H y t) (z : xs.length < 2 ^ 62) (n : isRowL xs = false) : RowIs H (.ref p) false := by
  rw [← n]
  exact .tup rfl h k z
theorem cut_to (xs : List V) (j : Nat) (h : j ≤ xs.length) : cutV xs none (some (j : Int)) = xs.take j := by
  unfold cutV
  rw [HT.sIx_nat, HT.sIx_none, Nat.min_eq_left (by omega), List.drop_zero, Nat.sub_zero]
/-- rows[:spot] + [y] + rows[spot:] -/
theorem mid_read {K : PySem.W.Frag} {σ : L2.St} {H : Hp} {Q : VK} {R : Addr} {ys : List V} {spot : Nat} {TY : TE} (Y : V → Hp → Prop) (h3 : σ[3]? = some (some (.ref R))) (h6 : σ[6]? = some (some (.int (spot : Int)))) (hR : H R = some (.lst ys)) (sp : spot ≤ ys.length) (hy : ys.length ≤ 1000)
    (hT : ∀ (H1 : Hp) (q : VK), (∀ y H2, Fr [] H1 H2 → Y y H2 → q y H2) → TY σ H1 q) (same : ∀ y Ha Hb, Fr [] Ha Hb → Y y Ha → Y y Hb)
    (q : ∀ p y H', Fr [] H H' → Y y H' → H' p = some (.lst (ys.take spot ++ [y] ++ ys.drop spot)) → Q (.ref p) H') :
    L2.tOp rCat (L2.tOp rCat (L2.tSl (rSlL K) (tVar 3) tNoPart (tPart (tVar 6))) (tLst (tCons TY tNil))) (L2.tSl (rSlL K) (tVar 3) (tPart (tVar 6)) tNoPart) σ H Q := by
  refine ⟨_, h3, _, h6, _, rfl, R, ys, rfl, SqL.of hR, fun p1 n1 => ?_⟩
  rw [cut_to ys spot sp]
  obtain ⟨G1, e1, k1, w1, g1⟩ := stepN (M := []) (o := .lst (ys.take spot)) n1
  rw [e1]
  refine hT _ _ fun y G2 g2 hY => ⟨(by show 1 ≤ sizeLine; decide), fun p3 n3 => ?_⟩
  obtain ⟨G3, e3, k3, w3, g3⟩ := stepN (M := []) (o := .lst [y]) n3
  rw [e3]
  have lt : (ys.take spot).length ≤ 1000 := by rw [List.length_take]; omega
  have ld : (ys.drop spot).length ≤ 1000 := by rw [List.length_drop]; omega
  refine ⟨p1, p3, _, _, rfl, rfl, w3 _ _ (g2.same _ _ k1), k3, (by rw [sizeLine_eq]; simp only [List.length_cons, List.length_nil]; omega), fun p4 n4 => ?_⟩
  obtain ⟨G4, e4, k4, w4, g4⟩ := stepN (M := []) (o := .lst (ys.take spot ++ [y])) n4
  rw [e4]
  have gA : Fr [] H G4 := g1.trans (g2.trans (g3.trans g4))
  refine ⟨_, h3, _, h6, _, rfl, R, ys, rfl, SqL.of (gA.same _ _ hR), fun p5 n5 => ?_⟩
  rw [cut_from ys spot]
  obtain ⟨G5, e5, k5, w5, g5⟩ := stepN (M := []) (o := .lst (ys.drop spot)) n5
  rw [e5]
  refine ⟨p4, p5, _, _, rfl, rfl, w5 _ _ k4, k5, (by rw [sizeLine_eq]; simp only [List.length_append, List.length_cons, List.length_nil]; omega), fun p6 n6 => ?_⟩
  obtain ⟨G6, e6, k6, w6, g6⟩ := stepN (M := []) (o := .lst (ys.take spot ++ [y] ++ ys.drop spot)) n6
  rw [e6]
  exact q p6 y G6 (gA.trans (g5.trans g6)) (same _ _ _ (g3.trans (g4.trans (g5.trans g6))) hY) k6
/-- what has no word -/
structure OddV (H : Hp) (x : V) : Prop where
  arg : Arg H x
  wt : wtV H x ≤ 1000000
  no : wordO H x = none
theorem OddV.same {H H' : Hp} {x : V} (e : Same H H') (h : OddV H x) : OddV H' x := ⟨h.arg.same e, by rw [wtV_same e h.arg]; exact h.wt, by rw [wordO_same e h.arg]; exact h.no⟩
theorem odd_str {H : Hp} {z : Str} (h : z.cps.toList ∉ [cSteady, cReal, cBoot]) : OddV H (.str z) := ⟨.str z, Nat.zero_le _, if_neg h⟩
theorem flat1 {H : Hp} {a : V} {t : String} (h : Kd H a t) : ∀ y ∈ [a], ∃ t, Kd H y t := fun y hy => by
  obtain rfl := List.mem_singleton.mp hy
  exact ⟨_, h⟩
theorem flat2 {H : Hp} {a b : V} {t u : String} (h : Kd H a t) (k : Kd H b u) : ∀ y ∈ [a, b], ∃ t, Kd H y t := fun y hy => by
  rcases List.mem_cons.mp hy with rfl | hy
  · exact ⟨_, h⟩
  · exact flat1 k y hy
theorem flat3 {H : Hp} {a b c : V} {t u v : String} (h : Kd H a t) (k : Kd H b u) (l : Kd H c v) : ∀ y ∈ [a, b, c], ∃ t, Kd H y t := fun y hy => by
  rcases List.mem_cons.mp hy with rfl | hy
  · exact ⟨_, h⟩
  · exact flat2 k l y hy
theorem odd_tup {H : Hp} {p : Addr} {xs : List V} (h : H p = some (.tup xs)) (k : ∀ y ∈ xs, ∃ t, Kd H y t) (z : xs.length < 1000000) (n : clkL xs = none) : OddV H (.ref p) :=
  ⟨.tup h k z, by show refWt (H p) ≤ _; rw [h]; exact Nat.zero_le _, by rw [wordO_tup h]; exact n⟩
theorem odd_lst {H : Hp} {p : Addr} {xs : List V} (h : H p = some (.lst xs)) (k : ∀ y ∈ xs, ∃ t, Kd H y t) (z : xs.length < 1000) (n : lstL xs = none) (e : xs.map (fun v => (showV v).length) = xs.map fun _ => 0) : OddV H (.ref p) :=
  ⟨.lst h k (by omega), by
    have e0 : ∀ ys : List V, (ys.map fun _ => 0).sum = 0 := fun ys => by induction ys with | nil => rfl | cons y ys ih => simpa using ih
    rw [wtV_lst h, e, e0]; omega, by rw [wordO_lst h]; exact n⟩
theorem odd_dK {H : Hp} {p : Addr} {kvs : List (Key × V)} (h : H p = some (.dK kvs)) : OddV H (.ref p) := ⟨.dK h, by show refWt (H p) ≤ _; rw [h]; exact Nat.zero_le _, wordO_dK h⟩
theorem rowG_odd {H : Hp} {p : Addr} {x : V} (h : H p = some (.tup [.str (S cLook), x])) (o : OddV H x) : RowG H (.ref p) ∧ rowO H (.ref p) = none :=
  ⟨rowG_look h o.arg o.wt (by rw [o.no]; exact Nat.zero_le _), look_odd h o.no⟩
end Tk

set_option Elab.async false
set_option linter.all false
set_option maxRecDepth 100000
set_option maxHeartbeats 4000000
/-! a log of two looks, the second with a long argument -/
namespace Tk
open PySem PySem.Spec PyProof.Rows L2 SX TL PySem.NumText
theorem long_arg {H : Hp} {v : V} {t : Th} {w : List Nat} {k : Nat} (hth : IsTh H v t) (hl : IsLong k t w) (k0 : 0 < k) (k1 : k ≤ 5000) : Arg H v ∧ wtV H v ≤ 1000000 ∧ ((wordO H v).getD []).length ≤ 1000000 := by
  refine ⟨arg_th hth fun is e => ?_, ?_, ?_⟩
  · rcases hl with ⟨rfl, rfl⟩ | ⟨rfl, rfl⟩ | ⟨rfl, rfl⟩ | ⟨rfl, rfl⟩ <;> cases e
    simp
  · have wt := wt_th hth
    have e1 : showI 1 = [49] := by decide +kernel
    have fl := figs_len k
    rcases hl with ⟨rfl, rfl⟩ | ⟨rfl, rfl⟩ | ⟨rfl, rfl⟩ | ⟨rfl, rfl⟩ <;> dsimp only at wt
    · omega
    · omega
    · simp only [List.map_cons, List.map_nil, List.sum_cons, List.sum_nil, List.length_cons, List.length_nil, e1, sev_show k0, fl] at wt
      omega
    · omega
  · by_cases hk : 1000 < k
    · rw [long_word_bad hk hl hth]
      exact Nat.zero_le _
    · rw [word_th hth (long_ok k0 (by omega) hl), long_show k0 hl]
      have := (long_free hl).2.2
      show w.length ≤ _
      omega
theorem two_rows {Ha : Hp} {v : V} {t : Th} {w : List Nat} {k : Nat} (hth : IsTh Ha v t) (hl : IsLong k t w) (k0 : 0 < k) (k1 : k ≤ 5000) {p1 p2 p3 : Addr} (m1 : Ha p1 = none) (m2 : (upd Ha p1 (.tup [.str "look", .int 5])) p2 = none)
    (m3 : (upd (upd Ha p1 (.tup [.str "look", .int 5])) p2 (.tup [.str "look", v])) p3 = none) :
    ∃ Hb, upd (upd (upd Ha p1 (.tup [.str "look", .int 5])) p2 (.tup [.str "look", v])) p3 (.lst [.ref p1, .ref p2]) = Hb ∧ Fr [] Ha Hb ∧ Hb p3 = some (.lst [.ref p1, .ref p2]) ∧ LogIs Hb (.ref p3) true ∧ (∀ y ∈ [V.ref p1, V.ref p2], RowA Hb y) ∧
      ([V.ref p1, V.ref p2].map fun y => ((rowO Hb y).getD []).length).sum + 2 ≤ 16000000 ∧ logO Hb [.ref p1, .ref p2] = if 1000 < k then none else some (lookTxt w) := by
  have h1 := upd_same (H := Ha) (a := p1) (o := .tup [.str "look", .int 5])
  have f1 := Fr.new (M := []) (o := .tup [V.str "look", .int 5]) m1
  have h2 := upd_same (H := upd Ha p1 (.tup [.str "look", .int 5])) (a := p2) (o := .tup [.str "look", v])
  have f2 := Fr.new (M := []) (o := .tup [V.str "look", v]) m2
  have h3 := upd_same (H := upd (upd Ha p1 (.tup [.str "look", .int 5])) p2 (.tup [.str "look", v])) (a := p3) (o := .lst [.ref p1, .ref p2])
  have f3 := Fr.new (M := []) (o := .lst [V.ref p1, .ref p2]) m3
  have r1 := f3.same _ _ (f2.same _ _ h1)
  have r2 := f3.same _ _ h2
  have ff := f1.trans (f2.trans f3)
  refine ⟨_, rfl, ff, h3, ?_⟩
  generalize upd (upd (upd Ha p1 (.tup [.str "look", .int 5])) p2 (.tup [.str "look", v])) p3 (.lst [.ref p1, .ref p2]) = Hb at h3 r1 r2 ff
  have hth := hth.same ff.same
  obtain ⟨a1, a2, a3⟩ := long_arg hth hl k0 k1
  have t5 : IsTh Hb (.int 5) (.int 5) := rfl
  have o5 : OkTh (.int 5) := show shortI 5 = true by decide +kernel
  have g1 : RowG Hb (.ref p1) := rowG_look r1 (.int 5) (Nat.zero_le _) (by rw [word_th t5 o5]; decide +kernel)
  have g2 : RowG Hb (.ref p2) := rowG_look r2 a1 a2 a3
  obtain ⟨l1, l2, l3⟩ := logIs_rows h3 (fun y hy => by
    rcases List.mem_cons.mp hy with rfl | hy
    · exact g1
    · obtain rfl := List.mem_singleton.mp hy; exact g2) (by simp)
  refine ⟨l1, l2, Nat.le_trans l3 (by simp), ?_⟩
  by_cases hk : 1000 < k
  · rw [if_pos hk]
    refine if_neg fun z => ?_
    have := List.all_eq_true.mp z (.ref p2) (by simp)
    rw [rowO_at (z := cLook) r2] at this
    have e : wordsO Hb [v] = none := if_neg fun z => by
      have := List.all_eq_true.mp z v (by simp)
      rw [long_word_bad hk hl hth] at this
      cases this
    rw [e] at this
    cases this
  · rw [if_neg hk, ← long_txt k0 hl]
    refine logO_th (rs := [(cLook, [.int 5]), (cLook, [t])]) (.cons ⟨p1, [.int 5], rfl, r1, .cons t5 .nil⟩ (.cons ⟨p2, [v], rfl, r2, .cons hth .nil⟩ .nil)) fun r hr t' ht => ?_
    rcases List.mem_cons.mp hr with rfl | hr
    · obtain rfl := List.mem_singleton.mp ht; exact o5
    · obtain rfl := List.mem_singleton.mp hr
      obtain rfl := List.mem_singleton.mp ht
      exact long_ok k0 (by omega) hl
end Tk

set_option Elab.async false
set_option linter.all false
set_option maxRecDepth 100000
set_option maxHeartbeats 4000000
/-! _law_long_right -/
namespace Tk
open PySem PySem.Spec PyProof.Rows L2 SX TL PySem.NumText
theorem long_dp {K : PySem.W.Frag} {k : Nat} {t : Th} {w : List Nat} (hl : IsLong k t w) : ∃ d : PyData, (∀ (H : Hp) (v : V), IsTh H v t → Dp K H v d) ∧ SeqAt.shaped d = true ∧ PyData.eqv d d = true := by
  rcases hl with ⟨rfl, rfl⟩ | ⟨rfl, rfl⟩ | ⟨rfl, rfl⟩ | ⟨rfl, rfl⟩
  · exact ⟨.int (sevens k : Nat), fun H v h => (by obtain rfl : v = _ := h; exact .int _), rfl, by simp [PyData.eqv]⟩
  · exact ⟨.int (0 - (sevens k : Nat)), fun H v h => (by obtain rfl : v = _ := h; exact .int _), rfl, by simp [PyData.eqv]⟩
  · exact ⟨.list [.int 1, .int (sevens k : Nat)], fun H v h => (by obtain ⟨p, rfl, h⟩ := h; exact .lst (SqL.of h) (.cons (.int _) (.cons (.int _) .nil))), rfl, by simp [PyData.eqv, PyData.eqvAll]⟩
  · exact ⟨.tuple [.str (S cThread), .int (sevens k : Nat)], fun H v h => (by obtain ⟨p, rfl, h⟩ := h; exact .tup (SqT.of h) (.cons (.str _) (.cons (.int _) .nil))), (by simp [SeqAt.shaped, PyData.canLay0, PyData.canLayAll0, PyData.depth, PyData.depthAll, show PyData.strOk (S cThread) = true by decide +kernel]), by simp [PyData.eqv, PyData.eqvAll]⟩
section
variable {P : Program} {w : World} {K : PySem.W.Frag} {mg : Str → Option Value} {base : Heap} {CR CC : Addr}
def spLong : Sp := fun vs H Q _ => ∃ (a : Addr) (x y z : Int), vs = [.ref a] ∧ H a = some (srcO x y z) ∧
  ∀ H', (∃ x y z, H' a = some (srcO x y z)) → Fr [a] H H' → Q (.bl true) H'
theorem sc_long : FnScope ["source", "many", "turn", "pairs", "figures", "number", "thing", "word", "text"] ["source"] (defScope s__law_long_right) := ⟨rfl, rfl, rfl, by decide +kernel, rfl, by decide +kernel, by decide +kernel⟩
theorem ok_long (F : FunAt K mg "_law_long_right" s__law_long_right) (G : NoGl mg) (C__law_next : Cal P w K mg base CX0 2 "_law_next" ["source", "many"] [] spDraw)
    (C__law_said : Cal P w K mg base CX0 5 "_law_said" ["text"] [] spSaid) (C__law_refused : Cal P w K mg base CX0 6 "_law_refused" ["rows"] [] spRefused)
    (C_show_log : Cal P w K mg base (L2.CX P w) 5 "show_log" ["log"] [] (spShow CC)) (C_read_log : Cal P w K mg base (L2.CX P w) 4 "read_log" ["text"] [] (spRead CR)) :
    Cal P w K mg base CX0 7 "_law_long_right" ["source"] [] spLong := by
  refine Cal.mk0 F sc_long (by rintro _ _ _ _ ⟨_, _, _, _, rfl, _⟩; rfl) (fun _ _ _ _ _ _ us hl => match us, hl with | [_], _ => rfl) ?_
  rintro f cdv A outer s H vs Q E hr ⟨a, x, y, z, rfl, hs, q⟩
  have nd := sc_long.nd
  refine ⟨_, (pss_cons (ps_for PassesOwn.never rfl (pi_list (pe_lst (pa_cons pe_int (pa_cons pe_int (pa_cons (pe_op op_add pe_int (pe_c C__law_next (hr.mono (by decide)) (by rfl) pass0 (pa_cons (pv 0) (pa_cons pe_int pa_nil)))) (pa_cons pe_int (pa_cons pe_int pa_nil))))))) (pg_name (i := 1) nd rfl (.inl rfl))
      (pss_cons (ps_par (i := 4) (j := 5) (by rfl) nd rfl rfl (by decide) rfl rfl (pa_cons (pe_op op_rep1 pe_str (pv 1)) (pa_cons pe_int pa_nil)) (by rfl))
      (pss_cons (ps_for PassesOwn.never rfl (pi_range1 (by rfl) G.range (pa_cons (pe_op op_fdiv (pv 1) pe_int) pa_nil)) (pg_name (i := 2) nd rfl (.inl rfl))
        (pss_one (ps_set (i := 5) nd rfl (.inl rfl) (pe_op op_add (pe_op op_mulW (pv 5) (pe_op op_pow pe_int pe_int)) pe_int))))
      (pss_cons (ps_for PassesOwn.never rfl (pi_range1 (by rfl) G.range (pa_cons (pe_op op_mod (pe_callTy (T := "int") call_int1 (by rfl) G.int (by decide +kernel) (pa_cons (pv 1) pa_nil)) pe_int) pa_nil)) (pg_name (i := 2) nd rfl (.inl rfl))
        (pss_one (ps_set (i := 5) nd rfl (.inl rfl) (pe_op op_add (pe_op op_mulW (pv 5) pe_int) pe_int))))
      (pss_cons (ps_set (i := 3) nd rfl (.inl rfl) (pe_lst (pa_cons (pe_tup (pa_cons (pv 5) (pa_cons (pv 4) pa_nil))) (pa_cons (pe_tup (pa_cons (pe_op op_sub pe_int (pv 5)) (pa_cons (pe_op op_add_str pe_str (pv 4)) pa_nil))) (pa_cons (pe_tup (pa_cons (pe_lst (pa_cons pe_int (pa_cons (pv 5) pa_nil))) (pa_cons (pe_op op_add_str (pe_op op_add_str pe_str (pv 4)) pe_str) pa_nil))) pa_nil)))))
      (pss_one (ps_for PassesOwn.never rfl (pi_list (pe_op op_cat (pv 3) (pe_lst (pa_cons (pe_tup (pa_cons (pe_tup (pa_cons pe_str (pa_cons (pv 5) pa_nil))) (pa_cons (pe_op op_add_str pe_str (pv 4)) pa_nil))) pa_nil)))) (pg_tup rfl (pgs_cons (pg_name (i := 6) nd rfl (.inl rfl)) (pgs_cons (pg_name (i := 7) nd rfl (.inl rfl)) pgs_nil)))
        (pss_cons (ps_set (i := 8) nd rfl (.inl rfl) (pe_op op_add_str pe_str (pv 7)))
        (pss_cons (ps_if (PW.pt (pw_and (pt_cmpR op_gt (pv 1) pe_int (nomark _)) (pw_and1 (PW.pt (pw_or (pt_cmpR op_ne (pe_c C__law_said (hr.mono (by decide)) (by rfl) pass0 (pa_cons (pv 8) pa_nil)) pe_int (nomark _)) (pw_or1 (pt_not (pt_val (pe_c C__law_refused (hr.mono (by decide)) (by rfl) pass0 (pa_cons (pe_lst (pa_cons (pe_tup (pa_cons pe_str (pa_cons pe_int pa_nil))) (pa_cons (pe_tup (pa_cons pe_str (pa_cons (pv 6) pa_nil))) pa_nil))) pa_nil))))))))))
          (pss_one (ps_ret pe_bl))
          pss_nil)
        (pss_cons (ps_if (PW.pt (pw_and (pt_cmpR op_le (pv 1) pe_int (nomark _)) (pw_and1 (pt_cmpR op_ne (pe_c C_show_log (hr.mono (by decide)) (by rfl) (passes_call (E := fun _ _ _ => False) (W := fun _ _ _ _ => False) takes0 (fun _ _ _ _ h => h)) (pa_cons (pe_lst (pa_cons (pe_tup (pa_cons pe_str (pa_cons pe_int pa_nil))) (pa_cons (pe_tup (pa_cons pe_str (pa_cons (pv 6) pa_nil))) pa_nil))) pa_nil)) (pv 8) (nomark _)))))
          (pss_one (ps_ret pe_bl))
          pss_nil)
        (pss_one (ps_if (PW.pt (pw_and (pt_cmpR op_le (pv 1) pe_int (nomark _)) (pw_and1 (pt_cmpR (op_neD hr.units) (pe_ix ix_tup (pe_ix ix_list (pe_c C_read_log (hr.mono (by decide)) (by rfl) (passes_call (E := fun _ _ _ => False) (W := fun _ _ _ _ => False) takes0 (fun _ _ _ _ h => h)) (pa_cons (pv 8) pa_nil)) pe_int (fun _ _ => rfl)) pe_int (fun _ _ => rfl)) (pv 6) (nomark _)))))
          (pss_one (ps_ret pe_bl))
          pss_nil))))))))))))
    (pss_one (ps_ret pe_bl))), ?_⟩
  refine ⟨_, rfl, a, x, y, z, 4, rfl, hs, by decide, by decide, fun d x2 z2 H2 d0 d1 s2 fr2 => ⟨_, _, rfl, rfl, (by show 5 ≤ sizeLine; decide), fun p1 n1 => ?_⟩⟩
  have h3 : (upd H2 p1 (.lst [V.int 1000, V.int 1001, V.int (999 + d), V.int 4301, V.int 5000])) p1 = some (.lst [V.int 1000, V.int 1001, V.int (999 + d), V.int 4301, V.int 5000]) := upd_same
  have f3 : Fr [a] H2 (upd H2 p1 (.lst [V.int 1000, V.int 1001, V.int (999 + d), V.int 4301, V.int 5000])) := Fr.new n1
  have s3 : (upd H2 p1 (.lst [V.int 1000, V.int 1001, V.int (999 + d), V.int 4301, V.int 5000])) a = some (srcO x2 y z2) := by rw [upd_ne (ne_of_none s2 n1)]; exact s2
  change H2 p1 = none at n1
  generalize hh : upd H2 p1 (.lst [V.int 1000, V.int 1001, V.int (999 + d), V.int 4301, V.int 5000]) = H3 at h3 f3 s3
  generalize hg : upd H2 p1 _ = H3'
  obtain rfl : H3 = H3' := by rw [← hg, ← hh]
  have ks : ∀ (i : Nat) (x : V), [V.int 1000, V.int 1001, V.int (999 + d), V.int 4301, V.int 5000][i]? = some x → ∃ k : Nat, x = .int (k : Int) ∧ 999 ≤ k ∧ k ≤ 5000 := fun i x hx => by
    match i, hx with
    | 0, hx => cases hx; exact ⟨1000, rfl, by decide, by decide⟩
    | 1, hx => cases hx; exact ⟨1001, rfl, by decide, by decide⟩
    | 2, hx => cases hx; exact ⟨(999 + d).toNat, by rw [Int.toNat_of_nonneg (by omega)], by omega, by omega⟩
    | 3, hx => cases hx; exact ⟨4301, rfl, by decide, by decide⟩
    | 4, hx => cases hx; exact ⟨5000, rfl, by decide, by decide⟩
  refine ⟨p1, rfl, ⟨_, SqL.of h3⟩, ?_⟩
  refine for_list (K := K) (a := p1) (xs := [V.int 1000, V.int 1001, V.int (999 + d), V.int 4301, V.int 5000]) (fun i σ Hz => ∃ s1 s2 s3 s4 s5 s6 s7 s8, σ = [some (.ref a), s1, s2, s3, s4, s5, s6, s7, s8] ∧ Fr [] H3 Hz)
    ⟨none, none, none, none, none, none, none, none, rfl, Fr.refl _ _⟩ (fun i σ Hz _ hp => ?_) (fun i x σ Hz hx hp => ?_) (fun σ Hz hp => ?_)
  · obtain ⟨_, _, _, _, _, _, _, _, _, fz⟩ := hp
    exact SqL.of (fz.same _ _ h3)
  · obtain ⟨s1, s2', s3', s4', s5', s6, s7, s8, rfl, fz⟩ := hp
    obtain ⟨k, rfl, k0, k1⟩ := ks i x hx
    refine ⟨_, rfl, 55, k, rfl, rfl, by omega, by omega, _, _, rfl, ?_⟩
    have b10 : ∀ m, m ≤ 5000 → (((sevens m : Nat) : Int)).natAbs < 2 ^ 20000 := fun m hm => by
      rw [Int.natAbs_natCast]
      refine Nat.lt_of_lt_of_le (sev_lt m) ?_
      refine Nat.le_trans (Nat.pow_le_pow_right (by decide) hm) ?_
      refine Nat.le_trans (Nat.pow_le_pow_left (show 10 ≤ 2 ^ 4 by decide) 5000) ?_
      rw [← Nat.pow_mul]
      exact Nat.le_refl _
    have kd : ((k : Int) / 25).toNat = k / 25 := rfl
    refine ⟨_, rfl, _, _, rfl, rfl, ⟨by decide, by decide⟩, _, rfl, by omega, by omega, ?_⟩
    refine for_range (lo := 0) (n := ((k : Int) / 25).toNat) (fun i σ H' => ∃ t2, σ = [some (.ref a), some (.int (k : Int)), t2, s3', some (.str (S (figs k))), some (.int (sevens (25 * i) : Nat)), s6, s7, s8] ∧ Fr [] H3 H')
      ⟨_, rfl, fz⟩ ?_ ?_
    · rintro i σ H' hi ⟨t2, rfl, fz⟩
      rw [kd] at hi
      refine ⟨_, rfl, _, _, rfl, rfl, ⟨by decide, by decide, by decide⟩, _, _, rfl, rfl, wide_mul (a := 20000) (b := 100) (b10 _ (by omega)) (by decide) (by decide) (by decide) (by decide), _, _, rfl, rfl, ?_⟩
      refine ⟨some (V.int (0 + (i : Int))), ?_, fz⟩
      show _ = [_, _, _, _, _, some (V.int (sevens (25 * i + 25) : Nat)), _, _, _]
      rw [sev_25]
      rfl
    rintro σ H' ⟨t2, rfl, fz⟩
    have kd2 : ((k : Int) % 25).toNat = k % 25 := rfl
    refine ⟨_, rfl, .inl ⟨_, rfl, _, _, rfl, rfl, (show (0 : Int) < 25 by decide), _, rfl, by omega, by omega, ?_⟩⟩
    refine for_range (lo := 0) (n := ((k : Int) % 25).toNat) (fun i σ H' => ∃ t2, σ = [some (.ref a), some (.int (k : Int)), t2, s3', some (.str (S (figs k))), some (.int (sevens (25 * (k / 25) + i) : Nat)), s6, s7, s8] ∧ Fr [] H3 H')
      ⟨t2, rfl, fz⟩ ?_ ?_
    · rintro i σ H' hi ⟨t2, rfl, fz⟩
      rw [kd2] at hi
      refine ⟨_, rfl, _, _, rfl, rfl, wide_mul (a := 20000) (b := 100) (b10 _ (by omega)) (by decide) (by decide) (by decide) (by decide), _, _, rfl, rfl, ?_⟩
      refine ⟨some (V.int (0 + (i : Int))), ?_, fz⟩
      show _ = [_, _, _, _, _, some (V.int (sevens (25 * (k / 25) + i + 1) : Nat)), _, _, _]
      rw [sev_s]
      rfl
    rintro σ H' ⟨t2, rfl, fz⟩
    rw [kd2, Nat.div_add_mod]
    have bd : ∀ (u v : List Nat), u.length + v.length ≤ 16000000 → (S u).length + (S v).length ≤ sizeLine := fun u v h => by rw [S_len, S_len, sizeLine_eq]; omega
    have fl := figs_len k
    refine ⟨_, rfl, _, rfl, (by show 2 ≤ sizeLine; decide), fun q1 m1 => ?_⟩
    obtain ⟨G1, e1, h1, w1, g1⟩ := stepN (M := []) (o := .tup [V.int (sevens k : Nat), V.str (S (figs k))]) m1
    rw [e1]
    refine ⟨_, rfl, _, _, rfl, rfl, _, rfl, S [45], _, rfl, rfl, bd _ _ (by rw [fl]; simp; omega), ?_⟩
    rw [S_cat]
    refine ⟨(by show 2 ≤ sizeLine; decide), fun q2 m2 => ?_⟩
    obtain ⟨G2, e2, h2, w2, g2⟩ := stepN (M := []) (o := .tup [V.int (0 - (sevens k : Nat)), V.str (S ([45] ++ figs k))]) m2
    rw [show upd G1 q2 _ = G2 from e2]
    refine ⟨_, rfl, (by show 2 ≤ sizeLine; decide), fun q3 m3 => ?_⟩
    obtain ⟨G3, e3, h3', w3, g3⟩ := stepN (M := []) (o := .lst [V.int 1, V.int (sevens k : Nat)]) m3
    rw [show upd G2 q3 _ = G3 from e3]
    refine ⟨_, rfl, S [91, 49, 44], _, rfl, rfl, bd _ _ (by simp [fl, cThread]; omega), ?_⟩
    rw [S_cat]
    refine ⟨_, S [93], rfl, rfl, bd _ _ (by simp [fl, cThread]; omega), ?_⟩
    rw [S_cat]
    refine ⟨(by show 2 ≤ sizeLine; decide), fun q4 m4 => ?_⟩
    obtain ⟨G4, e4, h4, w4, g4⟩ := stepN (M := []) (o := .tup [V.ref q3, V.str (S ([91, 49, 44] ++ figs k ++ [93]))]) m4
    rw [show upd G3 q4 _ = G4 from e4]
    refine ⟨(by show 3 ≤ sizeLine; decide), fun q5 m5 => ?_⟩
    obtain ⟨G5, e5, h5, w5, g5⟩ := stepN (M := []) (o := .lst [V.ref q1, V.ref q2, V.ref q4]) m5
    rw [show upd G4 q5 _ = G5 from e5]
    refine ⟨_, rfl, _, rfl, (by show 2 ≤ sizeLine; decide), fun q6 m6 => ?_⟩
    obtain ⟨G6, e6, h6, w6, g6⟩ := stepN (M := []) (o := .tup [V.str "thread", V.int (sevens k : Nat)]) m6
    rw [show upd G5 q6 _ = G6 from e6]
    refine ⟨_, rfl, S (cThread ++ [58]), _, rfl, rfl, bd _ _ (by simp [fl, cThread]; omega), ?_⟩
    rw [S_cat]
    refine ⟨(by show 2 ≤ sizeLine; decide), fun q7 m7 => ?_⟩
    obtain ⟨G7, e7, h7, w7, g7⟩ := stepN (M := []) (o := .tup [V.ref q6, V.str (S (cThread ++ [58] ++ figs k))]) m7
    rw [show upd G6 q7 _ = G7 from e7]
    refine ⟨(by show 1 ≤ sizeLine; decide), fun q8 m8 => ?_⟩
    obtain ⟨G8, e8, h8, w8, g8⟩ := stepN (M := []) (o := .lst [V.ref q7]) m8
    rw [show upd G7 q8 _ = G8 from e8]
    refine ⟨q5, q8, _, _, rfl, rfl, w8 _ _ (w7 _ _ (w6 _ _ h5)), h8, (by show 4 ≤ sizeLine; decide), fun q9 m9 => ?_⟩
    obtain ⟨G9, e9, h9, w9, g9⟩ := stepN (M := []) (o := .lst [V.ref q1, V.ref q2, V.ref q4, V.ref q7]) m9
    rw [show upd G8 q9 (.lst ([V.ref q1, V.ref q2, V.ref q4] ++ [V.ref q7])) = G9 from e9]
    have gA : Fr [] H' G9 := g1.trans (g2.trans (g3.trans (g4.trans (g5.trans (g6.trans (g7.trans (g8.trans g9)))))))
    have u4 : ∀ {b : Addr} {o : HO}, G4 b = some o → G9 b = some o := fun h => w9 _ _ (w8 _ _ (w7 _ _ (w6 _ _ (w5 _ _ h))))
    have u2 : ∀ {b : Addr} {o : HO}, G2 b = some o → G9 b = some o := fun h => u4 (w4 _ _ (w3 _ _ h))
    have items : ∀ (i : Nat) (x : V), [V.ref q1, V.ref q2, V.ref q4, V.ref q7][i]? = some x → ∃ T v t w, x = .ref T ∧ G9 T = some (.tup [v, .str (S w)]) ∧ IsTh G9 v t ∧ IsLong k t w := fun i x hx => by
      match i, hx with
      | 0, hx => cases hx; exact ⟨q1, _, .int (sevens k : Nat), _, rfl, u2 (w2 _ _ h1), rfl, .inl ⟨rfl, rfl⟩⟩
      | 1, hx => cases hx; exact ⟨q2, _, .int (0 - (sevens k : Nat)), _, rfl, u2 h2, rfl, .inr (.inl ⟨rfl, rfl⟩)⟩
      | 2, hx => cases hx; exact ⟨q4, _, .lst [1, (sevens k : Nat)], _, rfl, u4 h4, ⟨q3, rfl, u4 (w4 _ _ h3')⟩, .inr (.inr (.inl ⟨rfl, rfl⟩))⟩
      | 3, hx => cases hx; exact ⟨q7, _, .clk cThread (sevens k : Nat), _, rfl, w9 _ _ (w8 _ _ h7), ⟨q6, rfl, w9 _ _ (w8 _ _ (w7 _ _ h6))⟩, .inr (.inr (.inr ⟨rfl, rfl⟩))⟩
    refine ⟨q9, rfl, ⟨_, SqL.of h9⟩, ?_⟩
    refine for_list (K := K) (a := q9) (xs := [V.ref q1, V.ref q2, V.ref q4, V.ref q7]) (fun i σ Hz => ∃ v6 v7 v8, σ = [some (.ref a), some (.int (k : Int)), t2, some (.ref q5), some (.str (S (figs k))), some (.int (sevens k : Nat)), v6, v7, v8] ∧ Fr [] G9 Hz)
      ⟨s6, s7, s8, rfl, Fr.refl _ _⟩ (fun i σ Hz _ hp => ?_) (fun i x σ Hz hx hp => ?_) (fun σ Hz hp => ?_)
    · obtain ⟨_, _, _, _, fz⟩ := hp
      exact SqL.of (fz.same _ _ h9)
    · obtain ⟨v6, v7, v8, rfl, fy⟩ := hp
      obtain ⟨T, v, t, w', rfl, hT, hth, hl⟩ := items i x hx
      obtain ⟨_, _, lw⟩ := long_free hl
      refine ⟨T, [v, .str (S w')], rfl, SqT.of (fy.same _ _ hT), rfl, _, _, rfl, _, _, rfl, rfl, ?_⟩
      refine ⟨_, rfl, S (cLook ++ [32, 53, 10] ++ cLook ++ [32]), _, rfl, rfl, bd _ _ (by simp [cLook]; omega), ?_⟩
      rw [S_cat, show cLook ++ [32, 53, 10] ++ cLook ++ [32] ++ w' = lookTxt w' from rfl]
      have hth := hth.same fy.same
      have k0' : 0 < k := by omega
      have next : ∀ Hb, Fr [] Hz Hb → ∃ v6 v7 v8, [some (V.ref a), some (V.int (k : Int)), t2, some (V.ref q5), some (V.str (S (figs k))), some (V.int (sevens k : Nat)), some v, some (V.str (S w')), some (V.str (S (lookTxt w')))] = [some (V.ref a), some (V.int (k : Int)), t2, some (V.ref q5), some (V.str (S (figs k))), some (V.int (sevens k : Nat)), v6, v7, v8] ∧ Fr [] G9 Hb := fun Hb fb => ⟨_, _, _, rfl, fy.trans fb⟩
      have ll : (lookTxt w').length ≤ 900000 := by
        unfold lookTxt
        simp [cLook]
        omega
      by_cases hk : 1000 < k
      · refine ⟨_, rfl, _, _, rfl, rfl, _, rfl, ?_⟩
        refine ifT (decide_eq_true (by omega)) ?_
        refine ⟨_, rfl, _, rfl, .inr ⟨lookTxt w', rfl, ll, fun Ha fa => ?_⟩⟩
        rw [show saidV (lookTxt w') = .int 1 by unfold saidV; rw [long_log_bad hk hl]; rfl]
        refine ⟨rfl, _, rfl, ifF (by simp) ?_⟩
        refine ⟨(by show 2 ≤ sizeLine; decide), fun p1 m1 => ⟨_, rfl, (by show 2 ≤ sizeLine; decide), fun p2 m2 => ⟨(by show 2 ≤ sizeLine; decide), fun p3 m3 => ?_⟩⟩⟩
        obtain ⟨Hb, eb, fb, b1, b2, b3, b4, b5⟩ := two_rows (hth.same fa.same) hl k0' k1 m1 m2 m3
        rw [eb]
        rw [if_pos hk] at b5
        refine ⟨_, rfl, .inr ⟨p3, _, rfl, b1, b2, b3, by simp, b4, b5, fun Hc fc => ⟨_, rfl, ?_⟩⟩⟩
        refine ifF rfl ?_
        refine ⟨_, rfl, _, _, rfl, rfl, _, rfl, ?_⟩
        refine ifF (decide_eq_false (by omega)) ?_
        refine ifF rfl ?_
        refine ⟨_, rfl, _, _, rfl, rfl, _, rfl, ?_⟩
        refine ifF (decide_eq_false (by omega)) ?_
        refine ifF rfl ?_
        exact next _ (fa.trans (fb.trans fc))
      · refine ⟨_, rfl, _, _, rfl, rfl, _, rfl, ?_⟩
        refine ifF (decide_eq_false (by omega)) ?_
        refine ifF rfl ?_
        refine ⟨_, rfl, _, _, rfl, rfl, _, rfl, ?_⟩
        refine ifT (decide_eq_true (by omega)) ?_
        refine ⟨(by show 2 ≤ sizeLine; decide), fun p1 m1 => ⟨_, rfl, (by show 2 ≤ sizeLine; decide), fun p2 m2 => ⟨(by show 2 ≤ sizeLine; decide), fun p3 m3 => ?_⟩⟩⟩
        obtain ⟨Hb, eb, fb, b1, b2, b3, b4, b5⟩ := two_rows hth hl k0' k1 m1 m2 m3
        rw [eb]
        rw [if_neg hk] at b5
        refine ⟨_, rfl, .inr ⟨p3, _, rfl, b1, b2, b3, by simp, b4, fun Hc fc => ?_⟩⟩
        rw [b5]
        refine ⟨_, rfl, rfl, _, rfl, ifF (by simp) ?_⟩
        refine ⟨_, rfl, _, _, rfl, rfl, _, rfl, ?_⟩
        refine ifT (decide_eq_true (by omega)) ?_
        have lok := long_log_ok k0' (by omega) hl
        refine ⟨_, rfl, _, rfl, .inr ⟨lookTxt w', rfl, ll, fun k e => (by rw [lok] at e; cases e), fun rs e Hd' p fd hlog => ?_⟩⟩
        rw [lok] at e
        cases e
        obtain ⟨ys, hys, hpr⟩ := hlog
        cases hpr with
        | cons r1 hpr =>
          cases hpr with
          | cons r2 hpr =>
            cases hpr
            rename_i y1 y2
            obtain ⟨a2, vs2, rfl, ha2, hp2⟩ := r2
            cases hp2 with
            | cons r3 hp2 =>
              cases hp2
              rename_i v2
              refine ⟨p, _, 1, .ref a2, rfl, rfl, SqL.of hys, rfl, a2, _, 1, v2, rfl, rfl, SqT.of ha2, rfl, _, rfl, ?_⟩
              obtain ⟨dt, dd, ds, de⟩ := long_dp (K := K) hl
              refine ⟨dt, dt, dd _ _ r3, dd _ _ (hth.same (fb.trans (fc.trans fd)).same), ds, ds, _, rfl, ifF (by rw [de]; rfl) ?_⟩
              exact next _ (fb.trans (fc.trans fd))
    · obtain ⟨v6, v7, v8, rfl, fy⟩ := hp
      exact ⟨_, _, _, _, _, _, _, _, rfl, fz.trans (gA.trans fy)⟩
  · obtain ⟨_, _, _, _, _, _, _, _, rfl, fz⟩ := hp
    exact q Hz ⟨x2, y, z2, fz.same _ _ s3⟩ (fr2.trans (f3.trans (fz.mono fun _ h => nomatch h)))
end
end Tk

set_option Elab.async false
set_option linter.all false
set_option maxRecDepth 100000
set_option maxHeartbeats 4000000
/-! _law_is_number -/
namespace Tk
open PySem PySem.Spec PyProof.Rows L2 SX TL
section
variable {P : Program} {w : World} {K : PySem.W.Frag} {mg : Str → Option Value} {base : Heap} {tk : Tok}
def spLNum : Sp := fun vs H Q _ => ∃ l : List Nat, vs = [.str (S l)] ∧ l.length ≤ 1000000 ∧ ∀ H', Fr [] H H' → Q (.bl (isNum l)) H'
theorem sc_lNum : FnScope ["word", "digits", "sign"] ["word"] (defScope s__law_is_number) := ⟨rfl, rfl, rfl, by decide +kernel, rfl, by decide +kernel, by decide +kernel⟩
theorem ok_lNum (F : FunAt K mg "_law_is_number" s__law_is_number) (G : NoGl mg) : Cal P w K mg base CX0 1 "_law_is_number" ["word"] [] spLNum := by
  refine Cal.mk0 F sc_lNum (by rintro _ _ _ _ ⟨_, rfl, _⟩; rfl) (fun _ _ _ _ _ _ us hl => match us, hl with | [_], _ => rfl) ?_
  rintro f cdv A outer s H vs Q E hr ⟨l, rfl, hz, q⟩
  have nd := sc_lNum.nd
  have hS : (S l).length ≤ sizeLine := by rw [S_len, sizeLine_eq]; omega
  have hD : (digs l).length ≤ l.length := by unfold digs; split <;> simp
  have hSD : (S (digs l)).length < sizeLine := by rw [S_len, sizeLine_eq]; omega
  suffices hr2 : ∃ t2, PSs (cxOf CX0 P w K mg base ["word", "digits", "sign"] "_law_is_number" (defScope s__law_is_number) f cdv A outer s H E).nox ((defBody s__law_is_number).drop 1) t2 ∧ t2 { nx := fun _ H' => Q .non H', rt := Q } [some (.str (S l)), some (.str (S (digs l))), none] H by
    obtain ⟨t2, p2, q2⟩ := hr2
    refine ⟨_, pss_cons
    (ps_set (i := 1) nd rfl (.inl rfl) (pe_ifExp (pt_cmpR op_eq (pe_slice sl_str (pv 0) po_none (po_some pe_int)) pe_str (nomark _)) (pe_slice sl_str (pv 0) (po_some pe_int) po_none) (pv 0)))
      p2, ?_⟩
    refine ⟨_, rfl, 1, rfl, S l, rfl, hS, rfl, _, rfl, ?_⟩
    rw [show cutS (S l) none (some 1) = S (l.take 1) from cut_head l 1]
    refine ite2 (fun c => ?_) (fun c => ?_)
    · have e : l.take 1 = [45] := S_inj (V.str.inj (of_decide_eq_true c))
      refine ⟨_, rfl, 1, rfl, S l, rfl, hS, ?_⟩
      rw [show cutS (S l) (some 1) none = S (l.drop 1) from cut_tail l 1]
      rw [show digs l = l.drop 1 from if_pos e] at q2
      exact q2
    · have e : l.take 1 ≠ [45] := fun z => c (decide_eq_true (by rw [z]; rfl))
      rw [show digs l = l from if_neg e] at q2
      exact ⟨_, rfl, q2⟩
  refine ⟨_, (pss_cons (ps_if (PW.pt (pw_or (pt_cmpR op_eq (pv 1) pe_str (nomark _)) (pw_or1 (pt_cmpR (op_neNilL hr.units0) (pe_lc (own := [("sign", 2)]) (g := gName 2) (tt := _) rfl nd (pi_str (pv 1))
        (blkOk_by (own := [("sign", 2)]) (N := ["word", "digits", "sign"]) (sc := defScope s__law_is_number) (by decide +kernel))
        (fun _ _ _ _ _ => (pg_name (i := 2) nd rfl (.inl rfl) (Or.inr rfl))) (fun _ _ _ _ _ => (pts_one (pt_cmpR op_notIn_sign (pv 2) pe_str rfl)))
        (fun _ _ _ _ _ => (pv 2))) (pe_lst pa_nil) (nomark _)))))
      (pss_one (ps_ret pe_bl))
      pss_nil)
    (pss_one (ps_ret (pe_and (pe_or (pe_cmpR op_ne (pe_ix ix_str (pv 1) pe_int (fun _ _ => rfl)) pe_str (nomark _)) (pe_one (pe_cmpR op_eq (pv 0) pe_str (nomark _)))) (pe_one (pe_cmpR op_le (pe_callB call_len_str (by rfl) G.len (by decide +kernel) (pa_cons (pv 1) pa_nil)) pe_int (nomark _))))))), ?_⟩
  refine ⟨_, rfl, rfl, _, rfl, ?_⟩
  rw [show (decide (V.str (S (digs l)) = V.str "")) = decide (digs l = []) from vstr_dec (a := digs l) (b := [])]
  cases c1 : decide (digs l = []) with
  | true =>
    have e := of_decide_eq_true c1
    have hn : isNum l = false := by unfold isNum; rw [e]; rfl
    have q := q H (Fr.refl _ _)
    rw [hn] at q
    exact q
  | false =>
    have ne := of_decide_eq_false c1
    have c1 : 1 ≤ (digs l).length := List.length_pos_iff.mpr ne
    refine ⟨_, rfl, S (digs l), rfl, fun D hD => ?_⟩
    refine lc_strR (S (digs l)) (fun x => !(dgV x)) (fun x y _ => y = x) (fun _ _ _ _ _ h => h) hD hSD (fun _ => rfl) ?_ ?_ ?_
    · intro y H' Q' hy _ _ hq
      obtain ⟨c, hc, rfl⟩ := List.mem_map.mp hy
      exact ⟨_, rfl, c, _, rfl, rfl, _, rfl, hq H' (Fr.refl _ _)⟩
    · intro y H' Q' hy _ fr _ hq
      exact ⟨_, rfl, hq _ _ (Fr.refl _ _) rfl⟩
    · intro H2 ys hD2 fr2 md
      have e : ys = (sgn (S (digs l))).filter (fun x => !(dgV x)) := by
        have e := md.pure (f := fun x => x) (fun _ _ _ h => h)
        rw [e, List.map_id']
      subst e
      refine ⟨(by show 0 ≤ sizeLine; decide), fun p hp => ?_⟩
      have f3 := Fr.new (M := []) (o := .lst []) hp
      have hDp : (upd H2 p (.lst [])) D = some (.lst ((sgn (S (digs l))).filter fun x => !(dgV x))) := by rw [upd_ne (ne_of_none hD2 hp)]; exact hD2
      refine ⟨D, p, _, rfl, rfl, SqL.of hDp, SqL.of upd_same, _, rfl, ?_⟩
      have ee : ((sgn (S (digs l))).filter fun x => !(dgV x)).isEmpty = (digs l).all isDg := by
        unfold sgn
        rw [List.filter_map, List.isEmpty_map]
        show ((digs l).filter fun c => !(isDg c)).isEmpty = _
        rw [Bool.eq_iff_iff, List.isEmpty_iff, List.filter_eq_nil_iff, List.all_eq_true]
        simp
      rw [ee]
      have q := q _ (fr2.trans f3)
      have rest : isNum l = ((digs l).all isDg && ((!decide ((digs l).take 1 = [48]) || decide (l = [48])) && decide ((digs l).length ≤ 1000))) := by
        unfold isNum
        rw [decide_eq_true c1]
        cases (digs l).all isDg <;> cases decide ((digs l).length ≤ 1000) <;> simp
      rw [rest] at q
      cases c3 : (digs l).all isDg with
      | false => rw [c3] at q; exact q
      | true =>
        rw [c3] at q
        cases hd : digs l with
        | nil => exact absurd hd ne
        | cons c0 r =>
          rw [← hd]
          refine negT ⟨_, rfl, S (digs l), 0, c0, rfl, rfl, Nat.le_of_lt hSD, atI_nat (j := 0) (by show (digs l)[0]? = _; rw [hd]; rfl), rfl, _, rfl, ?_⟩
          have et : (digs l).take 1 = [c0] := by rw [hd]; rfl
          have ed : (decide (V.str ⟨#[c0]⟩ = V.str "0")) = decide ((digs l).take 1 = [48]) := by
            rw [et]
            exact vstr_dec (a := [c0]) (b := [48])
          rw [ed]
          have ed2 : (decide (V.str (S l) = V.str "0")) = decide (l = [48]) := vstr_dec (a := l) (b := [48])
          have tail : ∀ b, b = (!decide ((digs l).take 1 = [48]) || decide (l = [48])) → b = true → tOp (rI0 fun i j => V.bl (decide (i ≤ j))) (tCB (fun xs H Q => ∃ z, xs = [V.str z] ∧ z.length ≤ sizeLine ∧ Q (V.int ↑z.length) H) (tCons (tVar 1) tNil)) (tC (V.int 1000)) [some (V.str (S l)), some (V.str (S (digs l))), none] (upd H2 p (.lst [])) Q := by
            rintro b rfl hb
            refine ⟨_, rfl, _, rfl, Nat.le_of_lt hSD, _, _, rfl, rfl, ?_⟩
            rw [S_len]
            have e9 : decide (((digs l).length : Int) ≤ 1000) = decide ((digs l).length ≤ 1000) := decide_eq_decide.mpr (by omega)
            show Q (V.bl (decide (((digs l).length : Int) ≤ 1000))) _
            rw [hb, Bool.true_and] at q
            rw [e9]
            exact q
          cases c4 : decide ((digs l).take 1 = [48]) with
          | false => exact ⟨_, rfl, tail _ rfl (by rw [c4]; rfl)⟩
          | true =>
            refine ⟨_, rfl, rfl, _, rfl, ?_⟩
            rw [ed2]
            cases c5 : decide (l = [48]) with
            | false =>
              rw [c4, c5] at q
              exact q
            | true => exact tail _ rfl (by rw [c4, c5]; rfl)
end
end Tk

set_option Elab.async false
set_option linter.all false
set_option maxRecDepth 100000
set_option maxHeartbeats 4000000
/-! _law_is_thing -/
namespace Tk
open PySem PySem.Spec PyProof.Rows L2 SX TL
def isNumV : V → Bool
  | .str x => isNum x.cps.toList
  | _ => false
section
variable {P : Program} {w : World} {K : PySem.W.Frag} {mg : Str → Option Value} {base : Heap}
def spLTh : Sp := fun vs H Q _ => ∃ l : List Nat, vs = [.str (S l)] ∧ l.length ≤ 1000000 ∧ ∀ H', Fr [] H H' → Q (.bl (lawTh l)) H'
theorem sc_lTh : FnScope ["word", "name", "digits", "one"] ["word"] (defScope s__law_is_thing) := ⟨rfl, rfl, rfl, by decide +kernel, rfl, by decide +kernel, by decide +kernel⟩
theorem ok_lTh (F : FunAt K mg "_law_is_thing" s__law_is_thing) (G : NoGl mg) (C__law_is_number : Cal P w K mg base CX0 1 "_law_is_number" ["word"] [] spLNum) : Cal P w K mg base CX0 2 "_law_is_thing" ["word"] [] spLTh := by
  refine Cal.mk0 F sc_lTh (by rintro _ _ _ _ ⟨_, rfl, _⟩; rfl) (fun _ _ _ _ _ _ us hl => match us, hl with | [_], _ => rfl) ?_
  rintro f cdv A outer s H vs Q E hr ⟨l, rfl, hz, q⟩
  have nd := sc_lTh.nd
  have hS : (S l).length ≤ sizeLine := by rw [S_len, sizeLine_eq]; omega
  suffices rest : ∃ t2, PSs (cxOf CX0 P w K mg base ["word", "name", "digits", "one"] "_law_is_thing" (defScope s__law_is_thing) f cdv A outer s H E).nox ((defBody s__law_is_thing).drop 2) t2 ∧
      ∀ Hx, Fr [] H Hx → isBr l = false → decide (l ∈ [cNone, cYes, cNo, cSteady, cReal, cBoot, cNil]) = false → isNum l = false → t2 { nx := fun _ H' => Q .non H', rt := Q } [some (.str (S l)), none, none, none] Hx by
    obtain ⟨t2, pr, q2⟩ := rest
    refine ⟨_, pss_cons
    (ps_if (PW.pt (pw_or (pt_cmpR op_in_seq (pv 0) (pe_tup (pa_cons pe_str (pa_cons pe_str (pa_cons pe_str (pa_cons pe_str (pa_cons pe_str (pa_cons pe_str (pa_cons pe_str pa_nil)))))))) rfl) (pw_or1 (pt_val (pe_c C__law_is_number (hr.mono (by decide)) (by rfl) pass0 (pa_cons (pv 0) pa_nil))))))
      (pss_one (ps_ret pe_bl))
      pss_nil)
      (pss_cons
    (ps_if (PW.pt (pw_and (pt_cmpR op_eq (pe_slice sl_str (pv 0) po_none (po_some pe_int)) pe_str (nomark _)) (pw_and1 (pt_cmpR op_eq (pe_slice sl_str (pv 0) (po_some (pe_un un_neg pe_int)) po_none) pe_str (nomark _)))))
      (pss_one (ps_ret (pe_cmpR (op_eqNilL hr.units0) (pe_lc (own := [("one", 3)]) (g := gName 3) (tt := _) rfl nd (pi_list (pe_split (pe_slice sl_str (pv 0) (po_some pe_int) (po_some (pe_un un_neg pe_int))) pe_str))
        (blkOk_by (own := [("one", 3)]) (N := ["word", "name", "digits", "one"]) (sc := defScope s__law_is_thing) (by decide +kernel))
        (fun _ _ _ _ _ => (pg_name (i := 3) nd rfl (.inl rfl) (Or.inr rfl))) (fun _ _ _ _ _ => (pts_one (pt_not (pt_val (pe_c C__law_is_number (hr.mono (by decide)) (by rfl) pass0 (pa_cons (pv 3) pa_nil))))))
        (fun _ _ _ _ _ => (pv 3))) (pe_lst pa_nil) (nomark _))))
      pss_nil)
      pr), ?_⟩
    refine ⟨_, rfl, (by show 7 ≤ sizeLine; decide), fun p1 n1 => ?_⟩
    have f1 := Fr.new (M := []) (o := .tup [V.str "none", V.str "yes", V.str "no", V.str "steady", V.str "real", V.str "boot", V.str "[]"]) n1
    refine ⟨p1, _, rfl, .inr (SqT.of upd_same), rfl, rfl, _, rfl, ?_⟩
    rw [show (if false = true then !inV (V.str (S l)) [V.str "none", V.str "yes", V.str "no", V.str "steady", V.str "real", V.str "boot", V.str "[]"] else inV (V.str (S l)) [V.str "none", V.str "yes", V.str "no", V.str "steady", V.str "real", V.str "boot", V.str "[]"]) = decide (l ∈ [cNone, cYes, cNo, cSteady, cReal, cBoot, cNil]) from in_strs l [cNone, cYes, cNo, cSteady, cReal, cBoot, cNil]]
    generalize upd H p1 _ = Ha at f1 ⊢
    have eW : decide (l = cNone ∨ l = cYes ∨ l = cNo ∨ l = cSteady ∨ l = cReal ∨ l = cBoot ∨ l = cNil) = decide (l ∈ [cNone, cYes, cNo, cSteady, cReal, cBoot, cNil]) := decide_eq_decide.mpr (by simp)
    cases c0 : decide (l ∈ [cNone, cYes, cNo, cSteady, cReal, cBoot, cNil]) with
    | true =>
      have q := q _ f1
      unfold lawTh at q
      rw [eW, c0, Bool.true_or, Bool.true_or] at q
      exact q
    | false =>
      refine ⟨_, rfl, l, rfl, hz, fun Hb f2 => ?_⟩
      have f2 := f1.trans f2
      cases c1 : isNum l with
      | true =>
        have q := q _ f2
        unfold lawTh at q
        rw [eW, c0, c1, Bool.false_or, Bool.true_or] at q
        exact ⟨_, rfl, q⟩
      | false =>
        have q : ∀ H', Fr [] H H' → Q (.bl (if isBr l = true then (parts l).all isNum
          else
            let ps := spl [58] 0 [] l ++ [[], []]
            decide (ps.getD 0 [] = cThread ∨ ps.getD 0 [] = cProcess) && (decide (l = ps.getD 0 [] ++ [58] ++ ps.getD 1 []) && (isNum (ps.getD 1 []) && !decide ((ps.getD 1 []).take 1 = [45]))))) H' := fun H' fr => by
          have q := q _ fr
          unfold lawTh at q
          rw [eW, c0, c1, Bool.false_or, Bool.false_or] at q
          exact q
        refine ⟨_, rfl, ?_⟩
        refine ⟨_, rfl, 1, rfl, S l, rfl, hS, rfl, _, rfl, ?_⟩
        rw [show cutS (S l) none (some 1) = S (l.take 1) from cut_head l 1, show (decide (V.str (S (l.take 1)) = V.str "[")) = decide (l.take 1 = [91]) from vstr_dec (a := l.take 1) (b := [91])]
        cases b1 : decide (l.take 1 = [91]) with
        | false => exact q2 _ f2 (by unfold isBr; rw [b1]; rfl) c0 c1
        | true =>
          refine ⟨_, rfl, 1, rfl, -1, rfl, S l, rfl, hS, rfl, _, rfl, ?_⟩
          rw [cut_last, show (decide (V.str (S (l.drop (l.length - 1))) = V.str "]")) = decide (l.drop (l.length - 1) = [93]) from vstr_dec (a := l.drop (l.length - 1)) (b := [93])]
          cases b2 : decide (l.drop (l.length - 1) = [93]) with
          | false => exact q2 _ f2 (by unfold isBr; rw [b1, b2]; rfl) c0 c1
          | true =>
            have hb : isBr l = true := by unfold isBr; rw [b1, b2]; rfl
            refine ⟨_, rfl, 1, rfl, 1, rfl, -1, rfl, S l, rfl, hS, ?_⟩
            rw [cut_inner]
            have hin : (inner l).length ≤ l.length := by unfold inner; rw [List.length_take, List.length_drop]; omega
            refine ⟨⟨_, rfl⟩, S (inner l), S [44], rfl, rfl, rfl, by rw [S_len, sizeLine_eq]; omega, fun p4 n4 => ?_⟩
            rw [show Txt.split (S (inner l)) (S [44]) = (parts l).map S from split_S (by simp) (by decide)]
            have f4 := f2.trans (Fr.new (M := []) (o := .lst (((parts l).map S).map V.str)) n4)
            have h4 : (upd Hb p4 (.lst (((parts l).map S).map V.str))) p4 = some (.lst (((parts l).map S).map V.str)) := upd_same
            generalize upd Hb p4 _ = Hd at f4 h4 ⊢
            have hpl : ∀ a ∈ parts l, a.length ≤ 1000000 := fun a ha => by
              have := part_short (x := S (inner l)) (y := S [44]) (a := S a) (by rw [split_S (by simp) (by decide)]; exact List.mem_map_of_mem ha)
              rw [S_len, S_len] at this
              omega
            have hpn : (parts l).length ≤ l.length + 2 := by
              have := split_le (S (inner l)) (S [44])
              rw [split_S (by simp) (by decide), List.length_map, S_len] at this
              exact Nat.le_trans this (by omega)
            refine ⟨p4, rfl, ⟨_, SqL.of h4⟩, fun D hD => ?_⟩
            refine lc_listR (K := K) (fun x => !(isNumV x)) (fun x y _ => y = x) (fun _ _ _ _ _ h => h) hD (by rw [List.length_map, List.length_map, sizeLine_eq]; omega) (fun _ => rfl) ?_ ?_ ?_ (SqL.of h4)
            · intro y H' Q' hy fr _ hq
              rw [List.map_map] at hy
              obtain ⟨a, ha, rfl⟩ := List.mem_map.mp hy
              exact ⟨_, rfl, a, rfl, hpl a ha, fun H2 fr2 => ⟨_, rfl, hq _ fr2⟩⟩
            · intro y H' Q' hy _ fr _ hq
              exact ⟨_, rfl, hq _ _ (Fr.refl _ _) rfl⟩
            · intro H2 ys hD2 fr2 md
              have e : ys = (((parts l).map S).map V.str).filter (fun x => !(isNumV x)) := by
                have e := md.pure (f := fun x => x) (fun _ _ _ h => h)
                rw [e, List.map_id']
              subst e
              have f5 := f4.trans fr2
              refine ⟨(by show 0 ≤ sizeLine; decide), fun p hp => ?_⟩
              have f6 := f5.trans (Fr.new (M := []) (o := .lst []) hp)
              have hDp : (upd H2 p (.lst [])) D = some (.lst ((((parts l).map S).map V.str).filter (fun x => !(isNumV x)))) := by rw [upd_ne (ne_of_none hD2 hp)]; exact hD2
              refine ⟨D, p, _, rfl, rfl, SqL.of hDp, SqL.of upd_same, ?_⟩
              have ee : ((((parts l).map S).map V.str).filter fun x => !(isNumV x)).isEmpty = (parts l).all isNum := by
                rw [List.map_map, List.filter_map, List.isEmpty_map]
                show ((parts l).filter fun c => !(isNum c)).isEmpty = _
                rw [Bool.eq_iff_iff, List.isEmpty_iff, List.filter_eq_nil_iff, List.all_eq_true]
                simp
              have q := q _ f6
              rw [if_pos hb, ← ee] at q
              exact q
  refine ⟨_, (pss_cons (ps_asg (pe_slice sl_list (pe_op op_cat (pe_split (pv 0) pe_str) (pe_lst (pa_cons pe_str (pa_cons pe_str pa_nil)))) po_none (po_some pe_int)) (pg_lst rfl (pgs_cons (pg_name (i := 1) nd rfl (.inl rfl)) (pgs_cons (pg_name (i := 2) nd rfl (.inl rfl)) pgs_nil))))
    (pss_one (ps_ret (pe_and (pe_cmpR op_in_seq (pv 1) (pe_tup (pa_cons pe_str (pa_cons pe_str pa_nil))) rfl) (pe_and (pe_cmpR op_eq (pv 0) (pe_op op_add_str (pe_op op_add_str (pv 1) pe_str) (pv 2)) (nomark _)) (pe_and (pe_c C__law_is_number (hr.mono (by decide)) (by rfl) pass0 (pa_cons (pv 2) pa_nil)) (pe_one (pe_cmpR op_ne (pe_ix ix_str (pv 2) pe_int (fun _ _ => rfl)) pe_str (nomark _))))))))), ?_⟩
  intro Hx fx nb w0 n0
  obtain ⟨ps, hps⟩ : ∃ ps, spl [58] 0 [] l ++ [[], []] = ps := ⟨_, rfl⟩
  have q : ∀ H', Fr [] H H' → Q (.bl (decide (ps.getD 0 [] = cThread ∨ ps.getD 0 [] = cProcess) && (decide (l = ps.getD 0 [] ++ [58] ++ ps.getD 1 []) && (isNum (ps.getD 1 []) && !decide ((ps.getD 1 []).take 1 = [45]))))) H' := fun H' fr => by
    have q := q _ fr
    unfold lawTh at q
    have eW : decide (l = cNone ∨ l = cYes ∨ l = cNo ∨ l = cSteady ∨ l = cReal ∨ l = cBoot ∨ l = cNil) = decide (l ∈ [cNone, cYes, cNo, cSteady, cReal, cBoot, cNil]) := decide_eq_decide.mpr (by simp)
    rw [eW, w0, n0, nb, hps] at q
    exact q
  refine ⟨_, rfl, ⟨_, rfl⟩, S l, S [58], rfl, rfl, rfl, by rw [S_len, sizeLine_eq]; omega, fun p1 n1 => ?_⟩
  rw [show Txt.split (S l) (S [58]) = (spl [58] 0 [] l).map S from split_S (by simp) (by decide)]
  have f1 := fx.trans (Fr.new (M := []) (o := .lst (((spl [58] 0 [] l).map S).map V.str)) n1)
  have h1 : (upd Hx p1 (.lst (((spl [58] 0 [] l).map S).map V.str))) p1 = some (.lst (((spl [58] 0 [] l).map S).map V.str)) := upd_same
  generalize upd Hx p1 _ = Ha at f1 h1 ⊢
  have hsn : (spl [58] 0 [] l).length ≤ l.length + 2 := by
    have := split_le (S l) (S [58])
    rw [split_S (by simp) (by decide), List.length_map, S_len] at this
    exact this
  refine ⟨(by show 2 ≤ sizeLine; decide), fun p2 n2 => ?_⟩
  have f2 := f1.trans (Fr.new (M := []) (o := .lst [V.str "", V.str ""]) n2)
  refine ⟨p1, p2, _, _, rfl, rfl, (by rw [upd_ne (ne_of_none h1 n2)]; exact h1), upd_same, (by rw [List.length_map, List.length_map, sizeLine_eq]; show _ + 2 ≤ _; omega), fun p3 n3 => ?_⟩
  have ecat : (((spl [58] 0 [] l).map S).map V.str) ++ [V.str "", V.str ""] = (ps.map S).map V.str := by rw [← hps, List.map_append, List.map_append]; rfl
  rw [ecat]
  generalize upd Ha p2 _ = Hb at f2 n3 ⊢
  have f3 := f2.trans (Fr.new (M := []) (o := .lst ((ps.map S).map V.str)) n3)
  have h3 : (upd Hb p3 (.lst ((ps.map S).map V.str))) p3 = some (.lst ((ps.map S).map V.str)) := upd_same
  generalize upd Hb p3 _ = Hc at f3 h3 ⊢
  obtain ⟨a, b, r, eps⟩ : ∃ a b r, ps = a :: b :: r := by
    cases hs : spl [58] 0 [] l with
    | nil => exact absurd hs (spl_ne 58 l)
    | cons a t =>
      rw [hs] at hps
      cases t with
      | nil => exact ⟨a, [], [[]], hps.symm⟩
      | cons b t => exact ⟨a, b, t ++ [[], []], by rw [← hps]; rfl⟩
  have hab : a.length ≤ l.length ∧ b.length ≤ l.length := by
    have all : ∀ p ∈ ps, p.length ≤ l.length := fun p hp => by
      rw [← hps] at hp
      rcases List.mem_append.mp hp with hp | hp
      · have := part_short (x := S l) (y := S [58]) (a := S p) (by rw [split_S (by simp) (by decide)]; exact List.mem_map_of_mem hp)
        rw [S_len, S_len] at this
        exact this
      · have e : p = [] := by simpa using hp
        rw [e]; exact Nat.zero_le _
    rw [eps] at all
    exact ⟨all a (by simp), all b (by simp)⟩
  rw [eps] at q h3
  refine ⟨2, rfl, p3, _, rfl, SqL.of h3, fun p4 n4 => ?_⟩
  have ecut : cutV (((a :: b :: r).map S).map V.str) none (some 2) = [V.str (S a), V.str (S b)] := by
    unfold cutV
    rw [HT.sIx_none, show (some (2 : Int)) = some ((2 : Nat) : Int) from rfl, HT.sIx_nat]
    rw [show min 2 (((a :: b :: r).map S).map V.str).length = 2 by simp]
    rfl
  rw [ecut]
  have f4 := f3.trans (Fr.new (M := []) (o := .lst [V.str (S a), V.str (S b)]) n4)
  have h4 : (upd Hc p4 (.lst [V.str (S a), V.str (S b)])) p4 = some (.lst [V.str (S a), V.str (S b)]) := upd_same
  generalize upd Hc p4 _ = Hd at f4 h4 ⊢
  refine ⟨p4, _, rfl, SqL.of h4, rfl, _, _, rfl, _, _, rfl, rfl, ?_⟩
  have q : ∀ H', Fr [] H H' → Q (.bl (decide (a ∈ [cThread, cProcess]) && (decide (l = a ++ [58] ++ b) && (isNum b && !decide (b.take 1 = [45]))))) H' := fun H' fr => by
    have q := q H' fr
    rw [show decide (a ∈ [cThread, cProcess]) = decide (a = cThread ∨ a = cProcess) from decide_eq_decide.mpr (by simp)]
    exact q
  refine ⟨_, rfl, (by show 2 ≤ sizeLine; decide), fun p5 n5 => ⟨p5, _, rfl, .inr (SqT.of upd_same), rfl, rfl, ?_⟩⟩
  have f5 := f4.trans (Fr.new (M := []) (o := .tup [V.str "thread", V.str "process"]) n5)
  rw [show (if false = true then !inV (V.str (S a)) [V.str "thread", V.str "process"] else inV (V.str (S a)) [V.str "thread", V.str "process"]) = decide (a ∈ [cThread, cProcess]) from in_strs a [cThread, cProcess]]
  generalize upd Hd p5 _ = He at f5 ⊢
  refine ⟨_, rfl, ?_⟩
  cases c1 : decide (a ∈ [cThread, cProcess]) with
  | false =>
    have q := q _ f5
    rw [c1] at q
    exact q
  | true =>
    refine ⟨_, rfl, _, rfl, S a, S [58], rfl, rfl, by rw [S_len, S_len, sizeLine_eq]; simp; omega, ?_⟩
    rw [S_cat]
    refine ⟨_, rfl, _, S b, rfl, rfl, by rw [S_len, S_len, sizeLine_eq]; simp; omega, ?_⟩
    rw [S_cat]
    refine ⟨rfl, _, rfl, ?_⟩
    rw [vstr_dec]
    cases c2 : decide (l = a ++ [58] ++ b) with
    | false =>
      have q := q _ f5
      rw [c1, c2] at q
      exact q
    | true =>
      refine ⟨_, rfl, b, rfl, by omega, fun Hf f6 => ⟨_, rfl, ?_⟩⟩
      have f6 := f5.trans f6
      cases c3 : isNum b with
      | false =>
        have q := q _ f6
        rw [c1, c2, c3] at q
        exact q
      | true =>
        obtain ⟨c0, t, eb⟩ : ∃ c0 t, b = c0 :: t := by
          cases b with
          | nil => cases c3
          | cons c0 t => exact ⟨c0, t, rfl⟩
        refine ⟨_, rfl, S b, 0, c0, rfl, rfl, by rw [S_len, sizeLine_eq]; omega, atI_nat (j := 0) (by show b[0]? = _; rw [eb]; rfl), rfl, ?_⟩
        have et : b.take 1 = [c0] := by rw [eb]; rfl
        have ed : (decide (V.str ⟨#[c0]⟩ = V.str "-")) = decide (b.take 1 = [45]) := by
          rw [et]
          exact vstr_dec (a := [c0]) (b := [45])
        have q := q _ f6
        rw [c1, c2, c3, ← ed] at q
        exact q
end
end Tk

set_option Elab.async false
set_option linter.all false
set_option maxRecDepth 100000
set_option maxHeartbeats 4000000
/-! _law_wrong -/
namespace Tk
open PySem PySem.Spec PyProof.Rows L2 SX TL
def lawV (x : V) : Bool := match x with
  | .str m => lawTh m.cps.toList
  | _ => false
section
variable {P : Program} {w : World} {K : PySem.W.Frag} {mg : Str → Option Value} {base : Heap}
theorem sz_get {H : Hp} {d : Addr} (h : H d = some (.dK (toKV lawSizes))) (z : Str) : DGet H d (.str z) ((lawSizes.lookup z).map V.int) := by
  have t := DGet.k (k := (Sum.inr z : Key)) h
  have e : valV (toKV lawSizes) (Sum.inr z) = (lawSizes.lookup z).map V.int := by
    by_cases m : z ∈ lawSizes.map (·.1)
    · have ok : ((lawSizes.map (·.1)).all fun z => decide (valV (toKV lawSizes) (Sum.inr z) = (lawSizes.lookup z).map V.int)) = true := by decide +kernel
      exact of_decide_eq_true (List.all_eq_true.mp ok z m)
    · rw [lookup_out m]
      refine valV_none fun x => m ?_
      rw [keys_kv] at x
      obtain ⟨y, hy, e⟩ := List.mem_map.mp x
      cases e
      exact hy
  rw [e] at t
  exact t
def spWrong : Sp := fun vs H Q _ => ∃ l : List Nat, vs = [.str (S l)] ∧ l.length ≤ 900000 ∧ ∀ H', Fr [] H H' → Q (saidV l) H'
theorem sc_wrong : FnScope ["text", "lines", "line", "row", "words", "word"] ["text"] (defScope s__law_wrong) := ⟨rfl, rfl, rfl, by decide +kernel, rfl, by decide +kernel, by decide +kernel⟩
theorem ok_wrong (F : FunAt K mg "_law_wrong" s__law_wrong) (G : NoGl mg) (Genum : mg "enumerate" = none) (C__law_sizes : Cal P w K mg base CX0 1 "_law_sizes" [] [] spSizes) (C__law_is_thing : Cal P w K mg base CX0 2 "_law_is_thing" ["word"] [] spLTh) :
    Cal P w K mg base CX0 3 "_law_wrong" ["text"] [] spWrong := by
  refine Cal.mk0 F sc_wrong (by rintro _ _ _ _ ⟨_, rfl, _⟩; rfl) (fun _ _ _ _ _ _ us hl => match us, hl with | [_], _ => rfl) ?_
  rintro f cdv A outer s H vs Q E hr ⟨l, rfl, hz, q⟩
  have nd := sc_wrong.nd
  refine ⟨_, (pss_cons (ps_set (i := 1) nd rfl (.inl rfl) (pe_ifExp (pt_cmpR op_ne (pv 0) pe_str (nomark _)) (pe_split (pv 0) pe_str) (pe_lst pa_nil)))
    (pss_cons (ps_for PassesOwn.never rfl (pi_enum (by rfl) Genum (pa_cons (pv 1) pa_nil)) (pg_tup rfl (pgs_cons (pg_name (i := 2) nd rfl (.inl rfl)) (pgs_cons (pg_name (i := 3) nd rfl (.inl rfl)) pgs_nil)))
      (pss_cons (ps_set (i := 4) nd rfl (.inl rfl) (pe_split (pv 3) pe_str))
      (pss_cons (ps_if (PW.pt (pw_or (pt_cmp (pc_dnotin (hu_of hr) (pe_ix ix_list (pv 4) pe_int (fun _ _ => rfl)) (pe_c0 C__law_sizes (hr.mono (by decide)) (by rfl) pass0)) rfl) (pw_or1 (pt_cmpR op_ne (pe_callB call_len_seq (by rfl) G.len (by decide +kernel) (pa_cons (pv 4) pa_nil)) (pe_op op_add pe_int (pe_dget (hu_of hr) (pe_c0 C__law_sizes (hr.mono (by decide)) (by rfl) pass0) (pe_ix ix_list (pv 4) pe_int (fun _ _ => rfl)) (fun _ _ => rfl))) (nomark _)))))
        (pss_one (ps_ret (pv 2)))
        pss_nil)
      (pss_one (ps_if (pt_cmpR (op_neNilL hr.units0) (pe_lc (own := [("word", 5)]) (g := gName 5) (tt := _) rfl nd (pi_list (pe_slice sl_list (pv 4) (po_some pe_int) po_none))
        (blkOk_by (own := [("word", 5)]) (N := ["text", "lines", "line", "row", "words", "word"]) (sc := defScope s__law_wrong) (by decide +kernel))
        (fun _ _ _ _ _ => (pg_name (i := 5) nd rfl (.inl rfl) (Or.inr rfl))) (fun _ _ _ _ _ => (pts_one (pt_not (pt_val (pe_c C__law_is_thing (hr.mono (by decide)) (by rfl) pass0 (pa_cons (pv 5) pa_nil))))))
        (fun _ _ _ _ _ => (pv 5))) (pe_lst pa_nil) (nomark _))
        (pss_one (ps_ret (pv 2)))
        pss_nil)))))
    (pss_one (ps_ret pe_non)))), ?_⟩
  have hw := wrong_log (lines l) 0
  have q : ∀ H', Fr [] H H' → Q (match lawWrong 0 (lines l) with | some i => .int (i : Int) | none => .non) H' := fun H' fr => by
    have q := q H' fr
    unfold saidV at q
    rw [hw]
    cases c : logOf 0 (lines l) with
    | inl i => rw [c] at q; exact q
    | inr rs => rw [c] at q; exact q
  have lsl : (lines l).length ≤ l.length + 2 := by
    unfold lines
    by_cases e : l = []
    · rw [if_pos e]; exact Nat.zero_le _
    · rw [if_neg e]
      have := split_le (S l) (S [10])
      rw [split_S (by simp) (by decide), List.length_map, S_len] at this
      exact this
  have lpl : ∀ a ∈ lines l, a.length ≤ l.length := fun a ha => by
    unfold lines at ha
    by_cases e : l = []
    · rw [if_pos e] at ha; cases ha
    · rw [if_neg e] at ha
      have := part_short (x := S l) (y := S [10]) (a := S a) (by rw [split_S (by simp) (by decide)]; exact List.mem_map_of_mem ha)
      rw [S_len, S_len] at this
      exact this
  refine ⟨_, rfl, rfl, _, rfl, ?_⟩
  rw [show (!decide (V.str (S l) = V.str "")) = !decide (l = []) from congrArg Bool.not (vstr_dec (a := l) (b := []))]
  refine ite2 (fun c => ?a) (fun c => ?b)
  case' a =>
    have ne : l ≠ [] := by simpa using c
    refine ⟨_, rfl, ⟨_, rfl⟩, S l, S [10], rfl, rfl, rfl, by rw [S_len, sizeLine_eq]; omega, fun p1 n1 => ?_⟩
    rw [show Txt.split (S l) (S [10]) = (lines l).map S by rw [split_S (by simp) (by decide)]; unfold lines; rw [if_neg ne]]
  case' b =>
    have e : l = [] := by simpa using c
    refine ⟨(by show 0 ≤ sizeLine; decide), fun p1 n1 => ?_⟩
    rw [show upd H p1 (.lst []) = upd H p1 (.lst (((lines l).map S).map V.str)) by rw [e]; rfl]
  all_goals
    obtain ⟨Hx, ex, h1, _, f2⟩ := stepN (M := []) (o := .lst (((lines l).map S).map V.str)) n1
    rw [ex]
    refine ⟨_, rfl, p1, _, rfl, SqL.of h1, ?_⟩
    refine for_enum (K := K) (a := p1) (xs := ((lines l).map S).map V.str) (fun i σ Hz => ∃ s2 s3 s4, σ = [some (.str (S l)), some (.ref p1), s2, s3, s4, none] ∧ Fr [] Hx Hz ∧ lawWrong 0 (lines l) = lawWrong i ((lines l).drop i))
      ⟨none, none, none, rfl, Fr.refl _ _, by rw [List.drop_zero]⟩ (fun i σ Hz hi hp => ?_) (fun i x σ Hz T hx hp nT => ?_) (fun σ Hz hp => ?_)
    · obtain ⟨_, _, _, _, fz, _⟩ := hp
      exact SqL.of (fz.same _ _ h1)
    · obtain ⟨s2, s3, s4, rfl, fz, hlog⟩ := hp
      obtain ⟨ln, hln, rfl⟩ : ∃ ln, (lines l)[i]? = some ln ∧ x = .str (S ln) := by
        rw [List.getElem?_map, List.getElem?_map] at hx
        cases e : (lines l)[i]? with
        | none => rw [e] at hx; cases hx
        | some ln => rw [e] at hx; cases hx; exact ⟨ln, rfl, rfl⟩
      have lnl := lpl ln (List.mem_of_getElem? hln)
      have hil : i < (lines l).length := (List.getElem?_eq_some_iff.mp hln).1
      have hdrop : (lines l).drop i = ln :: (lines l).drop (i + 1) := by
        rw [List.drop_eq_getElem_cons hil]
        congr 1
        exact (List.getElem?_eq_some_iff.mp hln).2
      have bad : lawBad ln = true → ∀ H', Fr [] H H' → Q (.int (i : Int)) H' := fun e H' fr => by
        have q := q H' fr
        rw [hlog, hdrop] at q
        have : lawWrong i (ln :: (lines l).drop (i + 1)) = some i := if_pos e
        rw [this] at q
        exact q
      have f0 := f2.trans fz
      obtain ⟨Hb, eb, hT, _, fT⟩ := stepN (M := []) (o := .tup [.int (i : Nat), .str (S ln)]) nT
      rw [eb]
      refine ⟨T, [.int (i : Nat), .str (S ln)], rfl, SqT.of hT, rfl, _, _, rfl, _, _, rfl, rfl, ?_⟩
      refine ⟨_, rfl, ⟨_, rfl⟩, S ln, S [32], rfl, rfl, rfl, by rw [S_len, sizeLine_eq]; omega, fun p2 n2 => ?_⟩
      rw [show Txt.split (S ln) (S [32]) = (spl [32] 0 [] ln).map S from split_S (by simp) (by decide)]
      have wl : ∀ a ∈ spl [32] 0 [] ln, a.length ≤ ln.length := fun a ha => by
        have := part_short (x := S ln) (y := S [32]) (a := S a) (by rw [split_S (by simp) (by decide)]; exact List.mem_map_of_mem ha)
        rw [S_len, S_len] at this
        exact this
      have wn : (spl [32] 0 [] ln).length ≤ ln.length + 2 := by
        have := split_le (S ln) (S [32])
        rw [split_S (by simp) (by decide), List.length_map, S_len] at this
        exact this
      obtain ⟨z, ws, hsp⟩ : ∃ z ws, spl [32] 0 [] ln = z :: ws := by
        cases e : spl [32] 0 [] ln with
        | nil => exact absurd e (spl_ne 32 ln)
        | cons z ws => exact ⟨z, ws, rfl⟩
      rw [hsp] at wl wn ⊢
      have lb : lawBad ln = ((match lawSizes.lookup (S z) with | none => true | some k => !decide (((ws.length + 1 : Nat) : Int) = 1 + k)) || !(ws.all lawTh)) := by
        unfold lawBad
        rw [hsp] <;> rfl
      obtain ⟨Hc, ec, h2, _, f3⟩ := stepN (M := []) (o := .lst (((z :: ws).map S).map V.str)) n2
      rw [ec]
      have f3 := fT.trans f3
      refine ⟨_, rfl, p2, _, 0, .str (S z), rfl, rfl, SqL.of h2, atI_nat (j := 0) rfl, rfl, fun d Hd hd hd5 fr5 => ?_⟩
      have f4 := f3.trans fr5
      have h3 := fr5.same _ _ h2
      refine ⟨d, _, rfl, sz_get hd5 (S z), _, rfl, ?_⟩
      cases c1 : lawSizes.lookup (S z) with
      | none => exact ⟨_, rfl, bad (by rw [lb, c1]; rfl) _ (f0.trans f4)⟩
      | some k =>
        refine ⟨_, rfl, p2, _, rfl, .inl (SqL.of h3), rfl, fun d2 He hd2 hd6 fr6 => ?_⟩
        have f5 := f4.trans fr6
        have h4 := fr6.same _ _ h3
        have dg := sz_get hd6 (S z)
        rw [c1] at dg
        refine ⟨_, rfl, p2, _, 0, .str (S z), rfl, rfl, SqL.of h4, atI_nat (j := 0) rfl, d2, _, rfl, dg, _, _, rfl, rfl, rfl, _, rfl, ?_⟩
        have ek : (!decide (V.int ((((z :: ws).map S).map V.str).length : Nat) = V.int (1 + k))) = !decide (((ws.length + 1 : Nat) : Int) = 1 + k) := by
          congr 1
          rw [List.length_map, List.length_map, List.length_cons]
          exact decide_eq_decide.mpr ⟨fun z => by injection z, fun z => by rw [z]⟩
        rw [ek]
        cases c2 : decide (((ws.length + 1 : Nat) : Int) = 1 + k) with
        | false => exact ⟨_, rfl, bad (by rw [lb, c1]; dsimp only; rw [c2]; rfl) _ (f0.trans f5)⟩
        | true =>
          refine ⟨_, rfl, 1, rfl, p2, _, rfl, SqL.of h4, fun p3 np3 => ?_⟩
          rw [show cutV (((z :: ws).map S).map V.str) (some 1) none = (ws.map S).map V.str from cut_from _ 1]
          obtain ⟨Hf, ef, h5, _, f6⟩ := stepN (M := []) (o := .lst ((ws.map S).map V.str)) np3
          rw [ef]
          have f6 := f5.trans f6
          refine ⟨p3, rfl, ⟨_, SqL.of h5⟩, fun D hD => ?_⟩
          refine lc_listR (K := K) (fun x => !(lawV x)) (fun x y _ => y = x) (fun _ _ _ _ _ h => h) hD (by rw [List.length_map, List.length_map, sizeLine_eq]; rw [List.length_cons] at wn; omega) (fun _ => rfl) ?_ ?_ ?_ (SqL.of h5)
          · intro y H' Q' hy fr _ hq
            rw [List.map_map] at hy
            obtain ⟨a, ha, rfl⟩ := List.mem_map.mp hy
            have := wl a (.tail _ ha)
            exact ⟨_, rfl, a, rfl, by omega, fun H2 fr2 => ⟨_, rfl, hq _ fr2⟩⟩
          · intro y H' Q' hy _ fr _ hq
            exact ⟨_, rfl, hq _ _ (Fr.refl _ _) rfl⟩
          · intro H2 ys hD2 fr2 md
            have e : ys = ((ws.map S).map V.str).filter (fun x => !(lawV x)) := by
              have e := md.pure (f := fun x => x) (fun _ _ _ h => h)
              rw [e, List.map_id']
            subst e
            have f7 := f6.trans fr2
            refine ⟨(by show 0 ≤ sizeLine; decide), fun p hp => ?_⟩
            have f8 := f7.trans (Fr.new (M := []) (o := .lst []) hp)
            have hDp : (upd H2 p (.lst [])) D = some (.lst (((ws.map S).map V.str).filter (fun x => !(lawV x)))) := by rw [upd_ne (ne_of_none hD2 hp)]; exact hD2
            refine ⟨D, p, _, rfl, rfl, SqL.of hDp, SqL.of upd_same, _, rfl, ?_⟩
            have en : (((ws.map S).map V.str).filter (fun x => !(lawV x))).isEmpty = ws.all lawTh := by
              rw [List.map_map, List.filter_map, List.isEmpty_map, Bool.eq_iff_iff, List.isEmpty_iff, List.filter_eq_nil_iff, List.all_eq_true]
              simp [lawV]
            have lb2 : lawBad ln = !(ws.all lawTh) := by rw [lb, c1]; dsimp only; rw [c2]; rfl
            refine ite2 (fun c => ?_) (fun c => ?_)
            · have c : (!(ws.all lawTh)) = true := by rw [← en]; exact c
              exact ⟨_, rfl, bad (by rw [lb2, c]) _ (f0.trans f8)⟩
            · have c : lawBad ln = false := by
                rw [lb2, ← en]
                exact Bool.eq_false_iff.mpr c
              refine ⟨_, _, _, rfl, fz.trans f8, ?_⟩
              rw [hlog, hdrop]
              exact if_neg (by rw [c]; exact Bool.false_ne_true)
    · obtain ⟨s2, s3, s4, rfl, fz, hlog⟩ := hp
      rw [List.length_map, List.length_map, List.drop_length] at hlog
      have q := q _ (f2.trans fz)
      rw [hlog] at q
      exact q
end
end Tk

set_option Elab.async false
set_option linter.all false
set_option maxRecDepth 100000
set_option maxHeartbeats 4000000
/-! _law_spoilt -/
namespace Tk
open PySem PySem.Spec PyProof.Rows L2 SX TL
section
variable {P : Program} {w : World} {K : PySem.W.Frag} {mg : Str → Option Value} {base : Heap}
def spSpoilt : Sp := fun vs H Q _ => ∃ (a : Addr) (x y z : Int) (l : List Nat), vs = [.ref a, .str (S l)] ∧ H a = some (srcO x y z) ∧ l.length ≤ 1000000 ∧
  ∀ m H', m.length ≤ 3 * l.length + 10 → (∃ x y z, H' a = some (srcO x y z)) → Fr [a] H H' → Q (.str (S m)) H'
theorem sc_spoilt : FnScope ["source", "text", "at", "signs", "sign", "some"] ["source", "text"] (defScope s__law_spoilt) := ⟨rfl, rfl, rfl, by decide +kernel, rfl, by decide +kernel, by decide +kernel⟩
theorem ok_spoilt (F : FunAt K mg "_law_spoilt" s__law_spoilt) (G : NoGl mg) (C__law_next : Cal P w K mg base CX0 2 "_law_next" ["source", "many"] [] spDraw) :
    Cal P w K mg base CX0 3 "_law_spoilt" ["source", "text"] [] spSpoilt := by
  refine Cal.mk0 F sc_spoilt (by rintro _ _ _ _ ⟨_, _, _, _, _, rfl, _⟩; rfl) (fun _ _ _ _ _ _ us hl => match us, hl with | [_, _], _ => rfl) ?_
  rintro f cdv A outer s H vs Q E hr ⟨a, x, y, z, l, rfl, hs, hz, q⟩
  have nd := sc_spoilt.nd
  have hS : (S l).length ≤ sizeLine := by rw [S_len, sizeLine_eq]; omega
  refine ⟨_, (pss_cons (ps_set (i := 2) nd rfl (.inl rfl) (pe_c C__law_next (hr.mono (by decide)) (by rfl) pass0 (pa_cons (pv 0) (pa_cons (pe_op op_add (pe_callB call_len_str (by rfl) G.len (by decide +kernel) (pa_cons (pv 1) pa_nil)) pe_int) pa_nil))))
    (pss_cons (ps_set (i := 3) nd rfl (.inl rfl) (pe_lst (pa_cons pe_str (pa_cons pe_str (pa_cons pe_str (pa_cons pe_str (pa_cons pe_str (pa_cons pe_str (pa_cons pe_str (pa_cons pe_str (pa_cons pe_str (pa_cons pe_str (pa_cons pe_str (pa_cons pe_str (pa_cons pe_str (pa_cons pe_str (pa_cons pe_str (pa_cons pe_str (pa_cons pe_str pa_nil)))))))))))))))))))
    (pss_cons (ps_set (i := 4) nd rfl (.inl rfl) (pe_ix ix_list (pv 3) (pe_c C__law_next (hr.mono (by decide)) (by rfl) pass0 (pa_cons (pv 0) (pa_cons pe_int pa_nil))) (fun _ _ => rfl)))
    (pss_cons (ps_set (i := 5) nd rfl (.inl rfl) (pe_lst (pa_cons (pe_op op_add_str (pe_op op_add_str (pe_slice sl_str (pv 1) po_none (po_some (pv 2))) (pv 4)) (pe_slice sl_str (pv 1) (po_some (pv 2)) po_none)) (pa_cons (pe_op op_add_str (pe_slice sl_str (pv 1) po_none (po_some (pv 2))) (pe_slice sl_str (pv 1) (po_some (pe_op op_add (pv 2) pe_int)) po_none)) (pa_cons (pe_op op_add_str (pe_op op_add_str (pe_slice sl_str (pv 1) po_none (po_some (pv 2))) (pv 4)) (pe_slice sl_str (pv 1) (po_some (pe_op op_add (pv 2) pe_int)) po_none)) (pa_cons (pe_slice sl_str (pv 1) po_none (po_some (pv 2))) pa_nil))))))
    (pss_cons (ps_set (i := 5) nd rfl (.inl rfl) (pe_op op_cat (pv 5) (pe_lst (pa_cons (pe_op op_add_str (pv 1) pe_str) (pa_cons (pe_op op_add_str pe_str (pv 1)) (pa_cons (pe_op op_add_str (pe_op op_add_str (pe_slice sl_str (pv 1) po_none (po_some (pv 2))) pe_str) (pe_slice sl_str (pv 1) (po_some (pv 2)) po_none)) (pa_cons (pe_upper (pv 1)) (pa_cons (pe_op op_add_str (pv 1) pe_str) (pa_cons (pe_slice sl_str (pv 1) (po_some (pv 2)) po_none) pa_nil)))))))))
    (pss_one (ps_ret (pe_ix ix_list (pv 5) (pe_c C__law_next (hr.mono (by decide)) (by rfl) pass0 (pa_cons (pv 0) (pa_cons pe_int pa_nil))) (fun _ _ => rfl))))))))), ?_⟩
  refine ⟨_, rfl, _, rfl, S l, rfl, hS, _, _, rfl, rfl, a, x, y, z, _, rfl, hs, by rw [S_len]; omega, by rw [S_len]; omega, fun d1 x2 z2 H2 d10 d11 s2 fr2 => ?_⟩
  rw [S_len] at d11
  obtain ⟨at', rfl⟩ : ∃ j : Nat, d1 = j := ⟨d1.toNat, by omega⟩
  have hat : at' ≤ l.length := by omega
  refine ⟨(by show 17 ≤ sizeLine; decide), fun p1 n1 => ?_⟩
  obtain ⟨H3, e3, h3, c3, f3⟩ := stepN (M := [a]) (o := .lst [V.str " ", V.str "-", V.str "0", V.str "1", V.str ":", V.str ",", V.str "[", V.str "]", V.str "n", V.str "s", V.str "\n", V.str "+", V.str "_", V.str ".", V.str "A", V.str "\t", V.str "[]"]) n1
  rw [e3]
  refine ⟨_, rfl, _, rfl, a, x2, y, z2, 17, rfl, c3 _ _ s2, by decide, by decide, fun d2 x3 z3 H4 d20 d21 s4 fr4 => ?_⟩
  have np1 : p1 ≠ a := (ne_of_none s2 n1).symm
  have h4 := fr4.at h3 (by simpa using np1)
  obtain ⟨sg, hsg, hat2⟩ : ∃ sg : List Nat, sg.length ≤ 2 ∧ atI [V.str " ", V.str "-", V.str "0", V.str "1", V.str ":", V.str ",", V.str "[", V.str "]", V.str "n", V.str "s", V.str "\n", V.str "+", V.str "_", V.str ".", V.str "A", V.str "\t", V.str "[]"] d2 = some (.str (S sg)) := by
    have cs : d2 = 0 ∨ d2 = 1 ∨ d2 = 2 ∨ d2 = 3 ∨ d2 = 4 ∨ d2 = 5 ∨ d2 = 6 ∨ d2 = 7 ∨ d2 = 8 ∨ d2 = 9 ∨ d2 = 10 ∨ d2 = 11 ∨ d2 = 12 ∨ d2 = 13 ∨ d2 = 14 ∨ d2 = 15 ∨ d2 = 16 := by omega
    rcases cs with rfl | rfl | rfl | rfl | rfl | rfl | rfl | rfl | rfl | rfl | rfl | rfl | rfl | rfl | rfl | rfl | rfl
    · exact ⟨[32], by decide, rfl⟩
    · exact ⟨[45], by decide, rfl⟩
    · exact ⟨[48], by decide, rfl⟩
    · exact ⟨[49], by decide, rfl⟩
    · exact ⟨[58], by decide, rfl⟩
    · exact ⟨[44], by decide, rfl⟩
    · exact ⟨[91], by decide, rfl⟩
    · exact ⟨[93], by decide, rfl⟩
    · exact ⟨[110], by decide, rfl⟩
    · exact ⟨[115], by decide, rfl⟩
    · exact ⟨[10], by decide, rfl⟩
    · exact ⟨[43], by decide, rfl⟩
    · exact ⟨[95], by decide, rfl⟩
    · exact ⟨[46], by decide, rfl⟩
    · exact ⟨[65], by decide, rfl⟩
    · exact ⟨[9], by decide, rfl⟩
    · exact ⟨[91, 93], by decide, rfl⟩
  have fr := fr2.trans (f3.trans fr4)
  refine ⟨p1, _, d2, _, rfl, rfl, SqL.of h4, hat2, ?_⟩
  have bd : ∀ (u v : List Nat), u.length + v.length ≤ 16000000 → (S u).length + (S v).length ≤ sizeLine := fun u v h => by rw [S_len, S_len, sizeLine_eq]; omega
  refine ⟨_, rfl, _, rfl, (at' : Int), rfl, S l, rfl, hS, ?_⟩
  rw [cut_head]
  refine ⟨_, rfl, _, _, rfl, rfl, bd _ _ (by simp only [List.length_append, List.length_take, List.length_drop, List.length_cons, List.length_nil]; omega), ?_⟩
  rw [S_cat]
  refine ⟨_, rfl, _, rfl, (at' : Int), rfl, S l, rfl, hS, ?_⟩
  rw [cut_tail]
  refine ⟨_, _, rfl, rfl, bd _ _ (by simp only [List.length_append, List.length_take, List.length_drop, List.length_cons, List.length_nil]; omega), ?_⟩
  rw [S_cat]
  refine ⟨_, rfl, _, rfl, (at' : Int), rfl, S l, rfl, hS, ?_⟩
  rw [cut_head]
  refine ⟨_, rfl, _, rfl, _, _, rfl, rfl, ((at' + 1 : Nat) : Int), rfl, S l, rfl, hS, ?_⟩
  rw [cut_tail]
  refine ⟨_, _, rfl, rfl, bd _ _ (by simp only [List.length_append, List.length_take, List.length_drop, List.length_cons, List.length_nil]; omega), ?_⟩
  rw [S_cat]
  refine ⟨_, rfl, _, rfl, (at' : Int), rfl, S l, rfl, hS, ?_⟩
  rw [cut_head]
  refine ⟨_, rfl, _, _, rfl, rfl, bd _ _ (by simp only [List.length_append, List.length_take, List.length_drop, List.length_cons, List.length_nil]; omega), ?_⟩
  rw [S_cat]
  refine ⟨_, rfl, _, rfl, _, _, rfl, rfl, ((at' + 1 : Nat) : Int), rfl, S l, rfl, hS, ?_⟩
  rw [cut_tail]
  refine ⟨_, _, rfl, rfl, bd _ _ (by simp only [List.length_append, List.length_take, List.length_drop, List.length_cons, List.length_nil]; omega), ?_⟩
  rw [S_cat]
  refine ⟨_, rfl, _, rfl, (at' : Int), rfl, S l, rfl, hS, ?_⟩
  rw [cut_head]
  refine ⟨(by show 4 ≤ sizeLine; decide), fun p2 n2 => ?_⟩
  obtain ⟨H5, e5, h5, c5, f5⟩ := stepN (M := [a]) (o := .lst [V.str (S (l.take at' ++ sg ++ l.drop at')), V.str (S (l.take at' ++ l.drop (at' + 1))), V.str (S (l.take at' ++ sg ++ l.drop (at' + 1))), V.str (S (l.take at'))]) n2
  rw [e5]
  obtain ⟨u, hu⟩ := S_ex (Txt.upper (S l))
  have ul : u.length ≤ 3 * l.length := by
    have := len_upper (S l)
    rw [hu, S_len, S_len] at this
    exact this
  refine ⟨_, rfl, _, rfl, S l, S [10], rfl, rfl, bd _ _ (by simp only [List.length_append, List.length_take, List.length_drop, List.length_cons, List.length_nil]; omega), ?_⟩
  rw [S_cat]
  refine ⟨_, rfl, S [10], S l, rfl, rfl, bd _ _ (by simp only [List.length_append, List.length_take, List.length_drop, List.length_cons, List.length_nil]; omega), ?_⟩
  rw [S_cat]
  refine ⟨_, rfl, _, rfl, (at' : Int), rfl, S l, rfl, hS, ?_⟩
  rw [cut_head]
  refine ⟨S (l.take at'), S [10], rfl, rfl, bd _ _ (by simp only [List.length_append, List.length_take, List.length_drop, List.length_cons, List.length_nil]; omega), ?_⟩
  rw [S_cat]
  refine ⟨_, rfl, _, rfl, (at' : Int), rfl, S l, rfl, hS, ?_⟩
  rw [cut_tail]
  refine ⟨_, _, rfl, rfl, bd _ _ (by simp only [List.length_append, List.length_take, List.length_drop, List.length_cons, List.length_nil]; omega), ?_⟩
  rw [S_cat]
  refine ⟨_, rfl, ⟨_, rfl⟩, S l, rfl, rfl, (by rw [S_len]; omega), ?_⟩
  rw [hu]
  refine ⟨_, rfl, S l, S [32], rfl, rfl, bd _ _ (by simp only [List.length_append, List.length_take, List.length_drop, List.length_cons, List.length_nil]; omega), ?_⟩
  rw [S_cat]
  refine ⟨_, rfl, _, rfl, (at' : Int), rfl, S l, rfl, hS, ?_⟩
  rw [cut_tail]
  refine ⟨(by show 6 ≤ sizeLine; decide), fun p3 n3 => ?_⟩
  obtain ⟨H6, e6, h6, c6, f6⟩ := stepN (M := [a]) (o := .lst [V.str (S (l ++ [10])), V.str (S ([10] ++ l)), V.str (S (l.take at' ++ [10] ++ l.drop at')), V.str (S (u)), V.str (S (l ++ [32])), V.str (S (l.drop at'))]) n3
  rw [e6]
  refine ⟨p2, p3, _, _, rfl, rfl, c6 _ _ h5, h6, (by show 10 ≤ sizeLine; decide), fun p4 n4 => ?_⟩
  dsimp only [List.cons_append, List.nil_append]
  obtain ⟨H7, e7, h7, c7, f7⟩ := stepN (M := [a]) (o := .lst [V.str (S (l.take at' ++ sg ++ l.drop at')), V.str (S (l.take at' ++ l.drop (at' + 1))), V.str (S (l.take at' ++ sg ++ l.drop (at' + 1))), V.str (S (l.take at')), V.str (S (l ++ [10])), V.str (S (10 :: l)), V.str (S (l.take at' ++ [10] ++ l.drop at')), V.str (S (u)), V.str (S (l ++ [32])), V.str (S (l.drop at'))]) n4
  rw [e7]
  have s7 := c7 _ _ (c6 _ _ (c5 _ _ s4))
  refine ⟨_, rfl, _, rfl, a, x3, y, z3, 10, rfl, s7, by decide, by decide, fun d3 x4 z4 H8 d30 d31 s8 fr8 => ?_⟩
  have np4 : p4 ≠ a := (ne_of_none (c6 _ _ (c5 _ _ s4)) n4).symm
  have h8 := fr8.at h7 (by simpa using np4)
  have frA := fr.trans (f5.trans (f6.trans (f7.trans fr8)))
  have fin : ∀ m : List Nat, m.length ≤ 3 * l.length + 10 → atI [V.str (S (l.take at' ++ sg ++ l.drop at')), V.str (S (l.take at' ++ l.drop (at' + 1))), V.str (S (l.take at' ++ sg ++ l.drop (at' + 1))), V.str (S (l.take at')), V.str (S (l ++ [10])), V.str (S (10 :: l)), V.str (S (l.take at' ++ [10] ++ l.drop at')), V.str (S (u)), V.str (S (l ++ [32])), V.str (S (l.drop at'))] d3 = some (.str (S m)) → rIxL K (.ref p4) (.int d3) H8 Q := fun m hm e => ⟨p4, _, d3, _, rfl, rfl, SqL.of h8, e, q m H8 hm ⟨_, _, _, s8⟩ frA⟩
  have cs : d3 = 0 ∨ d3 = 1 ∨ d3 = 2 ∨ d3 = 3 ∨ d3 = 4 ∨ d3 = 5 ∨ d3 = 6 ∨ d3 = 7 ∨ d3 = 8 ∨ d3 = 9 := by omega
  rcases cs with rfl | rfl | rfl | rfl | rfl | rfl | rfl | rfl | rfl | rfl
  · exact fin (l.take at' ++ sg ++ l.drop at') (by simp only [List.length_append, List.length_take, List.length_drop, List.length_cons, List.length_nil]; omega) rfl
  · exact fin (l.take at' ++ l.drop (at' + 1)) (by simp only [List.length_append, List.length_take, List.length_drop, List.length_cons, List.length_nil]; omega) rfl
  · exact fin (l.take at' ++ sg ++ l.drop (at' + 1)) (by simp only [List.length_append, List.length_take, List.length_drop, List.length_cons, List.length_nil]; omega) rfl
  · exact fin (l.take at') (by simp only [List.length_append, List.length_take, List.length_drop, List.length_cons, List.length_nil]; omega) rfl
  · exact fin (l ++ [10]) (by simp only [List.length_append, List.length_take, List.length_drop, List.length_cons, List.length_nil]; omega) rfl
  · exact fin ([10] ++ l) (by simp only [List.length_append, List.length_take, List.length_drop, List.length_cons, List.length_nil]; omega) rfl
  · exact fin (l.take at' ++ [10] ++ l.drop at') (by simp only [List.length_append, List.length_take, List.length_drop, List.length_cons, List.length_nil]; omega) rfl
  · exact fin u (by omega) rfl
  · exact fin (l ++ [32]) (by simp only [List.length_append, List.length_take, List.length_drop, List.length_cons, List.length_nil]; omega) rfl
  · exact fin (l.drop at') (by simp only [List.length_append, List.length_take, List.length_drop, List.length_cons, List.length_nil]; omega) rfl
end
end Tk

set_option Elab.async false
set_option linter.all false
set_option pp.deepTerms false
set_option pp.deepTerms.threshold 6
set_option pp.maxSteps 3000
set_option maxRecDepth 100000
set_option maxHeartbeats 4000000
/-! law -/
namespace Tk
open PySem PySem.Spec PyProof.Rows L2 SX TL PySem.NumText
section
variable {P : Program} {w : World} {K : PySem.W.Frag} {mg : Str → Option Value} {base : Heap} {CR CC : Addr}
def spLaw (K : PySem.W.Frag) : Sp := fun vs H Q _ => ∃ (a : Addr) (ns : List Int), vs = [.ref a] ∧ SqL K H a (ns.map V.int) ∧ ns.length ≤ 63 ∧ ∀ H', Q (.bl true) H'
theorem sc_law : FnScope ["script", "index", "source", "rows", "turn", "odd", "spot", "thing", "bad", "none", "text"] ["script"] (defScope s_law) := ⟨rfl, rfl, rfl, by decide +kernel, rfl, by decide +kernel, by decide +kernel⟩
theorem ok_law {f : Addr} {fd : FuncData} (F : Fun K "law" "law" s_law f fd) (G : NoGl mg)
    (C__law_source : Cal P w K mg base CX0 2 "_law_source" ["script", "k"] [] (spSource K)) (C__law_next : Cal P w K mg base CX0 2 "_law_next" ["source", "many"] [] spDraw)
    (C__law_any_rows : Cal P w K mg base CX0 4 "_law_any_rows" ["source", "many"] [] spARows) (C__law_text : Cal P w K mg base CX0 2 "_law_text" ["rows"] [] spLText)
    (C__law_spoilt : Cal P w K mg base CX0 3 "_law_spoilt" ["source", "text"] [] spSpoilt) (C__law_said : Cal P w K mg base CX0 5 "_law_said" ["text"] [] spSaid)
    (C__law_wrong : Cal P w K mg base CX0 3 "_law_wrong" ["text"] [] spWrong) (C__law_refused : Cal P w K mg base CX0 6 "_law_refused" ["rows"] [] spRefused)
    (C__law_long_right : Cal P w K mg base CX0 7 "_law_long_right" ["source"] [] spLong)
    (C_show_log : Cal P w K mg base (L2.CX P w) 5 "show_log" ["log"] [] (spShow CC)) (C_read_log : Cal P w K mg base (L2.CX P w) 4 "read_log" ["text"] [] (spRead CR)) :
    FnG P w K mg base CX0 8 f fd ["script"] (spLaw K) := by
  refine funG F sc_law (by rintro _ _ _ _ ⟨_, _, rfl, _⟩; rfl) fun cdv A outer s H vs Q E hf hr h => ?_
  obtain ⟨a, ns, rfl, hs, ln, q⟩ := h
  have nd := sc_law.nd
  suffices hh : ∃ t, PSs (cxOf CX0 P w K mg base ["script", "index", "source", "rows", "turn", "odd", "spot", "thing", "bad", "none", "text"] "law" (defScope s_law) f cdv A outer s H E).nox (defBody s_law) t ∧ t { nx := fun _ H' => Q .non H', rt := Q } (start ["script", "index", "source", "rows", "turn", "odd", "spot", "thing", "bad", "none", "text"] [.ref a]) H by
    obtain ⟨t, ht, z⟩ := hh
    exact ⟨t, ht.nox, z⟩
  refine ⟨_, (pss_cons (ps_for PassesOwn.never rfl (pi_range1 (by rfl) G.range (pa_cons (pe_callB (call_max2 rfl) (by rfl) G.max (by decide +kernel) (pa_cons pe_int (pa_cons (pe_callB (call_min2 rfl) (by rfl) G.min (by decide +kernel) (pa_cons pe_int (pa_cons (pe_callB call_len_seq (by rfl) G.len (by decide +kernel) (pa_cons (pv 0) pa_nil)) pa_nil))) pa_nil))) pa_nil)) (pg_name (i := 1) nd rfl (.inl rfl))
      (pss_cons (ps_set (i := 2) nd rfl (.inl rfl) (pe_c C__law_source (hr.mono (by decide)) (by rfl) pass0 (pa_cons (pv 0) (pa_cons (pv 1) pa_nil))))
      (pss_cons (ps_set (i := 3) nd rfl (.inl rfl) (pe_c C__law_any_rows (hr.mono (by decide)) (by rfl) pass0 (pa_cons (pv 2) (pa_cons (pe_c C__law_next (hr.mono (by decide)) (by rfl) pass0 (pa_cons (pv 2) (pa_cons pe_int pa_nil))) pa_nil))))
      (pss_cons (ps_for PassesOwn.never rfl (pi_range1 (by rfl) G.range (pa_cons pe_int pa_nil)) (pg_name (i := 4) nd rfl (.inl rfl))
        (pss_cons (ps_set (i := 10) nd rfl (.inl rfl) (pe_c C__law_spoilt (hr.mono (by decide)) (by rfl) pass0 (pa_cons (pv 2) (pa_cons (pe_c C__law_text (hr.mono (by decide)) (by rfl) pass0 (pa_cons (pv 3) pa_nil)) pa_nil))))
        (pss_cons (ps_if (pt_cmpR op_eq (pe_c C__law_next (hr.mono (by decide)) (by rfl) pass0 (pa_cons (pv 2) (pa_cons pe_int pa_nil))) pe_int (nomark _))
          (pss_one (ps_set (i := 10) nd rfl (.inl rfl) (pe_c C__law_spoilt (hr.mono (by decide)) (by rfl) pass0 (pa_cons (pv 2) (pa_cons (pv 10) pa_nil)))))
          pss_nil)
        (pss_cons (ps_if (pt_cmpR op_ne (pe_c C__law_said (hr.mono (by decide)) (by rfl) pass0 (pa_cons (pv 10) pa_nil)) (pe_c C__law_wrong (hr.mono (by decide)) (by rfl) pass0 (pa_cons (pv 10) pa_nil)) (nomark _))
          (pss_one (ps_ret pe_bl))
          pss_nil)
        (pss_one (ps_if (PW.pt (pw_and (pt_cmp (pc_isN (pe_c C__law_wrong (hr.mono (by decide)) (by rfl) pass0 (pa_cons (pv 10) pa_nil))) rfl) (pw_and1 (pt_cmpR op_ne (pe_c C_show_log (hr.mono (by decide)) (by rfl) (passes_call (E := fun _ _ _ => False) (W := fun _ _ _ _ => False) takes0 (fun _ _ _ _ h => h)) (pa_cons (pe_c C_read_log (hr.mono (by decide)) (by rfl) (passes_call (E := fun _ _ _ => False) (W := fun _ _ _ _ => False) takes0 (fun _ _ _ _ h => h)) (pa_cons (pv 10) pa_nil)) pa_nil)) (pv 10) (nomark _)))))
          (pss_one (ps_ret pe_bl))
          pss_nil))))))
      (pss_cons (ps_for PassesOwn.never rfl (pi_list (pe_lst (pa_cons pe_non (pa_cons pe_int (pa_cons pe_bl (pa_cons (pe_lst (pa_cons pe_str pa_nil)) (pa_cons pe_dnewK (pa_cons (pe_tup (pa_cons pe_str pa_nil)) (pa_cons (pe_lst (pa_cons (pe_tup (pa_cons pe_str (pa_cons pe_int pa_nil))) pa_nil)) pa_nil))))))))) (pg_name (i := 5) nd rfl (.inl rfl))
        (pss_one (ps_if (pt_cmpR op_ne (pe_c C__law_said (hr.mono (by decide)) (by rfl) pass0 (pa_cons (pv 5) pa_nil)) pe_int (nomark _))
          (pss_one (ps_ret pe_bl))
          pss_nil)))
      (pss_cons (ps_set (i := 6) nd rfl (.inl rfl) (pe_c C__law_next (hr.mono (by decide)) (by rfl) pass0 (pa_cons (pv 2) (pa_cons (pe_op op_add (pe_callB call_len_seq (by rfl) G.len (by decide +kernel) (pa_cons (pv 3) pa_nil)) pe_int) pa_nil))))
      (pss_cons (ps_set (i := 5) nd rfl (.inl rfl) (pe_lst (pa_cons pe_str (pa_cons pe_str (pa_cons pe_str (pa_cons pe_str (pa_cons (pe_tup (pa_cons pe_str (pa_cons (pe_un un_neg pe_int) pa_nil))) (pa_cons (pe_tup (pa_cons pe_str (pa_cons pe_bl pa_nil))) (pa_cons (pe_tup (pa_cons pe_str (pa_cons pe_int (pa_cons pe_int pa_nil)))) (pa_cons (pe_tup (pa_cons pe_str (pa_cons pe_int pa_nil))) (pa_cons (pe_tup pa_nil) pa_nil)))))))))))
      (pss_cons (ps_set (i := 5) nd rfl (.inl rfl) (pe_op op_cat (pv 5) (pe_lst (pa_cons (pe_lst (pa_cons pe_bl pa_nil)) (pa_cons (pe_lst (pa_cons pe_str pa_nil)) (pa_cons (pe_lst (pa_cons pe_non pa_nil)) (pa_cons (pe_lst (pa_cons (pe_lst (pa_cons pe_int pa_nil)) pa_nil)) (pa_cons (pe_tup (pa_cons pe_int (pa_cons pe_int pa_nil))) (pa_cons pe_dnewK (pa_cons (pe_disp (pps_cons pe_int pe_int pps_nil) (by rfl) (by rfl) (fun z => by cases z) (by decide)) (pa_cons (pe_tup (pa_cons pe_str (pa_cons pe_str pa_nil))) (pa_cons (pe_lst (pa_cons (pe_tup (pa_cons pe_str (pa_cons pe_int pa_nil))) pa_nil)) pa_nil))))))))))))
      (pss_cons (ps_for PassesOwn.never rfl (pi_list (pv 5)) (pg_name (i := 7) nd rfl (.inl rfl))
        (pss_one (ps_if (pt_not (pt_val (pe_c C__law_refused (hr.mono (by decide)) (by rfl) pass0 (pa_cons (pe_op op_cat (pe_op op_cat (pe_slice sl_list (pv 3) po_none (po_some (pv 6))) (pe_lst (pa_cons (pe_tup (pa_cons pe_str (pa_cons (pv 7) pa_nil))) pa_nil))) (pe_slice sl_list (pv 3) (po_some (pv 6)) po_none)) pa_nil))))
          (pss_one (ps_ret pe_bl))
          pss_nil)))
      (pss_cons (ps_for PassesOwn.never rfl (pi_list (pe_lst (pa_cons pe_non (pa_cons (pe_tup pa_nil) (pa_cons pe_str (pa_cons (pe_tup (pa_cons pe_str pa_nil)) (pa_cons (pe_tup (pa_cons pe_str (pa_cons pe_int (pa_cons pe_int pa_nil)))) (pa_cons (pe_lst (pa_cons pe_str (pa_cons pe_int pa_nil))) (pa_cons (pe_tup (pa_cons pe_str (pa_cons pe_int pa_nil))) (pa_cons (pe_tup (pa_cons (pe_lst pa_nil) (pa_cons pe_int pa_nil))) (pa_cons pe_int pa_nil))))))))))) (pg_name (i := 8) nd rfl (.inl rfl))
        (pss_one (ps_if (pt_not (pt_val (pe_c C__law_refused (hr.mono (by decide)) (by rfl) pass0 (pa_cons (pe_op op_cat (pe_op op_cat (pe_slice sl_list (pv 3) po_none (po_some (pv 6))) (pe_lst (pa_cons (pv 8) pa_nil))) (pe_slice sl_list (pv 3) (po_some (pv 6)) po_none)) pa_nil))))
          (pss_one (ps_ret pe_bl))
          pss_nil)))
      (pss_cons (ps_if (pt_not (pt_val (pe_c C__law_long_right (hr.mono (by decide)) (by rfl) pass0 (pa_cons (pv 2) pa_nil))))
        (pss_one (ps_ret pe_bl))
        pss_nil)
      (pss_one (ps_for PassesOwn.never rfl (pi_list (pe_lst (pa_cons pe_non (pa_cons (pe_tup pa_nil) (pa_cons pe_str (pa_cons pe_dnewK (pa_cons pe_int (pa_cons (pe_tup (pa_cons pe_str (pa_cons pe_int pa_nil))) pa_nil)))))))) (pg_name (i := 9) nd rfl (.inl rfl))
        (pss_one (ps_if (pt_not (pt_val (pe_c C__law_refused (hr.mono (by decide)) (by rfl) pass0 (pa_cons (pv 9) pa_nil))))
          (pss_one (ps_ret pe_bl))
          pss_nil)))))))))))))))
    (pss_one (ps_ret pe_bl))), ?_⟩
  obtain ⟨m, em, m0, m1⟩ : ∃ m : Nat, (if (if ((ns.map V.int).length : Int) < 4 then ((ns.map V.int).length : Int) else 4) > 1 then (if ((ns.map V.int).length : Int) < 4 then ((ns.map V.int).length : Int) else 4) else 1) = (m : Int) ∧ 1 ≤ m ∧ m ≤ 4 := by
    refine ⟨(if (if ((ns.map V.int).length : Int) < 4 then ((ns.map V.int).length : Int) else 4) > 1 then (if ((ns.map V.int).length : Int) < 4 then ((ns.map V.int).length : Int) else 4) else 1).toNat, ?_, ?_, ?_⟩ <;> (split <;> split <;> omega)
  refine ⟨_, rfl, a, _, rfl, .inl hs, _, _, rfl, _, _, rfl, _, rfl, ?_⟩
  rw [em]
  refine ⟨by omega, by omega, ?_⟩
  refine for_range (lo := 0) (n := m) (fun i σ H' => ∃ s1 s2 s3 s4 s5 s6 s7 s8 s9 s10, σ = [some (V.ref a), s1, s2, s3, s4, s5, s6, s7, s8, s9, s10] ∧ Fr [] H H') ⟨none, none, none, none, none, none, none, none, none, none, rfl, Fr.refl _ _⟩ ?_ ?_
  · rintro i σ Ha hi ⟨s1, s2, s3, s4, s5, s6, s7, s8, s9, s10, rfl, fra⟩
    refine ⟨_, rfl, _, rfl, a, i, ns, by simp, fra.same.seq hs, fun s Hb ns0 hsb frb => ?_⟩
    -- rows
    refine ⟨_, rfl, _, rfl, s, _, _, _, 6, rfl, hsb, by decide, by decide, fun d1 x1 z1 Hc d10 d11 src1 frc => ?_⟩
    obtain ⟨j, rfl⟩ : ∃ j : Nat, d1 = j := ⟨d1.toNat, by omega⟩
    refine ⟨s, _, _, _, j, rfl, src1, by omega, fun R ys rs Hd nR neR hR pr good len srcR frd => ?_⟩
    have f0 : Fr [] Ha Hd := Fr.drop (p := s) (frb.weak.trans (frc.trans frd)) ns0
    refine ⟨12, rfl, by decide, by decide, ?_⟩
    refine for_range (lo := 0) (n := 12) (fun i5 σ H' => ∃ s4 s5 s6 s7 s8 s9 s10, σ = [some (V.ref a), some (V.int (0 + (i : Int))), some (V.ref s), some (V.ref R), s4, s5, s6, s7, s8, s9, s10] ∧ (∃ x y z, H' s = some (srcO x y z)) ∧ Fr [s] Hd H')
      ⟨s4, s5, s6, s7, s8, s9, s10, rfl, srcR, Fr.refl _ _⟩ ?_ ?_
    · rintro i5 σ Hg hi5 ⟨s4, s5, s6, s7, s8, s9, s10, rfl, ⟨x4, y4, z4, src4⟩, frg⟩
      have hRg := frg.at hR (by simpa using neR)
      have prg : Paired (RowTh Hg) ys rs := L2.Paired.mapP pr fun x y c => (c.same frg.hd).same Hd_same
      have tl := txt_len good len
      refine ⟨_, rfl, _, rfl, R, ys, rs, rfl, hRg, prg, good, len, fun He fre => ?_⟩
      refine ⟨s, _, _, _, txtOf rs, rfl, fre.same _ _ src4, by omega, fun m1 Hf hm1 ⟨x5, y5, z5, src5⟩ frf => ?_⟩
      refine ⟨_, rfl, s, _, _, _, 3, rfl, src5, by decide, by decide, fun d6 x6 z6 Hh d60 d61 src6 frh => ⟨rfl, _, rfl, ?_⟩⟩
      have frA : Fr [s] Hd Hh := frg.trans ((fre.mono fun _ h => nomatch h).trans (frf.trans frh))
      refine ite2 (fun c => ?a) (fun c => ?b)
      case' a =>
        refine ⟨_, rfl, _, rfl, s, _, _, _, m1, rfl, src6, by omega, fun m2 Hi hm2 ⟨x7, y7, z7, src7⟩ fri => ?_⟩
        have frB := frA.trans fri
        have lm : m2.length ≤ 100000 := by omega
        generalize m2 = mm at lm ⊢
      case' b =>
        have frB := frA
        have lm : m1.length ≤ 100000 := by omega
        have src7 := src6
        generalize m1 = mm at lm ⊢
      all_goals
        refine ⟨_, rfl, _, rfl, .inr ⟨mm, rfl, by omega, fun H1 f1 => ?_⟩⟩
        refine ⟨_, rfl, mm, rfl, by omega, fun H2 f2 => ?_⟩
        have fC := frB.trans ((f1.trans f2).mono fun _ h => nomatch h)
        have src8 := f2.same _ _ (f1.same _ _ src7)
        cases hlo : logOf 0 (lines mm) with
        | inl k =>
          have sv : saidV mm = .int (k : Int) := by unfold saidV; rw [hlo]
          rw [sv]
          refine ⟨rfl, _, rfl, ifF (by simp) ?_⟩
          refine ⟨_, rfl, mm, rfl, by omega, fun H3 f3 => ?_⟩
          rw [sv]
          refine ⟨_, rfl, ifF rfl ?_⟩
          exact ⟨_, _, _, _, _, _, _, rfl, ⟨_, _, _, f3.same _ _ src8⟩, fC.trans (f3.mono fun _ h => nomatch h)⟩
        | inr rs2 =>
          have sv : saidV mm = .non := by unfold saidV; rw [hlo]
          rw [sv]
          refine ⟨rfl, _, rfl, ifF (by simp) ?_⟩
          refine ⟨_, rfl, mm, rfl, by omega, fun H3 f3 => ?_⟩
          rw [sv]
          refine ⟨_, rfl, ifT rfl ?_⟩
          refine ⟨_, rfl, _, rfl, .inr ⟨mm, rfl, by omega, fun k e => (by rw [hlo] at e; cases e), fun rs3 e H4 p f4 hlg => ?_⟩⟩
          rw [hlo] at e
          cases e
          obtain ⟨xs, b1, b2, b3, b4, b5, b6⟩ := log_read hlg hlo lm
          refine ⟨_, rfl, .inr ⟨p, xs, rfl, b1, b2, b3, b4, b5, fun H5 f5 => ?_⟩⟩
          rw [b6]
          refine ⟨_, rfl, rfl, _, rfl, ifF (by simp) ?_⟩
          exact ⟨_, _, _, _, _, _, _, rfl, ⟨_, _, _, f5.same _ _ (f4.same _ _ (f3.same _ _ src8))⟩, fC.trans ((f3.trans (f4.trans f5)).mono fun _ h => nomatch h)⟩
    · rintro σ Hg ⟨s4, s5, s6, s7, s8, s9, s10, rfl, srcg, frg⟩
      -- what is no text
      refine ⟨(by show 1 ≤ sizeLine; decide), fun p1 m1 => ?_⟩
      obtain ⟨G1, e1, h1, w1, g1⟩ := stepN (M := []) (o := .lst [V.str "look 5"]) m1
      rw [e1]
      refine fun p2 m2 => ?_
      obtain ⟨G2, e2, h2, w2, g2⟩ := stepN (M := []) (o := .dK []) m2
      rw [e2]
      refine ⟨(by show 1 ≤ sizeLine; decide), fun p3 m3 => ?_⟩
      obtain ⟨G3, e3, h3, w3, g3⟩ := stepN (M := []) (o := .tup [V.str "look 5"]) m3
      rw [e3]
      refine ⟨(by show 2 ≤ sizeLine; decide), fun p4 m4 => ?_⟩
      obtain ⟨G4, e4, h4, w4, g4⟩ := stepN (M := []) (o := .tup [V.str "look", V.int 5]) m4
      rw [e4]
      refine ⟨(by show 1 ≤ sizeLine; decide), fun p5 m5 => ?_⟩
      obtain ⟨G5, e5, h5, w5, g5⟩ := stepN (M := []) (o := .lst [V.ref p4]) m5
      rw [e5]
      refine ⟨(by show 7 ≤ sizeLine; decide), fun p6 m6 => ?_⟩
      obtain ⟨G6, e6, h6, w6, g6⟩ := stepN (M := []) (o := .lst [V.non, V.int 5, V.bl true, V.ref p1, V.ref p2, V.ref p3, V.ref p5]) m6
      rw [e6]
      have gA : Fr [] Hg G6 := g1.trans (g2.trans (g3.trans (g4.trans (g5.trans g6))))
      have odds : ∀ (k : Nat) (x : V), [V.non, V.int 5, V.bl true, V.ref p1, V.ref p2, V.ref p3, V.ref p5][k]? = some x → ∃ t, Kd G6 x t ∧ isStrV x = false := fun k x hx => by
        match k, hx with
        | 0, hx => cases hx; exact ⟨_, .non, rfl⟩
        | 1, hx => cases hx; exact ⟨_, .int _, rfl⟩
        | 2, hx => cases hx; exact ⟨_, .bl _, rfl⟩
        | 3, hx => cases hx; exact ⟨_, .lst (w6 _ _ (w5 _ _ (w4 _ _ (w3 _ _ (w2 _ _ h1))))), rfl⟩
        | 4, hx => cases hx; exact ⟨_, .dK (w6 _ _ (w5 _ _ (w4 _ _ (w3 _ _ h2)))), rfl⟩
        | 5, hx => cases hx; exact ⟨_, .tup (w6 _ _ (w5 _ _ (w4 _ _ h3))), rfl⟩
        | 6, hx => cases hx; exact ⟨_, .lst (w6 _ _ h5), rfl⟩
      refine ⟨p6, rfl, ⟨_, SqL.of h6⟩, ?_⟩
      refine for_list (K := K) (a := p6) (xs := [V.non, V.int 5, V.bl true, V.ref p1, V.ref p2, V.ref p3, V.ref p5]) (fun k σ H' => ∃ s5, σ = [some (V.ref a), some (V.int (0 + (i : Int))), some (V.ref s), some (V.ref R), s4, s5, s6, s7, s8, s9, s10] ∧ Fr [] G6 H')
        ⟨s5, rfl, Fr.refl _ _⟩ (fun k σ H' _ hp => ?_) (fun k x σ H' hx hp => ?_) (fun σ H' hp => ?_)
      · obtain ⟨_, _, fz⟩ := hp
        exact SqL.of (fz.same _ _ h6)
      · obtain ⟨s5, rfl, fz⟩ := hp
        obtain ⟨t, kt, hst⟩ := odds k x hx
        refine ⟨_, rfl, x, rfl, .inl ⟨t, kt.same fz.same, hst, fun H1 f1 => ?_⟩⟩
        refine ⟨rfl, _, rfl, ifF (by simp) ?_⟩
        exact ⟨_, rfl, fz.trans f1⟩
      obtain ⟨s5, rfl, fz⟩ := hp
      obtain ⟨x4, y4, z4, src4⟩ := srcg
      have frB : Fr [s] Hd H' := frg.trans ((gA.trans fz).mono fun _ h => nomatch h)
      have hRB := frB.at hR (by simpa using neR)
      have src5 := fz.same _ _ (gA.same _ _ src4)
      refine ⟨_, rfl, _, rfl, R, _, rfl, .inl (SqL.of hRB), _, _, rfl, rfl, s, _, _, _, _, rfl, src5, by omega, by have := PySem.Paired.length pr; omega, fun d7 x7 z7 Hi d70 d71 src7 fri => ?_⟩
      obtain ⟨spot, rfl⟩ : ∃ j : Nat, d7 = j := ⟨d7.toNat, by omega⟩
      have sp1 : spot ≤ ys.length := by omega
      -- odd things
      refine ⟨_, rfl, (by show 2 ≤ sizeLine; decide), fun q1 k1 => ?_⟩
      obtain ⟨O1, eo1, ho1, wo1, go1⟩ := stepN (M := []) (o := .tup [V.str "thread", V.int (-1)]) k1
      rw [show upd Hi q1 _ = O1 from eo1]
      refine ⟨(by show 2 ≤ sizeLine; decide), fun q2 k2 => ?_⟩
      obtain ⟨O2, eo2, ho2, wo2, go2⟩ := stepN (M := []) (o := .tup [V.str "thread", V.bl true]) k2
      rw [show upd O1 q2 _ = O2 from eo2]
      refine ⟨(by show 3 ≤ sizeLine; decide), fun q3 k3 => ?_⟩
      obtain ⟨O3, eo3, ho3, wo3, go3⟩ := stepN (M := []) (o := .tup [V.str "thread", V.int 0, V.int 0]) k3
      rw [show upd O2 q3 _ = O3 from eo3]
      refine ⟨(by show 2 ≤ sizeLine; decide), fun q4 k4 => ?_⟩
      obtain ⟨O4, eo4, ho4, wo4, go4⟩ := stepN (M := []) (o := .tup [V.str "steady", V.int 0]) k4
      rw [show upd O3 q4 _ = O4 from eo4]
      refine ⟨(by show 0 ≤ sizeLine; decide), fun q5 k5 => ?_⟩
      obtain ⟨O5, eo5, ho5, wo5, go5⟩ := stepN (M := []) (o := .tup []) k5
      rw [show upd O4 q5 _ = O5 from eo5]
      refine ⟨(by show 9 ≤ sizeLine; decide), fun q6 k6 => ?_⟩
      obtain ⟨O6, eo6, ho6, wo6, go6⟩ := stepN (M := []) (o := .lst [V.str "noon", V.str "Steady", V.str "", V.str "thread:0", V.ref q1, V.ref q2, V.ref q3, V.ref q4, V.ref q5]) k6
      rw [show upd O5 q6 _ = O6 from eo6]
      refine ⟨_, rfl, (by show 1 ≤ sizeLine; decide), fun r1 k7 => ?_⟩
      obtain ⟨O7, eo7, ho7, wo7, go7⟩ := stepN (M := []) (o := .lst [V.bl true]) k7
      rw [show upd O6 r1 _ = O7 from eo7]
      refine ⟨(by show 1 ≤ sizeLine; decide), fun r2 k8 => ?_⟩
      obtain ⟨O8, eo8, ho8, wo8, go8⟩ := stepN (M := []) (o := .lst [V.str "1"]) k8
      rw [show upd O7 r2 _ = O8 from eo8]
      refine ⟨(by show 1 ≤ sizeLine; decide), fun r3 k9 => ?_⟩
      obtain ⟨O9, eo9, ho9, wo9, go9⟩ := stepN (M := []) (o := .lst [V.non]) k9
      rw [show upd O8 r3 _ = O9 from eo9]
      refine ⟨(by show 1 ≤ sizeLine; decide), fun r4 k10 => ?_⟩
      obtain ⟨O10, eo10, ho10, wo10, go10⟩ := stepN (M := []) (o := .lst [V.int 1]) k10
      rw [show upd O9 r4 _ = O10 from eo10]
      refine ⟨(by show 1 ≤ sizeLine; decide), fun r5 k11 => ?_⟩
      obtain ⟨O11, eo11, ho11, wo11, go11⟩ := stepN (M := []) (o := .lst [V.ref r4]) k11
      rw [show upd O10 r5 _ = O11 from eo11]
      refine ⟨(by show 2 ≤ sizeLine; decide), fun r6 k12 => ?_⟩
      obtain ⟨O12, eo12, ho12, wo12, go12⟩ := stepN (M := []) (o := .tup [V.int 0, V.int 1]) k12
      rw [show upd O11 r6 _ = O12 from eo12]
      refine fun r7 k13 => ?_
      obtain ⟨O13, eo13, ho13, wo13, go13⟩ := stepN (M := []) (o := .dK []) k13
      rw [show upd O12 r7 _ = O13 from eo13]
      refine fun r8 k14 => ⟨upd_same, [(Sum.inl 0, .int 1)], rfl, (by decide), ?_⟩
      obtain ⟨O14, eo14, ho14, go14⟩ : ∃ Hb, upd (upd O13 r8 (.dK [])) r8 (.dK (mergeK [] [(Sum.inl 0, V.int 1)])) = Hb ∧ (∃ kvs, Hb r8 = some (.dK kvs)) ∧ Fr [] O13 Hb := ⟨_, rfl, ⟨_, upd_same⟩, Fr.drop ((Fr.new k14).weak.trans (Fr.set List.mem_cons_self)) k14⟩
      rw [show upd (upd O13 r8 (.dK [])) r8 _ = O14 from eo14]
      refine ⟨(by show 2 ≤ sizeLine; decide), fun r9 k15 => ?_⟩
      obtain ⟨O15, eo15, ho15, wo15, go15⟩ := stepN (M := []) (o := .tup [V.str "process", V.str "0"]) k15
      rw [show upd O14 r9 _ = O15 from eo15]
      refine ⟨(by show 2 ≤ sizeLine; decide), fun r10 k16 => ?_⟩
      obtain ⟨O16, eo16, ho16, wo16, go16⟩ := stepN (M := []) (o := .tup [V.str "thread", V.int 0]) k16
      rw [show upd O15 r10 _ = O16 from eo16]
      refine ⟨(by show 1 ≤ sizeLine; decide), fun r11 k17 => ?_⟩
      obtain ⟨O17, eo17, ho17, wo17, go17⟩ := stepN (M := []) (o := .lst [V.ref r10]) k17
      rw [show upd O16 r11 _ = O17 from eo17]
      refine ⟨(by show 9 ≤ sizeLine; decide), fun r12 k18 => ?_⟩
      obtain ⟨O18, eo18, ho18, wo18, go18⟩ := stepN (M := []) (o := .lst [V.ref r1, V.ref r2, V.ref r3, V.ref r5, V.ref r6, V.ref r7, V.ref r8, V.ref r9, V.ref r11]) k18
      rw [show upd O17 r12 _ = O18 from eo18]
      refine ⟨q6, r12, _, _, rfl, rfl, wo18 _ _ (wo17 _ _ (wo16 _ _ (wo15 _ _ (go14.same _ _ (wo13 _ _ (wo12 _ _ (wo11 _ _ (wo10 _ _ (wo9 _ _ (wo8 _ _ (wo7 _ _ (ho6)))))))))))), ho18, (by show 18 ≤ sizeLine; decide), fun oo koo => ?_⟩
      obtain ⟨Oc, eoc, hoc, woc, goc⟩ := stepN (M := []) (o := .lst [V.str "noon", V.str "Steady", V.str "", V.str "thread:0", V.ref q1, V.ref q2, V.ref q3, V.ref q4, V.ref q5, V.ref r1, V.ref r2, V.ref r3, V.ref r5, V.ref r6, V.ref r7, V.ref r8, V.ref r9, V.ref r11]) koo
      rw [show upd O18 oo (.lst ([V.str "noon", V.str "Steady", V.str "", V.str "thread:0", V.ref q1, V.ref q2, V.ref q3, V.ref q4, V.ref q5] ++ [V.ref r1, V.ref r2, V.ref r3, V.ref r5, V.ref r6, V.ref r7, V.ref r8, V.ref r9, V.ref r11])) = Oc from eoc]
      have oB : Fr [] Hi Oc := go1.trans (go2.trans (go3.trans (go4.trans (go5.trans (go6.trans (go7.trans (go8.trans (go9.trans (go10.trans (go11.trans (go12.trans (go13.trans (go14.trans (go15.trans (go16.trans (go17.trans (go18.trans goc)))))))))))))))))
      have u18 : ∀ {b : Addr} {o : HO}, O18 b = some o → Oc b = some o := fun h => woc _ _ h
      have u14 : ∀ {b : Addr} {o : HO}, O14 b = some o → Oc b = some o := fun h => u18 (wo18 _ _ (wo17 _ _ (wo16 _ _ (wo15 _ _ h))))
      have u10 : ∀ {b : Addr} {o : HO}, O10 b = some o → Oc b = some o := fun h => u14 (go14.same _ _ (wo13 _ _ (wo12 _ _ (wo11 _ _ h))))
      have u6 : ∀ {b : Addr} {o : HO}, O6 b = some o → Oc b = some o := fun h => u10 (wo10 _ _ (wo9 _ _ (wo8 _ _ (wo7 _ _ h))))
      have u3 : ∀ {b : Addr} {o : HO}, O3 b = some o → Oc b = some o := fun h => u6 (wo6 _ _ (wo5 _ _ (wo4 _ _ h)))
      have odd2 : ∀ (k : Nat) (x : V), [V.str "noon", V.str "Steady", V.str "", V.str "thread:0", V.ref q1, V.ref q2, V.ref q3, V.ref q4, V.ref q5, V.ref r1, V.ref r2, V.ref r3, V.ref r5, V.ref r6, V.ref r7, V.ref r8, V.ref r9, V.ref r11][k]? = some x → OddV Oc x := fun k x hx => by
        match k, hx with
        | 0, hx => cases hx; exact odd_str (by decide +kernel)
        | 1, hx => cases hx; exact odd_str (by decide +kernel)
        | 2, hx => cases hx; exact odd_str (by decide +kernel)
        | 3, hx => cases hx; exact odd_str (by decide +kernel)
        | 4, hx => cases hx; exact odd_tup (u3 (wo3 _ _ (wo2 _ _ ho1))) (flat2 (.str _) (.int _)) (by decide) (by decide +kernel)
        | 5, hx => cases hx; exact odd_tup (u3 (wo3 _ _ ho2)) (flat2 (.str _) (.bl _)) (by decide) (by decide +kernel)
        | 6, hx => cases hx; exact odd_tup (u3 ho3) (flat3 (.str _) (.int _) (.int _)) (by decide) (by decide +kernel)
        | 7, hx => cases hx; exact odd_tup (u6 (wo6 _ _ (wo5 _ _ ho4))) (flat2 (.str _) (.int _)) (by decide) (by decide +kernel)
        | 8, hx => cases hx; exact odd_tup (u6 (wo6 _ _ ho5)) (fun y hy => nomatch hy) (by decide) (by decide +kernel)
        | 9, hx => cases hx; exact odd_lst (u10 (wo10 _ _ (wo9 _ _ (wo8 _ _ ho7)))) (flat1 (.bl _)) (by decide) rfl rfl
        | 10, hx => cases hx; exact odd_lst (u10 (wo10 _ _ (wo9 _ _ ho8))) (flat1 (.str _)) (by decide) rfl rfl
        | 11, hx => cases hx; exact odd_lst (u10 (wo10 _ _ ho9)) (flat1 .non) (by decide) rfl rfl
        | 12, hx => cases hx; exact odd_lst (u14 (go14.same _ _ (wo13 _ _ (wo12 _ _ ho11)))) (flat1 (.lst (u10 ho10))) (by show 1 < 1000; decide) rfl rfl
        | 13, hx => cases hx; exact odd_tup (u14 (go14.same _ _ (wo13 _ _ ho12))) (flat2 (.int _) (.int _)) (by decide) (by decide +kernel)
        | 14, hx => cases hx; exact odd_dK (u14 (go14.same _ _ ho13))
        | 15, hx => cases hx; obtain ⟨kvs, hk⟩ := ho14; exact odd_dK (u14 hk)
        | 16, hx => cases hx; exact odd_tup (u18 (wo18 _ _ (wo17 _ _ (wo16 _ _ ho15)))) (flat2 (.str _) (.str _)) (by decide) (by decide +kernel)
        | 17, hx => cases hx; exact odd_lst (u18 (wo18 _ _ ho17)) (flat1 (.tup (u18 (wo18 _ _ (wo17 _ _ ho16))))) (by show 1 < 1000; decide) rfl rfl
      have lenR := PySem.Paired.length pr
      have hRO : Oc R = some (.lst ys) := oB.same _ _ (fri.at hRB (by simpa using neR))
      have gO : ∀ Hq, Fr [] Oc Hq → ∀ z ∈ ys, RowG Hq z := fun Hq fq z hz => by
        have fall : Fr [s] Hd Hq := frB.trans (fri.trans ((oB.trans fq).mono fun _ h => nomatch h))
        obtain ⟨r, hr, hrow⟩ := pairL pr z hz
        exact rowG_th ((hrow.same fall.hd).same Hd_same) (good r hr)
      refine ⟨_, rfl, oo, rfl, ⟨_, SqL.of hoc⟩, ?_⟩
      refine for_list (K := K) (a := oo) (xs := [V.str "noon", V.str "Steady", V.str "", V.str "thread:0", V.ref q1, V.ref q2, V.ref q3, V.ref q4, V.ref q5, V.ref r1, V.ref r2, V.ref r3, V.ref r5, V.ref r6, V.ref r7, V.ref r8, V.ref r9, V.ref r11]) (fun k σ H' => ∃ s7, σ = [some (V.ref a), some (V.int (0 + (i : Int))), some (V.ref s), some (V.ref R), s4, some (V.ref oo), some (V.int (spot : Int)), s7, s8, s9, s10] ∧ Fr [] Oc H')
        ⟨s7, rfl, Fr.refl _ _⟩ (fun k σ H' _ hp => ?_) (fun k x σ H' hx hp => ?_) (fun σ H' hp => ?_)
      · obtain ⟨_, _, fz⟩ := hp
        exact SqL.of (fz.same _ _ hoc)
      · obtain ⟨s7, rfl, fz⟩ := hp
        have ox := odd2 k x hx
        refine mid_read (K := K) (ys := ys) (R := R) (spot := spot) (fun y H => ∃ p, y = .ref p ∧ H p = some (.tup [.str (S cLook), x])) ?_ ?_ (fz.same _ _ hRO) sp1 (by omega) (fun H1 q hq => ?_) (fun y Ha Hb fab hy => ?_) fun p y Hq fq hy hp => ?_
        · rfl
        · rfl
        · refine ⟨_, rfl, (by show 2 ≤ sizeLine; decide), fun p1 n1 => ?_⟩
          exact hq _ _ (Fr.new n1) ⟨p1, rfl, upd_same⟩
        · obtain ⟨p, rfl, h⟩ := hy
          exact ⟨p, rfl, fab.same _ _ h⟩
        · obtain ⟨py, rfl, hpy⟩ := hy
          have fall := fz.trans fq
          obtain ⟨gy, ny⟩ := rowG_odd hpy (ox.same fall.same)
          obtain ⟨b1, b2, b3, b4, b5⟩ := mid_odd hp (fun z hz => gO _ fall z (by rw [List.take_append_drop] at hz; exact hz)) gy ny (by rw [List.take_append_drop]; omega)
          refine ⟨_, rfl, .inr ⟨p, _, rfl, hp, b1, b2, b3, b4, b5, fun H5 f5 => ?_⟩⟩
          refine ⟨_, rfl, ?_⟩
          refine ifF rfl ?_
          exact ⟨_, rfl, fall.trans f5⟩
      obtain ⟨s7, rfl, fz⟩ := hp
      have fx := fz
      -- bad rows
      refine ⟨(by show 0 ≤ sizeLine; decide), fun b1 kb1 => ?_⟩
      obtain ⟨B1, eb1, hb1, wb1, gb1⟩ := stepN (M := []) (o := .tup []) kb1
      rw [show upd H' b1 _ = B1 from eb1]
      refine ⟨(by show 1 ≤ sizeLine; decide), fun b2 kb2 => ?_⟩
      obtain ⟨B2, eb2, hb2, wb2, gb2⟩ := stepN (M := []) (o := .tup [V.str "look"]) kb2
      rw [show upd B1 b2 _ = B2 from eb2]
      refine ⟨(by show 3 ≤ sizeLine; decide), fun b3 kb3 => ?_⟩
      obtain ⟨B3, eb3, hb3, wb3, gb3⟩ := stepN (M := []) (o := .tup [V.str "look", V.int 5, V.int 5]) kb3
      rw [show upd B2 b3 _ = B3 from eb3]
      refine ⟨(by show 2 ≤ sizeLine; decide), fun b4 kb4 => ?_⟩
      obtain ⟨B4, eb4, hb4, wb4, gb4⟩ := stepN (M := []) (o := .lst [V.str "look", V.int 5]) kb4
      rw [show upd B3 b4 _ = B4 from eb4]
      refine ⟨(by show 2 ≤ sizeLine; decide), fun b5 kb5 => ?_⟩
      obtain ⟨B5, eb5, hb5, wb5, gb5⟩ := stepN (M := []) (o := .tup [V.str "noon", V.int 5]) kb5
      rw [show upd B4 b5 _ = B5 from eb5]
      refine ⟨(by show 0 ≤ sizeLine; decide), fun b6 kb6 => ?_⟩
      obtain ⟨B6, eb6, hb6, wb6, gb6⟩ := stepN (M := []) (o := .lst []) kb6
      rw [show upd B5 b6 _ = B6 from eb6]
      refine ⟨(by show 2 ≤ sizeLine; decide), fun b7 kb7 => ?_⟩
      obtain ⟨B7, eb7, hb7, wb7, gb7⟩ := stepN (M := []) (o := .tup [V.ref b6, V.int 5]) kb7
      rw [show upd B6 b7 _ = B7 from eb7]
      refine ⟨(by show 9 ≤ sizeLine; decide), fun bb kb8 => ?_⟩
      obtain ⟨B8, eb8, hb8, wb8, gb8⟩ := stepN (M := []) (o := .lst [V.non, V.ref b1, V.str "look 5", V.ref b2, V.ref b3, V.ref b4, V.ref b5, V.ref b7, V.int 5]) kb8
      rw [show upd B7 bb _ = B8 from eb8]
      have bA : Fr [] H' B8 := gb1.trans (gb2.trans (gb3.trans (gb4.trans (gb5.trans (gb6.trans (gb7.trans gb8))))))
      have bads : ∀ (k : Nat) (x : V), [V.non, V.ref b1, V.str "look 5", V.ref b2, V.ref b3, V.ref b4, V.ref b5, V.ref b7, V.int 5][k]? = some x → RowIs B8 x false := fun k x hx => by
        match k, hx with
        | 0, hx => cases hx; exact .no .non (by decide)
        | 1, hx => cases hx; exact row_bad (wb8 _ _ (wb7 _ _ (wb6 _ _ (wb5 _ _ (wb4 _ _ (wb3 _ _ (wb2 _ _ hb1))))))) (fun y hy => nomatch hy) (by decide) (by decide +kernel)
        | 2, hx => cases hx; exact .no (.str _) (by decide)
        | 3, hx => cases hx; exact row_bad (wb8 _ _ (wb7 _ _ (wb6 _ _ (wb5 _ _ (wb4 _ _ (wb3 _ _ hb2)))))) (fun y hy => by cases hy; exact ⟨_, .str _⟩) (by decide) (by decide +kernel)
        | 4, hx => cases hx; exact row_bad (wb8 _ _ (wb7 _ _ (wb6 _ _ (wb5 _ _ (wb4 _ _ hb3))))) (fun y hy => by cases hy; exact ⟨_, .str _⟩) (by decide) (by decide +kernel)
        | 5, hx => cases hx; exact .no (.lst (wb8 _ _ (wb7 _ _ (wb6 _ _ (wb5 _ _ hb4))))) (by decide)
        | 6, hx => cases hx; exact row_bad (wb8 _ _ (wb7 _ _ (wb6 _ _ hb5))) (fun y hy => by cases hy; exact ⟨_, .str _⟩) (by decide) (by decide +kernel)
        | 7, hx => cases hx; exact row_bad (wb8 _ _ hb7) (fun y hy => by cases hy; exact ⟨_, .lst (wb8 _ _ (wb7 _ _ hb6))⟩) (by show 2 < 2 ^ 62; decide) rfl
        | 8, hx => cases hx; exact .no (.int _) (by decide)
      refine ⟨bb, rfl, ⟨_, SqL.of hb8⟩, ?_⟩
      refine for_list (K := K) (a := bb) (xs := [V.non, V.ref b1, V.str "look 5", V.ref b2, V.ref b3, V.ref b4, V.ref b5, V.ref b7, V.int 5]) (fun k σ H' => ∃ s8, σ = [some (V.ref a), some (V.int (0 + (i : Int))), some (V.ref s), some (V.ref R), s4, some (V.ref oo), some (V.int (spot : Int)), s7, s8, s9, s10] ∧ Fr [] B8 H')
        ⟨s8, rfl, Fr.refl _ _⟩ (fun k σ H' _ hp => ?_) (fun k x σ H' hx hp => ?_) (fun σ H' hp => ?_)
      · obtain ⟨_, _, fz⟩ := hp
        exact SqL.of (fz.same _ _ hb8)
      · obtain ⟨s8, rfl, fz⟩ := hp
        have rx := bads k x hx
        have fO := fx.trans (bA.trans fz)
        refine mid_read (K := K) (ys := ys) (R := R) (spot := spot) (fun y _ => y = x) ?_ ?_ (fO.same _ _ hRO) sp1 (by omega) (fun H1 q hq => ?_) (fun y Ha Hb fab hy => hy) fun p y Hq fq hy hp => ?_
        · rfl
        · rfl
        · exact ⟨_, rfl, hq _ _ (Fr.refl _ _) rfl⟩
        · subst hy
          have fall := fO.trans fq
          have rq := rx.same (fz.trans fq).same
          have lb := mid_bad hp (fun z hz => by
            have gz := gO _ fall z (by rw [List.take_append_drop] at hz; exact hz)
            exact ⟨gz, fun e => by subst e; exact absurd (rowIs_one gz.is rq) (by decide)⟩) rq (by rw [List.take_append_drop]; omega)
          refine ⟨_, rfl, .inl ⟨lb, fun H5 f5 => ?_⟩⟩
          refine ⟨_, rfl, ?_⟩
          refine ifF rfl ?_
          exact ⟨_, rfl, fz.trans (fq.trans f5)⟩
      obtain ⟨s8, rfl, fy⟩ := hp
      have src9 := fy.same _ _ (bA.same _ _ (fx.same _ _ (oB.same _ _ src7)))
      refine ⟨_, rfl, s, _, _, _, rfl, src9, fun Hl ⟨xl, yl, zl, srcl⟩ fl => ⟨_, rfl, ifF rfl ?_⟩⟩
      -- what is no list
      refine ⟨(by show 0 ≤ sizeLine; decide), fun n1 kn1 => ?_⟩
      obtain ⟨N1, en1, hn1, wn1, gn1⟩ := stepN (M := []) (o := .tup []) kn1
      rw [show upd Hl n1 _ = N1 from en1]
      refine fun n2 kn2 => ?_
      obtain ⟨N2, en2, hn2, wn2, gn2⟩ := stepN (M := []) (o := .dK []) kn2
      rw [show upd N1 n2 _ = N2 from en2]
      refine ⟨(by show 2 ≤ sizeLine; decide), fun n3 kn3 => ?_⟩
      obtain ⟨N3, en3, hn3, wn3, gn3⟩ := stepN (M := []) (o := .tup [V.str "look", V.int 5]) kn3
      rw [show upd N2 n3 _ = N3 from en3]
      refine ⟨(by show 6 ≤ sizeLine; decide), fun nn kn4 => ?_⟩
      obtain ⟨N4, en4, hn4, wn4, gn4⟩ := stepN (M := []) (o := .lst [V.non, V.ref n1, V.str "look 5", V.ref n2, V.int 5, V.ref n3]) kn4
      rw [show upd N3 nn _ = N4 from en4]
      have nA : Fr [] Hl N4 := gn1.trans (gn2.trans (gn3.trans gn4))
      have nones : ∀ (k : Nat) (x : V), [V.non, V.ref n1, V.str "look 5", V.ref n2, V.int 5, V.ref n3][k]? = some x → ∃ t, Kd N4 x t ∧ t ≠ "list" := fun k x hx => by
        match k, hx with
        | 0, hx => cases hx; exact ⟨_, .non, by decide⟩
        | 1, hx => cases hx; exact ⟨_, (.tup (wn4 _ _ (wn3 _ _ (wn2 _ _ hn1)))), by decide⟩
        | 2, hx => cases hx; exact ⟨_, (.str _), by decide⟩
        | 3, hx => cases hx; exact ⟨_, (.dK (wn4 _ _ (wn3 _ _ hn2))), by decide⟩
        | 4, hx => cases hx; exact ⟨_, (.int _), by decide⟩
        | 5, hx => cases hx; exact ⟨_, (.tup (wn4 _ _ hn3)), by decide⟩
      refine ⟨nn, rfl, ⟨_, SqL.of hn4⟩, ?_⟩
      refine for_list (K := K) (a := nn) (xs := [V.non, V.ref n1, V.str "look 5", V.ref n2, V.int 5, V.ref n3]) (fun k σ H' => ∃ s9, σ = [some (V.ref a), some (V.int (0 + (i : Int))), some (V.ref s), some (V.ref R), s4, some (V.ref oo), some (V.int (spot : Int)), s7, s8, s9, s10] ∧ Fr [] N4 H')
        ⟨s9, rfl, Fr.refl _ _⟩ (fun k σ H' _ hp => ?_) (fun k x σ H' hx hp => ?_) (fun σ H' hp => ?_)
      · obtain ⟨_, _, fz⟩ := hp
        exact SqL.of (fz.same _ _ hn4)
      · obtain ⟨s9, rfl, fz⟩ := hp
        obtain ⟨t, kt, nt⟩ := nones k x hx
        refine ⟨_, rfl, x, rfl, .inl ⟨.no (kt.same fz.same) nt, fun H5 f5 => ?_⟩⟩
        · refine ⟨_, rfl, ?_⟩
          refine ifF rfl ?_
          exact ⟨_, rfl, fz.trans f5⟩
      obtain ⟨s9, rfl, fw⟩ := hp
      have f1 : Fr [s] Hi H' := ((oB.trans (fx.trans (bA.trans fy))).weak).trans (fl.trans ((nA.trans fw).weak))
      have fE : Fr [] Ha H' := Fr.drop (p := s) (frb.weak.trans (frc.trans (frd.trans (frB.trans (fri.trans f1))))) ns0
      exact ⟨_, _, _, _, _, _, _, _, _, _, rfl, fra.trans fE⟩
  · rintro σ Hz ⟨_, _, _, _, _, _, _, _, _, _, rfl, _⟩
    exact q _
end
end Tk

set_option Elab.async false
set_option linter.all false
set_option maxRecDepth 100000
set_option maxHeartbeats 4000000
namespace Tk
open PySem PySem.Spec PyProof.Rows L2

section
variable {P : Program} {w : World} {K : PySem.W.Frag} {mg mb : Str → Option Value} {CX : CXT} {k : Nat} {fa a : Addr} {fd : FuncData} {x : Str} {sp : Sp} {s₁ : Shared} {vs : List Value} {ns : List Int}
/-- what a law's call must come to -/
abbrev LawEnd (s₁ : Shared) : Result → Shared → Prop := fun r s' => r = .ok (.ret (.bool true)) ∧ OldK s₁.heap s'.heap ∧ s'.os = s₁.os ∧ AllBare s'.gens

theorem lawG_at (H : Hp) (KX : K.In s₁.heap) (hns : s₁.heap.Ns mainGlobals mg) (hb : s₁.heap.Ns builtinsNs mb) (hbb : ∀ x : Str, x ≠ "__name__" → mb x = bootBuiltins x) (hlim : s₁.heap.NoLimit) (hg : s₁.gens = #[])
    (hobj : s₁.heap.get? a = some { cls := .type "list", data := .seq vs.toArray }) (hr : Room k callerA)
    (F : ∀ base : Heap, K.In base → base.Ns mainGlobals mg → FnG P w K mg base CX k fa fd [x] sp) (hbind : ∀ (s : Shared) (u : Value), BindsTo s fd ⟨[u], []⟩ [(x, u)])
    (hO : Only H) (hok : HOk P w H s₁.heap) (hA : ∀ b, H b ≠ none → b = a ∧ K.lookup a = none)
    (hsp : sp [.ref a] H (fun v _ => v = .bl true) fun _ _ _ => False) (hCX : ∀ e s', CX [] H s₁ (fun _ _ _ => False) e s' → False) :
    codeAny (model P w) callerA (.call (.ref fa) ⟨[.ref a], []⟩) (LawEnd s₁) s₁ := by
  have free : ∀ b, b ≠ a → H b = none := fun b hb => Classical.byContradiction fun z => hb (hA b z).1
  have dictFree : ∀ {b : Addr} {o : Obj} {es : Array DictEntry} {ep : Nat}, s₁.heap.get? b = some o → o.data = .dict es ep → H b = none := by
    intro b o es ep e d
    refine free b fun z => ?_
    subst z
    cases hobj.symm.trans e
    cases d
  have toBase : ∀ {b : Addr} {m : Str → Option Value}, s₁.heap.Ns b m → (hidT s₁.heap H).Ns b m := by
    rintro b m ⟨o, es, ep, e, d, r⟩
    exact ⟨o, es, ep, hidT_get e (dictFree e d), d, r⟩
  have kin : K.In (hidT s₁.heap H) := by
    intro b o e
    refine hidT_get (KX b o e) (Classical.byContradiction fun z => ?_)
    obtain ⟨rfl, n⟩ := hA b z
    exact nomatch n.symm.trans e
  have nolim : (hidT s₁.heap H).NoLimit := by
    obtain ⟨mc, h1, h2⟩ := hlim
    exact ⟨mc, toBase h1, h2⟩
  have env : Env0 P w K mg (hidT s₁.heap H) callerA [] s₁ H := {
    frames := rfl
    mod := ⟨kin, toBase hns, ⟨mb, toBase hb, hbb⟩, nolim⟩
    bs := fun b o e => of_hidT e
    bsz := Nat.le_of_eq (hidT_size _ _)
    funs := trivial
    frf := fun b hb => nomatch hb
    hok := hok
    bare := .of_eq hg }
  refine codeAny_mono ((F _ kin (toBase hns)).run callerA [] s₁ H _ [.ref a] [.ref a] _ _ rfl hr env (hbind s₁ (.ref a)) (.cons rfl .nil) hsp) ?_
  intro r s' h
  match r, h with
  | .error e, h => exact (hCX e s' h).elim
  | .ok (.ret u), ⟨v, H', os, bare, un, hok', rv, hv⟩ =>
    have hv' : v = .bl true := hv
    subst hv'
    have hu : u = Value.bool true := rv
    subst hu
    refine ⟨rfl, .of_keep fun b o e => ?_, os, bare⟩
    rcases hO b with n | ⟨ob, xs, z⟩
    · exact un.keep b o e n (fun q => nomatch q) (fun q => nomatch q)
    · have p1 := (hok b _ z).1
      have p2 := (hok' b _ (un.frzs b ob _ z)).1
      cases e.symm.trans p1
      exact p2

theorem lawG_call (KX : K.In s₁.heap) (hns : s₁.heap.Ns mainGlobals mg) (hb : s₁.heap.Ns builtinsNs mb) (hbb : ∀ x : Str, x ≠ "__name__" → mb x = bootBuiltins x) (hlim : s₁.heap.NoLimit) (hg : s₁.gens = #[])
    (hobj : s₁.heap.get? a = some { cls := .type "list", data := .seq vs.toArray }) (hi : IntsAre vs ns) (hl : ns.length ≤ sizeLine) (hr : Room k callerA)
    (F : ∀ base : Heap, K.In base → base.Ns mainGlobals mg → FnG P w K mg base CX k fa fd [x] sp) (hbind : ∀ (s : Shared) (u : Value), BindsTo s fd ⟨[u], []⟩ [(x, u)])
    (hsp : ∀ H : Hp, Only H → SqL K H a (ns.map V.int) → sp [.ref a] H (fun v _ => v = .bl true) fun _ _ _ => False)
    (hCX : ∀ H e s', CX [] H s₁ (fun _ _ _ => False) e s' → False) :
    codeAny (model P w) callerA (.call (.ref fa) ⟨[.ref a], []⟩) (LawEnd s₁) s₁ := by
  have rv := vals_ints hi
  have lenV := hi.length
  cases hk : K.lookup a with
  | some o =>
    cases hobj.symm.trans (KX a o hk)
    have hO : Only fun _ => none := fun _ => .inl rfl
    refine lawG_at (fun _ => none) KX hns hb hbb hlim hg hobj hr F hbind hO (fun b u z => nomatch z) (fun b z => absurd rfl z) (hsp _ hO ?_) (hCX _)
    exact .inr ⟨_, vs.toArray, _, hk, rfl, rfl, rfl, by rw [List.size_toArray, lenV]; exact hl, by simpa using rv⟩
  | none =>
    let ob : Obj := { cls := .type "list", data := .seq vs.toArray }
    let H : Hp := fun b => if b = a then some (.frz ob (.lst (ns.map V.int))) else none
    have at_ : H a = some (.frz ob (.lst (ns.map V.int))) := if_pos rfl
    have off : ∀ b, b ≠ a → H b = none := fun b h => if_neg h
    have hO : Only H := fun b => by
      by_cases h : b = a
      · subst h; exact .inr ⟨_, _, at_⟩
      · exact .inl (off b h)
    refine lawG_at H KX hns hb hbb hlim hg hobj hr F hbind hO ?_ ?_ (hsp H hO (.inl (.inr ⟨ob, at_⟩))) (hCX H)
    · intro b u z
      by_cases h : b = a
      · subst h
        cases at_.symm.trans z
        exact ⟨hobj, by rw [List.length_map]; exact hl, vs, _, rv, hobj⟩
      · exact nomatch (off b h).symm.trans z
    · intro b z
      exact ⟨Classical.byContradiction fun h => z (off b h), hk⟩
end

/-- the end of a law's row, with the script's bits, where the law's promise knows that no repr is around -/
theorem walk_G {l : PySem.W.OpenLaw} {k : Nat} {q : Program} {loose : List Str} {XP : (Str → Option Value) → Heap → Prop} {YP : World → Heap → Prop} {d : DefRec} {K : Params → PySem.W.Frag} {CX : World → CXT} {sp : World → Sp}
    (hn : l.most = some 63) (hdf : d.params.defaults = []) (hr : Room k callerA) (hY : ∀ (w : World) (h : Heap), YP w h → (K w.params).In h)
    (F : ∀ (w : World) (mg : Str → Option Value) (fa : Addr) (h : Heap), (K w.params).In h → h.Ns mainGlobals mg → mg d.name = some (.ref fa) →
      ∃ fd : FuncData, (∀ (s : Shared) (u : Value), BindsTo s fd ⟨[u], []⟩ [("script", u)]) ∧
        ∀ base : Heap, (K w.params).In base → base.Ns mainGlobals mg → FnG l.prog w (K w.params) mg base (CX w) k fa fd ["script"] (sp w))
    (hsp : ∀ (w : World) (H : Hp) (a : Addr) (ns : List Int), ns.length ≤ 63 → (∀ z ∈ ns, Builtin.Int.intBits z ≤ 1048576) → Only H → SqL (K w.params) H a (ns.map V.int) →
      sp w [.ref a] H (fun v _ => v = .bl true) fun _ _ _ => False)
    (hCX : ∀ (w : World) (H : Hp) (s : Shared) (e : Value) (s' : Shared), CX w [] H s (fun _ _ _ => False) e s' → False) :
    PySem.W.WalkO q loose XP YP l.row.toRowW d [] (fun f vs => PySem.call f vs) := by
  refine Att.attach_callB hn hdf ?_
  intro w s₀ s₁ mg mb fa o pm cd doc a vs ns G Y ho hd hcd hmg hobj hints hlen hbits hg
  obtain ⟨fd, hb, hF⟩ := F w mg fa _ (hY w _ Y) G.T.g hmg
  exact lawG_call (hY w _ Y) G.T.g G.T.b G.T.builtins G.T.nolimit hg hobj hints (Nat.le_trans hlen (by decide)) hr hF hb (fun H hO hS => hsp w H a ns hlen hbits hO hS) fun H e s' => hCX w H s₁ e s'
end Tk

set_option Elab.async false
set_option linter.all false
set_option maxRecDepth 100000
set_option maxHeartbeats 4000000
namespace Tk
open PySem PySem.Spec PyProof.Rows L2
/-! ### what the top has written -/
section
variable {K : PySem.W.Frag} {h : Heap} {mg : Str → Option Value} {w : World}
theorem funAt_mk {x : Str} {st : Stmt} {f : Addr} {oc : Value} {od an : Option Addr} {osl : Array (Option Value)} {kV doc pm cdv ct : Value} (X : K.In h) (G : h.Ns mainGlobals mg)
    (a : PySem.W.nsIn K mainGlobals x = some (some (.ref f))) (l : K.lookup f = some ⟨oc, od, .func (PySem.W.fnOf x x (defArgs st) (defBody st) (defScope st) .none kV doc pm an cdv ct), osl⟩)
    (c : PySem.W.codeIn K cdv x = true) (k : PySem.W.keepIn K (.ref f) = true) : FunAt K mg x st := ⟨_, _, PySem.W.mg_of X G a, fun_mk l c k⟩
theorem defAt_mk {x : Str} {st : Stmt} {f T : Addr} {oc o1 : Value} {od an o2 : Option Addr} {osl o3 : Array (Option Value)} {kV doc pm cdv ct : Value} {its : Array Value} {n : Nat} {dvs : List V} (X : K.In h) (G : h.Ns mainGlobals mg)
    (a : PySem.W.nsIn K mainGlobals x = some (some (.ref f))) (l : K.lookup f = some ⟨oc, od, .func (PySem.W.fnOf x x (defArgs st) (defBody st) (defScope st) (.ref T) kV doc pm an cdv ct), osl⟩)
    (c : PySem.W.codeIn K cdv x = true) (k : PySem.W.keepIn K (.ref f) = true) (lT : K.lookup T = some ⟨o1, o2, .seq its n, o3⟩) (rv : Vals dvs its.toList) (ne : dvs ≠ []) : DefAt K mg x st dvs :=
  ⟨_, _, PySem.W.mg_of X G a, ⟨⟨oc, od, _, kV, doc, pm, an, cdv, ct, osl, rfl, l, c, .inr ⟨ne, T, _, its.toList, n, rfl, lT, by simp, rv⟩, .inl rfl⟩, k⟩⟩
theorem ktab_mk {d : Addr} {tab : List (Str × Int)} {es : Array DictEntry} {n : Nat} (l : K.lookup d = some ⟨.type "dict", none, .dict es n, #[]⟩) (e : EntsAre w.params es.toList tab) (z : (d == sysModules) = false) : KTab K w d tab := ⟨⟨es, n, l, e⟩, z⟩
theorem tabs_mk {a b c : Addr} (X : K.In h) (G : h.Ns mainGlobals mg) (ga : PySem.W.nsIn K mainGlobals "SIZES" = some (some (.ref a))) (gb : PySem.W.nsIn K mainGlobals "MORE_SIZES" = some (some (.ref b))) (gc : PySem.W.nsIn K mainGlobals "LAST_SIZES" = some (some (.ref c)))
    (ta : KTab K w a tabA) (tb : KTab K w b tabB) (tc : KTab K w c tabC) : Tk.Tabs K w mg := ⟨a, b, c, PySem.W.mg_of X G ga, PySem.W.mg_of X G gb, PySem.W.mg_of X G gc, ta, tb, tc⟩
theorem noGl_mk (X : K.In h) (G : h.Ns mainGlobals mg) (a1 : PySem.W.nsIn K mainGlobals "len" = some none) (a2 : PySem.W.nsIn K mainGlobals "int" = some none) (a3 : PySem.W.nsIn K mainGlobals "range" = some none) (a4 : PySem.W.nsIn K mainGlobals "isinstance" = some none) (a5 : PySem.W.nsIn K mainGlobals "bool" = some none) (a6 : PySem.W.nsIn K mainGlobals "list" = some none) (a7 : PySem.W.nsIn K mainGlobals "tuple" = some none) (a8 : PySem.W.nsIn K mainGlobals "str" = some none) (a9 : PySem.W.nsIn K mainGlobals "all" = some none) (a10 : PySem.W.nsIn K mainGlobals "zip" = some none) (a11 : PySem.W.nsIn K mainGlobals "sorted" = some none)
    (a12 : PySem.W.nsIn K mainGlobals "max" = some none) (a13 : PySem.W.nsIn K mainGlobals "min" = some none) (a14 : PySem.W.nsIn K mainGlobals "repr" = some none) : NoGl mg :=
  ⟨PySem.W.mg_none_of X G a1, PySem.W.mg_none_of X G a2, PySem.W.mg_none_of X G a3, PySem.W.mg_none_of X G a4, PySem.W.mg_none_of X G a5, PySem.W.mg_none_of X G a6, PySem.W.mg_none_of X G a7, PySem.W.mg_none_of X G a8, PySem.W.mg_none_of X G a9,
    PySem.W.mg_none_of X G a10, PySem.W.mg_none_of X G a11, PySem.W.mg_none_of X G a12, PySem.W.mg_none_of X G a13, PySem.W.mg_none_of X G a14⟩
theorem excG_mk {x : Str} {C : Addr} (X : K.In h) (G : h.Ns mainGlobals mg) (g : PySem.W.nsIn K mainGlobals x = some (some (.ref C))) (ex : PySem.W.excIn K C [.type "ValueError", .type "Exception", .type "BaseException", .type "object"] "ValueError.__new__" = true)
    (kp : PySem.W.keepIn K (.ref C) = true) (sub : PySem.W.subIn K (.ref C) (.type "BaseException") = some true) (ty : PySem.W.typeIn K (.ref C) = some (.type "type")) : ExcC K mg x C := ⟨PySem.W.mg_of X G g, ex, kp, sub, ty⟩
theorem errF_mk {C0 D : Addr} {cs : List (Addr × Bool)} (b0 : PySem.W.subIn K (.ref C0) (.type "BaseException") = some true) (d0 : PySem.W.hasDictIn K C0 = true) (t0 : PySem.W.typeIn K (.ref C0) = some (.type "type")) (s0 : PySem.W.subIn K (.ref D) (.ref C0) = some true)
    (h1 : PySem.W.findIn K (.ref D) "__getattribute__" = some (some (.builtin "BaseException.__getattribute__"))) (h2 : PySem.W.findIn K (.ref D) "__getattr__" = some none) (h3 : PySem.W.subIn K (.ref D) (.type "BaseException") = some true) (h4 : PySem.W.hasDictIn K D = true)
    (h5 : PySem.W.findIn K (.ref D) "__class__" = some (some (.builtin "object.__class__"))) (h6 : PySem.W.specialIn K (.builtin "object.__class__") "__get__" = some (some (.builtin "getset_descriptor.__get__"))) (h7 : PySem.W.takesIn K (.builtin "object.__class__") = some true)
    (h8 : PySem.W.mroIn K D (.type "object") = some true) (kit : ∀ p ∈ cs, PySem.W.kitOne K (.ref D) (.ref p.1) = some p.2) : ErrF K C0 D cs := ⟨PySem.W.exm_ref b0 d0 t0 s0, ⟨h1, h2, h3, h4, h5, h6, h7, h8⟩, kit⟩
theorem kit_self {D : Addr} : PySem.W.kitOne K (.ref D) (.ref D) = some true := by
  unfold PySem.W.kitOne
  rw [if_pos (by simp)]
theorem kit_no {D C : Addr} (n : D ≠ C) (c : PySem.W.isClsIn K C = true) (ty : PySem.W.typeIn K (.ref C) = some (.type "type")) (s : PySem.W.subIn K (.ref D) (.ref C) = some false) : PySem.W.kitOne K (.ref D) (.ref C) = some false := by
  have e : ((PySem.W.clsIn K C).isSome && PySem.W.typeIn K (.ref C) == some (.type "type")) = true := by
    have c' : (PySem.W.clsIn K C).isSome = true := c
    rw [c', ty] <;> rfl
  unfold PySem.W.kitOne PySem.W.kitCls
  rw [if_neg (by simpa using n)]
  show (if ((PySem.W.clsIn K C).isSome && PySem.W.typeIn K (.ref C) == some (.type "type")) = true then PySem.W.subIn K (.ref D) (.ref C) else none) = some false
  rw [if_pos e]
  exact s
theorem kit2 {D a b : Addr} {x y : Bool} (h1 : PySem.W.kitOne K (.ref D) (.ref a) = some x) (h2 : PySem.W.kitOne K (.ref D) (.ref b) = some y) : ∀ p ∈ [(a, x), (b, y)], PySem.W.kitOne K (.ref D) (.ref p.1) = some p.2 := by
  intro p hp
  rcases List.mem_cons.mp hp with rfl | hp
  · exact h1
  · obtain rfl := List.mem_singleton.mp hp; exact h2
theorem oex_mk {C : Addr} {nm q : Str} {N : Addr} {bs bm : List Value} {sn sub ab col dd k0 k1 k2 k3 k5} (lC : K.lookup C = some (excClassObj nm q C N bs bm true sn sub ab col dd k0 k1 k2 k3 k5 "ValueError.__new__")) (r : PySem.HandSPX.refsVE bm = true)
    (sa : PySem.W.findIn K (.ref C) "__setattr__" = some (some (.builtin "object.__setattr__"))) (exC : PySem.W.subIn K (.ref C) (.type "BaseException") = some true) (tyC : PySem.W.typeIn K (.ref C) = some (.type "type")) (kC : PySem.W.keepIn K (.ref C) = true) : OexC K C :=
  ⟨⟨nm, q, N, bs, bm, sn, sub, ab, col, dd, k0, k1, k2, k3, k5, lC, r⟩, sa, exC, tyC, kC⟩
theorem initF_mk {P : Program} {C fI cda cc : Addr} {dV kV doc pm ct : Value} {an : Option Addr} {oc c1 d1 : Value} {od c2 d2 : Option Addr} {osl c3 d3 : Array (Option Value)} {vs : Array Value} {file : Str} {tf : Tok} (lk : K.lookup fI = some ⟨oc, od, .func (PySem.W.ksFn "__init__" "NoRow.__init__" (defArgs s_NoRow___init__) (defBody s_NoRow___init__) (defScope s_NoRow___init__) dV kV doc pm an (.ref cda) ct cc), osl⟩)
    (code : PySem.W.codeIn K (.ref cda) "NoRow.__init__" = true) (lc : K.lookup cda = some ⟨c1, c2, .fields vs, c3⟩) (hv : (vs[2]? : Option Value) = some (.str file tf)) (hf : ((P.main.file : Str) == file) = true)
    (cell : K.lookup cc = some ⟨d1, d2, .cell (some (.ref C)), d3⟩) : InitF P K C fI cda cc dV kV doc pm ct an := ⟨⟨oc, od, osl, lk⟩, code, ⟨_, _, _, _, _, _, lc, hv, hf⟩, ⟨_, _, _, cell⟩⟩
theorem noRow_mk {P : Program} {C fI cda cc T : Addr} {kV doc pm ct o1 : Value} {an o2 : Option Addr} {o3 : Array (Option Value)} {its : Array Value} {n : Nat} (X : K.In h) (G : h.Ns mainGlobals mg) (g : PySem.W.nsIn K mainGlobals "NoRow" = some (some (.ref C))) (R : RowC P K C fI)
    (F : InitF P K C fI cda cc (.ref T) kV doc pm ct an) (lT : K.lookup T = some ⟨o1, o2, .seq its n, o3⟩) (rv : Vals [V.int 0] its.toList) : NoRowX P K mg C :=
  ⟨PySem.W.mg_of X G g, fI, cda, cc, T, kV, doc, pm, ct, an, _, its.toList, n, R, F, lT, by simp, rv⟩
theorem law_fd {P : Program} {fa C0 CR CC : Addr} {tk : Tok} (X : K.In h) (G : h.Ns mainGlobals mg) (hfa : mg "law" = some (.ref fa)) (N : NoGl mg) (nabs : PySem.W.nsIn K mainGlobals "abs" = some none) (nenum : PySem.W.nsIn K mainGlobals "enumerate" = some none)
    (ND : NoDig K) (gM : PySem.W.nsIn K mainGlobals "MOST_DIGITS" = some (some (.int 1000 tk))) (T : Tk.Tabs K w mg)
    (g0 : PySem.W.nsIn K mainGlobals "KernelError" = some (some (.ref C0))) (NR : NoRowX P K mg CR) (EC : ExcC K mg "NoCall" CC)
    (r1 : ErrF K C0 CR [(CR, true), (CC, false)]) (r2 : ErrF K C0 CC [(CC, true), (CR, false)]) (xf : XfC K CR) (noL : PySem.W.findIn K (.ref CR) "line" = some none)
    (D1 : DefAt K mg "is_whole" s_is_whole [.non]) (F1 : FunAt K mg "power" s_power) (F2 : FunAt K mg "size_of" s_size_of) (F3 : FunAt K mg "is_row" s_is_row) (F4 : FunAt K mg "check_log" s_check_log) (F5 : FunAt K mg "is_short" s_is_short)
    (F6 : FunAt K mg "is_clock_pair" s_is_clock_pair) (F7 : FunAt K mg "word_of" s_word_of) (F8 : FunAt K mg "show_log" s_show_log) (F9 : FunAt K mg "number_of" s_number_of) (F10 : FunAt K mg "thing_of" s_thing_of) (F11 : FunAt K mg "read_log" s_read_log)
    (F12 : FunAt K mg "_law_cell_at" s__law_cell_at) (F13 : FunAt K mg "_law_mixed" s__law_mixed) (F14 : FunAt K mg "_law_source" s__law_source) (F15 : FunAt K mg "_law_next" s__law_next) (F16 : FunAt K mg "_law_sizes" s__law_sizes) (F17 : FunAt K mg "_law_thing" s__law_thing)
    (F18 : FunAt K mg "_law_word" s__law_word) (F19 : FunAt K mg "_law_any_rows" s__law_any_rows) (F20 : FunAt K mg "_law_text" s__law_text) (F21 : FunAt K mg "_law_is_number" s__law_is_number) (F22 : FunAt K mg "_law_is_thing" s__law_is_thing)
    (F23 : FunAt K mg "_law_wrong" s__law_wrong) (F24 : FunAt K mg "_law_spoilt" s__law_spoilt) (F25 : FunAt K mg "_law_said" s__law_said) (F26 : FunAt K mg "_law_long_right" s__law_long_right) (F27 : FunAt K mg "_law_refused" s__law_refused) (F28 : FunAt K mg "law" s_law) :
    ∃ fd : FuncData, (∀ (s : Shared) (v : Value), BindsTo s fd ⟨[v], []⟩ [("script", v)]) ∧ ∀ base : Heap, K.In base → base.Ns mainGlobals mg → FnG P w K mg base CX0 8 fa fd ["script"] (spLaw K) := by
  obtain ⟨f, fd, hm, F28⟩ := F28.ex
  cases hfa.symm.trans hm
  have Gabs := PySem.W.mg_none_of X G nabs
  have Genum := PySem.W.mg_none_of X G nenum
  have GM := PySem.W.mg_of X G gM
  have EK : ErrR K mg C0 CR CC := ⟨PySem.W.mg_of X G g0, NR.g, EC.g, r1, r2, xf, noL⟩
  refine ⟨fd, fun s v => ?_, fun base _ _ => ?_⟩
  · obtain ⟨oc, od, kV, doc, pm, an, cdv, ct, osl, rfl, _, _⟩ := F28.ex
    exact .of_eq rfl
  · have c1 : Cal P w K mg base CX0 1 "is_whole" ["thing", "least"] [.non] spWhole := ok_whole1 D1 N
    have c2 : Cal P w K mg base CX0 1 "power" ["number"] [] spPower := ok_power F1
    have c3 : Cal P w K mg base CX0 1 "size_of" ["name"] [] spSizeOf := ok_sizeOf F2 T
    have c4 := ok_isRow F3 N c3
    have c5 := ok_checkLog F4 N EC c4
    have c6 := ok_short F5 N Gabs GM ND c1 c2
    have c7 := ok_clk F6 N c6
    have c8 := ok_word F7 N ND EC c6 c7
    have c9 := ok_show F8 N c5 c8
    have c10 : Cal P w K mg base CX0 1 "number_of" ["word"] [] spNumOf := ok_numOf F9 N GM ND
    have c11 := ok_thing F10 N NR c10
    have c12 := ok_read F11 N Genum NR c3 c11
    have c13 : Cal P w K mg base CX0 1 "_law_cell_at" ["script", "k"] [] (spCellAt K) := ok_cellAt F12 N
    have c14 : Cal P w K mg base CX0 1 "_law_mixed" ["cell", "k"] [] spMixed := ok_mixed F13 N
    have c15 := ok_source F14 N c13 c14
    have c16 := draw_of (ok_next F15 N c14)
    have c17 : Cal P w K mg base CX0 1 "_law_sizes" [] [] spSizes := ok_sizes F16
    have c18 := ok_gTh F17 N c16
    have c19 : Cal P w K mg base CX0 1 "_law_word" ["thing"] [] spLWord := ok_lWord F18 N ND
    have c20 := ok_aRows F19 N c17 c16 c18
    have c21 := ok_lText F20 N c19
    have c22 : Cal P w K mg base CX0 1 "_law_is_number" ["word"] [] spLNum := ok_lNum F21 N
    have c23 := ok_lTh F22 N c22
    have c24 := ok_wrong F23 N Genum c17 c23
    have c25 := ok_spoilt F24 N c16
    have c26 := ok_said F25 N EK c12
    have c27 := ok_refused F27 N EK c9
    have c28 := ok_long F26 N c16 c26 c27 c9 c12
    exact ok_law F28 N c15 c16 c20 c21 c25 c26 c24 c27 c28 c9 c12
end
end Tk

set_option Elab.async false
set_option maxRecDepth 100000
set_option pp.deepTerms false
set_option pp.deepTerms.threshold 3
set_option pp.maxSteps 400
open PySem PySem.W PyProof.Rows
set_option maxRecDepth 100000 in
set_option maxHeartbeats 0 in
theorem PySem.Challenge.cw_timekernel_k88_texts_that_are_no_logs_holds : PySem.Challenge.rw_timekernel_k88_texts_that_are_no_logs.Holds := by
  w_on; o_law; k_head; (case hw => w_witness2)
  k_fill
  refine Tk.walk_G (l := PySem.Challenge.rw_timekernel_k88_texts_that_are_no_logs) (k := 8) (CX := fun _ => L2.CX0) (sp := fun w => Tk.spLaw _) rfl rfl ⟨rfl, by decide, by decide⟩ (fun w h Y => PySem.W.kIn_of Y) ?F (fun w H a ns hl _ _ hS => ⟨a, ns, rfl, hS, hl, fun _ => rfl⟩) fun _ _ _ _ _ z => z
  case F =>
    intro w mg fa h KX G hmg
    refine' Tk.law_fd KX G hmg ?xN ?xabs ?xenum ?xND ?xM ?xT ?xg0 ?xNR ?xEC ?xr1 ?xr2 ?xxf ?xnoL ?xD1 ?xF1 ?xF2 ?xF3 ?xF4 ?xF5 ?xF6 ?xF7 ?xF8 ?xF9 ?xF10 ?xF11 ?xF12 ?xF13 ?xF14 ?xF15 ?xF16 ?xF17 ?xF18 ?xF19 ?xF20 ?xF21 ?xF22 ?xF23 ?xF24 ?xF25 ?xF26 ?xF27 ?xF28
    case xNR => refine' Tk.noRow_mk KX G ?yg ?yR ?yF ?ylT ?yrv; (case yg => k_is); (case yR => refine' ⟨Tk.oex_mk ?ylC ?yr ?ysa ?yexC ?ytyC ?ykC, ?yb2, ?yb3, ?yb4, ?yb5, ?yb6, ?yb7, ?yb8, ?yb9, ?yb10⟩; (case yb9 => k_is); (case ylC => k_is); (case yr => decide +kernel); (case ysa => k_is); (case yexC => k_is); (case ytyC => k_is); (case ykC => k_is); (case yb2 => k_is); (case yb3 => kernel_rfl); (case yb4 => k_is); (case yb5 => k_is); (case yb6 => k_is); (case yb7 => rfl); (case yb8 => k_is); (case yb10 => k_is)); (case yF => refine' Tk.initF_mk ?ylk ?ycode ?ylc ?yhv ?yhf ?ycell; (case ylk => k_is); (case ycode => k_is); (case ylc => k_is); (case yhv => rfl); (case yhf => rfl); (case ycell => k_is)); (case ylT => k_is); (case yrv => exact .cons ⟨_, rfl⟩ .nil)
    case xND => unfold Tk.NoDig; k_is
    case xabs => k_is
    case xenum => k_is
    case xM => k_is
    case xg0 => k_is
    case xnoL => k_is
    case xxf => refine' ⟨?yx1, ?yx2, ?yx3, ?yx4⟩ <;> k_is
    case xN => refine' Tk.noGl_mk KX G ?ya1 ?ya2 ?ya3 ?ya4 ?ya5 ?ya6 ?ya7 ?ya8 ?ya9 ?ya10 ?ya11 ?ya12 ?ya13 ?ya14 <;> k_is
    case xEC => refine' Tk.excG_mk KX G ?yg ?yex ?ykp ?ysub ?yty; (case yg => k_is); (case yex => k_exc); (case ykp => k_is); (case ysub => k_is); (case yty => k_is)
    case xr1 => refine' Tk.errF_mk ?w1 ?w2 ?w3 ?w4 ?w5 ?w6 ?w7 ?w8 ?w9 ?w10 ?w11 ?w12 (Tk.kit2 Tk.kit_self (Tk.kit_no ?n1 ?c1 ?t1 ?s1)); (case w1 => k_is); (case w2 => k_is); (case w3 => k_is); (case w4 => k_is); (case w5 => k_is); (case w6 => k_is); (case w7 => k_is); (case w8 => k_is); (case w9 => k_is); (case w10 => k_is); (case w11 => k_is); (case w12 => k_is); (case n1 => decide); (case c1 => k_is); (case t1 => k_is); (case s1 => k_is)
    case xr2 => refine' Tk.errF_mk ?w1 ?w2 ?w3 ?w4 ?w5 ?w6 ?w7 ?w8 ?w9 ?w10 ?w11 ?w12 (Tk.kit2 Tk.kit_self (Tk.kit_no ?n1 ?c1 ?t1 ?s1)); (case w1 => k_is); (case w2 => k_is); (case w3 => k_is); (case w4 => k_is); (case w5 => k_is); (case w6 => k_is); (case w7 => k_is); (case w8 => k_is); (case w9 => k_is); (case w10 => k_is); (case w11 => k_is); (case w12 => k_is); (case n1 => decide); (case c1 => k_is); (case t1 => k_is); (case s1 => k_is)
    case xT => refine' Tk.tabs_mk KX G ?yga ?ygb ?ygc ?yta ?ytb ?ytc; (case yga => k_is); (case ygb => k_is); (case ygc => k_is); (case yta => (refine' Tk.ktab_mk ?yl ?ye ?yz; (case yl => k_is); (case ye => exact ⟨⟨⟨_, rfl⟩, rfl, _, rfl⟩, ⟨⟨_, rfl⟩, rfl, _, rfl⟩, ⟨⟨_, rfl⟩, rfl, _, rfl⟩, ⟨⟨_, rfl⟩, rfl, _, rfl⟩, ⟨⟨_, rfl⟩, rfl, _, rfl⟩, ⟨⟨_, rfl⟩, rfl, _, rfl⟩, ⟨⟨_, rfl⟩, rfl, _, rfl⟩, ⟨⟨_, rfl⟩, rfl, _, rfl⟩, ⟨⟨_, rfl⟩, rfl, _, rfl⟩, trivial⟩); (case yz => rfl))); (case ytb => (refine' Tk.ktab_mk ?yl ?ye ?yz; (case yl => k_is); (case ye => exact ⟨⟨⟨_, rfl⟩, rfl, _, rfl⟩, ⟨⟨_, rfl⟩, rfl, _, rfl⟩, ⟨⟨_, rfl⟩, rfl, _, rfl⟩, ⟨⟨_, rfl⟩, rfl, _, rfl⟩, ⟨⟨_, rfl⟩, rfl, _, rfl⟩, ⟨⟨_, rfl⟩, rfl, _, rfl⟩, ⟨⟨_, rfl⟩, rfl, _, rfl⟩, ⟨⟨_, rfl⟩, rfl, _, rfl⟩, trivial⟩); (case yz => rfl))); (case ytc => (refine' Tk.ktab_mk ?yl ?ye ?yz; (case yl => k_is); (case ye => exact ⟨⟨⟨_, rfl⟩, rfl, _, rfl⟩, ⟨⟨_, rfl⟩, rfl, _, rfl⟩, ⟨⟨_, rfl⟩, rfl, _, rfl⟩, ⟨⟨_, rfl⟩, rfl, _, rfl⟩, ⟨⟨_, rfl⟩, rfl, _, rfl⟩, ⟨⟨_, rfl⟩, rfl, _, rfl⟩, trivial⟩); (case yz => rfl)))
    case xD1 => refine' Tk.defAt_mk KX G ?ya ?yl ?yc ?yk ?ylT ?yrv ?yne; (case ya => k_is); (case yl => k_is); (case yc => k_is); (case yk => k_is); (case ylT => k_is); (case yrv => exact .cons rfl .nil); (case yne => exact fun z => nomatch z)
    case xF1 => refine' Tk.funAt_mk KX G ?ya ?yl ?yc ?yk; (case ya => k_is); (case yl => k_is); (case yc => k_is); (case yk => k_is)
    case xF2 => refine' Tk.funAt_mk KX G ?ya ?yl ?yc ?yk; (case ya => k_is); (case yl => k_is); (case yc => k_is); (case yk => k_is)
    case xF3 => refine' Tk.funAt_mk KX G ?ya ?yl ?yc ?yk; (case ya => k_is); (case yl => k_is); (case yc => k_is); (case yk => k_is)
    case xF4 => refine' Tk.funAt_mk KX G ?ya ?yl ?yc ?yk; (case ya => k_is); (case yl => k_is); (case yc => k_is); (case yk => k_is)
    case xF5 => refine' Tk.funAt_mk KX G ?ya ?yl ?yc ?yk; (case ya => k_is); (case yl => k_is); (case yc => k_is); (case yk => k_is)
    case xF6 => refine' Tk.funAt_mk KX G ?ya ?yl ?yc ?yk; (case ya => k_is); (case yl => k_is); (case yc => k_is); (case yk => k_is)
    case xF7 => refine' Tk.funAt_mk KX G ?ya ?yl ?yc ?yk; (case ya => k_is); (case yl => k_is); (case yc => k_is); (case yk => k_is)
    case xF8 => refine' Tk.funAt_mk KX G ?ya ?yl ?yc ?yk; (case ya => k_is); (case yl => k_is); (case yc => k_is); (case yk => k_is)
    case xF9 => refine' Tk.funAt_mk KX G ?ya ?yl ?yc ?yk; (case ya => k_is); (case yl => k_is); (case yc => k_is); (case yk => k_is)
    case xF10 => refine' Tk.funAt_mk KX G ?ya ?yl ?yc ?yk; (case ya => k_is); (case yl => k_is); (case yc => k_is); (case yk => k_is)
    case xF11 => refine' Tk.funAt_mk KX G ?ya ?yl ?yc ?yk; (case ya => k_is); (case yl => k_is); (case yc => k_is); (case yk => k_is)
    case xF12 => refine' Tk.funAt_mk KX G ?ya ?yl ?yc ?yk; (case ya => k_is); (case yl => k_is); (case yc => k_is); (case yk => k_is)
    case xF13 => refine' Tk.funAt_mk KX G ?ya ?yl ?yc ?yk; (case ya => k_is); (case yl => k_is); (case yc => k_is); (case yk => k_is)
    case xF14 => refine' Tk.funAt_mk KX G ?ya ?yl ?yc ?yk; (case ya => k_is); (case yl => k_is); (case yc => k_is); (case yk => k_is)
    case xF15 => refine' Tk.funAt_mk KX G ?ya ?yl ?yc ?yk; (case ya => k_is); (case yl => k_is); (case yc => k_is); (case yk => k_is)
    case xF16 => refine' Tk.funAt_mk KX G ?ya ?yl ?yc ?yk; (case ya => k_is); (case yl => k_is); (case yc => k_is); (case yk => k_is)
    case xF17 => refine' Tk.funAt_mk KX G ?ya ?yl ?yc ?yk; (case ya => k_is); (case yl => k_is); (case yc => k_is); (case yk => k_is)
    case xF18 => refine' Tk.funAt_mk KX G ?ya ?yl ?yc ?yk; (case ya => k_is); (case yl => k_is); (case yc => k_is); (case yk => k_is)
    case xF19 => refine' Tk.funAt_mk KX G ?ya ?yl ?yc ?yk; (case ya => k_is); (case yl => k_is); (case yc => k_is); (case yk => k_is)
    case xF20 => refine' Tk.funAt_mk KX G ?ya ?yl ?yc ?yk; (case ya => k_is); (case yl => k_is); (case yc => k_is); (case yk => k_is)
    case xF21 => refine' Tk.funAt_mk KX G ?ya ?yl ?yc ?yk; (case ya => k_is); (case yl => k_is); (case yc => k_is); (case yk => k_is)
    case xF22 => refine' Tk.funAt_mk KX G ?ya ?yl ?yc ?yk; (case ya => k_is); (case yl => k_is); (case yc => k_is); (case yk => k_is)
    case xF23 => refine' Tk.funAt_mk KX G ?ya ?yl ?yc ?yk; (case ya => k_is); (case yl => k_is); (case yc => k_is); (case yk => k_is)
    case xF24 => refine' Tk.funAt_mk KX G ?ya ?yl ?yc ?yk; (case ya => k_is); (case yl => k_is); (case yc => k_is); (case yk => k_is)
    case xF25 => refine' Tk.funAt_mk KX G ?ya ?yl ?yc ?yk; (case ya => k_is); (case yl => k_is); (case yc => k_is); (case yk => k_is)
    case xF26 => refine' Tk.funAt_mk KX G ?ya ?yl ?yc ?yk; (case ya => k_is); (case yl => k_is); (case yc => k_is); (case yk => k_is)
    case xF27 => refine' Tk.funAt_mk KX G ?ya ?yl ?yc ?yk; (case ya => k_is); (case yl => k_is); (case yc => k_is); (case yk => k_is)
    case xF28 => refine' Tk.funAt_mk KX G ?ya ?yl ?yc ?yk; (case ya => k_is); (case yl => k_is); (case yc => k_is); (case yk => k_is)
