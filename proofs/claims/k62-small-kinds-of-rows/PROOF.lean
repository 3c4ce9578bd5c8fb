import PyProof.Rows.All
import Wide.All
import OpenK.AllK
import Wide.FinOn
import HandS.ForMost
import HandS.Defaults
import HandS.EndBits
import HandS.More
import PySem.Challenge.RW_waitwords_k62_whole_small_kinds_of_rows
import HandS.Head0
import HandS.Head1
import HandS.Head2
import HandS.HeadEnd
import HandS.HeadHook1
import HandS.HeadHook2
import HandS.HeadHook3
import KE.KStateDown
import Lean
import HandS.Star
import HandS.TupAny
import HandS.Style
import HandS.Wide
import HandS.Codes
import HandS.Conv
import HandS.Replace
import PyProof.ReprRoads
import PyProof.Rows.RuleB_pow
import HandS.Walk
import PyProof.StrCalls6
import PyProof.Rows.StrStrike
import KE.GoesRev
import PyProof.ListRange
import PyProof.Rows.StrLawsPart
import PyProof.StrLawsIn
import PyProof.ReprText
import PyProof.Rows.ReprOcc
import KE.KDictKeyed
import KE.GoesEnum
import HandS.SortRule
import HandS.SortKw
import KE.SortUse
import PyProof.Rows.SortKeyStr
import HandS.SetTxt0
import HandS.SetTxtIn
import HandS.TupSets
import HandS.SetFor
import PyProof.CollectStr
import PyProof.Rows.SortStr
import HandS.Zip
import HandS.Ends
set_option Elab.async false
set_option linter.all false
set_option maxRecDepth 100000
/-! The layer's calls with what is known of guards (repr asks it): FnG, GCal, GMet. -/
namespace L2.G
open PySem PySem.Spec PyProof.Rows
/-- room, and no repr is running -/
structure RoomG (k : Nat) (A : Around) : Prop where
  r : Room k A
  g : A.guards = some []
theorem RoomG.mono {j k : Nat} {A : Around} (h : RoomG k A) (hk : j ≤ k) : RoomG j A := ⟨h.r.mono hk, h.g⟩
theorem RoomG.deeper {k : Nat} {A : Around} (h : RoomG (k + 1) A) (env : Env) : RoomG k (A.deeper env) := ⟨h.r.deeper env, h.g⟩
theorem make_guards {A : Around} {C : Addr} {us : List Value} {kw : List (Str × Value)} : (A.under (.builtin "type.__call__" ⟨.ref C :: us, kw⟩)).guards = A.guards := by
  have hg : (Code.builtin "type.__call__" ⟨.ref C :: us, kw⟩).guards = [] := by
    first | rfl | simp [Code.guards, Code.isGuard, guardIds]
  show pushGuards (Code.builtin "type.__call__" ⟨.ref C :: us, kw⟩).guards A.guards = A.guards
  rw [hg]
  rfl
theorem RoomG.make {k : Nat} {A : Around} (h : RoomG (k + 1) A) (C : Addr) (us : List Value) (kw : List (Str × Value)) : RoomG k (A.under (.builtin "type.__call__" ⟨.ref C :: us, kw⟩)) :=
  ⟨h.r.make C us kw, by rw [make_guards]; exact h.g⟩
/-- a promise: the arguments, the heap, what is wanted of the value and the heap -/
abbrev SpG := List V → Hp → VK → Prop
structure FnG (P : Program) (w : World) (K : PySem.W.Frag) (mg : Str → Option Value) (base : Heap) (k : Nat) (f : Addr) (fd : FuncData) (ps : List Str) (sp : SpG) : Prop where
  len : ∀ vs H Q, sp vs H Q → vs.length = ps.length
  run : ∀ (A : Around) (outer : List Env) (s : Shared) (H : Hp) (args : Args) (us : List Value) (vs : List V) (Q : VK), RoomG k A → Env0 P w K mg base A outer s H → BindsTo s fd args (ps.zip us) → Vals vs us → sp vs H Q →
    codeAny (model P w) A (.call (.ref f) args) (CR CX0 outer P w H s Q E0) s
section
variable {P : Program} {w : World} {K : PySem.W.Frag} {mg : Str → Option Value} {base : Heap}
theorem FnG.mono {j k : Nat} {f : Addr} {fd : FuncData} {ps : List Str} {sp : SpG} (F : FnG P w K mg base j f fd ps sp) (h : j ≤ k) : FnG P w K mg base k f fd ps sp :=
  ⟨F.len, fun A outer s H args us vs Q hr => F.run A outer s H args us vs Q (hr.mono h)⟩
/-- nothing is promised: of any def -/
theorem FnG.none {k : Nat} {f : Addr} {fd : FuncData} {ps : List Str} {sp : SpG} (h : ∀ vs H Q, ¬ sp vs H Q) : FnG P w K mg base k f fd ps sp :=
  ⟨fun vs H Q q => absurd q (h vs H Q), fun _ _ _ H _ _ vs Q _ _ _ _ q => absurd q (h vs H Q)⟩
/-- a def by its body -/
theorem fn_ofG {k : Nat} {f : Addr} {name qual : Str} {params : Arguments} {body : List Stmt} {scope : Scope} {dV kV doc pm cdv ct oc : Value} {an od : Option Addr}
    {osl : Array (Option Value)} {N ps : List Str} {sp : SpG} (lk : K.lookup f = some ⟨oc, od, .func (PySem.W.fnOf name qual params body scope dV kV doc pm an cdv ct), osl⟩) (hcd : PySem.W.codeIn K cdv qual = true) (S : FnScope N ps scope)
    (len : ∀ vs H Q, sp vs H Q → vs.length = ps.length)
    (hbody : ∀ (A : Around) (outer : List Env) (s : Shared) (H : Hp) (vs : List V) (Q : VK), RoomG k (A.deeper (envOfC qual scope s.heap.objs.size f cdv)) → sp vs H Q →
      ∃ t, PSs (cxOf CX0 P w K mg base N qual scope f cdv A outer s H E0).nox body t ∧ t { nx := fun _ H' => Q .non H', rt := Q } (start N vs) H) :
    FnG P w K mg base (k + 1) f (PySem.W.fnOf name qual params body scope dV kV doc pm an cdv ct) ps sp := by
  refine ⟨len, fun A outer s H args us vs Q hr e0 hb r hsp => ?_⟩
  have hl := len _ _ _ hsp
  have KX : K.In s.heap := e0.mod.kin.keeps fun b o e => (e0.bs b o e).1
  have lim : s.heap.NoLimit := e0.mod.nolimit.keeps fun b o e => (e0.bs b o e).1
  have hkind : ∀ y ∈ ps.zip us, scope.names.lookup y.1 = some .local ∨ (scope.names.lookup y.1 = some .cell ∧ ((cellsFrom (s.heap.objs.size + 1) scope.names []).lookup y.1).isSome = true) := fun ⟨n, v⟩ hy => by
    rcases S.par n (List.of_mem_zip hy).1 with q | q
    · exact .inl q
    · exact .inr ⟨q, PySem.W.cellsFrom_some _ _ _ (.inl q)⟩
  refine codeAny_call_function hr.r.depth (KX _ _ lk) rfl S.co S.gen rfl (PySem.W.codeRec_of KX hcd) (hb _ _ _ _ ?_)
  refine wpAny_newFunctionEnv_cells S.kind hkind fun env he s1 x => ?_
  subst he
  refine ⟨lim.keeps x.toInCall.keep, codeAny_func ?_⟩
  obtain ⟨t, ht, hq⟩ := hbody A outer s H vs Q (hr.deeper _) hsp
  have I : Inv (cxOf CX0 P w K mg base N qual scope f cdv A outer s H E0) [] (start N vs) H s1 := inv_start S hr.r.hd e0 hl r x
  refine wpAny_mono (ht.nox.run [] s1 (start N vs) H _ I hq) (fun fl s' hs => ?_) fun e s' hs => hs
  have fin : ∀ {σ' : St} {H' : Hp} {v : V} {u : Value}, Inv (cxOf CX0 P w K mg base N qual scope f cdv A outer s H E0) [] σ' H' s' → RelV v u → Q v H' → CE outer P w H s Q u s' :=
    fun {σ' H' v u} J rv q => ⟨v, H', J.os, J.bare, J.base, J.hok, rv, q⟩
  cases fl with
  | ret u =>
    obtain ⟨v, σ', H', J, rv, q⟩ := hs
    exact fin J rv q
  | next =>
    obtain ⟨σ', H', J, q⟩ := hs
    exact fin (v := V.non) (u := Value.none) J rfl q
  | brk =>
    obtain ⟨_, _, _, q⟩ := hs
    exact False.elim q
  | cont =>
    obtain ⟨_, _, _, q⟩ := hs
    exact False.elim q
end
/-- a def of the module, by its name, that keeps a promise -/
structure GCal (P : Program) (w : World) (K : PySem.W.Frag) (mg : Str → Option Value) (base : Heap) (k : Nat) (x : Str) (sp : SpG) : Prop where
  ex : ∃ (f : Addr) (fd : FuncData) (ps : List Str), FnG P w K mg base k f fd ps sp ∧ mg x = some (.ref f) ∧ PySem.W.keepIn K (.ref f) = true ∧ Binds K fd ps []
/-- a method of the class at C -/
structure GMet (P : Program) (w : World) (K : PySem.W.Frag) (mg : Str → Option Value) (base : Heap) (k : Nat) (C : Addr) (m : Str) (sp : SpG) : Prop where
  ex : ∃ (f : Addr) (fd : FuncData) (ps : List Str), Cls K C ∧ Meth K C m f ∧ FnG P w K mg base k f fd ps sp ∧ Binds K fd ps []
/-- how a def stands behind the top -/
structure Dfn (K : PySem.W.Frag) (mg : Str → Option Value) (x : Str) (st : Stmt) (ps : List Str) : Prop where
  ex : ∃ (f : Addr) (fd : FuncData) (dvs : List V), FunD K x x (defArgs st) (defBody st) (defScope st) dvs [] f fd ∧ mg x = some (.ref f) ∧ Binds K fd ps []
structure Mfn (K : PySem.W.Frag) (C : Addr) (m qual : Str) (st : Stmt) (ps : List Str) : Prop where
  ex : ∃ (f : Addr) (fd : FuncData) (dvs : List V), FunD K m qual (defArgs st) (defBody st) (defScope st) dvs [] f fd ∧ Cls K C ∧ Meth K C m f ∧ Binds K fd ps []
section
variable {P : Program} {w : World} {K : PySem.W.Frag} {mg : Str → Option Value} {base : Heap} {k j : Nat} {x m qual : Str} {C : Addr} {st : Stmt} {N ps : List Str} {sp sp' : SpG}
theorem GCal.mono (c : GCal P w K mg base j x sp) (h : j ≤ k) : GCal P w K mg base k x sp := by
  obtain ⟨f, fd, ps, F, r⟩ := c.ex
  exact ⟨f, fd, ps, F.mono h, r⟩
theorem GMet.mono (c : GMet P w K mg base j C m sp) (h : j ≤ k) : GMet P w K mg base k C m sp := by
  obtain ⟨f, fd, ps, a, b, F, r⟩ := c.ex
  exact ⟨f, fd, ps, a, b, F.mono h, r⟩
theorem FnG.imp {f : Addr} {fd : FuncData} (F : FnG P w K mg base k f fd ps sp) (h : ∀ vs H Q, sp' vs H Q → sp vs H Q) : FnG P w K mg base k f fd ps sp' :=
  ⟨fun vs H Q q => F.len vs H Q (h _ _ _ q), fun A outer s H args us vs Q hr he hb hv hs => F.run A outer s H args us vs Q hr he hb hv (h _ _ _ hs)⟩
theorem GCal.imp (c : GCal P w K mg base k x sp) (h : ∀ vs H Q, sp' vs H Q → sp vs H Q) : GCal P w K mg base k x sp' := by
  obtain ⟨f, fd, ps, F, r⟩ := c.ex
  exact ⟨f, fd, ps, F.imp h, r⟩
theorem GMet.imp (c : GMet P w K mg base k C m sp) (h : ∀ vs H Q, sp' vs H Q → sp vs H Q) : GMet P w K mg base k C m sp' := by
  obtain ⟨f, fd, ps, a, b, F, r⟩ := c.ex
  exact ⟨f, fd, ps, a, b, F.imp h, r⟩
theorem cal_of (D : Dfn K mg x st ps) (S : FnScope N ps (defScope st)) (len : ∀ vs H Q, sp vs H Q → vs.length = ps.length)
    (hbody : ∀ (f : Addr) (cdv : Value) (A : Around) (outer : List Env) (s : Shared) (H : Hp) (vs : List V) (Q : VK), RoomG k (A.deeper (envOfC x (defScope st) s.heap.objs.size f cdv)) → sp vs H Q →
      ∃ t, PSs (cxOf CX0 P w K mg base N x (defScope st) f cdv A outer s H E0).nox (defBody st) t ∧ t { nx := fun _ H' => Q .non H', rt := Q } (start N vs) H) : GCal P w K mg base (k + 1) x sp := by
  obtain ⟨f, fd, dvs, F, hm, b⟩ := D.ex
  refine ⟨f, fd, ps, ?_, hm, F.kp, b⟩
  obtain ⟨oc, od, dV, kV, doc, pm, an, cdv, ct, osl, rfl, lk, hcd, _, _⟩ := F.ex
  exact fn_ofG lk hcd S len fun A outer s H vs Q hr hsp => hbody f cdv A outer s H vs Q hr hsp
theorem cal_none (D : Dfn K mg x st ps) (h : ∀ vs H Q, ¬ sp vs H Q) : GCal P w K mg base k x sp := by
  obtain ⟨f, fd, dvs, F, hm, b⟩ := D.ex
  exact ⟨f, fd, ps, .none h, hm, F.kp, b⟩
theorem met_of (D : Mfn K C m qual st ps) (S : FnScope N ps (defScope st)) (len : ∀ vs H Q, sp vs H Q → vs.length = ps.length)
    (hbody : ∀ (f : Addr) (cdv : Value) (A : Around) (outer : List Env) (s : Shared) (H : Hp) (vs : List V) (Q : VK), RoomG k (A.deeper (envOfC qual (defScope st) s.heap.objs.size f cdv)) → sp vs H Q →
      ∃ t, PSs (cxOf CX0 P w K mg base N qual (defScope st) f cdv A outer s H E0).nox (defBody st) t ∧ t { nx := fun _ H' => Q .non H', rt := Q } (start N vs) H) : GMet P w K mg base (k + 1) C m sp := by
  obtain ⟨f, fd, dvs, F, c, hm, b⟩ := D.ex
  refine ⟨f, fd, ps, c, hm, ?_, b⟩
  obtain ⟨oc, od, dV, kV, doc, pm, an, cdv, ct, osl, rfl, lk, hcd, _, _⟩ := F.ex
  exact fn_ofG lk hcd S len fun A outer s H vs Q hr hsp => hbody f cdv A outer s H vs Q hr hsp
theorem met_none (D : Mfn K C m qual st ps) (h : ∀ vs H Q, ¬ sp vs H Q) : GMet P w K mg base k C m sp := by
  obtain ⟨f, fd, dvs, F, c, hm, b⟩ := D.ex
  exact ⟨f, fd, ps, c, hm, .none h, b⟩
end
/-! ### calls -/
def tCallG (sp : SpG) (t : TA) : TE := fun σ H Q => t σ H fun vs H1 => sp vs H1 Q
def tMethG (C : Addr) (m : Str) (sp : SpG) (ta : TE) (t : TA) : TE := fun σ H Q => ta σ H fun x H1 => ∃ a dx fs, x = .ref a ∧ H1 a = some (.ins C dx fs) ∧ fs.lookup m = none ∧ t σ H1 fun vs H2 => sp (x :: vs) H2 Q
def tMakeG (C : Addr) (sp : SpG) (t : TA) : TE := fun σ H Q => t σ H fun vs H1 => ∀ x dx, H1 x = none → H1 dx = none → dx ≠ x →
  sp (.ref x :: vs) (upd (upd H1 dx (.own x)) x (.ins C dx [])) (fun v H2 => v = .non ∧ Q (.ref x) H2)
section
variable {X : Cx} {k j : Nat} {f C : Addr} {fd : FuncData} {ps : List Str} {sp : SpG} {x m : Str} {p pos apos : Pos} {e o : Expr} {es : List Expr} {ta : TE} {t : TA}
theorem run_fnG {pins : List (Addr × Obj)} {σ : St} {H : Hp} {s : Shared} {Q : VK} {us : List Value} {vs : List V} (F : FnG X.prog X.w X.K X.mg X.base k f fd ps sp) (hr : RoomG k X.A) (hb : Binds X.K fd ps [])
    (I : Inv X pins σ H s) (r : Vals vs us) (h : sp vs H Q) : wpAny (model X.prog X.w) X.A (call (.ref f) us) (EP X pins σ Q) X.xe s := by
  have hl : (us ++ []).length = ps.length := by rw [List.append_nil, ← r.length]; exact F.len _ _ _ h
  have hb' := hb s us I.kIn hl
  rw [List.append_nil] at hb'
  refine wpAny_call (codeAny_mono (F.run X.A X.stack s H ⟨us, []⟩ us vs Q hr I.env0 hb' r h) fun r s' hq => ?_)
  cases r with
  | error e => exact False.elim hq
  | ok fl =>
    cases fl with
    | ret u => exact I.after hq
    | next => exact False.elim hq
    | brk => exact False.elim hq
    | cont => exact False.elim hq
theorem pe_g (c : GCal X.prog X.w X.K X.mg X.base k x sp) (hr : RoomG j X.A) (hk : k ≤ j) (hg : Gl X x) (ha : PA X (e :: es) t) (hdb : (x == ("__debug__" : Str)) = false := by decide)
    (he : starEach (e :: es) X.env = (false, eval e X.env) :: starEach es X.env := by rfl) (hpl : (backTo pos (starEach es X.env)).any (·.1) = false := by rfl) : PE X (.Call (.Name x p) (e :: es) [] pos) (tCallG sp t) := by
  obtain ⟨f, fd, ps, F, hm, kp, b⟩ := c.ex
  refine ⟨fun pins s σ H Q I h => ?_⟩
  refine wpAny_Call_Name_kw (ld_glob I hg hm ?_ hdb)
  refine PySem.W.callWith_K (h₀ := X.base) I.ok.mod.kin kp (thn (ha.run pos pins s σ H _ I h) fun us s1 ⟨vs, H1, I1, r, q⟩ => ⟨I1.kIn, ?_⟩) he hpl
  exact run_fnG F (hr.mono hk) b I1 r q
theorem pe_gm {pl : Sem Bool} (c : GMet X.prog X.w X.K X.mg X.base k C m sp) (hr : RoomG j X.A) (hk : k ≤ j) (he : PE X o ta) (ha : PA X (e :: es) t)
    (hst : starEach (e :: es) X.env = (false, eval e X.env) :: starEach es X.env := by rfl) (hpl : (backTo pos (starEach es X.env)).any (·.1) = false := by rfl)
    (ht : eval (.Call (.Attribute o m apos) (e :: es) [] pos) X.env = (do
      let ov ← eval o X.env
      standAt apos.atName
      let (f, first) ← holding [ov] (getMethod ov m pl)
      callWith pos f first (backTo pos (starEach (e :: es) X.env)) (backToKw pos (keywordEach [] X.env))) := by rfl) :
    PE X (.Call (.Attribute o m apos) (e :: es) [] pos) (tMethG C m sp ta t) := by
  obtain ⟨f, fd, ps, hc, hm, F, b⟩ := c.ex
  refine ⟨fun pins s σ H Q I h => ?_⟩
  refine PySem.W.methodCall_KW (pl := pl) (thn (he.run pins s σ H _ I h) fun u s1 ⟨x, H1, I1, rx, a, dx, fs, ex, ea, l, q⟩ => ?_) ht
  subst ex
  obtain rfl : u = Value.ref a := rx
  refine getmeth_ok I1 ea hc hm l ?_
  refine PySem.W.callWith_K (first := [.ref a]) (h₀ := X.base) I.ok.mod.kin hm.kp (thn (ha.run pos pins s1 σ H1 _ I1 q) fun us s2 ⟨vs, H2, I2, r, q2⟩ => ⟨I2.kIn, ?_⟩) hst hpl
  exact run_fnG (us := .ref a :: us) (vs := .ref a :: vs) F (hr.mono hk) b I2 (.cons rfl r) q2
theorem run_makeG {pins : List (Addr × Obj)} {σ : St} {H : Hp} {s : Shared} {Q : VK} {us : List Value} {vs : List V} (M : Mk X.K C f) (F : FnG X.prog X.w X.K X.mg X.base k f fd ps sp) (hr : RoomG (k + 1) X.A) (hb : Binds X.K fd ps [])
    (I : Inv X pins σ H s) (r : Vals vs us) (h : ∀ x dx, H x = none → H dx = none → dx ≠ x → sp (.ref x :: vs) (upd (upd H dx (.own x)) x (.ins C dx [])) (fun v H2 => v = .non ∧ Q (.ref x) H2)) :
    wpAny (model X.prog X.w) X.A (call (.ref C) us) (EP X pins σ Q) X.xe s := by
  have hq := h (s.heap.objs.size + 1) s.heap.objs.size (I.hok.fresh (Nat.le_succ _)) (I.hok.fresh (Nat.le_refl _)) (Nat.ne_of_lt (Nat.lt_succ_self _))
  have I2 := Inv.made (C := C) I
  have r2 : Vals (V.ref (s.heap.objs.size + 1) :: vs) (Value.ref (s.heap.objs.size + 1) :: us) := .cons rfl r
  have hl : (Value.ref (s.heap.objs.size + 1) :: us ++ []).length = ps.length := by
    rw [List.append_nil, ← r2.length]
    exact F.len _ _ _ hq
  have hb' := hb _ (Value.ref (s.heap.objs.size + 1) :: us) I2.kIn hl
  rw [List.append_nil] at hb'
  refine wpAny_call (make_map (f := f) I.kIn M.makes M.init (beq_iff_eq.mp M.fn) (codeAny_mono (F.run _ X.stack _ _ ⟨Value.ref (s.heap.objs.size + 1) :: us, []⟩ (Value.ref (s.heap.objs.size + 1) :: us) _ _ (hr.make C us [])
    (I2.env0.make C us []) hb' r2 hq) fun r s' hq' => ?_))
  cases r with
  | error e => exact False.elim hq'
  | ok fl =>
    cases fl with
    | ret u =>
      obtain ⟨v, H', I3, rv, ev, q3⟩ := I2.after hq'
      subst ev
      exact ⟨rv, ⟨V.ref (s.heap.objs.size + 1), H', I3, rfl, q3⟩⟩
    | next => exact False.elim hq'
    | brk => exact False.elim hq'
    | cont => exact False.elim hq'
theorem pe_gmake0 (M : Mk X.K C f) (F : FnG X.prog X.w X.K X.mg X.base k f fd ps sp) (hr : RoomG j X.A) (hk : k + 1 ≤ j) (hg : Gl X x) (hm : X.mg x = some (.ref C)) (hb : Binds X.K fd ps [])
    (hdb : (x == ("__debug__" : Str)) = false := by decide) : PE X (.Call (.Name x p) [] [] pos) (tMakeG C sp tNil) := by
  refine ⟨fun pins s σ H Q I h => ?_⟩
  refine wpAny_Call_Name_kw (ld_glob I hg hm ?_ hdb)
  exact PySem.W.callWith_K0 I.kIn M.kp (run_makeG (us := []) M F (hr.mono hk) hb I .nil h)
end
end L2.G
set_option Elab.async false
set_option linter.all false
set_option maxRecDepth 100000
/-! The text by places; what stands behind the top. Printed by gen_text.py. -/
namespace L2.G
open PySem PySem.Spec PyProof.Rows
def top (i : Nat) : Stmt := PySem.Challenge.pw_waitwords_k62_whole_small_kinds_of_rows.main.body.getD i (.Pass ⟨0, 0, 0, 0⟩)
abbrev sP_fresh : Stmt := top 8
theorem scP_fresh : FnScope ["thing", "part"] ["thing"] (defScope sP_fresh) := ⟨rfl, rfl, rfl, by decide +kernel, rfl, by decide +kernel, by decide +kernel⟩
abbrev sP_is_letter : Stmt := top 12
theorem scP_is_letter : FnScope ["text"] ["text"] (defScope sP_is_letter) := ⟨rfl, rfl, rfl, by decide +kernel, rfl, by decide +kernel, by decide +kernel⟩
abbrev sP_wrong_part : Stmt := top 13
theorem scP_wrong_part : FnScope ["kind", "wrong"] ["kind"] (defScope sP_wrong_part) := ⟨rfl, rfl, rfl, by decide +kernel, rfl, by decide +kernel, by decide +kernel⟩
abbrev sP_checked_kind : Stmt := top 14
theorem scP_checked_kind : FnScope ["kind", "wrong"] ["kind"] (defScope sP_checked_kind) := ⟨rfl, rfl, rfl, by decide +kernel, rfl, by decide +kernel, by decide +kernel⟩
abbrev sP_check_single : Stmt := top 15
theorem scP_check_single : FnScope ["row", "kind", "one"] ["row", "kind"] (defScope sP_check_single) := ⟨rfl, rfl, rfl, by decide +kernel, rfl, by decide +kernel, by decide +kernel⟩
abbrev sP_single : Stmt := top 16
theorem scP_single : FnScope ["kind"] ["kind"] (defScope sP_single) := ⟨rfl, rfl, rfl, by decide +kernel, rfl, by decide +kernel, by decide +kernel⟩
abbrev sP_show_kind : Stmt := top 18
theorem scP_show_kind : FnScope ["kind", "between"] ["kind"] (defScope sP_show_kind) := ⟨rfl, rfl, rfl, by decide +kernel, rfl, by decide +kernel, by decide +kernel⟩
abbrev sP_joined_words : Stmt := top 21
theorem scP_joined_words : FnScope ["one", "other", "cut", "most"] ["one", "other"] (defScope sP_joined_words) := ⟨rfl, rfl, rfl, by decide +kernel, rfl, by decide +kernel, by decide +kernel⟩
abbrev sP_back_word : Stmt := top 22
theorem scP_back_word : FnScope ["told", "sign"] ["told"] (defScope sP_back_word) := ⟨rfl, rfl, rfl, by decide +kernel, rfl, by decide +kernel, by decide +kernel⟩
abbrev sT_init : Stmt := inClass (top 23) 0
theorem scT_init : FnScope ["self"] ["self"] (defScope sT_init) := ⟨rfl, rfl, rfl, by decide +kernel, rfl, by decide +kernel, by decide +kernel⟩
abbrev sT_number : Stmt := inClass (top 23) 1
theorem scT_number : FnScope ["self", "kind", "mark"] ["self", "kind"] (defScope sT_number) := ⟨rfl, rfl, rfl, by decide +kernel, rfl, by decide +kernel, by decide +kernel⟩
abbrev sT_keep : Stmt := inClass (top 23) 2
theorem scT_keep : FnScope ["self", "mark", "kind", "pair", "told"] ["self", "mark", "kind", "pair", "told"] (defScope sT_keep) := ⟨rfl, rfl, rfl, by decide +kernel, rfl, by decide +kernel, by decide +kernel⟩
abbrev sT_letters_of : Stmt := inClass (top 23) 3
theorem scT_letters_of : FnScope ["self", "mark", "form", "one", "other", "first", "second"] ["self", "mark"] (defScope sT_letters_of) := ⟨rfl, rfl, rfl, by decide +kernel, rfl, by decide +kernel, by decide +kernel⟩
abbrev sT_may_come : Stmt := inClass (top 23) 4
theorem scT_may_come : FnScope ["self", "row", "goal", "one", "told"] ["self", "row", "goal"] (defScope sT_may_come) := ⟨rfl, rfl, rfl, by decide +kernel, rfl, by decide +kernel, by decide +kernel⟩
abbrev sT_paper : Stmt := inClass (top 23) 5
theorem scT_paper : FnScope ["self", "row", "goal"] ["self", "row", "goal"] (defScope sT_paper) := ⟨rfl, rfl, rfl, by decide +kernel, rfl, by decide +kernel, by decide +kernel⟩
abbrev sT_paper_anew : Stmt := inClass (top 23) 6
theorem scT_paper_anew : FnScope ["self", "row", "goal", "form", "one", "other", "found", "at", "part"] ["self", "row", "goal"] (defScope sT_paper_anew) := ⟨rfl, rfl, rfl, by decide +kernel, rfl, by decide +kernel, by decide +kernel⟩
abbrev sT_joined_paper : Stmt := inClass (top 23) 7
theorem scT_joined_paper : FnScope ["self", "row", "one", "other", "cut", "first", "second"] ["self", "row", "one", "other"] (defScope sT_joined_paper) := ⟨rfl, rfl, rfl, by decide +kernel, rfl, by decide +kernel, by decide +kernel⟩
abbrev sT_waiting_paper : Stmt := inClass (top 23) 8
theorem scT_waiting_paper : FnScope ["self", "row", "goal", "at", "part", "found"] ["self", "row", "goal"] (defScope sT_waiting_paper) := ⟨rfl, rfl, rfl, by decide +kernel, rfl, by decide +kernel, by decide +kernel⟩
abbrev sT_behind_paper : Stmt := inClass (top 23) 9
theorem scT_behind_paper : FnScope ["self", "row", "at", "goal", "then", "wants", "end", "second", "first"] ["self", "row", "at", "goal"] (defScope sT_behind_paper) := ⟨rfl, rfl, rfl, by decide +kernel, rfl, by decide +kernel, by decide +kernel⟩
abbrev sT_ahead_paper : Stmt := inClass (top 23) 10
theorem scT_ahead_paper : FnScope ["self", "row", "at", "goal", "wants", "then", "start", "second", "first"] ["self", "row", "at", "goal"] (defScope sT_ahead_paper) := ⟨rfl, rfl, rfl, by decide +kernel, rfl, by decide +kernel, by decide +kernel⟩
abbrev sP_prove : Stmt := top 24
theorem scP_prove : FnScope ["row", "kind", "table", "one"] ["row", "kind"] (defScope sP_prove) := ⟨rfl, rfl, rfl, by decide +kernel, rfl, by decide +kernel, by decide +kernel⟩
abbrev sP_row_comes : Stmt := top 29
theorem scP_row_comes : FnScope ["row", "kind"] ["row", "kind"] (defScope sP_row_comes) := ⟨rfl, rfl, rfl, by decide +kernel, rfl, by decide +kernel, by decide +kernel⟩
abbrev sP_check_asked : Stmt := top 30
theorem scP_check_asked : FnScope ["row", "kinds", "kind"] ["row", "kinds"] (defScope sP_check_asked) := ⟨rfl, rfl, rfl, by decide +kernel, rfl, by decide +kernel, by decide +kernel⟩
abbrev sP_check_small : Stmt := top 31
theorem scP_check_small : FnScope ["signs", "most", "strange", "sign"] ["signs", "most"] (defScope sP_check_small) := ⟨rfl, rfl, rfl, by decide +kernel, rfl, by decide +kernel, by decide +kernel⟩
abbrev sP_small_kinds : Stmt := top 32
theorem scP_small_kinds : FnScope ["signs", "most", "by_size", "sign", "many", "found", "less", "pairs", "one", "other", "name", "kinds", "kind"] ["signs", "most"] (defScope sP_small_kinds) := ⟨rfl, rfl, rfl, by decide +kernel, rfl, by decide +kernel, by decide +kernel⟩
abbrev sP_kinds_of : Stmt := top 33
theorem scP_kinds_of : FnScope ["row", "signs", "most", "kind"] ["row", "signs", "most"] (defScope sP_kinds_of) := ⟨rfl, rfl, rfl, by decide +kernel, rfl, by decide +kernel, by decide +kernel⟩
abbrev sL_spring : Stmt := top 35
theorem scL_spring : FnScope ["_law_script", "_law_spot", "_law_cell", "_law_mixed"] ["_law_script", "_law_spot"] (defScope sL_spring) := ⟨rfl, rfl, rfl, by decide +kernel, rfl, by decide +kernel, by decide +kernel⟩
abbrev sL_sip : Stmt := top 36
theorem scL_sip : FnScope ["_law_spring_here", "_law_many", "_law_drawn_here", "_law_mixed"] ["_law_spring_here", "_law_many"] (defScope sL_sip) := ⟨rfl, rfl, rfl, by decide +kernel, rfl, by decide +kernel, by decide +kernel⟩
abbrev sL_letters : Stmt := top 37
theorem scL_letters : FnScope ["_law_spring_here", "_law_rest", "_law_found", "_law_turn", "_law_letter"] ["_law_spring_here"] (defScope sL_letters) := ⟨rfl, rfl, rfl, by decide +kernel, rfl, by decide +kernel, by decide +kernel⟩
abbrev sL_drawn : Stmt := top 38
theorem scL_drawn : FnScope ["_law_spring_here", "_law_names", "_law_many", "_law_forms", "_law_cut", "_law_form"] ["_law_spring_here", "_law_names", "_law_many", "_law_forms"] (defScope sL_drawn) := ⟨rfl, rfl, rfl, by decide +kernel, rfl, by decide +kernel, by decide +kernel⟩
abbrev sL_size : Stmt := top 39
theorem scL_size : FnScope ["_law_thing"] ["_law_thing"] (defScope sL_size) := ⟨rfl, rfl, rfl, by decide +kernel, rfl, by decide +kernel, by decide +kernel⟩
abbrev sL_depth : Stmt := top 40
theorem scL_depth : FnScope ["_law_thing"] ["_law_thing"] (defScope sL_depth) := ⟨rfl, rfl, rfl, by decide +kernel, rfl, by decide +kernel, by decide +kernel⟩
abbrev sL_waits : Stmt := top 41
theorem scL_waits : FnScope ["_law_thing"] ["_law_thing"] (defScope sL_waits) := ⟨rfl, rfl, rfl, by decide +kernel, rfl, by decide +kernel, by decide +kernel⟩
abbrev sL_fits : Stmt := top 42
theorem scL_fits : FnScope ["_law_line", "_law_goal", "_law_things", "_law_thing", "_law_total"] ["_law_line", "_law_goal"] (defScope sL_fits) := ⟨rfl, rfl, rfl, by decide +kernel, rfl, by decide +kernel, by decide +kernel⟩
abbrev sL_lifted : Stmt := top 43
theorem scL_lifted : FnScope ["_law_here", "_law_more", "_law_way"] ["_law_here", "_law_more", "_law_way"] (defScope sL_lifted) := ⟨rfl, rfl, rfl, by decide +kernel, rfl, by decide +kernel, by decide +kernel⟩
abbrev sL_longer : Stmt := top 44
theorem scL_longer : FnScope ["_law_spring_here", "_law_names", "_law_forms", "_law_line", "_law_goal", "_law_way", "_law_spot", "_law_more", "_law_left", "_law_here", "_law_right_here"] ["_law_spring_here", "_law_names", "_law_forms", "_law_line", "_law_goal"] (defScope sL_longer) := ⟨rfl, rfl, rfl, by decide +kernel, rfl, by decide +kernel, by decide +kernel⟩
abbrev sL_chained : Stmt := top 45
theorem scL_chained : FnScope ["_law_spring_here", "_law_names", "_law_things", "_law_turn", "_law_form", "_law_line", "_law_spot"] ["_law_spring_here", "_law_names"] (defScope sL_chained) := ⟨rfl, rfl, rfl, by decide +kernel, rfl, by decide +kernel, by decide +kernel⟩
abbrev sL_made : Stmt := top 46
theorem scL_made : FnScope ["_law_spring_here", "_law_names", "_law_forms", "_law_turns", "_law_goal", "_law_line", "_law_turn", "_law_longer_here"] ["_law_spring_here", "_law_names", "_law_forms", "_law_turns"] (defScope sL_made) := ⟨rfl, rfl, rfl, by decide +kernel, rfl, by decide +kernel, by decide +kernel⟩
abbrev sL_crossed : Stmt := top 47
theorem scL_crossed : FnScope ["_law_spring_here", "_law_thing", "_law_way"] ["_law_spring_here", "_law_thing"] (defScope sL_crossed) := ⟨rfl, rfl, rfl, by decide +kernel, rfl, by decide +kernel, by decide +kernel⟩
abbrev sL_bent : Stmt := top 48
theorem scL_bent : FnScope ["_law_spring_here", "_law_names", "_law_forms", "_law_line", "_law_goal", "_law_way", "_law_spot", "_law_spare", "_law_changed", "_law_asked"] ["_law_spring_here", "_law_names", "_law_forms", "_law_line", "_law_goal"] (defScope sL_bent) := ⟨rfl, rfl, rfl, by decide +kernel, rfl, by decide +kernel, by decide +kernel⟩
abbrev sL_sum : Stmt := top 49
theorem scL_sum : FnScope ["_law_thing", "_law_names"] ["_law_thing", "_law_names"] (defScope sL_sum) := ⟨rfl, rfl, rfl, by decide +kernel, rfl, by decide +kernel, by decide +kernel⟩
abbrev sL_comes : Stmt := top 50
theorem scL_comes : FnScope ["_law_line", "_law_goal", "_law_names", "_law_known", "_law_thing", "_law_mark"] ["_law_line", "_law_goal", "_law_names", "_law_known"] (defScope sL_comes) := ⟨rfl, rfl, rfl, by decide +kernel, rfl, by decide +kernel, by decide +kernel⟩
abbrev sL_comes_anew : Stmt := top 51
theorem scL_comes_anew : FnScope ["_law_line", "_law_goal", "_law_names", "_law_known", "_law_spot", "_law_here", "_law_cut"] ["_law_line", "_law_goal", "_law_names", "_law_known"] (defScope sL_comes_anew) := ⟨rfl, rfl, rfl, by decide +kernel, rfl, by decide +kernel, by decide +kernel⟩
abbrev sL_put_together : Stmt := top 52
theorem scL_put_together : FnScope ["_law_line", "_law_spot", "_law_goal", "_law_names", "_law_known", "_law_here", "_law_cut"] ["_law_line", "_law_spot", "_law_goal", "_law_names", "_law_known"] (defScope sL_put_together) := ⟨rfl, rfl, rfl, by decide +kernel, rfl, by decide +kernel, by decide +kernel⟩
abbrev sL_text : Stmt := top 53
theorem scL_text : FnScope ["_law_thing", "_law_between"] ["_law_thing"] (defScope sL_text) := ⟨rfl, rfl, rfl, by decide +kernel, rfl, by decide +kernel, by decide +kernel⟩
abbrev sL_small : Stmt := top 54
theorem scL_small : FnScope ["_law_choice_here", "_law_many", "_law_letter", "_law_found", "_law_cut", "_law_first", "_law_second"] ["_law_choice_here", "_law_many"] (defScope sL_small) := ⟨rfl, rfl, rfl, by decide +kernel, rfl, by decide +kernel, by decide +kernel⟩
abbrev sL_ordered : Stmt := top 55
theorem scL_ordered : FnScope ["_law_choice_here", "_law_many", "_law_found", "_law_size_here", "_law_pairs", "_law_thing", "_law_pair"] ["_law_choice_here", "_law_many"] (defScope sL_ordered) := ⟨rfl, rfl, rfl, by decide +kernel, rfl, by decide +kernel, by decide +kernel⟩
abbrev sL_row : Stmt := top 56
theorem scL_row : FnScope ["_law_spring_here", "_law_names", "_law_letters_here", "_law_goal", "_law_line", "_law_turn", "_law_longer_here", "_law_top", "_law_thing"] ["_law_spring_here", "_law_names", "_law_letters_here"] (defScope sL_row) := ⟨rfl, rfl, rfl, by decide +kernel, rfl, by decide +kernel, by decide +kernel⟩
abbrev sL_choice : Stmt := top 57
theorem scL_choice : FnScope ["_law_spring_here", "_law_names", "_law_found", "_law_others", "_law_letter"] ["_law_spring_here", "_law_names"] (defScope sL_choice) := ⟨rfl, rfl, rfl, by decide +kernel, rfl, by decide +kernel, by decide +kernel⟩
abbrev sL_told_right : Stmt := top 58
theorem scL_told_right : FnScope ["_law_line", "_law_choice_here", "_law_many", "_law_due", "_law_given", "_law_told"] ["_law_line", "_law_choice_here", "_law_many", "_law_due"] (defScope sL_told_right) := ⟨rfl, rfl, rfl, by decide +kernel, rfl, by decide +kernel, by decide +kernel⟩
abbrev sL_asked_right : Stmt := top 59
theorem scL_asked_right : FnScope ["_law_spring_here", "_law_line", "_law_many", "_law_names", "_law_known", "_law_choice_here", "_law_every", "_law_letter", "_law_due", "_law_thing"] ["_law_spring_here", "_law_line", "_law_many", "_law_names", "_law_known"] (defScope sL_asked_right) := ⟨rfl, rfl, rfl, by decide +kernel, rfl, by decide +kernel, by decide +kernel⟩
abbrev sL_right : Stmt := top 60
theorem scL_right : FnScope ["_law_spring_here", "_law_names", "_law_known", "_law_line", "_law_goal", "_law_change", "_law_left", "_law_thing"] ["_law_spring_here"] (defScope sL_right) := ⟨rfl, rfl, rfl, by decide +kernel, rfl, by decide +kernel, by decide +kernel⟩
abbrev sP_law : Stmt := top 61
theorem scP_law : FnScope ["_law_script"] ["_law_script"] (defScope sP_law) := ⟨rfl, rfl, rfl, by decide +kernel, rfl, by decide +kernel, by decide +kernel⟩
structure Txt (w : World) (K : PySem.W.Frag) (mg : Str → Option Value) (C : Addr) : Prop where
  dP_is_letter : Dfn K mg "is_letter" sP_is_letter ["text"]
  dP_wrong_part : Dfn K mg "wrong_part" sP_wrong_part ["kind"]
  dP_checked_kind : Dfn K mg "checked_kind" sP_checked_kind ["kind"]
  dP_check_single : Dfn K mg "check_single" sP_check_single ["row", "kind"]
  dP_single : Dfn K mg "single" sP_single ["kind"]
  dP_show_kind : Dfn K mg "show_kind" sP_show_kind ["kind"]
  dP_joined_words : Dfn K mg "joined_words" sP_joined_words ["one", "other"]
  dP_back_word : Dfn K mg "back_word" sP_back_word ["told"]
  dT_init : Mfn K C "__init__" "Table.__init__" sT_init ["self"]
  dT_number : Mfn K C "number" "Table.number" sT_number ["self", "kind"]
  dT_keep : Mfn K C "keep" "Table.keep" sT_keep ["self", "mark", "kind", "pair", "told"]
  dT_letters_of : Mfn K C "letters_of" "Table.letters_of" sT_letters_of ["self", "mark"]
  dT_may_come : Mfn K C "may_come" "Table.may_come" sT_may_come ["self", "row", "goal"]
  dT_paper : Mfn K C "paper" "Table.paper" sT_paper ["self", "row", "goal"]
  dT_paper_anew : Mfn K C "paper_anew" "Table.paper_anew" sT_paper_anew ["self", "row", "goal"]
  dT_joined_paper : Mfn K C "joined_paper" "Table.joined_paper" sT_joined_paper ["self", "row", "one", "other"]
  dT_waiting_paper : Mfn K C "waiting_paper" "Table.waiting_paper" sT_waiting_paper ["self", "row", "goal"]
  dT_behind_paper : Mfn K C "behind_paper" "Table.behind_paper" sT_behind_paper ["self", "row", "at", "goal"]
  dT_ahead_paper : Mfn K C "ahead_paper" "Table.ahead_paper" sT_ahead_paper ["self", "row", "at", "goal"]
  dP_prove : Dfn K mg "prove" sP_prove ["row", "kind"]
  dP_row_comes : Dfn K mg "row_comes" sP_row_comes ["row", "kind"]
  dP_check_asked : Dfn K mg "check_asked" sP_check_asked ["row", "kinds"]
  dP_check_small : Dfn K mg "check_small" sP_check_small ["signs", "most"]
  dP_small_kinds : Dfn K mg "small_kinds" sP_small_kinds ["signs", "most"]
  dP_kinds_of : Dfn K mg "kinds_of" sP_kinds_of ["row", "signs", "most"]
  dL_spring : Dfn K mg "_law_spring" sL_spring ["_law_script", "_law_spot"]
  dL_sip : Dfn K mg "_law_sip" sL_sip ["_law_spring_here", "_law_many"]
  dL_letters : Dfn K mg "_law_letters" sL_letters ["_law_spring_here"]
  dL_drawn : Dfn K mg "_law_drawn" sL_drawn ["_law_spring_here", "_law_names", "_law_many", "_law_forms"]
  dL_size : Dfn K mg "_law_size" sL_size ["_law_thing"]
  dL_depth : Dfn K mg "_law_depth" sL_depth ["_law_thing"]
  dL_waits : Dfn K mg "_law_waits" sL_waits ["_law_thing"]
  dL_fits : Dfn K mg "_law_fits" sL_fits ["_law_line", "_law_goal"]
  dL_lifted : Dfn K mg "_law_lifted" sL_lifted ["_law_here", "_law_more", "_law_way"]
  dL_longer : Dfn K mg "_law_longer" sL_longer ["_law_spring_here", "_law_names", "_law_forms", "_law_line", "_law_goal"]
  dL_chained : Dfn K mg "_law_chained" sL_chained ["_law_spring_here", "_law_names"]
  dL_made : Dfn K mg "_law_made" sL_made ["_law_spring_here", "_law_names", "_law_forms", "_law_turns"]
  dL_crossed : Dfn K mg "_law_crossed" sL_crossed ["_law_spring_here", "_law_thing"]
  dL_bent : Dfn K mg "_law_bent" sL_bent ["_law_spring_here", "_law_names", "_law_forms", "_law_line", "_law_goal"]
  dL_sum : Dfn K mg "_law_sum" sL_sum ["_law_thing", "_law_names"]
  dL_comes : Dfn K mg "_law_comes" sL_comes ["_law_line", "_law_goal", "_law_names", "_law_known"]
  dL_comes_anew : Dfn K mg "_law_comes_anew" sL_comes_anew ["_law_line", "_law_goal", "_law_names", "_law_known"]
  dL_put_together : Dfn K mg "_law_put_together" sL_put_together ["_law_line", "_law_spot", "_law_goal", "_law_names", "_law_known"]
  dL_text : Dfn K mg "_law_text" sL_text ["_law_thing"]
  dL_small : Dfn K mg "_law_small" sL_small ["_law_choice_here", "_law_many"]
  dL_ordered : Dfn K mg "_law_ordered" sL_ordered ["_law_choice_here", "_law_many"]
  dL_row : Dfn K mg "_law_row" sL_row ["_law_spring_here", "_law_names", "_law_letters_here"]
  dL_choice : Dfn K mg "_law_choice" sL_choice ["_law_spring_here", "_law_names"]
  dL_told_right : Dfn K mg "_law_told_right" sL_told_right ["_law_line", "_law_choice_here", "_law_many", "_law_due"]
  dL_asked_right : Dfn K mg "_law_asked_right" sL_asked_right ["_law_spring_here", "_law_line", "_law_many", "_law_names", "_law_known"]
  dL_right : Dfn K mg "_law_right" sL_right ["_law_spring_here"]
  dP_law : Dfn K mg "law" sP_law ["_law_script"]
  m_len : mg "len" = none
  m_int : mg "int" = none
  m_abs : mg "abs" = none
  m_max : mg "max" = none
  m_min : mg "min" = none
  m_sum : mg "sum" = none
  m_range : mg "range" = none
  m_list : mg "list" = none
  m_tuple : mg "tuple" = none
  m_set : mg "set" = none
  m_sorted : mg "sorted" = none
  m_repr : mg "repr" = none
  m_enumerate : mg "enumerate" = none
  m_reversed : mg "reversed" = none
  m_isinstance : mg "isinstance" = none
  G_LETTERS_kinds : ∃ u, mg "LETTERS_kinds" = some u ∧ RelV (.str "abcdefghijklmnopqrstuvwxyz") u
  G_LETTERS_finding : ∃ u, mg "LETTERS_finding" = some u ∧ RelV (.str "abcdefghijklmnopqrstuvwxyz") u
  G_STEP : ∃ u, mg "STEP" = some u ∧ RelV (.int 4096) u
  G_MOST_SIGNS : ∃ u, mg "MOST_SIGNS" = some u ∧ RelV (.int 3) u
  G_MOST_LETTERS : ∃ u, mg "MOST_LETTERS" = some u ∧ RelV (.int 3) u
  G_TURNS : ∃ (d : Addr) (es : Array DictEntry) (n : Nat), KDict K w d es n ∧ mg "TURNS" = some (.ref d) ∧ (∃ r, PySem.W.nsIn K d "behind" = some (some r)) ∧ ∃ r, PySem.W.nsIn K d "ahead" = some (some r)
  cl : Cls K C
  makes : PySem.W.makesIn K C = true
  kpC : PySem.W.keepIn K (.ref C) = true
  kN : ∃ (f : Addr) (fd : FuncData), FunD K "kinds_of" "kinds_of" (defArgs sP_kinds_of) (defBody sP_kinds_of) (defScope sP_kinds_of) [] [] f fd ∧ mg "kinds_of" = some (.ref f) ∧ Binds K fd ["row", "signs", "most"] []
  mgC : mg "Table" = some (.ref C)
  n_marks : NoAttr K C "marks"
  n_shapes : NoAttr K C "shapes"
  n_forms : NoAttr K C "forms"
  n_pairs : NoAttr K C "pairs"
  n_sums : NoAttr K C "sums"
  n_spelled : NoAttr K C "spelled"
  n_cores : NoAttr K C "cores"
  n_weight : NoAttr K C "weight"
  n_met : NoAttr K C "met"
  n_known : NoAttr K C "known"
end L2.G
set_option Elab.async false
set_option linter.all false
set_option maxRecDepth 100000
set_option maxHeartbeats 0
/-! The head by facts; what stands behind the top. Printed by gen_head.py. -/
namespace L2.G.Hd
open PySem PySem.Spec PyProof.Rows L2 L2.G
abbrev R : PySem.W.OpenRow := PySem.W.OpenLaw.row PySem.Challenge.rw_waitwords_k62_whole_small_kinds_of_rows
def fn0 : List He.DefD := [⟨("is_letter", none), "is_letter", "is_letter", defArgs sP_is_letter, defBody sP_is_letter, defScope sP_is_letter, [], []⟩,
  ⟨("wrong_part", none), "wrong_part", "wrong_part", defArgs sP_wrong_part, defBody sP_wrong_part, defScope sP_wrong_part, [], []⟩,
  ⟨("checked_kind", none), "checked_kind", "checked_kind", defArgs sP_checked_kind, defBody sP_checked_kind, defScope sP_checked_kind, [], []⟩,
  ⟨("check_single", none), "check_single", "check_single", defArgs sP_check_single, defBody sP_check_single, defScope sP_check_single, [.non], []⟩,
  ⟨("single", none), "single", "single", defArgs sP_single, defBody sP_single, defScope sP_single, [], []⟩,
  ⟨("show_kind", none), "show_kind", "show_kind", defArgs sP_show_kind, defBody sP_show_kind, defScope sP_show_kind, [], []⟩,
  ⟨("joined_words", none), "joined_words", "joined_words", defArgs sP_joined_words, defBody sP_joined_words, defScope sP_joined_words, [], []⟩,
  ⟨("back_word", none), "back_word", "back_word", defArgs sP_back_word, defBody sP_back_word, defScope sP_back_word, [], []⟩,
  ⟨("Table", some "__init__"), "__init__", "Table.__init__", defArgs sT_init, defBody sT_init, defScope sT_init, [], []⟩,
  ⟨("Table", some "number"), "number", "Table.number", defArgs sT_number, defBody sT_number, defScope sT_number, [], []⟩,
  ⟨("Table", some "keep"), "keep", "Table.keep", defArgs sT_keep, defBody sT_keep, defScope sT_keep, [], []⟩,
  ⟨("Table", some "letters_of"), "letters_of", "Table.letters_of", defArgs sT_letters_of, defBody sT_letters_of, defScope sT_letters_of, [], []⟩,
  ⟨("Table", some "may_come"), "may_come", "Table.may_come", defArgs sT_may_come, defBody sT_may_come, defScope sT_may_come, [], []⟩,
  ⟨("Table", some "paper"), "paper", "Table.paper", defArgs sT_paper, defBody sT_paper, defScope sT_paper, [], []⟩,
  ⟨("Table", some "paper_anew"), "paper_anew", "Table.paper_anew", defArgs sT_paper_anew, defBody sT_paper_anew, defScope sT_paper_anew, [], []⟩]
def fn1 : List He.DefD := [⟨("Table", some "joined_paper"), "joined_paper", "Table.joined_paper", defArgs sT_joined_paper, defBody sT_joined_paper, defScope sT_joined_paper, [], []⟩,
  ⟨("Table", some "waiting_paper"), "waiting_paper", "Table.waiting_paper", defArgs sT_waiting_paper, defBody sT_waiting_paper, defScope sT_waiting_paper, [], []⟩,
  ⟨("Table", some "behind_paper"), "behind_paper", "Table.behind_paper", defArgs sT_behind_paper, defBody sT_behind_paper, defScope sT_behind_paper, [], []⟩,
  ⟨("Table", some "ahead_paper"), "ahead_paper", "Table.ahead_paper", defArgs sT_ahead_paper, defBody sT_ahead_paper, defScope sT_ahead_paper, [], []⟩,
  ⟨("prove", none), "prove", "prove", defArgs sP_prove, defBody sP_prove, defScope sP_prove, [], []⟩,
  ⟨("row_comes", none), "row_comes", "row_comes", defArgs sP_row_comes, defBody sP_row_comes, defScope sP_row_comes, [], []⟩,
  ⟨("check_asked", none), "check_asked", "check_asked", defArgs sP_check_asked, defBody sP_check_asked, defScope sP_check_asked, [], []⟩,
  ⟨("check_small", none), "check_small", "check_small", defArgs sP_check_small, defBody sP_check_small, defScope sP_check_small, [], []⟩,
  ⟨("small_kinds", none), "small_kinds", "small_kinds", defArgs sP_small_kinds, defBody sP_small_kinds, defScope sP_small_kinds, [], []⟩,
  ⟨("kinds_of", none), "kinds_of", "kinds_of", defArgs sP_kinds_of, defBody sP_kinds_of, defScope sP_kinds_of, [], []⟩,
  ⟨("_law_spring", none), "_law_spring", "_law_spring", defArgs sL_spring, defBody sL_spring, defScope sL_spring, [], []⟩,
  ⟨("_law_sip", none), "_law_sip", "_law_sip", defArgs sL_sip, defBody sL_sip, defScope sL_sip, [], []⟩,
  ⟨("_law_letters", none), "_law_letters", "_law_letters", defArgs sL_letters, defBody sL_letters, defScope sL_letters, [], []⟩,
  ⟨("_law_drawn", none), "_law_drawn", "_law_drawn", defArgs sL_drawn, defBody sL_drawn, defScope sL_drawn, [], []⟩,
  ⟨("_law_size", none), "_law_size", "_law_size", defArgs sL_size, defBody sL_size, defScope sL_size, [], []⟩]
def fn2 : List He.DefD := [⟨("_law_depth", none), "_law_depth", "_law_depth", defArgs sL_depth, defBody sL_depth, defScope sL_depth, [], []⟩,
  ⟨("_law_waits", none), "_law_waits", "_law_waits", defArgs sL_waits, defBody sL_waits, defScope sL_waits, [], []⟩,
  ⟨("_law_fits", none), "_law_fits", "_law_fits", defArgs sL_fits, defBody sL_fits, defScope sL_fits, [], []⟩,
  ⟨("_law_lifted", none), "_law_lifted", "_law_lifted", defArgs sL_lifted, defBody sL_lifted, defScope sL_lifted, [], []⟩,
  ⟨("_law_longer", none), "_law_longer", "_law_longer", defArgs sL_longer, defBody sL_longer, defScope sL_longer, [], []⟩,
  ⟨("_law_chained", none), "_law_chained", "_law_chained", defArgs sL_chained, defBody sL_chained, defScope sL_chained, [], []⟩,
  ⟨("_law_made", none), "_law_made", "_law_made", defArgs sL_made, defBody sL_made, defScope sL_made, [], []⟩,
  ⟨("_law_crossed", none), "_law_crossed", "_law_crossed", defArgs sL_crossed, defBody sL_crossed, defScope sL_crossed, [], []⟩,
  ⟨("_law_bent", none), "_law_bent", "_law_bent", defArgs sL_bent, defBody sL_bent, defScope sL_bent, [], []⟩,
  ⟨("_law_sum", none), "_law_sum", "_law_sum", defArgs sL_sum, defBody sL_sum, defScope sL_sum, [], []⟩,
  ⟨("_law_comes", none), "_law_comes", "_law_comes", defArgs sL_comes, defBody sL_comes, defScope sL_comes, [], []⟩,
  ⟨("_law_comes_anew", none), "_law_comes_anew", "_law_comes_anew", defArgs sL_comes_anew, defBody sL_comes_anew, defScope sL_comes_anew, [], []⟩,
  ⟨("_law_put_together", none), "_law_put_together", "_law_put_together", defArgs sL_put_together, defBody sL_put_together, defScope sL_put_together, [], []⟩,
  ⟨("_law_text", none), "_law_text", "_law_text", defArgs sL_text, defBody sL_text, defScope sL_text, [], []⟩,
  ⟨("_law_small", none), "_law_small", "_law_small", defArgs sL_small, defBody sL_small, defScope sL_small, [], []⟩]
def fn3 : List He.DefD := [⟨("_law_ordered", none), "_law_ordered", "_law_ordered", defArgs sL_ordered, defBody sL_ordered, defScope sL_ordered, [], []⟩,
  ⟨("_law_row", none), "_law_row", "_law_row", defArgs sL_row, defBody sL_row, defScope sL_row, [], []⟩,
  ⟨("_law_choice", none), "_law_choice", "_law_choice", defArgs sL_choice, defBody sL_choice, defScope sL_choice, [], []⟩,
  ⟨("_law_told_right", none), "_law_told_right", "_law_told_right", defArgs sL_told_right, defBody sL_told_right, defScope sL_told_right, [], []⟩,
  ⟨("_law_asked_right", none), "_law_asked_right", "_law_asked_right", defArgs sL_asked_right, defBody sL_asked_right, defScope sL_asked_right, [], []⟩,
  ⟨("_law_right", none), "_law_right", "_law_right", defArgs sL_right, defBody sL_right, defScope sL_right, [], []⟩,
  ⟨("law", none), "law", "law", defArgs sP_law, defBody sP_law, defScope sP_law, [], []⟩]
def fn : List He.DefD := fn0 ++ (fn1 ++ (fn2 ++ (fn3)))
def fa0 : List He.Fa := [.glo "is_letter",
  .glo "wrong_part",
  .glo "checked_kind",
  .glo "check_single",
  .glo "single",
  .glo "show_kind",
  .glo "joined_words",
  .glo "back_word",
  .glo "Table",
  .cls "Table",
  .mkr "Table",
  .meth "Table" "__init__",
  .meth "Table" "number",
  .meth "Table" "keep",
  .meth "Table" "letters_of",
  .meth "Table" "may_come",
  .meth "Table" "paper",
  .meth "Table" "paper_anew",
  .meth "Table" "joined_paper",
  .meth "Table" "waiting_paper",
  .meth "Table" "behind_paper",
  .meth "Table" "ahead_paper",
  .glo "prove",
  .glo "row_comes",
  .glo "check_asked",
  .glo "check_small",
  .glo "small_kinds",
  .glo "kinds_of",
  .glo "_law_spring",
  .glo "_law_sip"]
def fa1 : List He.Fa := [.glo "_law_letters",
  .glo "_law_drawn",
  .glo "_law_size",
  .glo "_law_depth",
  .glo "_law_waits",
  .glo "_law_fits",
  .glo "_law_lifted",
  .glo "_law_longer",
  .glo "_law_chained",
  .glo "_law_made",
  .glo "_law_crossed",
  .glo "_law_bent",
  .glo "_law_sum",
  .glo "_law_comes",
  .glo "_law_comes_anew",
  .glo "_law_put_together",
  .glo "_law_text",
  .glo "_law_small",
  .glo "_law_ordered",
  .glo "_law_row",
  .glo "_law_choice",
  .glo "_law_told_right",
  .glo "_law_asked_right",
  .glo "_law_right",
  .glo "law",
  .free "len",
  .free "int",
  .free "abs",
  .free "max",
  .free "min"]
def fa2 : List He.Fa := [.free "sum",
  .free "range",
  .free "list",
  .free "tuple",
  .free "set",
  .free "sorted",
  .free "repr",
  .free "enumerate",
  .free "reversed",
  .free "isinstance",
  .str "LETTERS_kinds" "abcdefghijklmnopqrstuvwxyz",
  .str "LETTERS_finding" "abcdefghijklmnopqrstuvwxyz",
  .int "STEP" 4096,
  .int "MOST_SIGNS" 3,
  .int "MOST_LETTERS" 3,
  .glo "TURNS",
  .noat "Table" "marks",
  .noat "Table" "shapes",
  .noat "Table" "forms",
  .noat "Table" "pairs",
  .noat "Table" "sums",
  .noat "Table" "spelled",
  .noat "Table" "cores",
  .noat "Table" "weight",
  .noat "Table" "met",
  .noat "Table" "known"]
def fa : List He.Fa := fa0 ++ (fa1 ++ (fa2))
def names0 : List PySem.Str := ["WaitError",
  "InvalidLetter",
  "InvalidKind",
  "InvalidRow",
  "NotSingle",
  "InvalidNumber",
  "fresh",
  "LETTERS_kinds",
  "TURNS",
  "is_letter",
  "wrong_part",
  "checked_kind",
  "check_single",
  "single",
  "show_kind",
  "STEP",
  "joined_words",
  "back_word",
  "Table",
  "prove",
  "LETTERS_finding",
  "MOST_SIGNS",
  "MOST_LETTERS",
  "row_comes",
  "check_asked",
  "check_small",
  "small_kinds",
  "kinds_of",
  "_law_spring",
  "_law_sip"]
def names1 : List PySem.Str := ["_law_letters",
  "_law_drawn",
  "_law_size",
  "_law_depth",
  "_law_waits",
  "_law_fits",
  "_law_lifted",
  "_law_longer",
  "_law_chained",
  "_law_made",
  "_law_crossed",
  "_law_bent",
  "_law_sum",
  "_law_comes",
  "_law_comes_anew",
  "_law_put_together",
  "_law_text",
  "_law_small",
  "_law_ordered",
  "_law_row",
  "_law_choice",
  "_law_told_right",
  "_law_asked_right",
  "_law_right"]
def names : List PySem.Str := names0 ++ (names1)
def ts : List He.Tab := [(fun K => He.ga K "TURNS", ["behind", "ahead", "with"])]
def vals : List (PySem.Str × He.Dv) := [("behind", .str "ahead"), ("ahead", .str "behind")]
def obsX (K : PySem.W.Frag) : He.AlT × Bool := (He.obsT fa fn ts K, He.valsB K (He.ga K "TURNS") vals)
def SaysX (w : World) (K : PySem.W.Frag) : Prop := obsX K = (He.valT fn ts w, true)
def frX (g : Addr → Option Obj) : PySem.W.Frag := He.frG g (He.asD g 4)
def hk : PySem.W.Hook where
  α := He.AlT × Bool
  obs := fun s => obsX (frX s.heap.get?)
  val := fun w => (He.valT fn ts w, true)
  says := fun w h => ∃ K : PySem.W.Frag, K.In h ∧ SaysX w K
  of := fun _ _ e => ⟨_, He.frG_in, e⟩
  keeps := fun _ _ _ ⟨K, hK, c⟩ k => ⟨K, PySem.W.Frag.In.keeps hK k, c⟩
def ob (s : PySem.W.SharedT) : He.AlT × Bool := obsX (frX (HandSHeadRun.getT s))
theorem ob_eq (s : PySem.W.SharedT) : ob s = hk.obs s.abs := by
  have e : HandSHeadRun.getT s = s.abs.heap.get? := funext (HandSHeadRun.getT_eq s)
  unfold ob
  rw [e]
  rfl
section
variable {w : World} {K : PySem.W.Frag} {h : Heap} {mg : PySem.Str → Option Value}
theorem SaysX.t (c : SaysX w K) : He.SaysT fa fn ts w K := congrArg (fun z : He.AlT × Bool => z.1) c
theorem SaysX.v (c : SaysX w K) : He.valsB K (He.ga K "TURNS") vals = true := congrArg (fun z : He.AlT × Bool => z.2) c
theorem txt (X : K.In h) (G : h.Ns mainGlobals mg) (c : SaysX w K) : Txt w K mg (He.ga K "Table") := by
  have d := c.t.d
  have hC : Cls K (He.ga K "Table") := He.cls_ok (d.fact 9 rfl)
  have hM : Mk K (He.ga K "Table") (He.ma K (He.ga K "Table") "__init__") := He.mkr_ok (d.fact 10 rfl)
  have dP_is_letter : Dfn K mg "is_letter" sP_is_letter ["text"] := by
    obtain ⟨fd, F⟩ := d.def_ 0 rfl
    exact ⟨_, fd, _, F, He.glo_ok X G (d.fact 0 rfl), F.bindsN (ps := ["text"]) fun _ _ _ _ _ _ us hl => match us, hl with | [_], _ => rfl⟩
  have dP_wrong_part : Dfn K mg "wrong_part" sP_wrong_part ["kind"] := by
    obtain ⟨fd, F⟩ := d.def_ 1 rfl
    exact ⟨_, fd, _, F, He.glo_ok X G (d.fact 1 rfl), F.bindsN (ps := ["kind"]) fun _ _ _ _ _ _ us hl => match us, hl with | [_], _ => rfl⟩
  have dP_checked_kind : Dfn K mg "checked_kind" sP_checked_kind ["kind"] := by
    obtain ⟨fd, F⟩ := d.def_ 2 rfl
    exact ⟨_, fd, _, F, He.glo_ok X G (d.fact 2 rfl), F.bindsN (ps := ["kind"]) fun _ _ _ _ _ _ us hl => match us, hl with | [_], _ => rfl⟩
  have dP_check_single : Dfn K mg "check_single" sP_check_single ["row", "kind"] := by
    obtain ⟨fd, F⟩ := d.def_ 3 rfl
    obtain ⟨ds, rv, b⟩ := F.binds1 (ps := ["row", "kind"]) 2 1 (fun e => by cases e) rfl fun T kV doc pm an cdv ct us its h1 h2 => match us, its, h1, h2 with | [_, _], [_], _, _ => ⟨_, rfl, rfl⟩
    cases rv
    exact ⟨_, fd, _, F, He.glo_ok X G (d.fact 3 rfl), b⟩
  have dP_single : Dfn K mg "single" sP_single ["kind"] := by
    obtain ⟨fd, F⟩ := d.def_ 4 rfl
    exact ⟨_, fd, _, F, He.glo_ok X G (d.fact 4 rfl), F.bindsN (ps := ["kind"]) fun _ _ _ _ _ _ us hl => match us, hl with | [_], _ => rfl⟩
  have dP_show_kind : Dfn K mg "show_kind" sP_show_kind ["kind"] := by
    obtain ⟨fd, F⟩ := d.def_ 5 rfl
    exact ⟨_, fd, _, F, He.glo_ok X G (d.fact 5 rfl), F.bindsN (ps := ["kind"]) fun _ _ _ _ _ _ us hl => match us, hl with | [_], _ => rfl⟩
  have dP_joined_words : Dfn K mg "joined_words" sP_joined_words ["one", "other"] := by
    obtain ⟨fd, F⟩ := d.def_ 6 rfl
    exact ⟨_, fd, _, F, He.glo_ok X G (d.fact 6 rfl), F.bindsN (ps := ["one", "other"]) fun _ _ _ _ _ _ us hl => match us, hl with | [_, _], _ => rfl⟩
  have dP_back_word : Dfn K mg "back_word" sP_back_word ["told"] := by
    obtain ⟨fd, F⟩ := d.def_ 7 rfl
    exact ⟨_, fd, _, F, He.glo_ok X G (d.fact 7 rfl), F.bindsN (ps := ["told"]) fun _ _ _ _ _ _ us hl => match us, hl with | [_], _ => rfl⟩
  have dT_init : Mfn K (He.ga K "Table") "__init__" "Table.__init__" sT_init ["self"] := by
    obtain ⟨fd, F⟩ := d.def_ 8 rfl
    exact ⟨_, fd, _, F, hC, He.meth_ok (d.fact 11 rfl), F.bindsN (ps := ["self"]) fun _ _ _ _ _ _ us hl => match us, hl with | [_], _ => rfl⟩
  have dT_number : Mfn K (He.ga K "Table") "number" "Table.number" sT_number ["self", "kind"] := by
    obtain ⟨fd, F⟩ := d.def_ 9 rfl
    exact ⟨_, fd, _, F, hC, He.meth_ok (d.fact 12 rfl), F.bindsN (ps := ["self", "kind"]) fun _ _ _ _ _ _ us hl => match us, hl with | [_, _], _ => rfl⟩
  have dT_keep : Mfn K (He.ga K "Table") "keep" "Table.keep" sT_keep ["self", "mark", "kind", "pair", "told"] := by
    obtain ⟨fd, F⟩ := d.def_ 10 rfl
    exact ⟨_, fd, _, F, hC, He.meth_ok (d.fact 13 rfl), F.bindsN (ps := ["self", "mark", "kind", "pair", "told"]) fun _ _ _ _ _ _ us hl => match us, hl with | [_, _, _, _, _], _ => rfl⟩
  have dT_letters_of : Mfn K (He.ga K "Table") "letters_of" "Table.letters_of" sT_letters_of ["self", "mark"] := by
    obtain ⟨fd, F⟩ := d.def_ 11 rfl
    exact ⟨_, fd, _, F, hC, He.meth_ok (d.fact 14 rfl), F.bindsN (ps := ["self", "mark"]) fun _ _ _ _ _ _ us hl => match us, hl with | [_, _], _ => rfl⟩
  have dT_may_come : Mfn K (He.ga K "Table") "may_come" "Table.may_come" sT_may_come ["self", "row", "goal"] := by
    obtain ⟨fd, F⟩ := d.def_ 12 rfl
    exact ⟨_, fd, _, F, hC, He.meth_ok (d.fact 15 rfl), F.bindsN (ps := ["self", "row", "goal"]) fun _ _ _ _ _ _ us hl => match us, hl with | [_, _, _], _ => rfl⟩
  have dT_paper : Mfn K (He.ga K "Table") "paper" "Table.paper" sT_paper ["self", "row", "goal"] := by
    obtain ⟨fd, F⟩ := d.def_ 13 rfl
    exact ⟨_, fd, _, F, hC, He.meth_ok (d.fact 16 rfl), F.bindsN (ps := ["self", "row", "goal"]) fun _ _ _ _ _ _ us hl => match us, hl with | [_, _, _], _ => rfl⟩
  have dT_paper_anew : Mfn K (He.ga K "Table") "paper_anew" "Table.paper_anew" sT_paper_anew ["self", "row", "goal"] := by
    obtain ⟨fd, F⟩ := d.def_ 14 rfl
    exact ⟨_, fd, _, F, hC, He.meth_ok (d.fact 17 rfl), F.bindsN (ps := ["self", "row", "goal"]) fun _ _ _ _ _ _ us hl => match us, hl with | [_, _, _], _ => rfl⟩
  have dT_joined_paper : Mfn K (He.ga K "Table") "joined_paper" "Table.joined_paper" sT_joined_paper ["self", "row", "one", "other"] := by
    obtain ⟨fd, F⟩ := d.def_ 15 rfl
    exact ⟨_, fd, _, F, hC, He.meth_ok (d.fact 18 rfl), F.bindsN (ps := ["self", "row", "one", "other"]) fun _ _ _ _ _ _ us hl => match us, hl with | [_, _, _, _], _ => rfl⟩
  have dT_waiting_paper : Mfn K (He.ga K "Table") "waiting_paper" "Table.waiting_paper" sT_waiting_paper ["self", "row", "goal"] := by
    obtain ⟨fd, F⟩ := d.def_ 16 rfl
    exact ⟨_, fd, _, F, hC, He.meth_ok (d.fact 19 rfl), F.bindsN (ps := ["self", "row", "goal"]) fun _ _ _ _ _ _ us hl => match us, hl with | [_, _, _], _ => rfl⟩
  have dT_behind_paper : Mfn K (He.ga K "Table") "behind_paper" "Table.behind_paper" sT_behind_paper ["self", "row", "at", "goal"] := by
    obtain ⟨fd, F⟩ := d.def_ 17 rfl
    exact ⟨_, fd, _, F, hC, He.meth_ok (d.fact 20 rfl), F.bindsN (ps := ["self", "row", "at", "goal"]) fun _ _ _ _ _ _ us hl => match us, hl with | [_, _, _, _], _ => rfl⟩
  have dT_ahead_paper : Mfn K (He.ga K "Table") "ahead_paper" "Table.ahead_paper" sT_ahead_paper ["self", "row", "at", "goal"] := by
    obtain ⟨fd, F⟩ := d.def_ 18 rfl
    exact ⟨_, fd, _, F, hC, He.meth_ok (d.fact 21 rfl), F.bindsN (ps := ["self", "row", "at", "goal"]) fun _ _ _ _ _ _ us hl => match us, hl with | [_, _, _, _], _ => rfl⟩
  have dP_prove : Dfn K mg "prove" sP_prove ["row", "kind"] := by
    obtain ⟨fd, F⟩ := d.def_ 19 rfl
    exact ⟨_, fd, _, F, He.glo_ok X G (d.fact 22 rfl), F.bindsN (ps := ["row", "kind"]) fun _ _ _ _ _ _ us hl => match us, hl with | [_, _], _ => rfl⟩
  have dP_row_comes : Dfn K mg "row_comes" sP_row_comes ["row", "kind"] := by
    obtain ⟨fd, F⟩ := d.def_ 20 rfl
    exact ⟨_, fd, _, F, He.glo_ok X G (d.fact 23 rfl), F.bindsN (ps := ["row", "kind"]) fun _ _ _ _ _ _ us hl => match us, hl with | [_, _], _ => rfl⟩
  have dP_check_asked : Dfn K mg "check_asked" sP_check_asked ["row", "kinds"] := by
    obtain ⟨fd, F⟩ := d.def_ 21 rfl
    exact ⟨_, fd, _, F, He.glo_ok X G (d.fact 24 rfl), F.bindsN (ps := ["row", "kinds"]) fun _ _ _ _ _ _ us hl => match us, hl with | [_, _], _ => rfl⟩
  have dP_check_small : Dfn K mg "check_small" sP_check_small ["signs", "most"] := by
    obtain ⟨fd, F⟩ := d.def_ 22 rfl
    exact ⟨_, fd, _, F, He.glo_ok X G (d.fact 25 rfl), F.bindsN (ps := ["signs", "most"]) fun _ _ _ _ _ _ us hl => match us, hl with | [_, _], _ => rfl⟩
  have dP_small_kinds : Dfn K mg "small_kinds" sP_small_kinds ["signs", "most"] := by
    obtain ⟨fd, F⟩ := d.def_ 23 rfl
    exact ⟨_, fd, _, F, He.glo_ok X G (d.fact 26 rfl), F.bindsN (ps := ["signs", "most"]) fun _ _ _ _ _ _ us hl => match us, hl with | [_, _], _ => rfl⟩
  have dP_kinds_of : Dfn K mg "kinds_of" sP_kinds_of ["row", "signs", "most"] := by
    obtain ⟨fd, F⟩ := d.def_ 24 rfl
    exact ⟨_, fd, _, F, He.glo_ok X G (d.fact 27 rfl), F.bindsN (ps := ["row", "signs", "most"]) fun _ _ _ _ _ _ us hl => match us, hl with | [_, _, _], _ => rfl⟩
  have dL_spring : Dfn K mg "_law_spring" sL_spring ["_law_script", "_law_spot"] := by
    obtain ⟨fd, F⟩ := d.def_ 25 rfl
    exact ⟨_, fd, _, F, He.glo_ok X G (d.fact 28 rfl), F.bindsN (ps := ["_law_script", "_law_spot"]) fun _ _ _ _ _ _ us hl => match us, hl with | [_, _], _ => rfl⟩
  have dL_sip : Dfn K mg "_law_sip" sL_sip ["_law_spring_here", "_law_many"] := by
    obtain ⟨fd, F⟩ := d.def_ 26 rfl
    exact ⟨_, fd, _, F, He.glo_ok X G (d.fact 29 rfl), F.bindsN (ps := ["_law_spring_here", "_law_many"]) fun _ _ _ _ _ _ us hl => match us, hl with | [_, _], _ => rfl⟩
  have dL_letters : Dfn K mg "_law_letters" sL_letters ["_law_spring_here"] := by
    obtain ⟨fd, F⟩ := d.def_ 27 rfl
    exact ⟨_, fd, _, F, He.glo_ok X G (d.fact 30 rfl), F.bindsN (ps := ["_law_spring_here"]) fun _ _ _ _ _ _ us hl => match us, hl with | [_], _ => rfl⟩
  have dL_drawn : Dfn K mg "_law_drawn" sL_drawn ["_law_spring_here", "_law_names", "_law_many", "_law_forms"] := by
    obtain ⟨fd, F⟩ := d.def_ 28 rfl
    exact ⟨_, fd, _, F, He.glo_ok X G (d.fact 31 rfl), F.bindsN (ps := ["_law_spring_here", "_law_names", "_law_many", "_law_forms"]) fun _ _ _ _ _ _ us hl => match us, hl with | [_, _, _, _], _ => rfl⟩
  have dL_size : Dfn K mg "_law_size" sL_size ["_law_thing"] := by
    obtain ⟨fd, F⟩ := d.def_ 29 rfl
    exact ⟨_, fd, _, F, He.glo_ok X G (d.fact 32 rfl), F.bindsN (ps := ["_law_thing"]) fun _ _ _ _ _ _ us hl => match us, hl with | [_], _ => rfl⟩
  have dL_depth : Dfn K mg "_law_depth" sL_depth ["_law_thing"] := by
    obtain ⟨fd, F⟩ := d.def_ 30 rfl
    exact ⟨_, fd, _, F, He.glo_ok X G (d.fact 33 rfl), F.bindsN (ps := ["_law_thing"]) fun _ _ _ _ _ _ us hl => match us, hl with | [_], _ => rfl⟩
  have dL_waits : Dfn K mg "_law_waits" sL_waits ["_law_thing"] := by
    obtain ⟨fd, F⟩ := d.def_ 31 rfl
    exact ⟨_, fd, _, F, He.glo_ok X G (d.fact 34 rfl), F.bindsN (ps := ["_law_thing"]) fun _ _ _ _ _ _ us hl => match us, hl with | [_], _ => rfl⟩
  have dL_fits : Dfn K mg "_law_fits" sL_fits ["_law_line", "_law_goal"] := by
    obtain ⟨fd, F⟩ := d.def_ 32 rfl
    exact ⟨_, fd, _, F, He.glo_ok X G (d.fact 35 rfl), F.bindsN (ps := ["_law_line", "_law_goal"]) fun _ _ _ _ _ _ us hl => match us, hl with | [_, _], _ => rfl⟩
  have dL_lifted : Dfn K mg "_law_lifted" sL_lifted ["_law_here", "_law_more", "_law_way"] := by
    obtain ⟨fd, F⟩ := d.def_ 33 rfl
    exact ⟨_, fd, _, F, He.glo_ok X G (d.fact 36 rfl), F.bindsN (ps := ["_law_here", "_law_more", "_law_way"]) fun _ _ _ _ _ _ us hl => match us, hl with | [_, _, _], _ => rfl⟩
  have dL_longer : Dfn K mg "_law_longer" sL_longer ["_law_spring_here", "_law_names", "_law_forms", "_law_line", "_law_goal"] := by
    obtain ⟨fd, F⟩ := d.def_ 34 rfl
    exact ⟨_, fd, _, F, He.glo_ok X G (d.fact 37 rfl), F.bindsN (ps := ["_law_spring_here", "_law_names", "_law_forms", "_law_line", "_law_goal"]) fun _ _ _ _ _ _ us hl => match us, hl with | [_, _, _, _, _], _ => rfl⟩
  have dL_chained : Dfn K mg "_law_chained" sL_chained ["_law_spring_here", "_law_names"] := by
    obtain ⟨fd, F⟩ := d.def_ 35 rfl
    exact ⟨_, fd, _, F, He.glo_ok X G (d.fact 38 rfl), F.bindsN (ps := ["_law_spring_here", "_law_names"]) fun _ _ _ _ _ _ us hl => match us, hl with | [_, _], _ => rfl⟩
  have dL_made : Dfn K mg "_law_made" sL_made ["_law_spring_here", "_law_names", "_law_forms", "_law_turns"] := by
    obtain ⟨fd, F⟩ := d.def_ 36 rfl
    exact ⟨_, fd, _, F, He.glo_ok X G (d.fact 39 rfl), F.bindsN (ps := ["_law_spring_here", "_law_names", "_law_forms", "_law_turns"]) fun _ _ _ _ _ _ us hl => match us, hl with | [_, _, _, _], _ => rfl⟩
  have dL_crossed : Dfn K mg "_law_crossed" sL_crossed ["_law_spring_here", "_law_thing"] := by
    obtain ⟨fd, F⟩ := d.def_ 37 rfl
    exact ⟨_, fd, _, F, He.glo_ok X G (d.fact 40 rfl), F.bindsN (ps := ["_law_spring_here", "_law_thing"]) fun _ _ _ _ _ _ us hl => match us, hl with | [_, _], _ => rfl⟩
  have dL_bent : Dfn K mg "_law_bent" sL_bent ["_law_spring_here", "_law_names", "_law_forms", "_law_line", "_law_goal"] := by
    obtain ⟨fd, F⟩ := d.def_ 38 rfl
    exact ⟨_, fd, _, F, He.glo_ok X G (d.fact 41 rfl), F.bindsN (ps := ["_law_spring_here", "_law_names", "_law_forms", "_law_line", "_law_goal"]) fun _ _ _ _ _ _ us hl => match us, hl with | [_, _, _, _, _], _ => rfl⟩
  have dL_sum : Dfn K mg "_law_sum" sL_sum ["_law_thing", "_law_names"] := by
    obtain ⟨fd, F⟩ := d.def_ 39 rfl
    exact ⟨_, fd, _, F, He.glo_ok X G (d.fact 42 rfl), F.bindsN (ps := ["_law_thing", "_law_names"]) fun _ _ _ _ _ _ us hl => match us, hl with | [_, _], _ => rfl⟩
  have dL_comes : Dfn K mg "_law_comes" sL_comes ["_law_line", "_law_goal", "_law_names", "_law_known"] := by
    obtain ⟨fd, F⟩ := d.def_ 40 rfl
    exact ⟨_, fd, _, F, He.glo_ok X G (d.fact 43 rfl), F.bindsN (ps := ["_law_line", "_law_goal", "_law_names", "_law_known"]) fun _ _ _ _ _ _ us hl => match us, hl with | [_, _, _, _], _ => rfl⟩
  have dL_comes_anew : Dfn K mg "_law_comes_anew" sL_comes_anew ["_law_line", "_law_goal", "_law_names", "_law_known"] := by
    obtain ⟨fd, F⟩ := d.def_ 41 rfl
    exact ⟨_, fd, _, F, He.glo_ok X G (d.fact 44 rfl), F.bindsN (ps := ["_law_line", "_law_goal", "_law_names", "_law_known"]) fun _ _ _ _ _ _ us hl => match us, hl with | [_, _, _, _], _ => rfl⟩
  have dL_put_together : Dfn K mg "_law_put_together" sL_put_together ["_law_line", "_law_spot", "_law_goal", "_law_names", "_law_known"] := by
    obtain ⟨fd, F⟩ := d.def_ 42 rfl
    exact ⟨_, fd, _, F, He.glo_ok X G (d.fact 45 rfl), F.bindsN (ps := ["_law_line", "_law_spot", "_law_goal", "_law_names", "_law_known"]) fun _ _ _ _ _ _ us hl => match us, hl with | [_, _, _, _, _], _ => rfl⟩
  have dL_text : Dfn K mg "_law_text" sL_text ["_law_thing"] := by
    obtain ⟨fd, F⟩ := d.def_ 43 rfl
    exact ⟨_, fd, _, F, He.glo_ok X G (d.fact 46 rfl), F.bindsN (ps := ["_law_thing"]) fun _ _ _ _ _ _ us hl => match us, hl with | [_], _ => rfl⟩
  have dL_small : Dfn K mg "_law_small" sL_small ["_law_choice_here", "_law_many"] := by
    obtain ⟨fd, F⟩ := d.def_ 44 rfl
    exact ⟨_, fd, _, F, He.glo_ok X G (d.fact 47 rfl), F.bindsN (ps := ["_law_choice_here", "_law_many"]) fun _ _ _ _ _ _ us hl => match us, hl with | [_, _], _ => rfl⟩
  have dL_ordered : Dfn K mg "_law_ordered" sL_ordered ["_law_choice_here", "_law_many"] := by
    obtain ⟨fd, F⟩ := d.def_ 45 rfl
    exact ⟨_, fd, _, F, He.glo_ok X G (d.fact 48 rfl), F.bindsN (ps := ["_law_choice_here", "_law_many"]) fun _ _ _ _ _ _ us hl => match us, hl with | [_, _], _ => rfl⟩
  have dL_row : Dfn K mg "_law_row" sL_row ["_law_spring_here", "_law_names", "_law_letters_here"] := by
    obtain ⟨fd, F⟩ := d.def_ 46 rfl
    exact ⟨_, fd, _, F, He.glo_ok X G (d.fact 49 rfl), F.bindsN (ps := ["_law_spring_here", "_law_names", "_law_letters_here"]) fun _ _ _ _ _ _ us hl => match us, hl with | [_, _, _], _ => rfl⟩
  have dL_choice : Dfn K mg "_law_choice" sL_choice ["_law_spring_here", "_law_names"] := by
    obtain ⟨fd, F⟩ := d.def_ 47 rfl
    exact ⟨_, fd, _, F, He.glo_ok X G (d.fact 50 rfl), F.bindsN (ps := ["_law_spring_here", "_law_names"]) fun _ _ _ _ _ _ us hl => match us, hl with | [_, _], _ => rfl⟩
  have dL_told_right : Dfn K mg "_law_told_right" sL_told_right ["_law_line", "_law_choice_here", "_law_many", "_law_due"] := by
    obtain ⟨fd, F⟩ := d.def_ 48 rfl
    exact ⟨_, fd, _, F, He.glo_ok X G (d.fact 51 rfl), F.bindsN (ps := ["_law_line", "_law_choice_here", "_law_many", "_law_due"]) fun _ _ _ _ _ _ us hl => match us, hl with | [_, _, _, _], _ => rfl⟩
  have dL_asked_right : Dfn K mg "_law_asked_right" sL_asked_right ["_law_spring_here", "_law_line", "_law_many", "_law_names", "_law_known"] := by
    obtain ⟨fd, F⟩ := d.def_ 49 rfl
    exact ⟨_, fd, _, F, He.glo_ok X G (d.fact 52 rfl), F.bindsN (ps := ["_law_spring_here", "_law_line", "_law_many", "_law_names", "_law_known"]) fun _ _ _ _ _ _ us hl => match us, hl with | [_, _, _, _, _], _ => rfl⟩
  have dL_right : Dfn K mg "_law_right" sL_right ["_law_spring_here"] := by
    obtain ⟨fd, F⟩ := d.def_ 50 rfl
    exact ⟨_, fd, _, F, He.glo_ok X G (d.fact 53 rfl), F.bindsN (ps := ["_law_spring_here"]) fun _ _ _ _ _ _ us hl => match us, hl with | [_], _ => rfl⟩
  have dP_law : Dfn K mg "law" sP_law ["_law_script"] := by
    obtain ⟨fd, F⟩ := d.def_ 51 rfl
    exact ⟨_, fd, _, F, He.glo_ok X G (d.fact 54 rfl), F.bindsN (ps := ["_law_script"]) fun _ _ _ _ _ _ us hl => match us, hl with | [_], _ => rfl⟩
  exact {
    dP_is_letter := dP_is_letter,
    dP_wrong_part := dP_wrong_part,
    dP_checked_kind := dP_checked_kind,
    dP_check_single := dP_check_single,
    dP_single := dP_single,
    dP_show_kind := dP_show_kind,
    dP_joined_words := dP_joined_words,
    dP_back_word := dP_back_word,
    dT_init := dT_init,
    dT_number := dT_number,
    dT_keep := dT_keep,
    dT_letters_of := dT_letters_of,
    dT_may_come := dT_may_come,
    dT_paper := dT_paper,
    dT_paper_anew := dT_paper_anew,
    dT_joined_paper := dT_joined_paper,
    dT_waiting_paper := dT_waiting_paper,
    dT_behind_paper := dT_behind_paper,
    dT_ahead_paper := dT_ahead_paper,
    dP_prove := dP_prove,
    dP_row_comes := dP_row_comes,
    dP_check_asked := dP_check_asked,
    dP_check_small := dP_check_small,
    dP_small_kinds := dP_small_kinds,
    dP_kinds_of := dP_kinds_of,
    dL_spring := dL_spring,
    dL_sip := dL_sip,
    dL_letters := dL_letters,
    dL_drawn := dL_drawn,
    dL_size := dL_size,
    dL_depth := dL_depth,
    dL_waits := dL_waits,
    dL_fits := dL_fits,
    dL_lifted := dL_lifted,
    dL_longer := dL_longer,
    dL_chained := dL_chained,
    dL_made := dL_made,
    dL_crossed := dL_crossed,
    dL_bent := dL_bent,
    dL_sum := dL_sum,
    dL_comes := dL_comes,
    dL_comes_anew := dL_comes_anew,
    dL_put_together := dL_put_together,
    dL_text := dL_text,
    dL_small := dL_small,
    dL_ordered := dL_ordered,
    dL_row := dL_row,
    dL_choice := dL_choice,
    dL_told_right := dL_told_right,
    dL_asked_right := dL_asked_right,
    dL_right := dL_right,
    dP_law := dP_law,
    m_len := He.free_ok X G (d.fact 55 rfl),
    m_int := He.free_ok X G (d.fact 56 rfl),
    m_abs := He.free_ok X G (d.fact 57 rfl),
    m_max := He.free_ok X G (d.fact 58 rfl),
    m_min := He.free_ok X G (d.fact 59 rfl),
    m_sum := He.free_ok X G (d.fact 60 rfl),
    m_range := He.free_ok X G (d.fact 61 rfl),
    m_list := He.free_ok X G (d.fact 62 rfl),
    m_tuple := He.free_ok X G (d.fact 63 rfl),
    m_set := He.free_ok X G (d.fact 64 rfl),
    m_sorted := He.free_ok X G (d.fact 65 rfl),
    m_repr := He.free_ok X G (d.fact 66 rfl),
    m_enumerate := He.free_ok X G (d.fact 67 rfl),
    m_reversed := He.free_ok X G (d.fact 68 rfl),
    m_isinstance := He.free_ok X G (d.fact 69 rfl),
    G_LETTERS_kinds := let ⟨t, e⟩ := He.str_ok X G (d.fact 70 rfl); ⟨_, e, t, rfl⟩,
    G_LETTERS_finding := let ⟨t, e⟩ := He.str_ok X G (d.fact 71 rfl); ⟨_, e, t, rfl⟩,
    G_STEP := let ⟨t, e⟩ := He.int_ok X G (d.fact 72 rfl); ⟨_, e, t, rfl⟩,
    G_MOST_SIGNS := let ⟨t, e⟩ := He.int_ok X G (d.fact 73 rfl); ⟨_, e, t, rfl⟩,
    G_MOST_LETTERS := let ⟨t, e⟩ := He.int_ok X G (d.fact 74 rfl); ⟨_, e, t, rfl⟩,
    G_TURNS := let ⟨es, n, kd⟩ := c.t.tab 0 rfl; let ⟨u1, e1, _⟩ := He.valsB_ok c.v (q := ("behind", .str "ahead")) (List.mem_cons_self ..); let ⟨u2, e2, _⟩ := He.valsB_ok c.v (q := ("ahead", .str "behind")) (List.mem_cons_of_mem _ (List.mem_cons_self ..)); ⟨_, es, n, kd, He.glo_ok X G (d.fact 75 rfl), ⟨u1, e1⟩, ⟨u2, e2⟩⟩,
    cl := hC,
    makes := hM.makes,
    kpC := hM.kp,
    kN := by obtain ⟨fd, F⟩ := d.def_ 24 rfl; exact ⟨_, fd, F, He.glo_ok X G (d.fact 27 rfl), F.bindsN (ps := ["row", "signs", "most"]) fun _ _ _ _ _ _ us hl => match us, hl with | [_, _, _], _ => rfl⟩,
    mgC := He.glo_ok X G (d.fact 8 rfl),
    n_marks := He.noat_ok (d.fact 76 rfl),
    n_shapes := He.noat_ok (d.fact 77 rfl),
    n_forms := He.noat_ok (d.fact 78 rfl),
    n_pairs := He.noat_ok (d.fact 79 rfl),
    n_sums := He.noat_ok (d.fact 80 rfl),
    n_spelled := He.noat_ok (d.fact 81 rfl),
    n_cores := He.noat_ok (d.fact 82 rfl),
    n_weight := He.noat_ok (d.fact 83 rfl),
    n_met := He.noat_ok (d.fact 84 rfl),
    n_known := He.noat_ok (d.fact 85 rfl) }
theorem law_at (X : K.In h) (G : h.Ns mainGlobals mg) (c : SaysX w K) : ∃ fd : FuncData, mg "law" = some (.ref (He.ga K "law")) ∧ FunD K "law" "law" (defArgs sP_law) (defBody sP_law) (defScope sP_law) [] [] (He.ga K "law") fd := by
  obtain ⟨fd, F⟩ := c.t.d.def_ 51 rfl
  exact ⟨fd, He.glo_ok X G (c.t.d.fact 54 rfl), F⟩
end
end L2.G.Hd
set_option Elab.async false
set_option linter.all false
set_option maxRecDepth 100000
set_option maxHeartbeats 0
/-! The top's run, by one kernel run for each answer of the one row that it asks. -/
namespace L2.G.Hd
open PySem PySem.Spec PyProof.Rows L2 L2.G
theorem run_f (w : World) : HandSHeadRun.RunEq R (PySem.W.view R.prog [61]) hk ob 6000 names (w.withFollow "special-get-raises" false) := by
  intro os
  kernel_rfl
theorem run_t (w : World) : HandSHeadRun.RunEq R (PySem.W.view R.prog [61]) hk ob 6000 names (w.withFollow "special-get-raises" true) := by
  intro os
  kernel_rfl
theorem run (w : World) : HandSHeadRun.RunEq R (PySem.W.view R.prog [61]) hk ob 6000 names w :=
  PySem.W.byRow2 "special-get-raises" (P := fun w => HandSHeadRun.RunEq R (PySem.W.view R.prog [61]) hk ob 6000 names w) run_f run_t w
end L2.G.Hd
/-! Kinds that only wait; the two searches; they agree. Plain Lean. -/
namespace WW

/-- a kind: plain, ("behind", x, y): y is waited for behind, ("ahead", y, x): y is waited for ahead -/
inductive Kd (α : Type) where
  | p (c : α)
  | b (x y : Kd α)
  | a (y x : Kd α)
  deriving DecidableEq, Repr

variable {α : Type}

namespace Kd
/-- the letter that it is when it waits no more -/
def core : Kd α → α
  | p c => c
  | b x _ => x.core
  | a _ x => x.core
/-- how many letters -/
def size : Kd α → Nat
  | p _ => 1
  | b x y => x.size + y.size
  | a y x => y.size + x.size
theorem size_pos : ∀ k : Kd α, 1 ≤ k.size
  | p _ => Nat.le_refl 1
  | b x y => by have := size_pos x; unfold size; omega
  | a y x => by have := size_pos y; unfold size; omega
/-- how often it waits -/
def ops : Kd α → Nat
  | p _ => 0
  | b x y => x.ops + y.ops + 1
  | a y x => y.ops + x.ops + 1
theorem ops_size : ∀ k : Kd α, k.ops + 1 = k.size
  | p _ => rfl
  | b x y => by have := ops_size x; have := ops_size y; unfold ops size; omega
  | a y x => by have := ops_size x; have := ops_size y; unfold ops size; omega
end Kd
open Kd

/-- rows that come to kinds, as the law searches: left lines only below a plain kind -/
inductive L : List (Kd α) → Kd α → Prop where
  | ax (k) : L [k] k
  | rb {r x y} : L (r ++ [y]) x → L r (b x y)
  | ra {r x y} : L (y :: r) x → L r (a y x)
  | lb {g d t x y c} : d ≠ [] → L d y → L (g ++ x :: t) (p c) → L (g ++ b x y :: (d ++ t)) (p c)
  | la {g d t x y c} : d ≠ [] → L d y → L (g ++ x :: t) (p c) → L (g ++ (d ++ a y x :: t)) (p c)

/-- as the program searches: the kind that is put together is one whose core is asked -/
inductive F : List (Kd α) → Kd α → Prop where
  | ax (c) : F [p c] (p c)
  | rb {r x y} : F (r ++ [y]) x → F r (b x y)
  | ra {r x y} : F (y :: r) x → F r (a y x)
  | lb {g d t x y c} : x.core = c → d ≠ [] → F d y → F (g ++ x :: t) (p c) → F (g ++ b x y :: (d ++ t)) (p c)
  | la {g d t x y c} : x.core = c → d ≠ [] → F d y → F (g ++ x :: t) (p c) → F (g ++ (d ++ a y x :: t)) (p c)

/-- where an item stands in two parts -/
theorem split2 {β : Type} {g t u v : List β} {x : β} (h : g ++ x :: t = u ++ v) : (∃ s, u = g ++ x :: s ∧ t = s ++ v) ∨ (∃ s, g = u ++ s ∧ v = s ++ x :: t) := by
  rcases List.append_eq_append_iff.mp h with ⟨s, e1, e2⟩ | ⟨s, e1, e2⟩
  · cases s with
    | nil => exact .inr ⟨[], by simpa using e1.symm, by simpa using e2.symm⟩
    | cons z s =>
      injection e2 with e3 e4
      subst e3
      exact .inl ⟨s, e1, e4⟩
  · exact .inr ⟨s, e1, e2⟩

/-- taking the place of x by a line in which x stands at the head: what F's left rules do, for any goal -/
theorem F.left {w : List (Kd α)} {x : Kd α} (hw : ∀ g t c, x.core = c → F (g ++ x :: t) (p c) → F (g ++ (w ++ t)) (p c)) (hn : w ≠ []) {r : List (Kd α)} {k : Kd α} (h : F r k) :
    ∀ g t, r = g ++ x :: t → F (g ++ (w ++ t)) k := by
  induction h with
  | ax c =>
    intro g t e
    cases g with
    | nil =>
      injection e with e1 e2
      subst e1; subst e2
      exact hw [] [] c rfl (F.ax c)
    | cons z g =>
      injection e with e1 e2
      have := congrArg List.length e2
      simp at this
  | @rb r' x' y' _ ih =>
    intro g t e
    have h1 := ih g (t ++ [y']) (by rw [e]; simp)
    refine .rb ?_
    have e2 : g ++ (w ++ t) ++ [y'] = g ++ (w ++ (t ++ [y'])) := by simp
    rw [e2]; exact h1
  | @ra r' x' y' _ ih =>
    intro g t e
    have h1 := ih (y' :: g) t (by rw [e]; simp)
    exact .ra h1
  | @lb g' d' t' x' y' c' hc hd h1 h2 ih1 ih2 =>
    intro g t e
    -- g' ++ b x' y' :: (d' ++ t') = g ++ x :: t
    rcases split2 e.symm with ⟨s, e1, e2⟩ | ⟨s, e1, e2⟩
    · -- x stands in g'
      subst e1; subst e2
      have h3 := ih2 g (s ++ x' :: t') (by simp)
      have h4 := F.lb (g := g ++ (w ++ s)) (t := t') hc hd h1 (by simpa using h3)
      simpa using h4
    · cases s with
      | nil =>
        -- x is the kind itself
        injection e2 with e3 e4
        subst e1; subst e3; subst e4
        have := hw g' (d' ++ t') c' hc (F.lb hc hd h1 h2)
        simpa using this
      | cons z s =>
        injection e2 with e3 e4
        subst e1; subst e3
        rcases split2 e4.symm with ⟨s2, e5, e6⟩ | ⟨s2, e5, e6⟩
        · subst e5; subst e6
          have h3 := ih1 s s2 rfl
          have h4 := F.lb (g := g') (d := s ++ (w ++ s2)) (t := t') hc (by simp [hn]) h3 h2
          simpa using h4
        · subst e5; subst e6
          have h3 := ih2 (g' ++ x' :: s2) t (by simp)
          have h4 := F.lb (g := g') (d := d') (t := s2 ++ (w ++ t)) hc hd h1 (by simpa using h3)
          simpa using h4
  | @la g' d' t' x' y' c' hc hd h1 h2 ih1 ih2 =>
    intro g t e
    rcases split2 e.symm with ⟨s, e1, e2⟩ | ⟨s, e1, e2⟩
    · subst e1; subst e2
      have h3 := ih2 g (s ++ x' :: t') (by simp)
      have h4 := F.la (g := g ++ (w ++ s)) (t := t') hc hd h1 (by simpa using h3)
      simpa using h4
    · rcases split2 e2.symm with ⟨s2, e5, e6⟩ | ⟨s2, e5, e6⟩
      · subst e1; subst e5; subst e6
        have h3 := ih1 s s2 rfl
        have h4 := F.la (g := g') (d := s ++ (w ++ s2)) (t := t') hc (by simp [hn]) h3 h2
        simpa using h4
      · cases s2 with
        | nil =>
          injection e6 with e7 e8
          subst e1; subst e7; subst e8
          have := hw (g' ++ d') t' c' hc (by simpa using F.la hc hd h1 h2)
          simpa [e5] using this
        | cons z s2 =>
          injection e6 with e7 e8
          subst e1; subst e7; subst e5; subst e8
          have h3 := ih2 (g' ++ x' :: s2) t (by simp)
          have h4 := F.la (g := g') (d := d') (t := s2 ++ (w ++ t)) hc hd h1 (by simpa using h3)
          simpa using h4

theorem F.left_b {d : List (Kd α)} {x y : Kd α} (hd : d ≠ []) (h : F d y) {g t : List (Kd α)} {k : Kd α} (h2 : F (g ++ x :: t) k) : F (g ++ b x y :: (d ++ t)) k := by
  have := F.left (w := b x y :: d) (x := x) (fun g t c hc h2 => by simpa using F.lb hc hd h h2) (by simp) h2 g t rfl
  simpa using this
theorem F.left_a {d : List (Kd α)} {x y : Kd α} (hd : d ≠ []) (h : F d y) {g t : List (Kd α)} {k : Kd α} (h2 : F (g ++ x :: t) k) : F (g ++ (d ++ a y x :: t)) k := by
  have := F.left (w := d ++ [a y x]) (x := x) (fun g t c hc h2 => by simpa using F.la hc hd h h2) (by simp) h2 g t rfl
  simpa using this
theorem F.id : ∀ k : Kd α, F [k] k
  | .p c => .ax c
  | .b x y => .rb (by simpa using F.left_b (g := []) (t := []) (d := [y]) (by simp) (F.id y) (F.id x))
  | .a y x => .ra (by simpa using F.left_a (g := []) (t := []) (d := [y]) (by simp) (F.id y) (F.id x))
theorem F.of_L {r : List (Kd α)} {k : Kd α} (h : L r k) : F r k := by
  induction h with
  | ax k => exact F.id k
  | rb _ ih => exact .rb ih
  | ra _ ih => exact .ra ih
  | lb hd _ _ ih1 ih2 => exact F.left_b hd ih1 ih2
  | la hd _ _ ih1 ih2 => exact F.left_a hd ih1 ih2
theorem L.of_F {r : List (Kd α)} {k : Kd α} (h : F r k) : L r k := by
  induction h with
  | ax c => exact .ax _
  | rb _ ih => exact .rb ih
  | ra _ ih => exact .ra ih
  | lb _ hd _ _ ih1 ih2 => exact .lb hd ih1 ih2
  | la _ hd _ _ ih1 ih2 => exact .la hd ih1 ih2

/-! one turn of each search -/
theorem L.at_b {r : List (Kd α)} {x y : Kd α} (h : L r (b x y)) : r = [b x y] ∨ L (r ++ [y]) x := by
  cases h with
  | ax => exact .inl rfl
  | rb h => exact .inr h
theorem L.at_a {r : List (Kd α)} {x y : Kd α} (h : L r (a y x)) : r = [a y x] ∨ L (y :: r) x := by
  cases h with
  | ax => exact .inl rfl
  | ra h => exact .inr h
theorem L.at_b_iff {r : List (Kd α)} {x y : Kd α} : L r (b x y) ↔ L (r ++ [y]) x := by
  constructor
  · intro h
    have h1 := F.of_L h
    cases h1 with
    | rb h => exact L.of_F h
  · exact .rb
theorem L.at_a_iff {r : List (Kd α)} {x y : Kd α} : L r (a y x) ↔ L (y :: r) x := by
  constructor
  · intro h
    have h1 := F.of_L h
    cases h1 with
    | ra h => exact L.of_F h
  · exact .ra

/-- the place at, taken with what stands behind it up to cut -/
def TakeB (r : List (Kd α)) (k : Kd α) (at' cut : Nat) : Prop := ∃ x y, r[at']? = some (b x y) ∧ at' + 2 ≤ cut ∧ cut ≤ r.length ∧ L ((r.take cut).drop (at' + 1)) y ∧ L (r.take at' ++ x :: r.drop cut) k
def TakeA (r : List (Kd α)) (k : Kd α) (at' cut : Nat) : Prop := ∃ x y, r[at']? = some (a y x) ∧ cut < at' ∧ L ((r.take at').drop cut) y ∧ L (r.take cut ++ x :: r.drop (at' + 1)) k
theorem take_b_eq {r : List (Kd α)} {at' cut : Nat} {z : Kd α} (h : r[at']? = some z) (h1 : at' + 1 ≤ cut) (h2 : cut ≤ r.length) : r = r.take at' ++ z :: ((r.take cut).drop (at' + 1) ++ r.drop cut) := by
  obtain ⟨hl, e⟩ := List.getElem?_eq_some_iff.mp h
  have e1 : r.take cut = r.take at' ++ z :: (r.take cut).drop (at' + 1) := by
    have e2 : (r.take cut).take at' = r.take at' := by rw [List.take_take]; congr 1; omega
    have hl2 : at' < (r.take cut).length := by rw [List.length_take]; omega
    have e3 : (r.take cut).drop at' = z :: (r.take cut).drop (at' + 1) := by
      rw [List.drop_eq_getElem_cons hl2]
      congr 1
      rw [List.getElem_take]; exact e
    rw [← e2, ← e3, List.take_append_drop]
  calc r = r.take cut ++ r.drop cut := (List.take_append_drop cut r).symm
    _ = (r.take at' ++ z :: (r.take cut).drop (at' + 1)) ++ r.drop cut := congrArg (· ++ r.drop cut) e1
    _ = _ := by rw [List.append_assoc, List.cons_append]
theorem take_a_eq {r : List (Kd α)} {at' cut : Nat} {z : Kd α} (h : r[at']? = some z) (h1 : cut ≤ at') : r = r.take cut ++ ((r.take at').drop cut ++ z :: r.drop (at' + 1)) := by
  obtain ⟨hl, e⟩ := List.getElem?_eq_some_iff.mp h
  have e1 : r.drop at' = z :: r.drop (at' + 1) := by rw [List.drop_eq_getElem_cons hl, e]
  have e2 : r.take at' = r.take cut ++ (r.take at').drop cut := by
    have : (r.take at').take cut = r.take cut := by rw [List.take_take]; congr 1; omega
    rw [← this, List.take_append_drop]
  calc r = r.take at' ++ r.drop at' := (List.take_append_drop at' r).symm
    _ = (r.take cut ++ (r.take at').drop cut) ++ z :: r.drop (at' + 1) := by rw [← e2, ← e1]
    _ = _ := by rw [List.append_assoc]
theorem slice_mid {β : Type} (g d t : List β) (z : β) : ((g ++ z :: (d ++ t)).take (g.length + 1 + d.length)).drop (g.length + 1) = d := by
  have e : g ++ z :: (d ++ t) = (g ++ [z]) ++ (d ++ t) := by simp
  have hl : (g ++ [z]).length = g.length + 1 := by simp
  rw [e, ← hl, ← List.append_assoc, List.take_left' (by simp; omega), List.drop_left]
theorem slice_mid2 {β : Type} (g d u : List β) : ((g ++ (d ++ u)).take (g.length + d.length)).drop g.length = d := by
  rw [← List.append_assoc, List.take_left' (by simp), List.drop_left]
theorem drop_mid {β : Type} (g d t : List β) (z : β) : (g ++ z :: (d ++ t)).drop (g.length + 1 + d.length) = t := by
  have e : g ++ z :: (d ++ t) = ((g ++ [z]) ++ d) ++ t := by simp
  rw [e, List.drop_left' (by simp; omega)]
theorem drop_mid2 {β : Type} (g d t : List β) (z : β) : (g ++ (d ++ z :: t)).drop (g.length + d.length + 1) = t := by
  have e : g ++ (d ++ z :: t) = (g ++ (d ++ [z])) ++ t := by simp
  rw [e, List.drop_left' (by simp; omega)]
theorem L.plain_iff {r : List (Kd α)} {c : α} : L r (p c) ↔ r = [p c] ∨ (∃ at' cut, TakeB r (p c) at' cut) ∨ ∃ at' cut, TakeA r (p c) at' cut := by
  constructor
  · intro h
    cases h with
    | ax => exact .inl rfl
    | @lb g d t x y c hd h1 h2 =>
      refine .inr (.inl ⟨g.length, g.length + 1 + d.length, x, y, by simp, ?_, by simp; omega, ?_, ?_⟩)
      · have : d.length ≠ 0 := by simpa using hd
        omega
      · rw [slice_mid]; exact h1
      · have e1 : List.take g.length (g ++ b x y :: (d ++ t)) = g := by simp
        rw [e1, drop_mid]; exact h2
    | @la g d t x y c hd h1 h2 =>
      have hlen : d.length ≠ 0 := by simpa using hd
      refine .inr (.inr ⟨g.length + d.length, g.length, x, y, ?_, by omega, ?_, ?_⟩)
      · rw [List.getElem?_append_right (by omega), show g.length + d.length - g.length = d.length by omega, List.getElem?_append_right (by omega)]
        simp
      · rw [slice_mid2]; exact h1
      · have e1 : List.take g.length (g ++ (d ++ a y x :: t)) = g := by simp
        rw [e1, drop_mid2]; exact h2
  · rintro (rfl | ⟨i, cut, x, y, h1, h2, h3, h4, h5⟩ | ⟨i, cut, x, y, h1, h2, h4, h5⟩)
    · exact .ax _
    · rw [take_b_eq h1 (show i + 1 ≤ cut by omega) h3]
      refine .lb ?_ h4 h5
      intro e
      have := congrArg List.length e
      rw [List.length_drop, List.length_take] at this
      simp at this
      omega
    · have hl := (List.getElem?_eq_some_iff.mp h1).1
      rw [take_a_eq h1 (show cut ≤ i by omega)]
      refine .la ?_ h4 h5
      intro e
      have := congrArg List.length e
      rw [List.length_drop, List.length_take] at this
      simp at this
      omega
/-- .. by the kinds whose core is asked alone -/
theorem L.core_iff {r : List (Kd α)} {c : α} : L r (p c) ↔ r = [p c] ∨ (∃ at' cut, (r[at']?.map core = some c) ∧ TakeB r (p c) at' cut) ∨ ∃ at' cut, (r[at']?.map core = some c) ∧ TakeA r (p c) at' cut := by
  constructor
  · intro h
    have h' := F.of_L h
    cases h' with
    | ax => exact .inl rfl
    | @lb g d t x y c hc hd h1 h2 =>
      refine .inr (.inl ⟨g.length, g.length + 1 + d.length, by simp [core, hc], x, y, by simp, ?_, by simp; omega, ?_, ?_⟩)
      · have : d.length ≠ 0 := by simpa using hd
        omega
      · rw [slice_mid]; exact L.of_F h1
      · have e1 : List.take g.length (g ++ b x y :: (d ++ t)) = g := by simp
        rw [e1, drop_mid]; exact L.of_F h2
    | @la g d t x y c hc hd h1 h2 =>
      have hlen : d.length ≠ 0 := by simpa using hd
      have eg : (g ++ (d ++ a y x :: t))[g.length + d.length]? = some (a y x) := by
        rw [List.getElem?_append_right (by omega), show g.length + d.length - g.length = d.length by omega, List.getElem?_append_right (by omega)]
        simp
      refine .inr (.inr ⟨g.length + d.length, g.length, by rw [eg]; simp [core, hc], x, y, eg, by omega, ?_, ?_⟩)
      · rw [slice_mid2]; exact L.of_F h1
      · have e1 : List.take g.length (g ++ (d ++ a y x :: t)) = g := by simp
        rw [e1, drop_mid2]; exact L.of_F h2
  · rintro (h | ⟨i, cut, _, h⟩ | ⟨i, cut, _, h⟩)
    · exact L.plain_iff.mpr (.inl h)
    · exact L.plain_iff.mpr (.inr (.inl ⟨i, cut, h⟩))
    · exact L.plain_iff.mpr (.inr (.inr ⟨i, cut, h⟩))

/-! what stays: the sum of any values of the letters -/
def Kd.val (f : α → Int) : Kd α → Int
  | .p c => f c
  | .b x y => x.val f - y.val f
  | .a y x => x.val f - y.val f
theorem L.val (f : α → Int) {r : List (Kd α)} {k : Kd α} (h : L r k) : (r.map (Kd.val f)).sum = k.val f := by
  induction h with
  | ax k => simp
  | @rb r x y _ ih => simp at ih; simp only [Kd.val]; omega
  | @ra r x y _ ih => simp at ih; simp only [Kd.val]; omega
  | @lb g d t x y c _ _ _ ih1 ih2 => simp [Kd.val] at ih1 ih2 ⊢; omega
  | @la g d t x y c _ _ _ ih1 ih2 => simp [Kd.val] at ih1 ih2 ⊢; omega
end WW
/-! The words of kinds: reduced words, what is put together; a row that comes to a kind has its word. Plain Lean. -/
namespace WW
open Kd
/-- a sign put ahead of a word -/
def push (x : Int) : List Int → List Int
  | [] => [x]
  | y :: w => if x = -y then w else x :: y :: w
theorem push_cons (x y : Int) (w : List Int) : push x (y :: w) = if x = -y then w else x :: y :: w := rfl
/-- nothing in it is 0, nothing side by side cancels -/
def Red : List Int → Prop
  | [] => True
  | [x] => x ≠ 0
  | x :: y :: w => x ≠ 0 ∧ x ≠ -y ∧ Red (y :: w)
theorem Red.tail {x : Int} : ∀ {w : List Int}, Red (x :: w) → Red w
  | [], _ => trivial
  | _ :: _, h => h.2.2
theorem Red.head {x : Int} : ∀ {w : List Int}, Red (x :: w) → x ≠ 0
  | [], h => h
  | _ :: _, h => h.1
theorem Red.push {x : Int} (hx : x ≠ 0) : ∀ {w : List Int}, Red w → Red (push x w)
  | [], _ => hx
  | y :: w, h => by
    by_cases hn : x = -y
    · rw [push_cons, if_pos hn]; exact h.tail
    · rw [push_cons, if_neg hn]; exact ⟨hx, hn, h⟩
theorem push_push {x : Int} : ∀ {w : List Int}, Red w → push x (push (-x) w) = w
  | [], _ => by simp [push]
  | [y], h => by
    by_cases e : -x = -y
    · have e' : x = y := by omega
      subst e'
      simp [push]
    · simp [push, e]
  | y :: z :: w, h => by
    by_cases e : -x = -y
    · have e' : x = y := by omega
      subst e'
      simp [push, h.2.1]
    · simp [push, e]
theorem push_push' {x : Int} {w : List Int} (h : Red w) : push (-x) (push x w) = w := by
  have := push_push (x := -x) h
  rwa [Int.neg_neg] at this
/-- a word put ahead of a word -/
def act (u w : List Int) : List Int := u.foldr push w
theorem act_append (u v w : List Int) : act (u ++ v) w = act u (act v w) := List.foldr_append
theorem act_cons (x : Int) (u w : List Int) : act (x :: u) w = push x (act u w) := rfl
theorem Red.act {u : List Int} (hu : ∀ x ∈ u, x ≠ 0) {w : List Int} (h : Red w) : Red (act u w) := by
  induction u with
  | nil => exact h
  | cons x u ih => exact Red.push (hu x List.mem_cons_self) (ih fun y m => hu y (List.mem_cons_of_mem _ m))
theorem Red.mem : ∀ {w : List Int}, Red w → ∀ x ∈ w, x ≠ 0
  | [], _, _, m => nomatch m
  | y :: w, h, x, m => by
    rcases List.mem_cons.mp m with rfl | m
    · exact h.head
    · exact Red.mem h.tail x m
/-- a word turned round with other signs -/
def inv (u : List Int) : List Int := u.reverse.map (- ·)
theorem inv_cons (x : Int) (u : List Int) : inv (x :: u) = inv u ++ [-x] := by simp [inv]
theorem inv_inv (u : List Int) : inv (inv u) = u := by
  simp [inv, List.map_reverse, List.map_map, Function.comp_def]
theorem inv_mem {u : List Int} (hu : ∀ x ∈ u, x ≠ 0) : ∀ x ∈ inv u, x ≠ 0 := fun x m => by
  obtain ⟨y, hy, rfl⟩ := List.mem_map.mp m
  have := hu y (List.mem_reverse.mp hy)
  show -y ≠ 0
  omega
theorem act_inv {u : List Int} (hu : ∀ x ∈ u, x ≠ 0) {w : List Int} (h : Red w) : act (inv u) (act u w) = w := by
  induction u generalizing w with
  | nil => rfl
  | cons x u ih =>
    have hu' : ∀ y ∈ u, y ≠ 0 := fun y m => hu y (List.mem_cons_of_mem _ m)
    rw [inv_cons, act_append, act_cons]
    show act (inv u) (push (-x) (push x (act u w))) = w
    rw [push_push' (Red.act hu' h), ih hu' h]
theorem inv_act {u : List Int} (hu : ∀ x ∈ u, x ≠ 0) {w : List Int} (h : Red w) : act u (act (inv u) w) = w := by
  have := act_inv (inv_mem hu) h
  rwa [inv_inv] at this
theorem act_red : ∀ {u w : List Int}, Red (u ++ w) → act u w = u ++ w
  | [], _, _ => rfl
  | [x], [], _ => rfl
  | [x], y :: w, h => by
    show push x (y :: w) = _
    rw [push_cons, if_neg h.2.1]; rfl
  | x :: y :: u, w, h => by
    have e := act_red (u := y :: u) (w := w) h.tail
    rw [act_cons, e]
    show push x (y :: (u ++ w)) = _
    rw [push_cons, if_neg h.2.1]; rfl
theorem act_nil {u : List Int} (h : Red u) : act u [] = u := by
  have := act_red (u := u) (w := []) (by simpa using h)
  simpa using this
/-- how much cancels where two words meet: the first one turned round -/
def ncut : List Int → List Int → Nat
  | x :: xs, y :: ys => if x = -y then ncut xs ys + 1 else 0
  | _, _ => 0
theorem ncut_cons (x y : Int) (xs ys : List Int) : ncut (x :: xs) (y :: ys) = if x = -y then ncut xs ys + 1 else 0 := rfl
/-- two words, one behind the other -/
def jw (u v : List Int) : List Int := u.take (u.length - ncut u.reverse v) ++ v.drop (ncut u.reverse v)
theorem ncut_le : ∀ (xs ys : List Int), ncut xs ys ≤ xs.length ∧ ncut xs ys ≤ ys.length
  | [], ys => ⟨Nat.le_refl _, Nat.zero_le _⟩
  | _ :: _, [] => ⟨Nat.zero_le _, Nat.zero_le _⟩
  | x :: xs, y :: ys => by
    unfold ncut
    split
    · have := ncut_le xs ys
      exact ⟨Nat.succ_le_succ this.1, Nat.succ_le_succ this.2⟩
    · exact ⟨Nat.zero_le _, Nat.zero_le _⟩
/-- below the cut the two signs cancel, at it they do not -/
theorem ncut_below : ∀ (xs ys : List Int) (i : Nat), i < ncut xs ys → ∃ x y, xs[i]? = some x ∧ ys[i]? = some y ∧ x = -y
  | [], _, _, h => absurd h (Nat.not_lt_zero _)
  | _ :: _, [], _, h => absurd h (Nat.not_lt_zero _)
  | x :: xs, y :: ys, i, h => by
    unfold ncut at h
    split at h
    · rename_i e
      cases i with
      | zero => exact ⟨x, y, rfl, rfl, e⟩
      | succ i => exact ncut_below xs ys i (Nat.lt_of_succ_lt_succ h)
    · exact absurd h (Nat.not_lt_zero _)
theorem ncut_at : ∀ (xs ys : List Int) (x y : Int), xs[ncut xs ys]? = some x → ys[ncut xs ys]? = some y → x ≠ -y
  | [], _, _, _, h, _ => by simp [ncut] at h
  | _ :: _, [], _, _, _, h => by simp [ncut] at h
  | x :: xs, y :: ys, x', y', h1, h2 => by
    unfold ncut at h1 h2
    split at h1
    · rename_i e
      rw [if_pos e] at h2
      exact ncut_at xs ys x' y' (by simpa using h1) (by simpa using h2)
    · rename_i e
      rw [if_neg e] at h2
      simp at h1 h2
      subst h1; subst h2
      exact e
theorem jw_nil_left (v : List Int) : jw [] v = v := by simp [jw, ncut]
theorem jw_nil_right (u : List Int) : jw u [] = u := by
  unfold jw
  cases h : u.reverse <;> simp [ncut]
theorem jw_snoc (u v : List Int) (x y : Int) : jw (u ++ [x]) (y :: v) = if x = -y then jw u v else u ++ [x] ++ y :: v := by
  unfold jw
  have e : (u ++ [x]).reverse = x :: u.reverse := by simp
  rw [e, ncut_cons]
  split
  · have hl := (ncut_le u.reverse v).1
    rw [List.length_reverse] at hl
    rw [show (u ++ [x]).length - (ncut u.reverse v + 1) = u.length - ncut u.reverse v by simp, List.take_append_of_le_length (by omega)]
    rfl
  · rw [Nat.sub_zero, List.take_of_length_le (Nat.le_refl _), List.drop_zero]
theorem Red.init {x : Int} : ∀ {u : List Int}, Red (u ++ [x]) → Red u
  | [], _ => trivial
  | [y], h => h.1
  | y :: z :: u, h => ⟨h.1, h.2.1, Red.init (u := z :: u) h.2.2⟩
theorem Red.join {x y : Int} (hn : x ≠ -y) : ∀ {u v : List Int}, Red (u ++ [x]) → Red (y :: v) → Red (u ++ [x] ++ y :: v)
  | [], v, h1, h2 => ⟨h1, hn, h2⟩
  | [z], v, h1, h2 => ⟨h1.1, h1.2.1, Red.join hn (u := []) h1.2.2 h2⟩
  | z :: z' :: u, v, h1, h2 => ⟨h1.1, h1.2.1, Red.join hn (u := z' :: u) h1.2.2 h2⟩
theorem snoc_cases {β : Type} (u : List β) : u = [] ∨ ∃ v x, u = v ++ [x] := by
  rcases u.eq_nil_or_concat with h | ⟨v, x, h⟩
  · exact .inl h
  · exact .inr ⟨v, x, by simpa using h⟩
theorem jw_act : ∀ (n : Nat) (u v : List Int), u.length = n → Red u → Red v → jw u v = act u v := by
  intro n
  induction n with
  | zero =>
    intro u v hl _ _
    have : u = [] := List.eq_nil_of_length_eq_zero hl
    subst this
    rw [jw_nil_left]; rfl
  | succ n ih =>
    intro u v hl hu hv
    rcases snoc_cases u with rfl | ⟨u, x, rfl⟩
    · cases hl
    · cases v with
      | nil => rw [jw_nil_right, act_nil hu]
      | cons y v =>
        rw [jw_snoc, act_append]
        have e : act [x] (y :: v) = if x = -y then v else x :: y :: v := rfl
        rw [e]
        split
        · exact ih u v (by simpa using hl) hu.init hv.tail
        · rename_i hn
          have := Red.join hn hu hv
          rw [act_red (u := u) (w := x :: y :: v) (by simpa using this)]
          simp
theorem jw_eq {u v : List Int} (hu : Red u) (hv : Red v) : jw u v = act u v := jw_act _ u v rfl hu hv
theorem Red.jw {u v : List Int} (hu : Red u) (hv : Red v) : Red (jw u v) := by rw [jw_eq hu hv]; exact Red.act hu.mem hv
theorem Red.inv {u : List Int} (hu : Red u) : Red (inv u) := by
  -- the turned word is reduced: by the last letters
  induction u with
  | nil => trivial
  | cons x u ih =>
    rw [inv_cons]
    have h1 := ih hu.tail
    cases u with
    | nil => show Red [-x]; have := hu.head; show -x ≠ 0; omega
    | cons y u =>
      rw [inv_cons] at h1 ⊢
      have := Red.join (x := -y) (y := -x) (u := WW.inv u) (v := []) (by have := hu.2.1; omega) h1 (by have := hu.head; show -x ≠ 0; omega)
      simpa using this
/-- putting together on the way is putting together behind -/
theorem act_act {u v w : List Int} (hu : Red u) (hv : Red v) (hw : Red w) : act (act u v) w = act u (act v w) := by
  induction u with
  | nil => rfl
  | cons x u ih =>
    have hu' := hu.tail
    have hx := hu.head
    rw [act_cons, act_cons, ← ih hu']
    have hr : Red (act u v) := Red.act hu'.mem hv
    generalize act u v = z at *
    cases z with
    | nil => rfl
    | cons y z =>
      rw [push_cons]
      split
      · rename_i e
        subst e
        show act z w = push (-y) (push y (act z w))
        rw [push_push' (Red.act (hr.tail).mem hw)]
      · rfl
theorem act_jw {u v w : List Int} (hu : Red u) (hv : Red v) (hw : Red w) : act (jw u v) w = act u (act v w) := by rw [jw_eq hu hv, act_act hu hv hw]

variable {α : Type}
/-- the word of a kind -/
def Kd.gw (f : α → Int) : Kd α → List Int
  | .p c => [f c]
  | .b x y => jw (x.gw f) (inv (y.gw f))
  | .a y x => jw (inv (y.gw f)) (x.gw f)
theorem Red.gw {f : α → Int} (hf : ∀ c, f c ≠ 0) : ∀ k : Kd α, Red (k.gw f)
  | .p c => hf c
  | .b x y => (Red.gw hf x).jw (Red.gw hf y).inv
  | .a y x => (Red.gw hf y).inv.jw (Red.gw hf x)
def acts (f : α → Int) (r : List (Kd α)) (w : List Int) : List Int := r.foldr (fun k w => act (k.gw f) w) w
theorem acts_append (f : α → Int) (r t : List (Kd α)) (w : List Int) : acts f (r ++ t) w = acts f r (acts f t w) := List.foldr_append
theorem acts_cons (f : α → Int) (k : Kd α) (t : List (Kd α)) (w : List Int) : acts f (k :: t) w = act (k.gw f) (acts f t w) := rfl
section
variable {f : α → Int} (hf : ∀ c, f c ≠ 0)
include hf
theorem Red.acts (r : List (Kd α)) {w : List Int} (h : Red w) : Red (acts f r w) := by
  induction r with
  | nil => exact h
  | cons k r ih => exact Red.act (Red.gw hf k).mem ih
theorem L.acts {r : List (Kd α)} {k : Kd α} (h : L r k) : ∀ w, Red w → WW.acts f r w = act (k.gw f) w := by
  have R := fun k : Kd α => Red.gw hf k
  induction h with
  | ax k => intro w _; rfl
  | @rb r x y _ ih =>
    intro w hw
    have h1 := ih (act (WW.inv (y.gw f)) w) (Red.act (inv_mem (R y).mem) hw)
    rw [acts_append] at h1
    have h2 : WW.acts f [y] (act (WW.inv (y.gw f)) w) = w := inv_act (R y).mem hw
    rw [h2] at h1
    rw [h1]
    exact (act_jw (R x) (R y).inv hw).symm
  | @ra r x y _ ih =>
    intro w hw
    have h1 := ih w hw
    rw [acts_cons] at h1
    have h2 := congrArg (act (WW.inv (y.gw f))) h1
    rw [act_inv (R y).mem (Red.acts hf r hw)] at h2
    rw [h2]
    exact (act_jw (R y).inv (R x) hw).symm
  | @lb g d t x y c _ _ _ ih1 ih2 =>
    intro w hw
    have ht := Red.acts hf t hw
    rw [acts_append, acts_cons, acts_append, ih1 _ ht]
    have e : act ((b x y).gw f) (act (y.gw f) (WW.acts f t w)) = act (x.gw f) (WW.acts f t w) := by
      rw [show (b x y).gw f = jw (x.gw f) (WW.inv (y.gw f)) from rfl, act_jw (R x) (R y).inv (Red.act (R y).mem ht), act_inv (R y).mem ht]
    rw [e, ← ih2 w hw, acts_append, acts_cons]
  | @la g d t x y c _ _ _ ih1 ih2 =>
    intro w hw
    have ht := Red.acts hf t hw
    rw [acts_append, acts_append, acts_cons]
    have hx : Red (act ((a y x).gw f) (WW.acts f t w)) := Red.act (R _).mem ht
    rw [ih1 _ hx]
    have e : act (y.gw f) (act ((a y x).gw f) (WW.acts f t w)) = act (x.gw f) (WW.acts f t w) := by
      rw [show (a y x).gw f = jw (WW.inv (y.gw f)) (x.gw f) from rfl, act_jw (R y).inv (R x) ht, inv_act (R y).mem (Red.act (R x).mem ht)]
    rw [e, ← ih2 w hw, acts_append, acts_cons]
/-- the word of a row, as the program puts it together -/
theorem fold_jw : ∀ (r : List (Kd α)) (u : List Int), Red u → (r.map (Kd.gw f)).foldl jw u = act u (WW.acts f r [])
  | [], u, h => (act_nil h).symm
  | k :: r, u, h => by
    show ((r.map (Kd.gw f)).foldl jw (jw u (k.gw f))) = _
    rw [fold_jw r _ (h.jw (Red.gw hf k)), act_jw h (Red.gw hf k) (Red.acts hf r (w := []) trivial), acts_cons]
theorem L.word {r : List (Kd α)} {k : Kd α} (h : L r k) : (r.map (Kd.gw f)).foldl jw [] = k.gw f := by
  rw [fold_jw hf r [] trivial, L.acts hf h [] trivial]
  exact act_nil (Red.gw hf k)
end
end WW
/-! How many rows and kinds a search can come to: at most 2 ^ (letters). Plain Lean. -/
namespace WW
open Kd
variable {α : Type}
/-- a kind that stands in a row (true), or that is asked (false) -/
abbrev SK (α : Type) := Bool × Kd α
def prod {β : Type} (P Q : List (List β)) : List (List β) := P.flatMap fun u => Q.map (u ++ ·)
/-- into what a kind can fall, left out or not -/
def opts : Bool → Kd α → List (List (SK α))
  | s, p c => [[(s, p c)], []]
  | true, b x y => [(true, b x y)] :: prod (opts true x) (opts false y)
  | true, a y x => [(true, a y x)] :: prod (opts false y) (opts true x)
  | false, b x y => [(false, b x y)] :: prod (opts true y) (opts false x)
  | false, a y x => [(false, a y x)] :: prod (opts false x) (opts true y)
def optsL : List (SK α) → List (List (SK α))
  | [] => [[]]
  | e :: es => prod (opts e.1 e.2) (optsL es)
/-- how a kind falls apart -/
def expand : SK α → Option (List (SK α))
  | (_, p _) => none
  | (true, b x y) => some [(true, x), (false, y)]
  | (true, a y x) => some [(false, y), (true, x)]
  | (false, b x y) => some [(true, y), (false, x)]
  | (false, a y x) => some [(false, x), (true, y)]
theorem mem_prod {β : Type} {P Q : List (List β)} {w : List β} : w ∈ prod P Q ↔ ∃ u v, u ∈ P ∧ v ∈ Q ∧ w = u ++ v := by
  unfold prod
  simp only [List.mem_flatMap, List.mem_map]
  constructor
  · rintro ⟨u, hu, v, hv, rfl⟩; exact ⟨u, v, hu, hv, rfl⟩
  · rintro ⟨u, v, hu, hv, rfl⟩; exact ⟨u, hu, v, hv, rfl⟩
theorem nil_opts : ∀ (s : Bool) (k : Kd α), [] ∈ opts s k
  | s, p c => by simp [opts]
  | true, b x y => by simp only [opts]; exact List.mem_cons_of_mem _ (mem_prod.mpr ⟨[], [], nil_opts _ _, nil_opts _ _, rfl⟩)
  | true, a y x => by simp only [opts]; exact List.mem_cons_of_mem _ (mem_prod.mpr ⟨[], [], nil_opts _ _, nil_opts _ _, rfl⟩)
  | false, b x y => by simp only [opts]; exact List.mem_cons_of_mem _ (mem_prod.mpr ⟨[], [], nil_opts _ _, nil_opts _ _, rfl⟩)
  | false, a y x => by simp only [opts]; exact List.mem_cons_of_mem _ (mem_prod.mpr ⟨[], [], nil_opts _ _, nil_opts _ _, rfl⟩)
theorem self_opts : ∀ (s : Bool) (k : Kd α), [(s, k)] ∈ opts s k
  | s, p c => by simp [opts]
  | true, b x y => by simp only [opts]; exact List.mem_cons_self
  | true, a y x => by simp only [opts]; exact List.mem_cons_self
  | false, b x y => by simp only [opts]; exact List.mem_cons_self
  | false, a y x => by simp only [opts]; exact List.mem_cons_self
/-- closed under leaving out and falling apart -/
def Clo (S : List (List (SK α))) : Prop := ∀ u e v, u ++ e :: v ∈ S → u ++ v ∈ S ∧ ∀ xs, expand e = some xs → u ++ (xs ++ v) ∈ S
theorem Clo.prod {P Q : List (List (SK α))} (hP : Clo P) (hQ : Clo Q) : Clo (prod P Q) := by
  intro u e v h
  obtain ⟨x, y, hx, hy, e1⟩ := mem_prod.mp h
  rcases split2 e1 with ⟨s, rfl, rfl⟩ | ⟨s, rfl, rfl⟩
  · have := hP u e s hx
    refine ⟨mem_prod.mpr ⟨u ++ s, y, this.1, hy, by simp⟩, fun xs hxs => mem_prod.mpr ⟨_, y, this.2 xs hxs, hy, by simp⟩⟩
  · have := hQ s e v hy
    refine ⟨mem_prod.mpr ⟨x, s ++ v, hx, this.1, by simp⟩, fun xs hxs => mem_prod.mpr ⟨x, _, hx, this.2 xs hxs, by simp⟩⟩
theorem one_split {β : Type} {x e : β} {u v : List β} (h : [x] = u ++ e :: v) : u = [] ∧ v = [] ∧ x = e := by
  cases u with
  | nil => injection h with h1 h2; exact ⟨rfl, h2.symm, h1⟩
  | cons z u => injection h with h1 h2; have := congrArg List.length h2; simp at this
theorem Clo.cons {x : SK α} {P Q : List (List (SK α))} {e1 e2 : SK α} (he : expand x = some [e1, e2]) (h1 : [e1] ∈ P) (h2 : [e2] ∈ Q) (n1 : [] ∈ P) (n2 : [] ∈ Q) (hP : Clo P) (hQ : Clo Q) : Clo ([x] :: WW.prod P Q) := by
  intro u e v h
  rcases List.mem_cons.mp h with h | h
  · obtain ⟨rfl, rfl, rfl⟩ := one_split h.symm
    refine ⟨List.mem_cons_of_mem _ (mem_prod.mpr ⟨[], [], n1, n2, rfl⟩), fun xs hxs => ?_⟩
    rw [he] at hxs
    cases hxs
    exact List.mem_cons_of_mem _ (mem_prod.mpr ⟨_, _, h1, h2, rfl⟩)
  · have := hP.prod hQ u e v h
    exact ⟨List.mem_cons_of_mem _ this.1, fun xs hxs => List.mem_cons_of_mem _ (this.2 xs hxs)⟩
theorem clo_opts : ∀ (s : Bool) (k : Kd α), Clo (opts s k)
  | s, p c => by
    intro u e v h
    simp only [opts] at h ⊢
    rcases List.mem_cons.mp h with h | h
    · obtain ⟨rfl, rfl, rfl⟩ := one_split h.symm
      exact ⟨by simp, fun xs hxs => by cases s <;> simp [expand] at hxs⟩
    · simp at h
  | true, b x y => by simp only [opts]; exact Clo.cons rfl (self_opts _ _) (self_opts _ _) (nil_opts _ _) (nil_opts _ _) (clo_opts _ _) (clo_opts _ _)
  | true, a y x => by simp only [opts]; exact Clo.cons rfl (self_opts _ _) (self_opts _ _) (nil_opts _ _) (nil_opts _ _) (clo_opts _ _) (clo_opts _ _)
  | false, b x y => by simp only [opts]; exact Clo.cons rfl (self_opts _ _) (self_opts _ _) (nil_opts _ _) (nil_opts _ _) (clo_opts _ _) (clo_opts _ _)
  | false, a y x => by simp only [opts]; exact Clo.cons rfl (self_opts _ _) (self_opts _ _) (nil_opts _ _) (nil_opts _ _) (clo_opts _ _) (clo_opts _ _)
theorem clo_optsL : ∀ es : List (SK α), Clo (optsL es)
  | [] => by
    intro u e v h
    have := List.mem_singleton.mp (show u ++ e :: v ∈ [[]] from h)
    simp at this
  | e :: es => (clo_opts e.1 e.2).prod (clo_optsL es)
theorem self_optsL : ∀ es : List (SK α), es ∈ optsL es
  | [] => List.mem_singleton.mpr rfl
  | e :: es => mem_prod.mpr ⟨[e], es, self_opts _ _, self_optsL es, rfl⟩

/-! rows and asked kinds in such a set -/
def ins (r : List (Kd α)) : List (SK α) := r.map fun k => (true, k)
theorem ins_append (r t : List (Kd α)) : ins (r ++ t) = ins r ++ ins t := List.map_append
theorem ins_nil : ins ([] : List (Kd α)) = [] := rfl
theorem ins_cons (k : Kd α) (t : List (Kd α)) : ins (k :: t) = (true, k) :: ins t := rfl
/-- the row r and the asked kind k stand in a word of S, turned round -/
def Has (S : List (List (SK α))) (r : List (Kd α)) (k : Kd α) : Prop := ∃ u v, ins u ++ (false, k) :: ins v ∈ S ∧ r = v ++ u
section
variable {S : List (List (SK α))} (hS : Clo S)
include hS
theorem Clo.del : ∀ (m u v : List (SK α)), u ++ (m ++ v) ∈ S → u ++ v ∈ S
  | [], _, _, h => h
  | e :: m, u, v, h => Clo.del m u v (hS u e (m ++ v) h).1
theorem Has.rb {r : List (Kd α)} {x y : Kd α} (h : Has S r (b x y)) : Has S (r ++ [y]) x := by
  obtain ⟨u, v, h, rfl⟩ := h
  have := (hS _ _ _ h).2 _ rfl
  exact ⟨u ++ [y], v, by simpa [ins_append, ins_cons, ins_nil] using this, by simp⟩
theorem Has.ra {r : List (Kd α)} {x y : Kd α} (h : Has S r (a y x)) : Has S (y :: r) x := by
  obtain ⟨u, v, h, rfl⟩ := h
  have := (hS _ _ _ h).2 _ rfl
  exact ⟨u, y :: v, by simpa [ins_append, ins_cons, ins_nil] using this, by simp⟩
theorem Has.lb {g d t : List (Kd α)} {x y k : Kd α} (h : Has S (g ++ b x y :: (d ++ t)) k) : Has S d y ∧ Has S (g ++ x :: t) k := by
  obtain ⟨u, v, h, e⟩ := h
  rcases split2 e with ⟨s, rfl, e2⟩ | ⟨s, rfl, rfl⟩
  · -- the kind stands in v
    have h1 := (hS (ins u ++ (false, k) :: ins g) (true, b x y) (ins s) (by simpa [ins_append, ins_cons, ins_nil] using h)).2 _ rfl
    rcases List.append_eq_append_iff.mp e2 with ⟨s', rfl, rfl⟩ | ⟨d', rfl, rfl⟩
    · refine ⟨⟨[], d, ?_, by simp⟩, ⟨u, g ++ x :: s', ?_, by simp⟩⟩
      · have h2 := Clo.del hS (ins u ++ (false, k) :: ins g ++ [(true, x)]) [] _ (by simpa [ins_append] using h1)
        have h3 := Clo.del hS (ins s') ((false, y) :: ins d) [] (by simpa using h2)
        simpa [ins] using h3
      · have h2 := Clo.del hS ((false, y) :: ins d) (ins u ++ (false, k) :: ins g ++ [(true, x)]) (ins s') (by simpa [ins_append] using h1)
        simpa [ins_append, ins_cons, ins_nil] using h2
    · refine ⟨⟨d', s, ?_, by simp⟩, ⟨t, g ++ [x], ?_, by simp⟩⟩
      · have h2 := Clo.del hS (ins t ++ (false, k) :: ins g ++ [(true, x)]) (ins d') ((false, y) :: ins s) (by simpa [ins_append] using h1)
        exact h2
      · have h2 := Clo.del hS (ins d') [] (ins t ++ (false, k) :: ins g ++ (true, x) :: (false, y) :: ins s) (by simpa [ins_append] using h1)
        have h3 := Clo.del hS ((false, y) :: ins s) (ins t ++ (false, k) :: ins g ++ [(true, x)]) [] (by simpa using h2)
        simpa [ins_append, ins_cons, ins_nil] using h3
  · -- the kind stands in u
    have h1 := (hS (ins s) (true, b x y) (ins d ++ (ins t ++ (false, k) :: ins v)) (by simpa [ins_append, ins_cons, ins_nil] using h)).2 _ rfl
    refine ⟨⟨[], d, ?_, by simp⟩, ⟨s ++ x :: t, v, ?_, by simp⟩⟩
    · have h2 := Clo.del hS (ins s ++ [(true, x)]) [] _ (by simpa using h1)
      have h3 := Clo.del hS (ins t ++ (false, k) :: ins v) ((false, y) :: ins d) [] (by simpa using h2)
      simpa [ins] using h3
    · have h2 := Clo.del hS ((false, y) :: ins d) (ins s ++ [(true, x)]) (ins t ++ (false, k) :: ins v) (by simpa using h1)
      simpa [ins_append, ins_cons, ins_nil] using h2
theorem Has.la {g d t : List (Kd α)} {x y k : Kd α} (h : Has S (g ++ (d ++ a y x :: t)) k) : Has S d y ∧ Has S (g ++ x :: t) k := by
  obtain ⟨u, v, h, e⟩ := h
  rw [← List.append_assoc] at e
  rcases split2 e with ⟨s, rfl, rfl⟩ | ⟨s, e1, rfl⟩
  · have h1 := (hS (ins u ++ (false, k) :: (ins g ++ ins d)) (true, a y x) (ins s) (by simpa [ins_append, ins_cons, ins_nil] using h)).2 _ rfl
    refine ⟨⟨d, [], ?_, by simp⟩, ⟨u, g ++ x :: s, ?_, by simp⟩⟩
    · have h2 := Clo.del hS (ins u ++ (false, k) :: ins g) [] (ins d ++ (false, y) :: (true, x) :: ins s) (by simpa using h1)
      have h3 := Clo.del hS ((true, x) :: ins s) (ins d ++ [(false, y)]) [] (by simpa using h2)
      simpa [ins] using h3
    · have h2 := Clo.del hS (ins d ++ [(false, y)]) (ins u ++ (false, k) :: ins g) ((true, x) :: ins s) (by simpa using h1)
      simpa [ins_append, ins_cons, ins_nil] using h2
  · rcases List.append_eq_append_iff.mp e1 with ⟨q, rfl, rfl⟩ | ⟨g', rfl, rfl⟩
    · -- v = g ++ q, d = q ++ s
      have h1 := (hS (ins s) (true, a y x) (ins t ++ (false, k) :: (ins g ++ ins q)) (by simpa [ins_append, ins_cons, ins_nil] using h)).2 _ rfl
      refine ⟨⟨s, q, ?_, by simp⟩, ⟨x :: t, g, ?_, by simp⟩⟩
      · have h2 := Clo.del hS ((true, x) :: (ins t ++ (false, k) :: ins g)) (ins s ++ [(false, y)]) (ins q) (by simpa using h1)
        simpa using h2
      · have h2 := Clo.del hS (ins s ++ [(false, y)]) [] ((true, x) :: (ins t ++ (false, k) :: (ins g ++ ins q))) (by simpa using h1)
        have h3 := Clo.del hS (ins q) ((true, x) :: (ins t ++ (false, k) :: ins g)) [] (by simpa using h2)
        simpa [ins_append, ins_cons, ins_nil] using h3
    · have h1 := (hS (ins g' ++ ins d) (true, a y x) (ins t ++ (false, k) :: ins v) (by simpa [ins_append, ins_cons, ins_nil] using h)).2 _ rfl
      refine ⟨⟨d, [], ?_, by simp⟩, ⟨g' ++ x :: t, v, ?_, by simp⟩⟩
      · have h2 := Clo.del hS (ins g') [] (ins d ++ (false, y) :: (true, x) :: (ins t ++ (false, k) :: ins v)) (by simpa using h1)
        have h3 := Clo.del hS ((true, x) :: (ins t ++ (false, k) :: ins v)) (ins d ++ [(false, y)]) [] (by simpa using h2)
        simpa [ins] using h3
      · have h2 := Clo.del hS (ins d ++ [(false, y)]) (ins g') ((true, x) :: (ins t ++ (false, k) :: ins v)) (by simpa using h1)
        simpa [ins_append, ins_cons, ins_nil] using h2
end

/-! the list of them, its length -/
def outs (w : List (SK α)) : Nat := (w.filter fun e => !e.1).length
theorem outs_append (u v : List (SK α)) : outs (u ++ v) = outs u + outs v := by simp [outs]
def toSeq (w : List (SK α)) : Option (List (Kd α) × Kd α) :=
  match w.dropWhile (·.1) with
  | [] => none
  | e :: v => if outs v = 0 then some ((v.map (·.2)) ++ (w.takeWhile (·.1)).map (·.2), e.2) else none
def seqs (S : List (List (SK α))) : List (List (Kd α) × Kd α) := S.filterMap toSeq
theorem dropWhile_ins (u : List (Kd α)) (k : Kd α) (v : List (SK α)) : (ins u ++ (false, k) :: v).dropWhile (·.1) = (false, k) :: v := by
  induction u with
  | nil => rfl
  | cons x u ih => simpa [ins_cons] using ih
theorem takeWhile_ins (u : List (Kd α)) (k : Kd α) (v : List (SK α)) : (ins u ++ (false, k) :: v).takeWhile (·.1) = ins u := by
  induction u with
  | nil => rfl
  | cons x u ih => simpa [ins_cons] using ih
theorem outs_ins (u : List (Kd α)) : outs (ins u) = 0 := by
  induction u with
  | nil => rfl
  | cons x u ih => exact ih
theorem map_ins (u : List (Kd α)) : (ins u).map (·.2) = u := by
  unfold ins
  rw [List.map_map]
  exact List.map_id' u
theorem Has.mem {S : List (List (SK α))} {r : List (Kd α)} {k : Kd α} (h : Has S r k) : (r, k) ∈ seqs S := by
  obtain ⟨u, v, h, rfl⟩ := h
  refine List.mem_filterMap.mpr ⟨_, h, ?_⟩
  unfold toSeq
  rw [dropWhile_ins, takeWhile_ins]
  simp [outs_ins, map_ins]
theorem toSeq_outs {w : List (SK α)} {q : List (Kd α) × Kd α} (h : toSeq w = some q) : outs w = 1 := by
  unfold toSeq at h
  have e := List.takeWhile_append_dropWhile (p := fun e : SK α => e.1) (l := w)
  have h0 : outs (w.takeWhile (·.1)) = 0 := by
    unfold outs
    rw [List.length_eq_zero_iff, List.filter_eq_nil_iff]
    intro z hz
    have : z.1 = true := List.all_eq_true.mp (List.all_takeWhile (p := fun e : SK α => e.1) (l := w)) z hz
    simp [this]
  cases hd : w.dropWhile (·.1) with
  | nil => rw [hd] at h; cases h
  | cons z v =>
    rw [hd] at h
    simp only at h
    split at h
    · rename_i hv
      have hz : z.1 = false := by
        have := List.head?_dropWhile_not (p := fun e : SK α => e.1) (l := w)
        rw [hd] at this
        simpa using this
      rw [← e, hd, outs_append, h0]
      have : outs (z :: v) = outs [z] + outs v := outs_append [z] v
      rw [this, hv]
      simp [outs, hz]
    · cases h
def cnt (n : Nat) (S : List (List (SK α))) : Nat := (S.filter fun w => outs w == n).length
theorem seqs_le (S : List (List (SK α))) : (seqs S).length ≤ cnt 1 S := by
  unfold seqs cnt
  induction S with
  | nil => exact Nat.le_refl _
  | cons w S ih =>
    cases e : toSeq w with
    | none =>
      rw [List.filterMap_cons_none e]
      refine Nat.le_trans ih ?_
      rw [List.filter_cons]
      split
      · exact Nat.le_succ _
      · exact Nat.le_refl _
    | some q =>
      rw [List.filterMap_cons_some e, List.filter_cons_of_pos (by simp [toSeq_outs e])]
      exact Nat.succ_le_succ ih
theorem cnt_cons (n : Nat) (w : List (SK α)) (S : List (List (SK α))) : cnt n (w :: S) = (if outs w = n then 1 else 0) + cnt n S := by
  unfold cnt
  rw [List.filter_cons]
  by_cases e : outs w = n
  · simp [e]; omega
  · simp [e]
theorem cnt_append (n : Nat) (S T : List (List (SK α))) : cnt n (S ++ T) = cnt n S + cnt n T := by simp [cnt]
theorem cnt_map_0 (u : List (SK α)) (Q : List (List (SK α))) : cnt 0 (Q.map (u ++ ·)) = if outs u = 0 then cnt 0 Q else 0 := by
  induction Q with
  | nil => simp [cnt]
  | cons w Q ih =>
    rw [List.map_cons, cnt_cons, cnt_cons, ih, outs_append]
    by_cases e : outs u = 0 <;> simp [e]
theorem cnt_map_1 (u : List (SK α)) (Q : List (List (SK α))) : cnt 1 (Q.map (u ++ ·)) = if outs u = 0 then cnt 1 Q else if outs u = 1 then cnt 0 Q else 0 := by
  induction Q with
  | nil => simp [cnt]
  | cons w Q ih =>
    rw [List.map_cons, cnt_cons, cnt_cons, cnt_cons, ih, outs_append]
    by_cases e : outs u = 0
    · simp [e]
    · by_cases e1 : outs u = 1
      · simp [e1]
      · simp [e, e1]; omega
theorem cnt_prod_0 (P Q : List (List (SK α))) : cnt 0 (prod P Q) = cnt 0 P * cnt 0 Q := by
  induction P with
  | nil => simp [prod, cnt]
  | cons u P ih =>
    have e : prod (u :: P) Q = Q.map (u ++ ·) ++ prod P Q := by simp [prod]
    rw [e, cnt_append, ih, cnt_map_0, cnt_cons]
    split <;> simp [Nat.add_mul]
theorem cnt_prod_1 (P Q : List (List (SK α))) : cnt 1 (prod P Q) = cnt 0 P * cnt 1 Q + cnt 1 P * cnt 0 Q := by
  induction P with
  | nil => simp [prod, cnt]
  | cons u P ih =>
    have e : prod (u :: P) Q = Q.map (u ++ ·) ++ prod P Q := by simp [prod]
    rw [e, cnt_append, ih, cnt_map_1, cnt_cons, cnt_cons]
    by_cases e0 : outs u = 0
    · simp [e0, Nat.add_mul]; omega
    · by_cases e1 : outs u = 1
      · simp [e1, Nat.add_mul]; omega
      · simp [e0, e1]
theorem two_pow_size (k : Kd α) : 2 ^ k.size = 2 * 2 ^ (k.size - 1) := by
  have := k.size_pos
  rw [← Nat.pow_succ']
  congr 1
  omega
/-- the bounds -/
theorem cnt_opts : ∀ (s : Bool) (k : Kd α), (s = true → cnt 0 (opts s k) ≤ 2 ^ (k.size - 1) + 1 ∧ cnt 1 (opts s k) + 2 ≤ 2 ^ k.size) ∧
    (s = false → cnt 0 (opts s k) ≤ 2 ^ (k.size - 1) ∧ cnt 1 (opts s k) + 1 ≤ 2 ^ k.size)
  | true, p c => by simp [opts, cnt, outs, Kd.size]
  | false, p c => by simp [opts, cnt, outs, Kd.size]
  | true, b x y => by
    refine ⟨fun _ => ?_, fun h => nomatch h⟩
    have hx := (cnt_opts true x).1 rfl
    have hy := (cnt_opts false y).2 rfl
    simp only [opts, cnt_cons, cnt_prod_0, cnt_prod_1]
    exact cnt_in hx.1 hx.2 hy.1 hy.2 x.size_pos y.size_pos rfl (by simp [outs])
  | true, a y x => by
    refine ⟨fun _ => ?_, fun h => nomatch h⟩
    have hx := (cnt_opts true x).1 rfl
    have hy := (cnt_opts false y).2 rfl
    simp only [opts, cnt_cons, cnt_prod_0, cnt_prod_1]
    have := cnt_in (α := α) (w := [(true, a y x)]) (n := (a y x).size) hx.1 hx.2 hy.1 hy.2 x.size_pos y.size_pos (by show y.size + x.size = _; omega) (by simp [outs])
    rw [Nat.mul_comm (cnt 0 (opts false y)), Nat.mul_comm (cnt 0 (opts false y)), Nat.mul_comm (cnt 1 (opts false y)), Nat.add_comm (cnt 1 (opts true x) * _)]
    exact this
  | false, b x y => by
    refine ⟨fun h => (nomatch h), fun _ => ?_⟩
    have hx := (cnt_opts false x).2 rfl
    have hy := (cnt_opts true y).1 rfl
    simp only [opts, cnt_cons, cnt_prod_0, cnt_prod_1]
    have := cnt_out (α := α) (w := [(false, b x y)]) (n := (b x y).size) hx.1 hx.2 hy.1 hy.2 x.size_pos y.size_pos rfl (by simp [outs])
    rw [Nat.mul_comm (cnt 0 (opts true y)), Nat.mul_comm (cnt 0 (opts true y)), Nat.mul_comm (cnt 1 (opts true y)), Nat.add_comm (cnt 1 (opts false x) * _)]
    exact this
  | false, a y x => by
    refine ⟨fun h => (nomatch h), fun _ => ?_⟩
    have hx := (cnt_opts false x).2 rfl
    have hy := (cnt_opts true y).1 rfl
    simp only [opts, cnt_cons, cnt_prod_0, cnt_prod_1]
    exact cnt_out hx.1 hx.2 hy.1 hy.2 x.size_pos y.size_pos (by show y.size + x.size = _; omega) (by simp [outs])
where
  cnt_in {α : Type} {i0 i1 o0 o1 m l n : Nat} {w : List (SK α)} (h1 : i0 ≤ 2 ^ (m - 1) + 1) (h2 : i1 + 2 ≤ 2 ^ m) (h3 : o0 ≤ 2 ^ (l - 1)) (h4 : o1 + 1 ≤ 2 ^ l) (hm : 1 ≤ m) (hl : 1 ≤ l) (e : n = m + l) (hw : outs w = 0) :
      (if outs w = 0 then 1 else 0) + i0 * o0 ≤ 2 ^ (n - 1) + 1 ∧ (if outs w = 1 then 1 else 0) + (i0 * o1 + i1 * o0) + 2 ≤ 2 ^ n := by
    subst e
    rw [hw]
    obtain ⟨m, rfl⟩ : ∃ k, m = k + 1 := ⟨m - 1, by omega⟩
    obtain ⟨l, rfl⟩ : ∃ k, l = k + 1 := ⟨l - 1, by omega⟩
    simp only [Nat.add_sub_cancel, Nat.pow_succ] at h1 h2 h3 h4
    rw [show m + 1 + (l + 1) - 1 = m + l + 1 by omega, show m + 1 + (l + 1) = m + l + 1 + 1 by omega]
    simp only [Nat.pow_succ, Nat.pow_add]
    have pm : 1 ≤ 2 ^ m := Nat.one_le_two_pow
    have pl : 1 ≤ 2 ^ l := Nat.one_le_two_pow
    generalize 2 ^ m = M at *
    generalize 2 ^ l = N at *
    have t1 : i0 * o0 ≤ (M + 1) * N := Nat.mul_le_mul h1 h3
    have t2 : i0 * o1 ≤ (M + 1) * (2 * N - 1) := Nat.mul_le_mul h1 (by omega)
    have t3 : i1 * o0 ≤ (2 * M - 2) * N := Nat.mul_le_mul (by omega) h3
    obtain ⟨M, rfl⟩ : ∃ k, M = k + 1 := ⟨M - 1, by omega⟩
    obtain ⟨N, rfl⟩ : ∃ k, N = k + 1 := ⟨N - 1, by omega⟩
    rw [show 2 * (N + 1) - 1 = 2 * N + 1 by omega] at t2
    rw [show 2 * (M + 1) - 2 = 2 * M by omega] at t3
    simp only [Nat.add_mul, Nat.mul_add, Nat.mul_assoc, Nat.one_mul, Nat.mul_one] at *
    have q1 : M * (2 * N) = 2 * (M * N) := Nat.mul_left_comm ..
    have q2 : M * (N * 2) = 2 * (M * N) := by rw [Nat.mul_comm N 2]; exact q1
    have q3 : M * (N * (2 * 2)) = 4 * (M * N) := by rw [Nat.mul_comm N, ← Nat.mul_assoc, Nat.mul_comm M, Nat.mul_assoc]
    generalize M * N = K at *
    simp only [if_true, if_false, Nat.zero_ne_one, Nat.one_ne_zero]
    omega
  cnt_out {α : Type} {i0 i1 o0 o1 m l n : Nat} {w : List (SK α)} (h3 : o0 ≤ 2 ^ (l - 1)) (h4 : o1 + 1 ≤ 2 ^ l) (h1 : i0 ≤ 2 ^ (m - 1) + 1) (h2 : i1 + 2 ≤ 2 ^ m) (hl : 1 ≤ l) (hm : 1 ≤ m) (e : n = l + m) (hw : outs w = 1) :
      (if outs w = 0 then 1 else 0) + o0 * i0 ≤ 2 ^ (n - 1) ∧ (if outs w = 1 then 1 else 0) + (o0 * i1 + o1 * i0) + 1 ≤ 2 ^ n := by
    subst e
    rw [hw]
    obtain ⟨m, rfl⟩ : ∃ k, m = k + 1 := ⟨m - 1, by omega⟩
    obtain ⟨l, rfl⟩ : ∃ k, l = k + 1 := ⟨l - 1, by omega⟩
    simp only [Nat.add_sub_cancel, Nat.pow_succ] at h1 h2 h3 h4
    rw [show l + 1 + (m + 1) - 1 = l + m + 1 by omega, show l + 1 + (m + 1) = l + m + 1 + 1 by omega]
    simp only [Nat.pow_succ, Nat.pow_add]
    have pm : 1 ≤ 2 ^ m := Nat.one_le_two_pow
    have pl : 1 ≤ 2 ^ l := Nat.one_le_two_pow
    generalize 2 ^ m = M at *
    generalize 2 ^ l = N at *
    have t1 : o0 * i0 ≤ N * (M + 1) := Nat.mul_le_mul h3 h1
    have t2 : o1 * i0 ≤ (2 * N - 1) * (M + 1) := Nat.mul_le_mul (by omega) h1
    have t3 : o0 * i1 ≤ N * (2 * M - 2) := Nat.mul_le_mul h3 (by omega)
    obtain ⟨M, rfl⟩ : ∃ k, M = k + 1 := ⟨M - 1, by omega⟩
    obtain ⟨N, rfl⟩ : ∃ k, N = k + 1 := ⟨N - 1, by omega⟩
    rw [show 2 * (N + 1) - 1 = 2 * N + 1 by omega] at t2
    rw [show 2 * (M + 1) - 2 = 2 * M by omega] at t3
    simp only [Nat.add_mul, Nat.mul_add, Nat.mul_assoc, Nat.one_mul, Nat.mul_one] at *
    have q1 : N * (2 * M) = 2 * (N * M) := Nat.mul_left_comm ..
    have q2 : N * (M * 2) = 2 * (N * M) := by rw [Nat.mul_comm M 2]; exact q1
    have q3 : N * (M * (2 * 2)) = 4 * (N * M) := by rw [Nat.mul_comm M, ← Nat.mul_assoc, Nat.mul_comm N, Nat.mul_assoc]
    generalize N * M = K at *
    simp only [if_true, if_false, Nat.zero_ne_one, Nat.one_ne_zero]
    omega
/-- a row's own -/
def rsize (r : List (Kd α)) : Nat := (r.map Kd.size).sum
theorem cnt_row : ∀ (r : List (Kd α)) (k : Kd α), 2 * cnt 0 (optsL (ins r)) + cnt 1 (optsL (ins r)) ≤ 2 ^ (rsize r + 1) ∧ cnt 1 (optsL (ins r ++ [(false, k)])) ≤ 2 ^ (rsize r + k.size)
  | r, k => by
    have h1 : ∀ r : List (Kd α), 2 * cnt 0 (optsL (ins r)) + cnt 1 (optsL (ins r)) ≤ 2 ^ (rsize r + 1) := by
      intro r
      induction r with
      | nil => simp [ins, optsL, cnt, outs, rsize]
      | cons x r ih =>
        have hx := (cnt_opts true x).1 rfl
        rw [ins_cons]
        simp only [optsL, cnt_prod_0, cnt_prod_1]
        have e : rsize (x :: r) + 1 = x.size + (rsize r + 1) := by show (x.size + rsize r) + 1 = _; omega
        rw [e, Nat.pow_add]
        have h2 : 2 * cnt 0 (opts true x) + cnt 1 (opts true x) ≤ 2 * 2 ^ x.size := by
          have := two_pow_size x
          omega
        generalize cnt 0 (opts true x) = i0 at *
        generalize cnt 1 (opts true x) = i1 at *
        generalize cnt 0 (optsL (ins r)) = j0 at *
        generalize cnt 1 (optsL (ins r)) = j1 at *
        have h3 := Nat.mul_le_mul h2 ih
        simp only [Nat.add_mul, Nat.mul_add, Nat.mul_assoc] at h3
        rw [Nat.mul_left_comm i0 2 j0, Nat.mul_left_comm i1 2 j0] at h3
        omega
    refine ⟨h1 r, ?_⟩
    have h2 := h1 r
    have app : ∀ (r t : List (SK α)), cnt 0 (optsL (r ++ t)) = cnt 0 (optsL r) * cnt 0 (optsL t) ∧ cnt 1 (optsL (r ++ t)) = cnt 0 (optsL r) * cnt 1 (optsL t) + cnt 1 (optsL r) * cnt 0 (optsL t) := by
      intro r t
      induction r with
      | nil => simp [optsL, cnt_cons, cnt, outs]
      | cons e r ih =>
        rw [List.cons_append]
        simp only [optsL, cnt_prod_0, cnt_prod_1, ih.1, ih.2, Nat.mul_add, Nat.add_mul, Nat.mul_assoc]
        exact ⟨trivial, by omega⟩
    rw [(app _ _).2]
    have hk := (cnt_opts false k).2 rfl
    have en : optsL [(false, k)] = opts false k := by
      show prod (opts false k) [[]] = _
      unfold prod
      simp
    have e0 : cnt 0 (optsL [(false, k)]) = cnt 0 (opts false k) := by rw [en]
    have e1 : cnt 1 (optsL [(false, k)]) = cnt 1 (opts false k) := by rw [en]
    rw [e0, e1, Nat.pow_add]
    have ek := two_pow_size k
    rw [ek] at hk ⊢
    rw [Nat.pow_succ] at h2
    generalize cnt 0 (opts false k) = o0 at *
    generalize cnt 1 (opts false k) = o1 at *
    generalize cnt 0 (optsL (ins r)) = j0 at *
    generalize cnt 1 (optsL (ins r)) = j1 at *
    generalize 2 ^ (k.size - 1) = N at *
    generalize 2 ^ rsize r = M at *
    have t1 : j0 * o1 ≤ j0 * (2 * N) := Nat.mul_le_mul_left _ (by omega)
    have t2 : j1 * o0 ≤ j1 * N := Nat.mul_le_mul_left _ hk.1
    have t3 : (2 * j0 + j1) * N ≤ (M * 2) * N := Nat.mul_le_mul_right _ h2
    simp only [Nat.add_mul, Nat.mul_assoc] at t3
    rw [Nat.mul_left_comm j0 2 N] at t1
    omega
/-- all that a search of a row for a kind can come to -/
def states (r : List (Kd α)) (k : Kd α) : List (List (Kd α) × Kd α) := seqs (optsL (ins r ++ [(false, k)]))
theorem states_le (r : List (Kd α)) (k : Kd α) : (states r k).length ≤ 2 ^ (rsize r + k.size) := Nat.le_trans (seqs_le _) (cnt_row r k).2
def InSt (r₀ : List (Kd α)) (k₀ : Kd α) (r : List (Kd α)) (k : Kd α) : Prop := Has (optsL (ins r₀ ++ [(false, k₀)])) r k
theorem InSt.mem {r₀ : List (Kd α)} {k₀ : Kd α} {r : List (Kd α)} {k : Kd α} (h : InSt r₀ k₀ r k) : (r, k) ∈ states r₀ k₀ := Has.mem h
theorem InSt.self (r : List (Kd α)) (k : Kd α) : InSt r k r k := ⟨r, [], self_optsL _, by simp⟩
theorem InSt.rb {r₀ : List (Kd α)} {k₀ : Kd α} {r : List (Kd α)} {x y : Kd α} (h : InSt r₀ k₀ r (b x y)) : InSt r₀ k₀ (r ++ [y]) x := Has.rb (clo_optsL _) h
theorem InSt.ra {r₀ : List (Kd α)} {k₀ : Kd α} {r : List (Kd α)} {x y : Kd α} (h : InSt r₀ k₀ r (a y x)) : InSt r₀ k₀ (y :: r) x := Has.ra (clo_optsL _) h
theorem InSt.lb {r₀ : List (Kd α)} {k₀ : Kd α} {g d t : List (Kd α)} {x y k : Kd α} (h : InSt r₀ k₀ (g ++ b x y :: (d ++ t)) k) : InSt r₀ k₀ d y ∧ InSt r₀ k₀ (g ++ x :: t) k := Has.lb (clo_optsL _) h
theorem InSt.la {r₀ : List (Kd α)} {k₀ : Kd α} {g d t : List (Kd α)} {x y k : Kd α} (h : InSt r₀ k₀ (g ++ (d ++ a y x :: t)) k) : InSt r₀ k₀ d y ∧ InSt r₀ k₀ (g ++ x :: t) k := Has.la (clo_optsL _) h
end WW
set_option Elab.async false
set_option linter.all false
set_option maxRecDepth 100000
/-! Kinds in the heap, small rules. -/
namespace L2.G
open PySem PySem.Spec PyProof.Rows
/-! ### kinds in the heap -/
/-- a text of one sign -/
abbrev ch (c : Nat) : Str := ⟨#[c]⟩
inductive KAt (H : Hp) : V → WW.Kd Nat → Prop where
  | p {a : Addr} {c : Nat} : H a = some (.tup [.str "plain", .str (ch c)]) → KAt H (.ref a) (.p c)
  | b {a : Addr} {u v : V} {x y : WW.Kd Nat} : H a = some (.tup [.str "behind", u, v]) → KAt H u x → KAt H v y → KAt H (.ref a) (.b x y)
  | a {a : Addr} {u v : V} {x y : WW.Kd Nat} : H a = some (.tup [.str "ahead", u, v]) → KAt H u y → KAt H v x → KAt H (.ref a) (.a y x)
/-- the tuples stay -/
def TK (H H' : Hp) : Prop := ∀ b xs, H b = some (.tup xs) → H' b = some (.tup xs)
theorem TK.refl (H : Hp) : TK H H := fun _ _ h => h
theorem TK.trans {H H1 H2 : Hp} (a : TK H H1) (b : TK H1 H2) : TK H H2 := fun c xs h => b c xs (a c xs h)
theorem KAt.mono {H H' : Hp} (t : TK H H') {v : V} {k : WW.Kd Nat} (h : KAt H v k) : KAt H' v k := by
  induction h with
  | p h => exact .p (t _ _ h)
  | b h _ _ i1 i2 => exact .b (t _ _ h) i1 i2
  | a h _ _ i1 i2 => exact .a (t _ _ h) i1 i2
abbrev KsAt (H : Hp) : List V → List (WW.Kd Nat) → Prop := Paired (KAt H)
theorem KsAt.mono {H H' : Hp} (t : TK H H') {vs : List V} {ks : List (WW.Kd Nat)} (h : KsAt H vs ks) : KsAt H' vs ks := Paired.mapP h fun _ _ => KAt.mono t
theorem KsAt.append {H : Hp} : ∀ {vs us : List V} {ks ls : List (WW.Kd Nat)}, KsAt H vs ks → KsAt H us ls → KsAt H (vs ++ us) (ks ++ ls)
  | _, _, _, _, .nil, h => h
  | _, _, _, _, .cons a r, h => .cons a (KsAt.append r h)
theorem KsAt.take {H : Hp} : ∀ {vs : List V} {ks : List (WW.Kd Nat)} (n : Nat), KsAt H vs ks → KsAt H (vs.take n) (ks.take n)
  | _, _, 0, _ => .nil
  | _, _, _ + 1, .nil => .nil
  | _, _, n + 1, .cons a r => .cons a (KsAt.take n r)
theorem KsAt.drop {H : Hp} : ∀ {vs : List V} {ks : List (WW.Kd Nat)} (n : Nat), KsAt H vs ks → KsAt H (vs.drop n) (ks.drop n)
  | _, _, 0, h => h
  | _, _, _ + 1, .nil => .nil
  | _, _, n + 1, .cons _ r => KsAt.drop n r
theorem KsAt.len {H : Hp} {vs : List V} {ks : List (WW.Kd Nat)} (h : KsAt H vs ks) : vs.length = ks.length := Paired.length h
theorem KsAt.get {H : Hp} : ∀ {vs : List V} {ks : List (WW.Kd Nat)} {i : Nat} {k : WW.Kd Nat}, KsAt H vs ks → ks[i]? = some k → ∃ v, vs[i]? = some v ∧ KAt H v k
  | _, _, _, _, .nil, e => by simp at e
  | _, _, 0, _, .cons a r, e => by simp at e; subst e; exact ⟨_, rfl, a⟩
  | _, _, i + 1, _, .cons a r, e => by
    obtain ⟨v, h1, h2⟩ := KsAt.get (i := i) r (by simpa using e)
    exact ⟨v, by simpa using h1, h2⟩
theorem KsAt.get' {H : Hp} : ∀ {vs : List V} {ks : List (WW.Kd Nat)} {i : Nat} {v : V}, KsAt H vs ks → vs[i]? = some v → ∃ k, ks[i]? = some k ∧ KAt H v k
  | _, _, _, _, .nil, e => by simp at e
  | _, _, 0, _, .cons a r, e => by simp at e; subst e; exact ⟨_, rfl, a⟩
  | _, _, i + 1, _, .cons a r, e => by
    obtain ⟨v, h1, h2⟩ := KsAt.get' (i := i) r (by simpa using e)
    exact ⟨v, by simpa using h1, h2⟩
theorem KsAt.reverse {H : Hp} : ∀ {vs : List V} {ks : List (WW.Kd Nat)}, KsAt H vs ks → KsAt H vs.reverse ks.reverse
  | _, _, .nil => .nil
  | _, _, .cons a r => by
    rw [List.reverse_cons, List.reverse_cons]
    exact KsAt.append (KsAt.reverse r) (.cons a .nil)
theorem KsAt.set {H : Hp} : ∀ {vs : List V} {ks : List (WW.Kd Nat)} (i : Nat) {v : V} {k : WW.Kd Nat}, KsAt H vs ks → KAt H v k → KsAt H (vs.set i v) (ks.set i k)
  | _, _, _, _, _, .nil, _ => .nil
  | _, _, 0, _, _, .cons a r, h => .cons h r
  | _, _, i + 1, _, _, .cons a r, h => .cons a (KsAt.set i r h)
theorem KAt.ref {H : Hp} {v : V} {k : WW.Kd Nat} (h : KAt H v k) : ∃ a, v = .ref a := by cases h <;> exact ⟨_, rfl⟩
/-! ### what is changed at most -/
def Upto (l : List Addr) (H H' : Hp) : Prop := ∀ b o, b ∉ l → H b = some o → H' b = some o
theorem Upto.refl (l : List Addr) (H : Hp) : Upto l H H := fun _ _ _ h => h
theorem Upto.trans {l : List Addr} {H H1 H2 : Hp} (a : Upto l H H1) (b : Upto l H1 H2) : Upto l H H2 := fun c o hn h => b c o hn (a c o hn h)
theorem Upto.of_same {l : List Addr} {H H' : Hp} (a : Same H H') : Upto l H H' := fun b o _ h => a b o h
theorem Upto.mono {l l' : List Addr} {H H' : Hp} (a : Upto l H H') (h : ∀ b ∈ l, b ∈ l') : Upto l' H H' := fun b o hn e => a b o (fun m => hn (h b m)) e
theorem Upto.same {H H' : Hp} (a : Upto [] H H') : Same H H' := fun b o h => a b o (by simp) h
theorem same_new {H : Hp} {p : Addr} (h : H p = none) (o : HO) : Same H (upd H p o) := fun b u q => by rw [upd_ne (ne_of_none q h)]; exact q
theorem upto_upd {l : List Addr} {H : Hp} {p : Addr} (h : p ∈ l) (o : HO) : Upto l H (upd H p o) := fun b u hn q => by
  rw [upd_ne (fun e => hn (by rw [e]; exact h))]; exact q
/-- at the addresses of l no tuple stands -/
def NoTup (H : Hp) (l : List Addr) : Prop := ∀ b ∈ l, ∀ xs, H b ≠ some (.tup xs)
theorem Upto.tk {l : List Addr} {H H' : Hp} (a : Upto l H H') (n : NoTup H l) : TK H H' := fun b xs h => a b _ (fun m => n b m xs h) h
theorem Same.tk {H H' : Hp} (a : Same H H') : TK H H' := fun b xs h => a b _ h
theorem noTup1 {H : Hp} {a : Addr} {o : HO} (h : H a = some o) (hn : ∀ xs, o ≠ .tup xs) : NoTup H [a] := fun b m xs e => by
  have := List.mem_singleton.mp m
  subst this
  rw [h] at e
  exact hn xs (Option.some.inj e)
/-! ### tests whose answer is known -/
theorem ifP {A B : Prop} {x : V} (h : A) : if decide (x = x) = true then A else B := by
  rw [decide_eq_true rfl]; exact iteT h
theorem ifN {A B : Prop} {x y : V} (hn : x ≠ y) (h : B) : if decide (x = y) = true then A else B := by
  rw [decide_eq_false hn]; exact iteF h
theorem ifNN {A B : Prop} {x y : V} (hn : x ≠ y) (h : A) : if (!decide (x = y)) = true then A else B := by
  rw [decide_eq_false hn]; exact iteT h
theorem ifNP {A B : Prop} {x : V} (h : B) : if (!decide (x = x)) = true then A else B := by
  rw [decide_eq_true rfl]; exact iteF h
theorem qi {Q : VK} {H : Hp} {i j : Int} (e : i = j) (h : Q (.int j) H) : Q (.int i) H := by rw [e]; exact h
theorem qs {Q : VK} {H : Hp} {i j : Str} (e : i = j) (h : Q (.str j) H) : Q (.str i) H := by rw [e]; exact h
theorem qb {Q : VK} {H : Hp} {i j : Bool} (e : i = j) (h : Q (.bl j) H) : Q (.bl i) H := by rw [e]; exact h
theorem nbp : V.str "behind" ≠ V.str "plain" := by decide +kernel
theorem nap : V.str "ahead" ≠ V.str "plain" := by decide +kernel
theorem nab : V.str "ahead" ≠ V.str "behind" := by decide +kernel
theorem nba : V.str "behind" ≠ V.str "ahead" := by decide +kernel
theorem npb : V.str "plain" ≠ V.str "behind" := by decide +kernel
theorem npa : V.str "plain" ≠ V.str "ahead" := by decide +kernel
theorem npw : V.str "plain" ≠ V.str "with" := by decide +kernel
theorem nbw : V.str "behind" ≠ V.str "with" := by decide +kernel
theorem naw : V.str "ahead" ≠ V.str "with" := by decide +kernel
/-! ### small rules -/
section
variable {X : Cx}
/-- a constant of the module -/
theorem pe_gl {x : Str} {v : V} {pos : Pos} (hm : ∃ u, X.mg x = some u ∧ RelV v u) (hg : Gl X x := by rfl) (hd : (x == ("__debug__" : Str)) = false := by decide) : PE X (.Name x pos) (tC v) := by
  obtain ⟨u, h1, h2⟩ := hm
  exact pe_glob hg h1 h2 hd
def CPowW (i j : Int) : Prop := 0 ≤ j ∧ (Builtin.Int.intBits i : Int) * j ≤ 2 ^ 27
theorem op_powW : OpR X (binaryOp .Pow) (rI CPowW fun i j => .int (i ^ j.toNat)) := opI fun _ _ _ _ _ _ _ hc q => pow_int hc.1 hc.2 q
theorem in_mul : InOp X .Mult (rI CMul fun i j => .int (i * j)) := by
  first | exact iop_mul | exact ⟨iop_mul⟩
end
end L2.G
set_option Elab.async false
set_option linter.all false
set_option maxRecDepth 100000
set_option maxHeartbeats 4000000
/-! Walks of the small defs about one kind. -/
namespace WW
def Kd.depth {α : Type} : Kd α → Nat
  | .p _ => 1
  | .b x y => 1 + max x.depth y.depth
  | .a y x => 1 + max y.depth x.depth
end WW
namespace L2.G
open PySem PySem.Spec PyProof.Rows WW
/-- the text of a kind -/
def kt : Kd Nat → Str
  | .p c => ch c
  | .b x y => ((((("(" : Str) ++ kt x) ++ ("/" : Str)) ++ kt y) ++ (")" : Str))
  | .a y x => ((((("(" : Str) ++ kt y) ++ ("\\" : Str)) ++ kt x) ++ (")" : Str))
theorem kt_len : ∀ k : Kd Nat, (kt k).length + 3 = 4 * k.size
  | .p c => rfl
  | .b x y => by
    have h1 := kt_len x
    have h2 := kt_len y
    simp only [kt, strLen_append, Kd.size]
    have e1 : (("(" : Str)).length = 1 := rfl
    have e2 : (("/" : Str)).length = 1 := rfl
    have e3 : ((")" : Str)).length = 1 := rfl
    omega
  | .a y x => by
    have h1 := kt_len x
    have h2 := kt_len y
    simp only [kt, strLen_append, Kd.size]
    have e1 : (("(" : Str)).length = 1 := rfl
    have e2 : (("\\" : Str)).length = 1 := rfl
    have e3 : ((")" : Str)).length = 1 := rfl
    omega
def spSize (n : Nat) : SpG := fun vs H Q => ∃ v k, vs = [v] ∧ KAt H v k ∧ k.ops < n ∧ Q (.int (k.size : Nat)) H
def spDepth (n : Nat) : SpG := fun vs H Q => ∃ v k, vs = [v] ∧ KAt H v k ∧ k.ops < n ∧ ∀ H', Same H H' → Q (.int (k.depth : Nat)) H'
def spWaits (n : Nat) : SpG := fun vs H Q => ∃ v k, vs = [v] ∧ KAt H v k ∧ k.ops < n ∧ Q (.bl true) H
def spText (n : Nat) : SpG := fun vs H Q => ∃ v k, vs = [v] ∧ KAt H v k ∧ k.ops < n ∧ k.size ≤ 1000 ∧ ∀ H', Same H H' → Q (.str (kt k)) H'
section
variable {P : Program} {w : World} {K : PySem.W.Frag} {mg : Str → Option Value} {base : Heap} {C : Addr}
theorem c_size (T : Txt w K mg C) : ∀ n, GCal P w K mg base n "_law_size" (spSize n)
  | 0 => cal_none T.dL_size fun vs H Q ⟨_, _, _, _, h, _⟩ => absurd h (Nat.not_lt_zero _)
  | n + 1 => by
    have C_size := c_size T n
    refine cal_of T.dL_size scL_size (fun vs H Q ⟨_, _, e, _⟩ => by rw [e]; rfl) fun f cdv A outer s H vs Q hr ⟨v, k, e, hk, hn, q⟩ => ?_
    subst e
    refine ⟨_, (pss_one (ps_ret (pe_ifExp (pt_cmpR op_eq (pe_ix ix_tup (pv 0) pe_int (fun _ _ => rfl)) pe_str (nomark _)) pe_int (pe_op op_add (pe_g C_size hr (by omega) rfl (pa_cons (pe_ix ix_tup (pv 0) pe_int (fun _ _ => rfl)) pa_nil)) (pe_g C_size hr (by omega) rfl (pa_cons (pe_ix ix_tup (pv 0) pe_int (fun _ _ => rfl)) pa_nil)))))), ?_⟩
    cases hk with
    | p h => exact ⟨_, rfl, _, _, _, _, rfl, rfl, SqT.of h, rfl, rfl, _, rfl, ifP q⟩
    | b h h1 h2 =>
      simp only [Kd.ops] at hn
      refine ⟨_, rfl, _, _, _, _, rfl, rfl, SqT.of h, rfl, rfl, _, rfl, ifN nbp ?_⟩
      refine ⟨_, rfl, _, _, _, _, rfl, rfl, SqT.of h, rfl, _, _, rfl, h1, by omega, ?_⟩
      exact ⟨_, rfl, _, _, _, _, rfl, rfl, SqT.of h, rfl, _, _, rfl, h2, by omega, _, _, rfl, rfl, q⟩
    | a h h1 h2 =>
      simp only [Kd.ops] at hn
      refine ⟨_, rfl, _, _, _, _, rfl, rfl, SqT.of h, rfl, rfl, _, rfl, ifN nap ?_⟩
      refine ⟨_, rfl, _, _, _, _, rfl, rfl, SqT.of h, rfl, _, _, rfl, h1, by omega, ?_⟩
      exact ⟨_, rfl, _, _, _, _, rfl, rfl, SqT.of h, rfl, _, _, rfl, h2, by omega, _, _, rfl, rfl, q⟩

theorem c_depth (T : Txt w K mg C) : ∀ n, GCal P w K mg base n "_law_depth" (spDepth n)
  | 0 => cal_none T.dL_depth fun vs H Q ⟨_, _, _, _, h, _⟩ => absurd h (Nat.not_lt_zero _)
  | n + 1 => by
    have C_depth := c_depth T n
    refine cal_of T.dL_depth scL_depth (fun vs H Q ⟨_, _, e, _⟩ => by rw [e]; rfl) fun f cdv A outer s H vs Q hr ⟨v, k, e, hk, hn, q⟩ => ?_
    subst e
    refine ⟨_, (pss_one (ps_ret (pe_ifExp (pt_cmpR op_eq (pe_ix ix_tup (pv 0) pe_int (fun _ _ => rfl)) pe_str (nomark _)) pe_int (pe_op op_add pe_int (pe_callB (call_max2 rfl) rfl T.m_max (by decide +kernel) (pa_cons (pe_g C_depth hr (by omega) rfl (pa_cons (pe_ix ix_tup (pv 0) pe_int (fun _ _ => rfl)) pa_nil)) (pa_cons (pe_g C_depth hr (by omega) rfl (pa_cons (pe_ix ix_tup (pv 0) pe_int (fun _ _ => rfl)) pa_nil)) pa_nil))))))), ?_⟩
    have mx : ∀ a b : Nat, (1 : Int) + (if (b : Int) > (a : Int) then (b : Int) else (a : Int)) = ((1 + max a b : Nat) : Int) := fun a b => by
      split <;> omega
    cases hk with
    | p h => exact ⟨_, rfl, _, _, _, _, rfl, rfl, SqT.of h, rfl, rfl, _, rfl, ifP (q _ (Same.refl _))⟩
    | b h h1 h2 =>
      simp only [Kd.ops] at hn
      refine ⟨_, rfl, _, _, _, _, rfl, rfl, SqT.of h, rfl, rfl, _, rfl, ifN nbp ?_⟩
      refine ⟨_, rfl, _, _, _, _, rfl, rfl, SqT.of h, rfl, _, _, rfl, h1, by omega, fun H1 S1 => ?_⟩
      refine ⟨_, rfl, _, _, _, _, rfl, rfl, SqT.of (S1 _ _ h), rfl, _, _, rfl, h2.mono (Same.tk S1), by omega, fun H2 S2 => ?_⟩
      refine ⟨_, _, rfl, _, _, rfl, rfl, ?_⟩
      exact qi (mx _ _) (q _ (S1.trans S2))
    | a h h1 h2 =>
      simp only [Kd.ops] at hn
      refine ⟨_, rfl, _, _, _, _, rfl, rfl, SqT.of h, rfl, rfl, _, rfl, ifN nap ?_⟩
      refine ⟨_, rfl, _, _, _, _, rfl, rfl, SqT.of h, rfl, _, _, rfl, h1, by omega, fun H1 S1 => ?_⟩
      refine ⟨_, rfl, _, _, _, _, rfl, rfl, SqT.of (S1 _ _ h), rfl, _, _, rfl, h2.mono (Same.tk S1), by omega, fun H2 S2 => ?_⟩
      refine ⟨_, _, rfl, _, _, rfl, rfl, ?_⟩
      exact qi (mx _ _) (q _ (S1.trans S2))
theorem c_waits (T : Txt w K mg C) : ∀ n, GCal P w K mg base n "_law_waits" (spWaits n)
  | 0 => cal_none T.dL_waits fun vs H Q ⟨_, _, _, _, h, _⟩ => absurd h (Nat.not_lt_zero _)
  | n + 1 => by
    have C_waits := c_waits T n
    refine cal_of T.dL_waits scL_waits (fun vs H Q ⟨_, _, e, _⟩ => by rw [e]; rfl) fun f cdv A outer s H vs Q hr ⟨v, k, e, hk, hn, q⟩ => ?_
    subst e
    refine ⟨_, (pss_one (ps_ret (pe_or (pe_cmpR op_eq (pe_ix ix_tup (pv 0) pe_int (fun _ _ => rfl)) pe_str (nomark _)) (pe_one (pe_and (pe_cmpR op_ne (pe_ix ix_tup (pv 0) pe_int (fun _ _ => rfl)) pe_str (nomark _)) (pe_and (pe_g C_waits hr (by omega) rfl (pa_cons (pe_ix ix_tup (pv 0) pe_int (fun _ _ => rfl)) pa_nil)) (pe_one (pe_g C_waits hr (by omega) rfl (pa_cons (pe_ix ix_tup (pv 0) pe_int (fun _ _ => rfl)) pa_nil))))))))), ?_⟩
    cases hk with
    | p h => exact ⟨_, rfl, _, _, _, _, rfl, rfl, SqT.of h, rfl, rfl, _, rfl, ifP q⟩
    | b h h1 h2 =>
      simp only [Kd.ops] at hn
      refine ⟨_, rfl, _, _, _, _, rfl, rfl, SqT.of h, rfl, rfl, _, rfl, ifN nbp ?_⟩
      refine ⟨_, rfl, _, _, _, _, rfl, rfl, SqT.of h, rfl, rfl, _, rfl, ifNN nbw ?_⟩
      refine ⟨_, rfl, _, _, _, _, rfl, rfl, SqT.of h, rfl, _, _, rfl, h1, by omega, _, rfl, iteT ?_⟩
      exact ⟨_, rfl, _, _, _, _, rfl, rfl, SqT.of h, rfl, _, _, rfl, h2, by omega, q⟩
    | a h h1 h2 =>
      simp only [Kd.ops] at hn
      refine ⟨_, rfl, _, _, _, _, rfl, rfl, SqT.of h, rfl, rfl, _, rfl, ifN nap ?_⟩
      refine ⟨_, rfl, _, _, _, _, rfl, rfl, SqT.of h, rfl, rfl, _, rfl, ifNN naw ?_⟩
      refine ⟨_, rfl, _, _, _, _, rfl, rfl, SqT.of h, rfl, _, _, rfl, h1, by omega, _, rfl, iteT ?_⟩
      exact ⟨_, rfl, _, _, _, _, rfl, rfl, SqT.of h, rfl, _, _, rfl, h2, by omega, q⟩
theorem c_single (T : Txt w K mg C) : ∀ n, GCal P w K mg base n "single" (spWaits n)
  | 0 => cal_none T.dP_single fun vs H Q ⟨_, _, _, _, h, _⟩ => absurd h (Nat.not_lt_zero _)
  | n + 1 => by
    have C_single := c_single T n
    refine cal_of T.dP_single scP_single (fun vs H Q ⟨_, _, e, _⟩ => by rw [e]; rfl) fun f cdv A outer s H vs Q hr ⟨v, k, e, hk, hn, q⟩ => ?_
    subst e
    refine ⟨_, (pss_cons (ps_if (pt_cmpR op_eq (pe_ix ix_tup (pv 0) pe_int (fun _ _ => rfl)) pe_str (nomark _)) (pss_one (ps_ret pe_bl)) pss_nil)
      (pss_one (ps_ret (pe_and (pe_cmpR op_ne (pe_ix ix_tup (pv 0) pe_int (fun _ _ => rfl)) pe_str (nomark _)) (pe_and (pe_g C_single hr (by omega) rfl (pa_cons (pe_ix ix_tup (pv 0) pe_int (fun _ _ => rfl)) pa_nil)) (pe_one (pe_g C_single hr (by omega) rfl (pa_cons (pe_ix ix_tup (pv 0) pe_int (fun _ _ => rfl)) pa_nil)))))))), ?_⟩
    cases hk with
    | p h => exact ⟨_, rfl, _, _, _, _, rfl, rfl, SqT.of h, rfl, rfl, _, rfl, ifP q⟩
    | b h h1 h2 =>
      simp only [Kd.ops] at hn
      refine ⟨_, rfl, _, _, _, _, rfl, rfl, SqT.of h, rfl, rfl, _, rfl, ifN nbp ?_⟩
      refine ⟨_, rfl, _, _, _, _, rfl, rfl, SqT.of h, rfl, rfl, _, rfl, ifNN nbw ?_⟩
      refine ⟨_, rfl, _, _, _, _, rfl, rfl, SqT.of h, rfl, _, _, rfl, h1, by omega, _, rfl, iteT ?_⟩
      exact ⟨_, rfl, _, _, _, _, rfl, rfl, SqT.of h, rfl, _, _, rfl, h2, by omega, q⟩
    | a h h1 h2 =>
      simp only [Kd.ops] at hn
      refine ⟨_, rfl, _, _, _, _, rfl, rfl, SqT.of h, rfl, rfl, _, rfl, ifN nap ?_⟩
      refine ⟨_, rfl, _, _, _, _, rfl, rfl, SqT.of h, rfl, rfl, _, rfl, ifNN naw ?_⟩
      refine ⟨_, rfl, _, _, _, _, rfl, rfl, SqT.of h, rfl, _, _, rfl, h1, by omega, _, rfl, iteT ?_⟩
      exact ⟨_, rfl, _, _, _, _, rfl, rfl, SqT.of h, rfl, _, _, rfl, h2, by omega, q⟩

theorem c_text (T : Txt w K mg C) : ∀ n, GCal P w K mg base n "_law_text" (spText n)
  | 0 => cal_none T.dL_text fun vs H Q ⟨_, _, _, _, h, _⟩ => absurd h (Nat.not_lt_zero _)
  | n + 1 => by
    have C_text := c_text T n
    refine cal_of T.dL_text scL_text (fun vs H Q ⟨_, _, e, _⟩ => by rw [e]; rfl) fun f cdv A outer s H vs Q hr ⟨v, k, e, hk, hn, hz, q⟩ => ?_
    subst e
    refine ⟨_, (pss_cons (ps_if (pt_cmpR op_eq (pe_ix ix_tup (pv 0) pe_int (fun _ _ => rfl)) pe_str (nomark _)) (pss_one (ps_ret (pe_ix ix_tup (pv 0) pe_int (fun _ _ => rfl)))) pss_nil)
      (pss_cons (ps_set (i := 1) scL_text.nd rfl (Or.inl rfl) (pe_dget (hu_of hr.r) (pe_disp (pps_cons pe_str pe_str (pps_cons pe_str pe_str (pps_cons pe_str pe_str pps_nil))) (by rfl) (by rfl) (fun z => by cases z) (by decide)) (pe_ix ix_tup (pv 0) pe_int (fun _ _ => rfl)) (fun _ _ => rfl)))
      (pss_one (ps_ret (pe_op op_add_str (pe_op op_add_str (pe_op op_add_str (pe_op op_add_str pe_str (pe_g C_text hr (by omega) rfl (pa_cons (pe_ix ix_tup (pv 0) pe_int (fun _ _ => rfl)) pa_nil))) (pv 1)) (pe_g C_text hr (by omega) rfl (pa_cons (pe_ix ix_tup (pv 0) pe_int (fun _ _ => rfl)) pa_nil))) pe_str))))), ?_⟩
    cases hk with
    | p h =>
      refine ⟨_, rfl, _, _, _, _, rfl, rfl, SqT.of h, rfl, rfl, _, rfl, ifP ?_⟩
      exact ⟨_, rfl, _, _, _, _, rfl, rfl, SqT.of h, rfl, q _ (Same.refl _)⟩
    | @b ad u v x y h h1 h2 =>
      simp only [Kd.ops] at hn
      simp only [Kd.size] at hz
      refine ⟨_, rfl, _, _, _, _, rfl, rfl, SqT.of h, rfl, rfl, _, rfl, ifN nbp ?_⟩
      intro p np
      have S0 : ∀ o, Same H (upd H p o) := same_new np
      refine ⟨upd_same, [(.inr "behind", .str "/"), (.inr "ahead", .str "\\"), (.inr "with", .str ".")], rfl, by decide, ?_⟩
      rw [upd_upd]
      refine ⟨_, rfl, _, _, _, _, rfl, rfl, SqT.of (S0 _ _ _ h), rfl, p, _, rfl, (show DGet _ p (kV (.inr "behind")) (some (.str "/")) from DGet.k (k := .inr "behind") upd_same), ?_⟩
      refine ⟨_, rfl, _, _, _, _, rfl, rfl, SqT.of (S0 _ _ _ h), rfl, _, _, rfl, h1.mono (Same.tk (S0 _)), by omega, by omega, fun H1 S1 => ?_⟩
      have l1 := kt_len x
      have l2 := kt_len y
      have zl : sizeLine = 16777216 := sizeLine_eq
      refine ⟨_, _, rfl, rfl, by show 1 + (kt x).length ≤ _; omega, _, rfl, _, _, rfl, rfl, by rw [strLen_append]; show 1 + (kt x).length + 1 ≤ _; omega, ?_⟩
      refine ⟨_, rfl, _, _, _, _, rfl, rfl, SqT.of (S1 _ _ (S0 _ _ _ h)), rfl, _, _, rfl, (h2.mono (Same.tk (S0 _))).mono (Same.tk S1), by omega, by omega, fun H2 S2 => ?_⟩
      refine ⟨_, _, rfl, rfl, by rw [strLen_append, strLen_append]; show 1 + (kt x).length + 1 + (kt y).length ≤ _; omega, _, _, rfl, rfl, by rw [strLen_append, strLen_append, strLen_append]; show 1 + (kt x).length + 1 + (kt y).length + 1 ≤ _; omega, ?_⟩
      exact q _ (((S0 _).trans S1).trans S2)
    | @a ad u v x y h h2 h1 =>
      simp only [Kd.ops] at hn
      simp only [Kd.size] at hz
      refine ⟨_, rfl, _, _, _, _, rfl, rfl, SqT.of h, rfl, rfl, _, rfl, ifN nap ?_⟩
      intro p np
      have S0 : ∀ o, Same H (upd H p o) := same_new np
      refine ⟨upd_same, [(.inr "behind", .str "/"), (.inr "ahead", .str "\\"), (.inr "with", .str ".")], rfl, by decide, ?_⟩
      rw [upd_upd]
      refine ⟨_, rfl, _, _, _, _, rfl, rfl, SqT.of (S0 _ _ _ h), rfl, p, _, rfl, (show DGet _ p (kV (.inr "ahead")) (some (.str "\\")) from DGet.k (k := .inr "ahead") upd_same), ?_⟩
      refine ⟨_, rfl, _, _, _, _, rfl, rfl, SqT.of (S0 _ _ _ h), rfl, _, _, rfl, h2.mono (Same.tk (S0 _)), by omega, by omega, fun H1 S1 => ?_⟩
      have l1 := kt_len x
      have l2 := kt_len y
      have zl : sizeLine = 16777216 := sizeLine_eq
      refine ⟨_, _, rfl, rfl, by show 1 + (kt y).length ≤ _; omega, _, rfl, _, _, rfl, rfl, by rw [strLen_append]; show 1 + (kt y).length + 1 ≤ _; omega, ?_⟩
      refine ⟨_, rfl, _, _, _, _, rfl, rfl, SqT.of (S1 _ _ (S0 _ _ _ h)), rfl, _, _, rfl, (h1.mono (Same.tk (S0 _))).mono (Same.tk S1), by omega, by omega, fun H2 S2 => ?_⟩
      refine ⟨_, _, rfl, rfl, by rw [strLen_append, strLen_append]; show 1 + (kt y).length + 1 + (kt x).length ≤ _; omega, _, _, rfl, rfl, by rw [strLen_append, strLen_append, strLen_append]; show 1 + (kt y).length + 1 + (kt x).length + 1 ≤ _; omega, ?_⟩
      exact q _ (((S0 _).trans S1).trans S2)

theorem c_show_kind (T : Txt w K mg C) : ∀ n, GCal P w K mg base n "show_kind" (spText n)
  | 0 => cal_none T.dP_show_kind fun vs H Q ⟨_, _, _, _, h, _⟩ => absurd h (Nat.not_lt_zero _)
  | n + 1 => by
    have C_text := c_show_kind T n
    refine cal_of T.dP_show_kind scP_show_kind (fun vs H Q ⟨_, _, e, _⟩ => by rw [e]; rfl) fun f cdv A outer s H vs Q hr ⟨v, k, e, hk, hn, hz, q⟩ => ?_
    subst e
    refine ⟨_, (pss_cons (ps_if (pt_cmpR op_eq (pe_ix ix_tup (pv 0) pe_int (fun _ _ => rfl)) pe_str (nomark _)) (pss_one (ps_ret (pe_ix ix_tup (pv 0) pe_int (fun _ _ => rfl)))) pss_nil)
      (pss_cons (ps_set (i := 1) scP_show_kind.nd rfl (Or.inl rfl) (pe_dget (hu_of hr.r) (pe_disp (pps_cons pe_str pe_str (pps_cons pe_str pe_str (pps_cons pe_str pe_str pps_nil))) (by rfl) (by rfl) (fun z => by cases z) (by decide)) (pe_ix ix_tup (pv 0) pe_int (fun _ _ => rfl)) (fun _ _ => rfl)))
      (pss_one (ps_ret (pe_op op_add_str (pe_op op_add_str (pe_op op_add_str (pe_op op_add_str pe_str (pe_g C_text hr (by omega) rfl (pa_cons (pe_ix ix_tup (pv 0) pe_int (fun _ _ => rfl)) pa_nil))) (pv 1)) (pe_g C_text hr (by omega) rfl (pa_cons (pe_ix ix_tup (pv 0) pe_int (fun _ _ => rfl)) pa_nil))) pe_str))))), ?_⟩
    cases hk with
    | p h =>
      refine ⟨_, rfl, _, _, _, _, rfl, rfl, SqT.of h, rfl, rfl, _, rfl, ifP ?_⟩
      exact ⟨_, rfl, _, _, _, _, rfl, rfl, SqT.of h, rfl, q _ (Same.refl _)⟩
    | @b ad u v x y h h1 h2 =>
      simp only [Kd.ops] at hn
      simp only [Kd.size] at hz
      refine ⟨_, rfl, _, _, _, _, rfl, rfl, SqT.of h, rfl, rfl, _, rfl, ifN nbp ?_⟩
      intro p np
      have S0 : ∀ o, Same H (upd H p o) := same_new np
      refine ⟨upd_same, [(.inr "behind", .str "/"), (.inr "ahead", .str "\\"), (.inr "with", .str ".")], rfl, by decide, ?_⟩
      rw [upd_upd]
      refine ⟨_, rfl, _, _, _, _, rfl, rfl, SqT.of (S0 _ _ _ h), rfl, p, _, rfl, (show DGet _ p (kV (.inr "behind")) (some (.str "/")) from DGet.k (k := .inr "behind") upd_same), ?_⟩
      refine ⟨_, rfl, _, _, _, _, rfl, rfl, SqT.of (S0 _ _ _ h), rfl, _, _, rfl, h1.mono (Same.tk (S0 _)), by omega, by omega, fun H1 S1 => ?_⟩
      have l1 := kt_len x
      have l2 := kt_len y
      have zl : sizeLine = 16777216 := sizeLine_eq
      refine ⟨_, _, rfl, rfl, by show 1 + (kt x).length ≤ _; omega, _, rfl, _, _, rfl, rfl, by rw [strLen_append]; show 1 + (kt x).length + 1 ≤ _; omega, ?_⟩
      refine ⟨_, rfl, _, _, _, _, rfl, rfl, SqT.of (S1 _ _ (S0 _ _ _ h)), rfl, _, _, rfl, (h2.mono (Same.tk (S0 _))).mono (Same.tk S1), by omega, by omega, fun H2 S2 => ?_⟩
      refine ⟨_, _, rfl, rfl, by rw [strLen_append, strLen_append]; show 1 + (kt x).length + 1 + (kt y).length ≤ _; omega, _, _, rfl, rfl, by rw [strLen_append, strLen_append, strLen_append]; show 1 + (kt x).length + 1 + (kt y).length + 1 ≤ _; omega, ?_⟩
      exact q _ (((S0 _).trans S1).trans S2)
    | @a ad u v x y h h2 h1 =>
      simp only [Kd.ops] at hn
      simp only [Kd.size] at hz
      refine ⟨_, rfl, _, _, _, _, rfl, rfl, SqT.of h, rfl, rfl, _, rfl, ifN nap ?_⟩
      intro p np
      have S0 : ∀ o, Same H (upd H p o) := same_new np
      refine ⟨upd_same, [(.inr "behind", .str "/"), (.inr "ahead", .str "\\"), (.inr "with", .str ".")], rfl, by decide, ?_⟩
      rw [upd_upd]
      refine ⟨_, rfl, _, _, _, _, rfl, rfl, SqT.of (S0 _ _ _ h), rfl, p, _, rfl, (show DGet _ p (kV (.inr "ahead")) (some (.str "\\")) from DGet.k (k := .inr "ahead") upd_same), ?_⟩
      refine ⟨_, rfl, _, _, _, _, rfl, rfl, SqT.of (S0 _ _ _ h), rfl, _, _, rfl, h2.mono (Same.tk (S0 _)), by omega, by omega, fun H1 S1 => ?_⟩
      have l1 := kt_len x
      have l2 := kt_len y
      have zl : sizeLine = 16777216 := sizeLine_eq
      refine ⟨_, _, rfl, rfl, by show 1 + (kt y).length ≤ _; omega, _, rfl, _, _, rfl, rfl, by rw [strLen_append]; show 1 + (kt y).length + 1 ≤ _; omega, ?_⟩
      refine ⟨_, rfl, _, _, _, _, rfl, rfl, SqT.of (S1 _ _ (S0 _ _ _ h)), rfl, _, _, rfl, (h1.mono (Same.tk (S0 _))).mono (Same.tk S1), by omega, by omega, fun H2 S2 => ?_⟩
      refine ⟨_, _, rfl, rfl, by rw [strLen_append, strLen_append]; show 1 + (kt y).length + 1 + (kt x).length ≤ _; omega, _, _, rfl, rfl, by rw [strLen_append, strLen_append, strLen_append]; show 1 + (kt y).length + 1 + (kt x).length + 1 ≤ _; omega, ?_⟩
      exact q _ (((S0 _).trans S1).trans S2)
end
end L2.G
set_option Elab.async false
set_option linter.all false
set_option maxRecDepth 100000
set_option maxHeartbeats 4000000
/-! Walks: what the program checks of a kind; the law's bounds. -/
namespace WW
def Kd.All {α : Type} (p : α → Prop) : Kd α → Prop
  | .p c => p c
  | .b x y => x.All p ∧ y.All p
  | .a y x => y.All p ∧ x.All p
theorem Kd.All.imp {α : Type} {p q : α → Prop} (h : ∀ c, p c → q c) : ∀ {k : Kd α}, k.All p → k.All q
  | .p _, r => h _ r
  | .b _ _, r => ⟨Kd.All.imp h r.1, Kd.All.imp h r.2⟩
  | .a _ _, r => ⟨Kd.All.imp h r.1, Kd.All.imp h r.2⟩
theorem Kd.depth_le {α : Type} : ∀ k : Kd α, k.depth ≤ k.ops + 1
  | .p _ => Nat.le_refl _
  | .b x y => by have := depth_le x; have := depth_le y; simp only [Kd.depth, Kd.ops]; omega
  | .a y x => by have := depth_le x; have := depth_le y; simp only [Kd.depth, Kd.ops]; omega
end WW
namespace L2.G
open PySem PySem.Spec PyProof.Rows WW
/-- a letter from a to z -/
def Az (c : Nat) : Prop := 97 ≤ c ∧ c ≤ 122
theorem abc_list : ("abcdefghijklmnopqrstuvwxyz" : Str).cps.toList = (List.range 26).map (· + 97) := by decide +kernel
theorem az_mem {c : Nat} (h : Az c) : c ∈ ("abcdefghijklmnopqrstuvwxyz" : Str).cps.toList := by
  rw [abc_list]
  exact List.mem_map.mpr ⟨c - 97, List.mem_range.mpr (by have := h.1; have := h.2; omega), by have := h.1; show c - 97 + 97 = c; omega⟩
theorem mem_az {c : Nat} (h : c ∈ ("abcdefghijklmnopqrstuvwxyz" : Str).cps.toList) : Az c := by
  rw [abc_list] at h
  obtain ⟨i, hi, e⟩ := List.mem_map.mp h
  have := List.mem_range.mp hi
  have e : i + 97 = c := e
  exact ⟨by omega, by omega⟩
def spIsLetter : SpG := fun vs H Q => ∃ c, vs = [.str (ch c)] ∧ Az c ∧ Q (.bl true) H
def spWrong (n : Nat) : SpG := fun vs H Q => ∃ v k, vs = [v] ∧ KAt H v k ∧ k.ops < n ∧ k.All Az ∧ Q .non H
def spChecked (n : Nat) : SpG := fun vs H Q => ∃ v k, vs = [v] ∧ KAt H v k ∧ k.ops < n ∧ k.All Az ∧ Q v H
def spLifted : SpG := fun vs H Q => ∃ (v u : V) (k l : Kd Nat) (i : Int), vs = [v, u, .int i] ∧ KAt H v k ∧ KAt H u l ∧ ∀ (r : V) (m : Kd Nat) (H' : Hp), Same H H' → KAt H' r m → m.size = k.size + 2 * l.size → (∀ p : Nat → Prop, k.All p → l.All p → m.All p) → Q r H'
section
variable {P : Program} {w : World} {K : PySem.W.Frag} {mg : Str → Option Value} {base : Heap} {C : Addr}
theorem c_is_letter (T : Txt w K mg C) : GCal P w K mg base 1 "is_letter" spIsLetter := by
  refine cal_of T.dP_is_letter scP_is_letter (fun vs H Q ⟨_, e, _⟩ => by rw [e]; rfl) fun f cdv A outer s H vs Q hr ⟨c, e, hc, q⟩ => ?_
  subst e
  refine ⟨_, (pss_one (ps_ret (pe_and (pe_cmpR op_eq (pe_callB call_len_str rfl T.m_len (by decide +kernel) (pa_cons (pv 0) pa_nil)) pe_int (nomark _)) (pe_one (pe_cmpR op_in_sign (pv 0) (pe_gl T.G_LETTERS_kinds) (by with_unfolding_all rfl)))))), ?_⟩
  refine ⟨_, rfl, _, rfl, by show 1 ≤ sizeLine; decide, rfl, _, rfl, ifP ?_⟩
  exact ⟨_, rfl, c, _, rfl, rfl, qb (decide_eq_true (az_mem hc)) q⟩
theorem c_wrong_part (T : Txt w K mg C) : ∀ n, GCal P w K mg base (n + 1) "wrong_part" (spWrong n)
  | 0 => cal_none T.dP_wrong_part fun vs H Q ⟨_, _, _, _, h, _⟩ => absurd h (Nat.not_lt_zero _)
  | n + 1 => by
    have C_wrong_part := c_wrong_part T n
    have C_is_letter := c_is_letter (P := P) (base := base) T
    obtain ⟨td, es, m, KD, gT, ⟨rB, hB⟩, ⟨rA, hA⟩⟩ := T.G_TURNS
    have gT' : ∃ u, mg "TURNS" = some u ∧ RelV (.ref td) u := ⟨_, gT, rfl⟩
    refine cal_of T.dP_wrong_part scP_wrong_part (fun vs H Q ⟨_, _, e, _⟩ => by rw [e]; rfl) fun f cdv A outer s H vs Q hr ⟨v, k, e, hk, hn, ha, q⟩ => ?_
    subst e
    refine ⟨_, (pss_cons (ps_if (pt_cmpR op_eq (pe_ix ix_tup (pv 0) pe_int (fun _ _ => rfl)) pe_str (nomark _))
      (pss_one (ps_ret (pe_ifExp (pt_val (pe_g C_is_letter hr (by omega) rfl (pa_cons (pe_ix ix_tup (pv 0) pe_int (fun _ _ => rfl)) pa_nil))) pe_non (pv 0))))
      pss_nil)
    (pss_cons (ps_if (pt_cmpR (op_notIn_kd KD) (pe_ix ix_tup (pv 0) pe_int (fun _ _ => rfl)) (pe_gl gT') (by with_unfolding_all rfl))
      (pss_one (ps_ret (pv 0)))
      pss_nil)
    (pss_cons (ps_set (i := 1) scP_wrong_part.nd rfl (by first | exact Or.inl rfl | exact Or.inr rfl) (pe_g C_wrong_part hr (by omega) rfl (pa_cons (pe_ix ix_tup (pv 0) pe_int (fun _ _ => rfl)) pa_nil)))
    (pss_one (ps_ret (pe_ifExp (pt_cmpR op_isN (pv 1) pe_non (nomark _)) (pe_g C_wrong_part hr (by omega) rfl (pa_cons (pe_ix ix_tup (pv 0) pe_int (fun _ _ => rfl)) pa_nil)) (pv 1))))))), ?_⟩
    cases hk with
    | p h =>
      refine ⟨_, rfl, _, _, _, _, rfl, rfl, SqT.of h, rfl, rfl, _, rfl, ifP ?_⟩
      exact ⟨_, rfl, _, _, _, _, rfl, rfl, SqT.of h, rfl, _, rfl, ha, _, rfl, iteT q⟩
    | b h h1 h2 =>
      simp only [Kd.ops] at hn
      refine ⟨_, rfl, _, _, _, _, rfl, rfl, SqT.of h, rfl, rfl, _, rfl, ifN nbp ?_⟩
      refine ⟨_, rfl, _, _, _, _, rfl, rfl, SqT.of h, rfl, _, _, rfl, rfl, hB, _, rfl, iteF ?_⟩
      refine ⟨_, rfl, _, _, _, _, rfl, rfl, SqT.of h, rfl, _, _, rfl, h1, by omega, ha.1, ?_⟩
      refine ⟨_, rfl, rfl, _, rfl, ifP ?_⟩
      exact ⟨_, rfl, _, _, _, _, rfl, rfl, SqT.of h, rfl, _, _, rfl, h2, by omega, ha.2, q⟩
    | a h h1 h2 =>
      simp only [Kd.ops] at hn
      refine ⟨_, rfl, _, _, _, _, rfl, rfl, SqT.of h, rfl, rfl, _, rfl, ifN nap ?_⟩
      refine ⟨_, rfl, _, _, _, _, rfl, rfl, SqT.of h, rfl, _, _, rfl, rfl, hA, _, rfl, iteF ?_⟩
      refine ⟨_, rfl, _, _, _, _, rfl, rfl, SqT.of h, rfl, _, _, rfl, h1, by omega, ha.1, ?_⟩
      refine ⟨_, rfl, rfl, _, rfl, ifP ?_⟩
      exact ⟨_, rfl, _, _, _, _, rfl, rfl, SqT.of h, rfl, _, _, rfl, h2, by omega, ha.2, q⟩
theorem c_checked_kind (T : Txt w K mg C) (n : Nat) : GCal P w K mg base (n + 2) "checked_kind" (spChecked n) := by
  have C_wrong_part := c_wrong_part (P := P) (base := base) T n
  refine cal_of T.dP_checked_kind scP_checked_kind (fun vs H Q ⟨_, _, e, _⟩ => by rw [e]; rfl) fun f cdv A outer s H vs Q hr ⟨v, k, e, hk, hn, ha, q⟩ => ?_
  subst e
  refine ⟨_, (pss_cons (ps_set (i := 1) scP_checked_kind.nd rfl (by first | exact Or.inl rfl | exact Or.inr rfl) (pe_g C_wrong_part hr (by omega) rfl (pa_cons (pv 0) pa_nil)))
    (pss_cons (ps_if (pt_cmpR op_notN (pv 1) pe_non (nomark _))
      (pss_one ps_never)
      pss_nil)
    (pss_one (ps_ret (pv 0))))), ?_⟩
  refine ⟨_, rfl, _, _, rfl, hk, hn, ha, ?_⟩
  exact ⟨_, rfl, rfl, _, rfl, ifNP ⟨_, rfl, q⟩⟩
theorem c_lifted (T : Txt w K mg C) : GCal P w K mg base 1 "_law_lifted" spLifted := by
  refine cal_of T.dL_lifted scL_lifted (fun vs H Q ⟨_, _, _, _, _, e, _⟩ => by rw [e]; rfl) fun f cdv A outer s H vs Q hr ⟨v, u, k, l, i, e, hk, hl, q⟩ => ?_
  subst e
  refine ⟨_, (pss_one (ps_ret (pe_ifExp (pt_cmpR op_eq (pv 2) pe_int (nomark _)) (pe_tup (pa_cons pe_str (pa_cons (pv 1) (pa_cons (pe_tup (pa_cons pe_str (pa_cons (pv 0) (pa_cons (pv 1) pa_nil)))) pa_nil)))) (pe_tup (pa_cons pe_str (pa_cons (pe_tup (pa_cons pe_str (pa_cons (pv 1) (pa_cons (pv 0) pa_nil)))) (pa_cons (pv 1) pa_nil))))))), ?_⟩
  refine ⟨_, rfl, rfl, _, rfl, ite2 (fun _ => ?_) (fun _ => ?_)⟩
  · refine ⟨_, rfl, _, rfl, _, rfl, by show 3 ≤ sizeLine; decide, fun p np => ?_⟩
    refine ⟨by show 3 ≤ sizeLine; decide, fun p2 np2 => ?_⟩
    have S1 := same_new np (.tup [.str "ahead", v, u])
    have S2 := same_new np2 (.tup [.str "behind", u, .ref p])
    have t := Same.tk (S1.trans S2)
    refine q (.ref p2) (.b l (.a k l)) _ (S1.trans S2) (.b upd_same (hl.mono t) (.a (S2 _ _ upd_same) (hk.mono t) (hl.mono t))) (by simp only [Kd.size]; omega) (fun p h1 h2 => ⟨h2, h1, h2⟩)
  · refine ⟨_, rfl, _, rfl, by show 3 ≤ sizeLine; decide, fun p np => ?_⟩
    refine ⟨_, rfl, by show 3 ≤ sizeLine; decide, fun p2 np2 => ?_⟩
    have S1 := same_new np (.tup [.str "behind", u, v])
    have S2 := same_new np2 (.tup [.str "ahead", .ref p, u])
    have t := Same.tk (S1.trans S2)
    refine q (.ref p2) (.a (.b l k) l) _ (S1.trans S2) (.a upd_same (.b (S2 _ _ upd_same) (hl.mono t) (hk.mono t)) (hl.mono t)) (by simp only [Kd.size]; omega) (fun p h1 h2 => ⟨⟨h2, h1⟩, h2⟩)
end
end L2.G
set_option Elab.async false
set_option linter.all false
set_option maxRecDepth 100000
set_option maxHeartbeats 4000000
/-! Comprehensions that map and that sieve; the law's bounds of a row. -/
namespace L2.G
open PySem PySem.Spec PyProof.Rows WW
theorem take_map_succ {α β : Type} {ys : List α} {i : Nat} {y : α} (h : ys[i]? = some y) (f : α → β) : (ys.take (i + 1)).map f = (ys.take i).map f ++ [f y] := by
  obtain ⟨hl, e⟩ := List.getElem?_eq_some_iff.mp h
  rw [List.take_succ_eq_append_getElem hl, List.map_append, e]
  rfl
theorem same_over {H1 H : Hp} {D : Addr} {o : HO} (hD : H1 D = none) (s : Same H1 H) : Same H1 (upd H D o) := fun b u e => by
  rw [upd_ne (ne_of_none e hD)]
  exact s b u e
/-- [f x for x in ..]: what the element makes leaves all that was -/
theorem lc_mapG {J : It} {n : Nat} {G : Hp → Prop} {item : Nat → V → Prop} (w : Walk J n G (fun i H x H' => H' = H ∧ item i x)) {te : TE} {vs : List Nat} {j : Nat} {σ : St} {H1 : Hp} {D : Addr} {Qd : Hp → Prop} (ys : List V) (hn : ys.length = n) (hz : n ≤ sizeLine) (hD : H1 D = none)
    (hG : ∀ H, Same H1 H → G H) (hw : ∀ x : V, wipe ((wipe σ vs).set j (some x)) vs = wipe σ vs)
    (he : ∀ (i : Nat) (x y : V) (H : Hp) (Q : VK), item i x → ys[i]? = some y → Same H1 H → (∀ H', Same H H' → Q y H') → te ((wipe σ vs).set j (some x)) H Q) (hd : ∀ H, Same H1 H → H D = some (.lst ys) → Qd H) :
    ∃ W : Nat → Nat → Hp → Prop, (∃ m, W 0 m (upd H1 D (.lst []))) ∧ ∀ i m H, W i m H →
      (J.stop i H ∧ Qd H) ∨ (J.go i H ∧ ∃ Nx : Hp → Prop, (∀ H', Nx H' → ∃ m', m' < m ∧ W (i + 1) m' H') ∧ ∀ x H', J.yld i H x H' → gName j x (wipe σ vs) H' fun σ2 H2 => wipe σ2 vs = wipe σ vs ∧ tYes σ2 H2 fun b H3 =>
        if b = true then te σ2 H3 fun y H4 => ∃ acc, H4 D = some (.lst acc) ∧ acc.length < sizeLine ∧ Nx (upd H4 D (.lst (acc ++ [y]))) else Nx H3) := by
  refine lc_it w (fun i H => Same H1 H ∧ H D = some (.lst (ys.take i))) ⟨same_new hD _, by rw [upd_same]; rfl⟩ (fun i H _ h => hG H h.1) ?_ (fun H h => hd H h.1 (by rw [h.2, ← hn, List.take_length]))
  rintro i x H H' hi ⟨s, hl⟩ ⟨rfl, hx⟩
  refine ⟨hw x, ?_⟩
  have hi' : i < ys.length := by omega
  obtain ⟨y, hy⟩ : ∃ y, ys[i]? = some y := ⟨ys[i], by simp [hi']⟩
  refine he i x y _ _ hx hy s fun H2 s2 => ⟨_, s2 _ _ hl, by rw [List.length_take]; omega, same_over hD (s.trans s2), ?_⟩
  have e := take_map_succ hy (fun z : V => z)
  rw [List.map_id', List.map_id'] at e
  rw [upd_same, e]
/-- [x for x in .. if p x]: the test leaves all that was -/
theorem lc_sieveG {J : It} {n : Nat} {G : Hp → Prop} {item : Nat → V → Prop} (w : Walk J n G (fun i H x H' => H' = H ∧ item i x)) {tt : TT} {te : TE} {vs : List Nat} {j : Nat} {σ : St} {H1 : Hp} {D : Addr} {Qd : Hp → Prop} (ys : List (V × Bool)) (hn : ys.length = n) (hz : n ≤ sizeLine) (hD : H1 D = none)
    (hG : ∀ H, Same H1 H → G H) (hw : ∀ x : V, wipe ((wipe σ vs).set j (some x)) vs = wipe σ vs)
    (ht : ∀ (i : Nat) (x y : V) (b : Bool) (H : Hp) (Q : Bool → Hp → Prop), item i x → ys[i]? = some (y, b) → Same H1 H → (∀ H', Same H H' → Q b H') → tt ((wipe σ vs).set j (some x)) H Q)
    (he : ∀ (i : Nat) (x y : V) (H : Hp) (Q : VK), item i x → ys[i]? = some (y, true) → Same H1 H → (∀ H', Same H H' → Q y H') → te ((wipe σ vs).set j (some x)) H Q) (hd : ∀ H, Same H1 H → H D = some (.lst ((ys.filter (·.2)).map (·.1))) → Qd H) :
    ∃ W : Nat → Nat → Hp → Prop, (∃ m, W 0 m (upd H1 D (.lst []))) ∧ ∀ i m H, W i m H →
      (J.stop i H ∧ Qd H) ∨ (J.go i H ∧ ∃ Nx : Hp → Prop, (∀ H', Nx H' → ∃ m', m' < m ∧ W (i + 1) m' H') ∧ ∀ x H', J.yld i H x H' → gName j x (wipe σ vs) H' fun σ2 H2 => wipe σ2 vs = wipe σ vs ∧ tt σ2 H2 fun b H3 =>
        if b = true then te σ2 H3 fun y H4 => ∃ acc, H4 D = some (.lst acc) ∧ acc.length < sizeLine ∧ Nx (upd H4 D (.lst (acc ++ [y]))) else Nx H3) := by
  refine lc_it w (fun i H => Same H1 H ∧ H D = some (.lst (((ys.take i).filter (·.2)).map (·.1)))) ⟨same_new hD _, by rw [upd_same]; rfl⟩ (fun i H _ h => hG H h.1) ?_ (fun H h => hd H h.1 (by rw [h.2, ← hn, List.take_length]))
  rintro i x H H' hi ⟨s, hl⟩ ⟨rfl, hx⟩
  refine ⟨hw x, ?_⟩
  have hi' : i < ys.length := by omega
  obtain ⟨⟨y, b⟩, hy⟩ : ∃ y, ys[i]? = some y := ⟨ys[i], by simp [hi']⟩
  have e := take_map_succ hy (fun z : V × Bool => z)
  rw [List.map_id', List.map_id'] at e
  refine ht i x y b _ _ hx hy s fun H2 s2 => ?_
  cases b with
  | true =>
    refine iteT (he i x y _ _ hx hy (s.trans s2) fun H3 s3 => ⟨_, s3 _ _ (s2 _ _ hl), ?_, same_over hD ((s.trans s2).trans s3), ?_⟩)
    · rw [List.length_map]
      refine Nat.lt_of_le_of_lt (List.length_filter_le _ _) ?_
      rw [List.length_take]; omega
    · rw [upd_same, e]; simp
  | false =>
    refine iteF ⟨s.trans s2, ?_⟩
    rw [s2 _ _ hl, e]; simp
/-- the items of a list of kinds -/
theorem ks_item {H : Hp} {vs : List V} {ks : List (Kd Nat)} (h : KsAt H vs ks) {i : Nat} {x y : V} {f : Kd Nat → V} (hx : vs[i]? = some x) (hy : (ks.map f)[i]? = some y) : ∃ k, ks[i]? = some k ∧ KAt H x k ∧ y = f k := by
  obtain ⟨k, hk, hv⟩ := KsAt.get' h hx
  rw [List.getElem?_map, hk] at hy
  exact ⟨k, hk, hv, (Option.some.inj hy).symm⟩
def Fits (ks : List (Kd Nat)) (g : Kd Nat) : Prop := ks.length ≤ 6 ∧ rsize ks + g.size ≤ 14
/-- the row at a list: kinds, their number and sizes bounded -/
structure RowAt (H : Hp) (a : Addr) (ks : List (Kd Nat)) : Prop where
  ex : ∃ vs, H a = some (.lst vs) ∧ KsAt H vs ks
theorem rsize_append (r t : List (Kd Nat)) : rsize (r ++ t) = rsize r + rsize t := by simp [rsize]
theorem size_le_rsize {r : List (Kd Nat)} {k : Kd Nat} (h : k ∈ r) : k.size ≤ rsize r := by
  induction r with
  | nil => cases h
  | cons x r ih =>
    show k.size ≤ x.size + rsize r
    rcases List.mem_cons.mp h with e | h
    · rw [e]; omega
    · have := ih h; omega
theorem len_le_rsize : ∀ r : List (Kd Nat), r.length ≤ rsize r
  | [] => Nat.le_refl _
  | k :: r => by
    have := len_le_rsize r
    have := k.size_pos
    show r.length + 1 ≤ k.size + rsize r
    omega
theorem ops_lt_rsize {r : List (Kd Nat)} {k : Kd Nat} (h : k ∈ r) : k.ops < rsize r := by
  have := size_le_rsize h
  have := k.ops_size
  omega
theorem mem_of_get {α : Type} {l : List α} {i : Nat} {x : α} (h : l[i]? = some x) : x ∈ l := List.mem_of_getElem? h
theorem sum_sizes (r : List (Kd Nat)) : ((r.map fun k => ((k.size : Nat) : Int)).sum) = ((rsize r : Nat) : Int) := by
  induction r with
  | nil => rfl
  | cons x r ih =>
    rw [List.map_cons, List.sum_cons, ih]
    show ((x.size : Nat) : Int) + ((rsize r : Nat) : Int) = ((x.size + rsize r : Nat) : Int)
    omega
theorem dp_nil {K : PySem.W.Frag} {H : Hp} {a : Addr} (h : H a = some (.lst [])) : Dp K H (.ref a) (.list []) := .lst (SqL.of h) .nil
def spFits (n : Nat) : SpG := fun vs H Q => ∃ (a : Addr) (g : V) (us : List V) (ks : List (Kd Nat)) (k : Kd Nat), vs = [.ref a, g] ∧ H a = some (.lst us) ∧ KsAt H us ks ∧ KAt H g k ∧ us.length ≤ 100 ∧ rsize ks + k.size ≤ n ∧
  ∀ (b : Bool) (H' : Hp), Same H H' → (b = true → Fits ks k) → Q (.bl b) H'
section
variable {P : Program} {w : World} {K : PySem.W.Frag} {mg : Str → Option Value} {base : Heap} {C : Addr}
theorem c_fits (T : Txt w K mg C) (n : Nat) : GCal P w K mg base (n + 1) "_law_fits" (spFits n) := by
  have C_size := c_size (P := P) (base := base) T n
  have C_depth := c_depth (P := P) (base := base) T n
  have C_waits := c_waits (P := P) (base := base) T n
  refine cal_of T.dL_fits scL_fits (fun vs H Q ⟨_, _, _, _, _, e, _⟩ => by rw [e]; rfl) fun f cdv A outer s H vs Q hr ⟨a, g, us, ks, k, e, ha, hks, hk, hl, hn, q⟩ => ?_
  subst e
  refine ⟨_, (pss_cons (ps_set (i := 2) scL_fits.nd rfl (by first | exact Or.inl rfl | exact Or.inr rfl) (pe_op op_cat (pv 0) (pe_lst (pa_cons (pv 1) pa_nil))))
    (pss_cons (ps_if (PW.pt (pw_or (pt_cmpR op_gt (pe_callB call_len_seq rfl T.m_len (by decide +kernel) (pa_cons (pv 0) pa_nil)) pe_int (nomark _)) (pw_or1 (pt_cmpR op_gt (pe_callB (cr_max rfl) rfl T.m_max (by decide +kernel) (pa_cons (pe_lc (own := [("_law_thing", 3)]) (g := gName 3) (tt := tYes) rfl scL_fits.nd (pi_list (pv 2)) (blkOk_by (own := [("_law_thing", 3)]) (N := ["_law_line", "_law_goal", "_law_things", "_law_thing", "_law_total"]) (sc := defScope sL_fits) (by decide +kernel)) (fun _ _ _ _ _ => (pg_name (i := 3) scL_fits.nd rfl (by first | exact Or.inl rfl | exact Or.inr rfl))) (fun _ _ _ _ _ => pts_nil) (fun _ _ _ _ _ => (pe_g C_size hr (by omega) rfl (pa_cons (pv 3) pa_nil)))) pa_nil)) pe_int (nomark _)))))
      (pss_one (ps_ret pe_bl))
      pss_nil)
    (pss_cons (ps_if (pt_cmpR op_gt (pe_callB (cr_max rfl) rfl T.m_max (by decide +kernel) (pa_cons (pe_lc (own := [("_law_thing", 3)]) (g := gName 3) (tt := tYes) rfl scL_fits.nd (pi_list (pv 2)) (blkOk_by (own := [("_law_thing", 3)]) (N := ["_law_line", "_law_goal", "_law_things", "_law_thing", "_law_total"]) (sc := defScope sL_fits) (by decide +kernel)) (fun _ _ _ _ _ => (pg_name (i := 3) scL_fits.nd rfl (by first | exact Or.inl rfl | exact Or.inr rfl))) (fun _ _ _ _ _ => pts_nil) (fun _ _ _ _ _ => (pe_g C_depth hr (by omega) rfl (pa_cons (pv 3) pa_nil)))) pa_nil)) pe_int (nomark _))
      (pss_one (ps_ret pe_bl))
      pss_nil)
    (pss_cons (ps_set (i := 4) scL_fits.nd rfl (by first | exact Or.inl rfl | exact Or.inr rfl) (pe_callB (cr_sum rfl) rfl T.m_sum (by decide +kernel) (pa_cons (pe_lc (own := [("_law_thing", 3)]) (g := gName 3) (tt := tYes) rfl scL_fits.nd (pi_list (pv 2)) (blkOk_by (own := [("_law_thing", 3)]) (N := ["_law_line", "_law_goal", "_law_things", "_law_thing", "_law_total"]) (sc := defScope sL_fits) (by decide +kernel)) (fun _ _ _ _ _ => (pg_name (i := 3) scL_fits.nd rfl (by first | exact Or.inl rfl | exact Or.inr rfl))) (fun _ _ _ _ _ => pts_nil) (fun _ _ _ _ _ => (pe_g C_size hr (by omega) rfl (pa_cons (pv 3) pa_nil)))) pa_nil)))
    (pss_one (ps_ret (pe_cmpR op_le (pv 4) (pe_ifExp (pt_cmpR (op_eqD hr.r.units) (pe_lc (own := [("_law_thing", 3)]) (g := gName 3) rfl scL_fits.nd (pi_list (pv 2)) (blkOk_by (own := [("_law_thing", 3)]) (N := ["_law_line", "_law_goal", "_law_things", "_law_thing", "_law_total"]) (sc := defScope sL_fits) (by decide +kernel)) (fun _ _ _ _ _ => (pg_name (i := 3) scL_fits.nd rfl (by first | exact Or.inl rfl | exact Or.inr rfl))) (fun _ _ _ _ _ => (pts_one (pt_not (pt_val (pe_g C_waits hr (by omega) rfl (pa_cons (pv 3) pa_nil)))))) (fun _ _ _ _ _ => (pv 3))) (pe_lst pa_nil) (nomark _)) pe_int pe_int) (nomark _)))))))), ?_⟩
  have zl : sizeLine = 16777216 := sizeLine_eq
  -- things
  refine ⟨_, rfl, _, rfl, by show 1 ≤ sizeLine; decide, fun p np => ?_⟩
  have S1 := same_new np (.lst [g])
  refine ⟨_, _, us, _, rfl, rfl, S1 _ _ ha, upd_same, by show us.length + 1 ≤ _; omega, fun t nt => ?_⟩
  have S2 := same_new nt (.lst (us ++ [g]))
  have S12 := S1.trans S2
  have hkt := (Same.tk S12)
  have hthings : KsAt _ (us ++ [g]) (ks ++ [k]) := (hks.mono hkt).append (.cons (hk.mono hkt) .nil)
  have hlt : (us ++ [g]).length = us.length + 1 := by simp
  have hr1 : rsize (ks ++ [k]) = rsize ks + k.size := by rw [rsize_append]; rfl
  have opsk : ∀ z ∈ ks ++ [k], z.ops < n := fun z hz => by have := ops_lt_rsize hz; omega
  -- len > 6
  refine ⟨_, rfl, _, _, rfl, .inl (SqL.of (S12 _ _ ha)), _, _, rfl, rfl, _, rfl, ite2 (fun c => iteT ?_) (fun c => ?_)⟩
  · exact q _ _ S12 (fun h => nomatch h)
  have hlen : us.length ≤ 6 := by
    have := of_decide_eq_false (Bool.eq_false_iff.mpr c)
    omega
  -- max size
  refine ⟨_, rfl, t, rfl, ⟨_, SqL.of upd_same⟩, fun D nD => ?_⟩
  refine lc_mapG (walk_list (xs := us ++ [g])) ((ks ++ [k]).map fun z => V.int ((z.size : Nat) : Int)) (by rw [List.length_map]; exact (hthings.len).symm) (by omega) nD (fun H h => SqL.of (h _ _ upd_same)) (fun x => rfl)
    (fun i x y H1 Q1 hx hy s1 h => ?_) (fun H3 S3 hD3 => ?_)
  · obtain ⟨z, hz, hv, rfl⟩ := ks_item hthings hx hy
    exact ⟨_, rfl, _, _, rfl, hv.mono (Same.tk s1), opsk z (mem_of_get hz), h _ (Same.refl _)⟩
  refine ⟨_, (ks ++ [k]).map fun z => ((z.size : Nat) : Int), rfl, SqL.of (by rw [hD3, List.map_map]; rfl), by simp, fun m hm hle => ?_⟩
  refine ⟨_, _, rfl, rfl, _, rfl, ite2 (fun c2 => ?_) (fun c2 => ?_)⟩
  · exact q _ _ (S12.trans S3) (fun h => nomatch h)
  have ht3 := S3 _ _ (upd_same (H := upd H p (.lst [g])) (a := t) (o := .lst (us ++ [g])))
  -- max depth
  refine ⟨_, rfl, t, rfl, ⟨_, SqL.of ht3⟩, fun D2 nD2 => ?_⟩
  refine lc_mapG (walk_list (xs := us ++ [g])) ((ks ++ [k]).map fun z => V.int ((z.depth : Nat) : Int)) (by rw [List.length_map]; exact (hthings.len).symm) (by omega) nD2 (fun H h => SqL.of (h _ _ ht3)) (fun x => rfl)
    (fun i x y H1 Q1 hx hy s1 h => ?_) (fun H4 S4 hD4 => ?_)
  · obtain ⟨z, hz, hv, rfl⟩ := ks_item hthings hx hy
    exact ⟨_, rfl, _, _, rfl, (hv.mono (Same.tk S3)).mono (Same.tk s1), opsk z (mem_of_get hz), h⟩
  refine ⟨_, (ks ++ [k]).map fun z => ((z.depth : Nat) : Int), rfl, SqL.of (by rw [hD4, List.map_map]; rfl), by simp, fun m2 hm2 hle2 => ?_⟩
  refine ⟨_, _, rfl, rfl, _, rfl, ite2 (fun c3 => ?_) (fun c3 => ?_)⟩
  · exact q _ _ ((S12.trans S3).trans S4) (fun h => nomatch h)
  have ht4 := S4 _ _ ht3
  -- the sum
  refine ⟨_, rfl, t, rfl, ⟨_, SqL.of ht4⟩, fun D3 nD3 => ?_⟩
  refine lc_mapG (walk_list (xs := us ++ [g])) ((ks ++ [k]).map fun z => V.int ((z.size : Nat) : Int)) (by rw [List.length_map]; exact (hthings.len).symm) (by omega) nD3 (fun H h => SqL.of (h _ _ ht4)) (fun x => rfl)
    (fun i x y H1 Q1 hx hy s1 h => ?_) (fun H5 S5 hD5 => ?_)
  · obtain ⟨z, hz, hv, rfl⟩ := ks_item hthings hx hy
    exact ⟨_, rfl, _, _, rfl, ((hv.mono (Same.tk S3)).mono (Same.tk S4)).mono (Same.tk s1), opsk z (mem_of_get hz), h _ (Same.refl _)⟩
  refine ⟨_, (ks ++ [k]).map fun z => ((z.size : Nat) : Int), rfl, SqL.of (by rw [hD5, List.map_map]; rfl), ?_⟩
  have ht5 := S5 _ _ ht4
  refine ⟨_, rfl, ?_⟩
  -- no with
  refine ⟨_, rfl, t, rfl, ⟨_, SqL.of ht5⟩, fun D4 nD4 => ?_⟩
  refine lc_sieveG (walk_list (xs := us ++ [g])) ((us ++ [g]).map fun z => (z, false)) (by rw [List.length_map]) (by omega) nD4 (fun H h => SqL.of (h _ _ ht5)) (fun x => rfl)
    (fun i x y b H1 Q1 hx hy s1 h => ?_) (fun i x y H1 Q1 hx hy s1 h => ?_) (fun H6 S6 hD6 => ?_)
  · rw [List.getElem?_map, hx] at hy
    cases hy
    obtain ⟨z, hz, hv⟩ := KsAt.get' hthings hx
    exact ⟨_, rfl, _, _, rfl, (((hv.mono (Same.tk S3)).mono (Same.tk S4)).mono (Same.tk S5)).mono (Same.tk s1), opsk z (mem_of_get hz), _, rfl, h _ (Same.refl _)⟩
  · rw [List.getElem?_map, hx] at hy
    cases hy
  have hnil : H6 D4 = some (.lst []) := by
    rw [hD6]
    congr 2
    rw [List.filter_map]
    simp [Function.comp_def]
  refine ⟨Nat.zero_le _, fun p5 np5 => ?_⟩
  have S7 := same_new np5 (.lst [])
  refine ⟨_, _, dp_nil (S7 _ _ hnil), dp_nil upd_same, by decide +kernel, by decide +kernel, _, rfl, ?_⟩
  rw [show PyData.eqv (.list []) (.list []) = true from by decide +kernel]
  refine iteT ⟨_, _, rfl, rfl, ?_⟩
  refine q _ _ (((((S12.trans S3).trans S4).trans S5).trans S6).trans S7) (fun hb => ⟨by rw [← hks.len]; exact hlen, ?_⟩)
  have h14 := of_decide_eq_true hb
  rw [sum_sizes] at h14
  omega
end
end L2.G
set_option Elab.async false
set_option linter.all false
set_option maxRecDepth 100000
set_option maxHeartbeats 4000000
/-! A call behind which a token has been given out; text.replace(letter, "") of a letter just read. -/
namespace L2.G
open PySem PySem.Spec PyProof.Rows
/-- a block that always returns, behind it a token has been given out -/
structure PR (X : Cx) (st : List Stmt) (t : TS) : Prop where
  run : ∀ (pins : List (Addr × Obj)) (s : Shared) (σ : St) (H : Hp) (D : Ends), Inv X pins σ H s → t D σ H → wpAny (model X.prog X.w) X.A (execs st X.env) (fun f s' => SP X pins D f s' ∧ (∃ v, f = .ret v) ∧ 0 < s'.toks) X.xe s
structure PEP (X : Cx) (e : Expr) (t : TE) : Prop where
  run : ∀ (pins : List (Addr × Obj)) (s : Shared) (σ : St) (H : Hp) (Q : VK), Inv X pins σ H s → t σ H Q → wpAny (model X.prog X.w) X.A (eval e X.env) (fun u s' => EP X pins σ Q u s' ∧ 0 < s'.toks) X.xe s
section
variable {X : Cx} {st : Stmt} {rest : List Stmt} {t u : TS} {e : Expr} {te : TE} {pos : Pos}
theorem pr_cons (h1 : PS X st t) (ht : ∀ D σ H, t D σ H → t { nx := D.nx, rt := fun _ _ => False } σ H) (h2 : PR X rest u) : PR X (st :: rest) (tSeq t u) := by
  refine ⟨fun pins s σ H D I h => ?_⟩
  refine wpAny_execs_cons (thn (h1.run pins s σ H _ I (ht _ _ _ h)) fun f s1 q => ?_)
  cases f with
  | next =>
    obtain ⟨σ', H', I', q⟩ := q
    exact h2.run pins s1 σ' H' D I' q
  | ret v => obtain ⟨_, _, _, _, _, q⟩ := q; exact q.elim
  | brk => obtain ⟨_, _, _, q⟩ := q; exact q.elim
  | cont => obtain ⟨_, _, _, q⟩ := q; exact q.elim
theorem pr_if {c : Expr} {a : List Stmt} {tc : TT} (hc : PT X c tc) (ha : PR X a t) (h2 : PR X rest u) : PR X (.If c a [] pos :: rest) (tSeq (tIfS tc t tNext) u) := by
  refine ⟨fun pins s σ H D I h => ?_⟩
  refine wpAny_execs_cons (wpAny_If (thn (hc.run pins s σ H _ I h) fun d s1 ⟨H1, I1, q1⟩ => ?_))
  cases d with
  | true =>
    refine thn (ha.run pins s1 σ H1 _ I1 q1) fun f s2 ⟨q2, ⟨v, e⟩, hp⟩ => ?_
    subst e
    exact ⟨q2, ⟨v, rfl⟩, hp⟩
  | false => exact wpAny_execs_nil (h2.run pins s1 σ H1 D I1 q1)
theorem pr_ret (he : PEP X e te) : PR X [.Return (some e) pos] (tRet te) := by
  refine ⟨fun pins s σ H D I h => ?_⟩
  exact wpAny_execs_cons (wpAny_Return_some (thn (he.run pins s σ H _ I h) fun v s1 ⟨⟨x, H1, I1, r1, q1⟩, hp⟩ => ⟨⟨x, σ, H1, I1, r1, q1⟩, ⟨v, rfl⟩, hp⟩))
theorem pep_mod {a b : Expr} {ta tb : TE} (ha : PE X a ta) (hb : PE X b tb) : PEP X (.BinOp a .Mod b pos) (tOp (rI (fun _ j => 0 < j) fun i j => .int (i % j)) ta tb) := by
  refine ⟨fun pins s σ H Q I h => ?_⟩
  refine wpAny_BinOp (binT ha hb I h fun v u s2 x y H2 I2 rx ry q => ?_)
  obtain ⟨i, j, rfl, rfl, hc, q⟩ := q
  obtain ⟨t, rfl⟩ := rx
  obtain ⟨t', rfl⟩ := ry
  have h1 : (0 : Int) < j := hc
  exact mod_int' (by omega) (by rw [Int.fmod_eq_emod_of_nonneg i (by omega)]; exact ⟨⟨.int (i % j), H2, I2.tok _, ⟨_, rfl⟩, q⟩, Nat.succ_pos _⟩)
/-- xs[c] = e; return y -/
theorem pr_setret {o : Expr} {to : TE} {c : Int} {k : Nat} {i : Nat} {x : Str} {p1 p2 p3 p4 p5 : Pos} (he : PE X e te) (ho : PE X o to) (hN : X.N[i]? = some x) (hv : Vis X.env.scope x)
    (hd : (x == ("__debug__" : Str)) = false := by decide) (hcd : (x == ("__classdict__" : Str)) = false := by decide)
    (hs : swapsWithSole [.Subscript o (.Constant (.int c) k p1) p2] e p3.line X.env = pure false := by rfl) (hw : swappedStores [.Subscript o (.Constant (.int c) k p1) p2] e X.env = pure none := by rfl)
    (h1 : (assignEach [.Subscript o (.Constant (.int c) k p1) p2] X.env).map (·.2) = [assign (.Subscript o (.Constant (.int c) k p1) p2) X.env] := by rfl)
    (ha : ∀ v, assign (.Subscript o (.Constant (.int c) k p1) p2) X.env v = (do
      let ov ← holding [v] (eval o X.env)
      let iv ← holding [v, ov] (eval (.Constant (.int c) k p1) X.env)
      standAt p2
      holding [v, ov, iv] (setItem ov iv v)
      release [v, ov, iv] []) := by intro _; rfl) :
    PR X [.Assign [.Subscript o (.Constant (.int c) k p1) p2] e p3, .Return (some (.Name x p4)) p5] (tSeq (tAsg te (gSub to (tC (.int c)) rSetL)) (tRet (tVar i))) := by
  refine ⟨fun pins s σ H D I h => ?_⟩
  refine wpAny_execs_cons (wpAny_Assign_stores (thn (he.run pins s σ H _ I h) fun v s1 ⟨y, H1, I1, r1, q1⟩ => ?_) hs hw)
  rw [h1]
  show wpAny _ _ (assign (.Subscript o (.Constant (.int c) k p1) p2) X.env v) _ _ s1
  rw [ha]
  refine wpAny_bind (wpAny_holding (thn (ho.run pins s1 σ H1 _ I1 q1) fun ov s2 ⟨z, H2, I2, r2, q2⟩ => ?_))
  refine wpAny_bind (wpAny_holding (wpAny_Constant_int ?_))
  have I3 := I2.tok (s2.toks + 1)
  obtain ⟨p, xs, k', j, rfl, e2, hp, hj, q3⟩ := q2
  cases e2
  cases r2
  refine wpAny_bind (wpAny_standAt (wpAny_bind (wpAny_holding ?_)))
  obtain ⟨its, n, r, hob, hz⟩ := I3.lst hp
  obtain ⟨h1', h2', h3', h4'⟩ := ixN_seq hj
  have hl := r.length
  have hn := line63
  have I' : Inv X pins σ (upd H2 p (.lst (xs.set j y))) { s2 with heap := s2.heap.update p (Obj.mapSeq (·.setIfInBounds j v)), toks := s2.toks + 1 } :=
    I3.lstUpd hp hob (mapSeq_set its n j v) (r.set r1 j) (by rw [List.length_set]; exact hz) (s2.toks + 1)
  have fin : ∀ s4 : Shared, Inv X pins σ (upd H2 p (.lst (xs.set j y))) s4 → 0 < s4.toks →
      wpAny (model X.prog X.w) X.A (do release [v, Value.ref p, Value.int c s2.toks] []) (fun _ s5 => wpAny (model X.prog X.w) X.A (execs [.Return (some (.Name x p4)) p5] X.env) (fun f s' => SP X pins D f s' ∧ (∃ v, f = .ret v) ∧ 0 < s'.toks) X.xe s5) X.xe s4 := fun s4 I4 hp4 => by
    refine wpAny_release ?_
    refine wpAny_execs_cons (wpAny_Return_some ?_)
    exact raw_name hN hv I4 q3.choose_spec.1 (fun u ru => ⟨⟨_, σ, _, I4, ru, q3.choose_spec.2⟩, ⟨u, rfl⟩, hp4⟩) hd hcd
  by_cases h0 : 0 ≤ c
  · have hk : c.toNat = j := by
      rw [seqIndex_of h0 h4'] at h1'
      exact Option.some.inj h1'
    exact PySem.W.ki_setAt hob h0 (by omega) (by rw [List.size_toArray, ← hl]; exact h4') (by rw [hk]; exact fin _ I' (Nat.succ_pos _))
  · have hk : (c + (its.toArray.size : Int)).toNat = j := by
      rw [List.size_toArray, ← hl]
      rw [seqIndex_neg (by omega) h3'] at h1'
      exact Option.some.inj h1'
    exact PySem.W.ki_setBack hob (by omega) (by rw [List.size_toArray, ← hl]; exact h3') (by omega) (by rw [hk]; exact fin _ I' (Nat.succ_pos _))
end
/-- a def behind which a token has been given out -/
structure FnT (P : Program) (w : World) (K : PySem.W.Frag) (mg : Str → Option Value) (base : Heap) (k : Nat) (f : Addr) (fd : FuncData) (ps : List Str) (sp : SpG) : Prop where
  len : ∀ vs H Q, sp vs H Q → vs.length = ps.length
  run : ∀ (A : Around) (outer : List Env) (s : Shared) (H : Hp) (args : Args) (us : List Value) (vs : List V) (Q : VK), RoomG k A → Env0 P w K mg base A outer s H → BindsTo s fd args (ps.zip us) → Vals vs us → sp vs H Q →
    codeAny (model P w) A (.call (.ref f) args) (fun r s' => CR CX0 outer P w H s Q E0 r s' ∧ 0 < s'.toks) s
structure TCal (P : Program) (w : World) (K : PySem.W.Frag) (mg : Str → Option Value) (base : Heap) (k : Nat) (x : Str) (sp : SpG) : Prop where
  ex : ∃ (f : Addr) (fd : FuncData) (ps : List Str), FnT P w K mg base k f fd ps sp ∧ mg x = some (.ref f) ∧ PySem.W.keepIn K (.ref f) = true ∧ Binds K fd ps []
section
variable {P : Program} {w : World} {K : PySem.W.Frag} {mg : Str → Option Value} {base : Heap} {k : Nat} {x : Str} {st : Stmt} {N ps : List Str} {sp : SpG}
theorem FnT.g {f : Addr} {fd : FuncData} (F : FnT P w K mg base k f fd ps sp) : FnG P w K mg base k f fd ps sp :=
  ⟨F.len, fun A outer s H args us vs Q hr he hb hv hs => codeAny_mono (F.run A outer s H args us vs Q hr he hb hv hs) fun _ _ q => q.1⟩
theorem TCal.g (c : TCal P w K mg base k x sp) : GCal P w K mg base k x sp := by
  obtain ⟨f, fd, ps, F, r⟩ := c.ex
  exact ⟨f, fd, ps, F.g, r⟩
theorem tcal_of (D : Dfn K mg x st ps) (S : FnScope N ps (defScope st)) (len : ∀ vs H Q, sp vs H Q → vs.length = ps.length)
    (hbody : ∀ (f : Addr) (cdv : Value) (A : Around) (outer : List Env) (s : Shared) (H : Hp) (vs : List V) (Q : VK), RoomG k (A.deeper (envOfC x (defScope st) s.heap.objs.size f cdv)) → sp vs H Q →
      ∃ t, PR (cxOf CX0 P w K mg base N x (defScope st) f cdv A outer s H E0).nox (defBody st) t ∧ t { nx := fun _ _ => False, rt := Q } (start N vs) H) : TCal P w K mg base (k + 1) x sp := by
  obtain ⟨f, fd, dvs, F, hm, b⟩ := D.ex
  refine ⟨f, fd, ps, ?_, hm, F.kp, b⟩
  obtain ⟨oc, od, dV, kV, doc, pm, an, cdv, ct, osl, rfl, lk, hcd, _, _⟩ := F.ex
  refine ⟨len, fun A outer s H args us vs Q hr e0 hb r hsp => ?_⟩
  have hl := len _ _ _ hsp
  have KX : K.In s.heap := e0.mod.kin.keeps fun b o e => (e0.bs b o e).1
  have lim : s.heap.NoLimit := e0.mod.nolimit.keeps fun b o e => (e0.bs b o e).1
  have hkind : ∀ y ∈ ps.zip us, (defScope st).names.lookup y.1 = some .local ∨ ((defScope st).names.lookup y.1 = some .cell ∧ ((cellsFrom (s.heap.objs.size + 1) (defScope st).names []).lookup y.1).isSome = true) := fun ⟨n, v⟩ hy => by
    rcases S.par n (List.of_mem_zip hy).1 with q | q
    · exact .inl q
    · exact .inr ⟨q, PySem.W.cellsFrom_some _ _ _ (.inl q)⟩
  refine codeAny_call_function hr.r.depth (KX _ _ lk) rfl S.co S.gen rfl (PySem.W.codeRec_of KX hcd) (hb _ _ _ _ ?_)
  refine wpAny_newFunctionEnv_cells S.kind hkind fun env he s1 y => ?_
  subst he
  refine ⟨lim.keeps y.toInCall.keep, codeAny_func ?_⟩
  obtain ⟨t, ht, hq⟩ := hbody f cdv A outer s H vs Q (hr.deeper _) hsp
  have I : Inv (cxOf CX0 P w K mg base N x (defScope st) f cdv A outer s H E0) [] (start N vs) H s1 := inv_start S hr.r.hd e0 hl r y
  refine wpAny_mono (ht.run [] s1 (start N vs) H _ (I.wish _) hq) (fun fl s' hs => ?_) fun e s' hs => False.elim hs
  obtain ⟨hs, ⟨v, rfl⟩, hp⟩ := hs
  obtain ⟨v, σ', H', J, rv, q⟩ := hs
  exact ⟨⟨v, H', J.os, J.bare, J.base, J.hok, rv, q⟩, hp⟩
end
section
variable {X : Cx} {k j : Nat} {x : Str} {sp : SpG} {p pos : Pos} {e : Expr} {es : List Expr} {t : TA}
theorem pe_t (c : TCal X.prog X.w X.K X.mg X.base k x sp) (hr : RoomG j X.A) (hk : k ≤ j) (hg : Gl X x) (ha : PA X (e :: es) t) (hdb : (x == ("__debug__" : Str)) = false := by decide)
    (he : starEach (e :: es) X.env = (false, eval e X.env) :: starEach es X.env := by rfl) (hpl : (backTo pos (starEach es X.env)).any (·.1) = false := by rfl) : PEP X (.Call (.Name x p) (e :: es) [] pos) (tCallG sp t) := by
  obtain ⟨f, fd, ps, F, hm, kp, b⟩ := c.ex
  refine ⟨fun pins s σ H Q I h => ?_⟩
  refine wpAny_Call_Name_kw (ld_glob I hg hm ?_ hdb)
  refine PySem.W.callWith_K (h₀ := X.base) I.ok.mod.kin kp (thn (ha.run pos pins s σ H _ I h) fun us s1 ⟨vs, H1, I1, r, q⟩ => ⟨I1.kIn, ?_⟩) he hpl
  have hl : (us ++ []).length = ps.length := by rw [List.append_nil, ← r.length]; exact F.len _ _ _ q
  have hb' := b s1 us I1.kIn hl
  rw [List.append_nil] at hb'
  refine wpAny_call (codeAny_mono (F.run X.A X.stack s1 H1 ⟨us, []⟩ us vs Q (hr.mono hk) I1.env0 hb' r q) fun r s' hq => ?_)
  cases r with
  | error e => exact False.elim hq.1
  | ok fl =>
    cases fl with
    | ret u => exact ⟨I1.after hq.1, hq.2⟩
    | next => exact False.elim hq.1
    | brk => exact False.elim hq.1
    | cont => exact False.elim hq.1
end
end L2.G
set_option Elab.async false
set_option linter.all false
set_option maxRecDepth 100000
set_option maxHeartbeats 4000000
/-! The law's draws: the spring, a sip, letters. -/
namespace L2.G
open PySem PySem.Spec PyProof.Rows WW
/-- the spring: n draws are left at least -/
def SprAt (H : Hp) (a : Addr) (n : Nat) : Prop := ∃ x y z : Int, H a = some (.lst [.int x, .int y, .int z]) ∧ 0 ≤ z ∧ z + n ≤ 1000
theorem SprAt.le {H : Hp} {a : Addr} {n m : Nat} (h : SprAt H a n) (hm : m ≤ n) : SprAt H a m := by
  obtain ⟨x, y, z, e, h0, h1⟩ := h
  exact ⟨x, y, z, e, h0, by omega⟩
theorem SprAt.same {H H' : Hp} {a : Addr} {n : Nat} (h : SprAt H a n) (s : Same H H') : SprAt H' a n := by
  obtain ⟨x, y, z, e, h0, h1⟩ := h
  exact ⟨x, y, z, s _ _ e, h0, h1⟩
theorem SprAt.nt {H : Hp} {a : Addr} {n : Nat} (h : SprAt H a n) : NoTup H [a] := by
  obtain ⟨x, y, z, e, _⟩ := h
  exact noTup1 e (fun xs q => nomatch q)
theorem SprAt.ne {H : Hp} {a b : Addr} {n : Nat} (h : SprAt H a n) {xs : List V} (hb : H b = some (.tup xs)) : b ∉ [a] := fun m => by
  obtain ⟨x, y, z, e, _⟩ := h
  have := List.mem_singleton.mp m
  subst this
  rw [e] at hb
  cases hb
theorem bits_le {i : Int} {k : Nat} (h : i.natAbs < 2 ^ k) : Builtin.Int.intBits i ≤ k := by
  unfold Builtin.Int.intBits
  split
  · exact Nat.zero_le _
  · rename_i h0
    have h1 : i.natAbs ≠ 0 := by
      intro e
      have : i = 0 := Int.natAbs_eq_zero.mp e
      rw [this] at h0
      simp at h0
    have := (Nat.log2_lt h1).mpr h
    omega
theorem pow_ok {i j : Int} {k : Nat} (hj : 0 ≤ j) (h : i.natAbs < 2 ^ k) (hk : (k : Int) * j ≤ 2 ^ 27) : CPowW i j :=
  ⟨hj, Int.le_trans (Int.mul_le_mul_of_nonneg_right (by exact_mod_cast bits_le h) hj) hk⟩
theorem abs_lt {i m : Int} {k : Nat} (h0 : 0 ≤ i) (h : i < m) (hm : m ≤ ((2 ^ k : Nat) : Int)) : i.natAbs < 2 ^ k := by omega
def spSip : SpG := fun vs H Q => ∃ (a : Addr) (m : Int) (n : Nat), vs = [.ref a, .int m] ∧ 0 < m ∧ m < 1073741824 ∧ SprAt H a (n + 1) ∧ ∀ (r : Int) (H' : Hp), 0 ≤ r → r < m → Upto [a] H H' → SprAt H' a n → Q (.int r) H'
section
variable {P : Program} {w : World} {K : PySem.W.Frag} {mg : Str → Option Value} {base : Heap} {C : Addr}
theorem t_sip (T : Txt w K mg C) : TCal P w K mg base 1 "_law_sip" spSip := by
  refine tcal_of T.dL_sip scL_sip (fun vs H Q ⟨_, _, _, e, _⟩ => by rw [e]; rfl) fun f cdv A outer s H vs Q hr ⟨a, m, n, e, hm0, hm1, ⟨x, y, z, hl, hz0, hz1⟩, q⟩ => ?_
  subst e
  refine ⟨_, pr_if (pt_cmpR op_gt (pe_ix ix_list (pv 0) pe_int (fun _ _ => rfl)) pe_int (nomark _))
      (pr_cons (ps_set (i := 2) scL_sip.nd rfl (by first | exact Or.inl rfl | exact Or.inr rfl) (pe_op op_mod (pe_callTy call_int1 rfl T.m_int (by decide +kernel) (pa_cons (pe_ix ix_list (pv 0) pe_int (fun _ _ => rfl)) pa_nil)) (pv 1))) (fun _ _ _ h => h)
      (pr_setret (i := 2) (pe_op op_fdiv (pe_ix ix_list (pv 0) pe_int (fun _ _ => rfl)) (pv 1)) (pv 0) rfl (by first | exact Or.inl rfl | exact Or.inr rfl)))
    (pr_cons (ps_asg (pe_op op_add (pe_ix ix_list (pv 0) pe_int (fun _ _ => rfl)) pe_int) (pg_sub (pv 0) pe_int set_list)) (fun _ _ _ h => h)
    (pr_cons (ps_set (i := 3) scL_sip.nd rfl (by first | exact Or.inl rfl | exact Or.inr rfl) (pe_op op_mod (pe_callTy call_int1 rfl T.m_int (by decide +kernel) (pa_cons (pe_op op_add (pe_ix ix_list (pv 0) pe_int (fun _ _ => rfl)) (pe_op op_mul pe_int (pe_ix ix_list (pv 0) pe_int (fun _ _ => rfl)))) pa_nil)) (pe_op op_add (pe_op op_pow pe_int pe_int) pe_int))) (fun _ _ _ h => h)
    (pr_cons (ps_set (i := 3) scL_sip.nd rfl (by first | exact Or.inl rfl | exact Or.inr rfl) (pe_op op_mod (pe_callTy call_int1 rfl T.m_int (by decide +kernel) (pa_cons (pe_op op_add (pe_op op_powW (pv 3) pe_int) (pe_op op_mul pe_int (pe_op op_powW (pe_ix ix_list (pv 0) pe_int (fun _ _ => rfl)) pe_int))) pa_nil)) (pe_op op_add (pe_op op_pow pe_int pe_int) pe_int))) (fun _ _ _ h => h)
    (pr_cons (ps_set (i := 3) scL_sip.nd rfl (by first | exact Or.inl rfl | exact Or.inr rfl) (pe_op op_mod (pe_callTy call_int1 rfl T.m_int (by decide +kernel) (pa_cons (pe_op op_powW (pv 3) pe_int) pa_nil)) (pe_op op_add (pe_op op_pow pe_int pe_int) pe_int))) (fun _ _ _ h => h)
    (pr_ret (pep_mod (pe_callTy call_int1 rfl T.m_int (by decide +kernel) (pa_cons (pe_op op_fdiv (pv 3) (pe_op op_pow pe_int pe_int)) pa_nil)) (pv 1))))))), ?_⟩
  have up : ∀ o, Upto [a] H (upd H a o) := fun o => upto_upd (List.mem_singleton.mpr rfl) o
  refine ⟨_, rfl, _, _, _, _, rfl, rfl, SqL.of hl, rfl, _, _, rfl, rfl, _, rfl, ite2 (fun c => ?_) (fun c => ?_)⟩
  · refine ⟨_, rfl, _, _, _, _, rfl, rfl, SqL.of hl, rfl, .inl ⟨_, rfl, _, rfl, _, _, rfl, rfl, hm0, ?_⟩⟩
    refine ⟨_, rfl, _, _, _, _, rfl, rfl, SqL.of hl, rfl, _, rfl, _, _, rfl, rfl, ⟨hm0, hm1⟩, ?_⟩
    refine ⟨_, rfl, _, _, _, _, rfl, rfl, hl, rfl, _, rfl, ?_⟩
    exact q _ _ (Int.emod_nonneg _ (by omega)) (Int.emod_lt_of_pos _ hm0) (up _) ⟨_, _, _, upd_same, hz0, by omega⟩
  · refine ⟨_, rfl, _, _, _, _, rfl, rfl, SqL.of hl, rfl, _, _, rfl, rfl, ?_⟩
    refine ⟨_, rfl, _, _, _, _, rfl, rfl, hl, rfl, ?_⟩
    have hl2 : upd H a (.lst [.int x, .int y, .int (z + 1)]) a = some (.lst [.int x, .int y, .int (z + 1)]) := upd_same
    refine ⟨_, rfl, _, _, _, _, rfl, rfl, SqL.of hl2, rfl, _, rfl, _, _, _, _, rfl, rfl, SqL.of hl2, rfl, _, _, rfl, rfl, .inl ⟨by decide, by decide⟩, _, _, rfl, rfl, .inl ⟨_, rfl, ?_⟩⟩
    refine ⟨_, _, rfl, rfl, ⟨by decide, by decide, by decide⟩, _, _, rfl, rfl, _, _, rfl, rfl, (show (0 : Int) < 10 ^ (30 : Int).toNat + 57 by decide), ?_⟩
    refine ⟨_, rfl, _, _, rfl, rfl, pow_ok (k := 100) (by decide) (abs_lt (Int.emod_nonneg _ (show (10 ^ (30 : Int).toNat + 57 : Int) ≠ 0 by decide)) (Int.emod_lt_of_pos _ (show (0 : Int) < 10 ^ (30 : Int).toNat + 57 by decide)) (by decide)) (by decide), ?_⟩
    refine ⟨_, rfl, _, _, _, _, rfl, rfl, SqL.of hl2, rfl, _, _, rfl, rfl, pow_ok (k := 11) (by decide) (abs_lt (m := 1002) (by omega) (by omega) (by decide)) (by decide), ?_⟩
    refine ⟨_, _, rfl, rfl, .inl ⟨by decide, by decide⟩, _, _, rfl, rfl, .inl ⟨_, rfl, ?_⟩⟩
    refine ⟨_, _, rfl, rfl, ⟨by decide, by decide, by decide⟩, _, _, rfl, rfl, _, _, rfl, rfl, (show (0 : Int) < 10 ^ (29 : Int).toNat + 319 by decide), ?_⟩
    refine ⟨_, rfl, _, _, rfl, rfl, pow_ok (k := 100) (by decide) (abs_lt (Int.emod_nonneg _ (show (10 ^ (29 : Int).toNat + 319 : Int) ≠ 0 by decide)) (Int.emod_lt_of_pos _ (show (0 : Int) < 10 ^ (29 : Int).toNat + 319 by decide)) (by decide)) (by decide), .inl ⟨_, rfl, ?_⟩⟩
    refine ⟨_, _, rfl, rfl, ⟨by decide, by decide, by decide⟩, _, _, rfl, rfl, _, _, rfl, rfl, (show (0 : Int) < 10 ^ (28 : Int).toNat + 331 by decide), ?_⟩
    refine ⟨_, rfl, _, _, rfl, rfl, ⟨by decide, by decide, by decide⟩, _, _, rfl, rfl, ⟨by decide, by decide⟩, .inl ⟨_, rfl, ?_⟩⟩
    refine ⟨_, rfl, _, _, rfl, rfl, hm0, ?_⟩
    exact q _ _ (Int.emod_nonneg _ (by omega)) (Int.emod_lt_of_pos _ hm0) (up _) ⟨_, _, _, upd_same, by omega, by omega⟩
theorem c_sip (T : Txt w K mg C) : GCal P w K mg base 1 "_law_sip" spSip := (t_sip T).g
end
end L2.G
set_option Elab.async false
set_option linter.all false
set_option maxRecDepth 100000
set_option maxHeartbeats 4000000
/-! letter = rest[..]; rest, found = rest.replace(letter, ""), found + letter -/
namespace L2.G
open PySem PySem.Spec PyProof.Rows WW
section
variable {X : Cx} {pins : List (Addr × Obj)} {σ : St} {H : Hp} {s : Shared}
/-- a local name is stored: the frame's map behind it, the tokens as they were -/
theorem store_okL {M : Model} {A : Around} {E : Value → Shared → Prop} {i : Nat} {x : Str} {v : V} {u : Value} {Q : Unit → Shared → Prop} (I : Inv X pins σ H s) (hN : X.N.Nodup) (hi : X.N[i]? = some x) (hk : X.env.scope.names.lookup x = some .local) (r : RelV v u)
    (h : ∀ (h' : Heap) (m : Str → Option Value), Inv X pins (σ.set i (some v)) H { s with heap := h', toks := s.toks + 1 } → h'.Ns X.env.locals m → m x = some u → Q () { s with heap := h', toks := s.toks + 1 }) : wpAny M A (storeName X.env x u) Q E s := by
  obtain ⟨m, hn, hl⟩ := id I.loc
  have hcls : (X.env.scope.kind == .class || (X.env.scope.kind == .module && X.env.locals != X.env.globals)) = false := by rw [I.ok.kind]; rfl
  have hiσ : i < σ.length := by rw [I.len]; exact (List.getElem?_eq_some_iff.mp hi).1
  have cne := I.cne
  have tracked : ∀ {a : Addr} {h' : Heap}, (∃ o, s.heap.get? a = some o ∧ H a = none) → Heap.SameBut a s.heap h' → HOk X.prog X.w H h' := fun {a h'} ha hs b ob e => by
    obtain ⟨_, _, hfree⟩ := ha
    refine (I.hok b ob e).stay (fun c w' hc q => (hs.2 c ?_).trans q) (fun _ q => q) fun _ _ q => q
    rintro rfl
    rcases hc with rfl | hc
    · rw [hfree] at e; cases e
    · rw [hfree] at hc; cases hc
  refine wpAny_storeName_local hk hn (fun h' hn' hs => ?_) hcls
  obtain ⟨oL, _, _, hoL, _⟩ := id hn
  refine h h' _ ⟨I.ok, I.os, I.bare, ⟨fun b o e n hb hx => ?_, fun b o e n hb hx => ?_, I.base.free, fun b o e hx => ?_, I.base.tups, I.base.frzs, I.base.tbls⟩, ⟨_, hn', fun j y v' e1 e2 e3 => ?_⟩, fun y c e => ?_, I.free, I.freeC, fun p hp => ?_, tracked ⟨oL, hoL, I.free⟩ hs, by simpa using I.len⟩ hn' (by simp)
  · exact (hs.2 b (Nat.ne_of_lt (Nat.lt_of_lt_of_le (Heap.lt_size e) I.ok.above))).trans (I.base.keep b o e n hb hx)
  · obtain ⟨sl, e1⟩ := I.base.slot b o e n hb hx
    exact ⟨sl, (hs.2 b (Nat.ne_of_lt (Nat.lt_of_lt_of_le (Heap.lt_size e) I.ok.above))).trans e1⟩
  · obtain ⟨o', e1⟩ := I.base.there b o e hx
    exact ⟨o', (hs.2 b (Nat.ne_of_lt (Nat.lt_of_lt_of_le (Heap.lt_size e) I.ok.above))).trans e1⟩
  · by_cases hj : j = i
    · subst hj
      rw [hi] at e1; cases e1
      rw [List.getElem?_set_self hiσ] at e2
      cases e2
      exact ⟨u, r, .inl ⟨hk, by simp⟩⟩
    · rw [List.getElem?_set_ne (Ne.symm hj)] at e2
      obtain ⟨u', r', q⟩ := hl j y v' e1 e2 e3
      refine ⟨u', r', ?_⟩
      rcases q with ⟨k, e⟩ | ⟨k, c, e, z⟩
      · refine .inl ⟨k, ?_⟩
        have : y ≠ x := fun e => hj (nodup_ix hN e1 (e ▸ hi))
        simp [this, e]
      · exact .inr ⟨k, c, e, z.sameBut hs (cne y c e)⟩
  · obtain ⟨w', z⟩ := I.cell y c e
    exact ⟨w', z.sameBut hs (cne y c e)⟩
  · obtain ⟨e, n, ne, nf, d⟩ := I.pin p hp
    exact ⟨(hs.2 p.1 ne).trans e, n, ne, nf, d⟩
def tStrike (ir il ifd : Nat) (te : TE) : TS := fun D σ H => ∃ z : Str, σ[ir]? = some (some (.str z)) ∧ te σ H fun y H1 => ∃ (i : Int) (c : Nat) (fnd : Str), y = .int i ∧ z.length ≤ 1000 ∧ atI z.cps.toList i = some c ∧ σ[ifd]? = some (some (.str fnd)) ∧ fnd.length ≤ 1000 ∧
  D.nx (((σ.set il (some (.str (ch c)))).set ir (some (.str (Txt.replace z (ch c) ⟨#[]⟩)))).set ifd (some (.str (fnd ++ ch c)))) H1
theorem pss_strike {ir il ifd : Nat} {xr xl xf : Str} {e : Expr} {te : TE} {p1 p2 p3 p4 q1 q2 q3 q4 q5 q6 q7 apos cpos bpos pt pt2 pos : Pos} {kt k2 j0 : Nat} (hc : X.calm = true) (hN : X.N.Nodup)
    (hir : X.N[ir]? = some xr) (hil : X.N[il]? = some xl) (hif : X.N[ifd]? = some xf) (nrl : ir ≠ il) (nrf : ir ≠ ifd) (nlf : il ≠ ifd)
    (lr : X.env.scope.names.lookup xr = some .local) (ll : X.env.scope.names.lookup xl = some .local) (lf : X.env.scope.names.lookup xf = some .local) (he : PEP X e te) (hx : PlainIx e)
    (hs : swapsWith (.Subscript (.Name xr p2) e p3) (some (.Name xl p1)) p4.line X.env = pure false := by rfl)
    (hw : swappedStores [.Tuple [.Name xr q1, .Name xf q2] kt pt] (.Tuple [.Call (.Attribute (.Name xr q3) "replace" apos) [.Name xl q4, .Constant (.str ⟨#[]⟩) j0 q5] [] cpos, .BinOp (.Name xf q6) .Add (.Name xl q7) bpos] k2 pt2) X.env = pure (some [xr, xf]) := by rfl)
    (hs2 : swapsWithSole [.Tuple [.Name xr q1, .Name xf q2] kt pt] (.Tuple [.Call (.Attribute (.Name xr q3) "replace" apos) [.Name xl q4, .Constant (.str ⟨#[]⟩) j0 q5] [] cpos, .BinOp (.Name xf q6) .Add (.Name xl q7) bpos] k2 pt2) pos.line X.env = pure false := by rfl)
    (hst : starEach [.Call (.Attribute (.Name xr q3) "replace" apos) [.Name xl q4, .Constant (.str ⟨#[]⟩) j0 q5] [] cpos, .BinOp (.Name xf q6) .Add (.Name xl q7) bpos] X.env =
      [(false, eval (.Call (.Attribute (.Name xr q3) "replace" apos) [.Name xl q4, .Constant (.str ⟨#[]⟩) j0 q5] [] cpos) X.env), (false, eval (.BinOp (.Name xf q6) .Add (.Name xl q7) bpos) X.env)] := by rfl)
    (hst2 : starEach [.Name xl q4, .Constant (.str ⟨#[]⟩) j0 q5] X.env = [(false, eval (.Name xl q4) X.env), (false, eval (.Constant (.str ⟨#[]⟩) j0 q5) X.env)] := by rfl)
    (hbase : attributeBase (.Name xr q3) "replace" X.env (eval (.Name xr q3) X.env) = eval (.Name xr q3) X.env := by rfl) (hline : (apos.endLine == cpos.line) = true := by rfl)
    (d1 : (xr == ("__debug__" : Str)) = false := by decide) (d2 : (xr == ("__classdict__" : Str)) = false := by decide) (d3 : (xl == ("__debug__" : Str)) = false := by decide) (d4 : (xl == ("__classdict__" : Str)) = false := by decide)
    (d5 : (xf == ("__debug__" : Str)) = false := by decide) (d6 : (xf == ("__classdict__" : Str)) = false := by decide) :
    PSs X [.Assign [.Name xl p1] (.Subscript (.Name xr p2) e p3) p4,
      .Assign [.Tuple [.Name xr q1, .Name xf q2] kt pt] (.Tuple [.Call (.Attribute (.Name xr q3) "replace" apos) [.Name xl q4, .Constant (.str ⟨#[]⟩) j0 q5] [] cpos, .BinOp (.Name xf q6) .Add (.Name xl q7) bpos] k2 pt2) pos] (tStrike ir il ifd te) := by
  refine ⟨fun pins s σ H D I h => ?_⟩
  obtain ⟨z, hz, h⟩ := h
  refine wpAny_execs_cons (wpAny_Assign_Name (Subscript_ (raw_name hir (.inl lr) I hz (fun v rv => thn (he.run pins s σ H _ I h) fun iv s2 ⟨⟨y, H1, I2, ry, q⟩, hp⟩ => ?_) d1 d2)) hs)
  obtain ⟨i, c, fnd, rfl, hzl, hat, hfd, hfl, q⟩ := q
  obtain ⟨t0, rfl⟩ := rv
  obtain ⟨t1, rfl⟩ := ry
  obtain ⟨j, h1, h2, h3, h4, h5⟩ := atI_get hat
  have hl : z.cps.toList.length = z.length := by simp [Str.length]
  rw [hl] at h1 h4 h5
  have hn := line63
  refine tail_any (typeIs_str s2 z t0) slot_str_getitem.lookup (getItem_str (c := c) (by
    have e1 : decide (i < -(2 ^ 63 : Int)) = false := decide_eq_false (by omega)
    have e2 : decide (i ≥ 2 ^ 63) = false := decide_eq_false (by omega)
    rw [e1, e2, Bool.or_false]) (by rw [h1]; simpa using h2) ?_) (hx _ _)
  have I3 := I2.tok (s2.toks + 1)
  refine store_okL (v := .str (ch c)) I3 hN hil ll ⟨s2.toks, rfl⟩ fun h' m I4 hm hmx => ?_
  -- the second statement
  have hir' : (σ.set il (some (.str (ch c))))[ir]? = some (some (.str z)) := by rw [List.getElem?_set_ne (Ne.symm nrl)]; exact hz
  have hif' : (σ.set il (some (.str (ch c))))[ifd]? = some (some (.str fnd)) := by rw [List.getElem?_set_ne nlf]; exact hfd
  have hilσ : il < σ.length := by rw [I.len]; exact (List.getElem?_eq_some_iff.mp hil).1
  have hil' : (σ.set il (some (.str (ch c))))[il]? = some (some (.str (ch c))) := by rw [List.getElem?_set_self hilσ]
  have kl : X.env.kindOf xl = some .local := ll
  refine wpAny_execs_cons ?_
  rw [exec_Assign_arm]
  refine wpAny_bind (wpAny_standAt ?_)
  rw [hs2]
  refine wpAny_bind (wpAny_pure ?_)
  rw [if_neg (by decide)]
  have zl : sizeLine = 16777216 := sizeLine_eq
  refine wpAny_bind (Tuple_ ?_)
  rw [hst]
  refine Calls.spliced_cons (PySem.Call_method2 hbase hst2 hline (raw_name hir (.inl lr) I4 hir' (fun v rv => ?_) d1 d2))
  obtain ⟨t2, rfl⟩ := rv
  refine ⟨"str", _, F.plainAttrs_str, F.slot_str_replace, F.type_str_replace, typeIs_str _ _ _, (fun _ e => nomatch e), Calls.callWith_builtin rfl (Calls.evalArgs_plain (Calls.spliced_cons ?_))⟩
  refine wpAny_Name (wpAny_loadName_local I4.ok.kind kl hm hmx ?_) d3
  refine Calls.spliced_cons (Calls.Constant_str (Calls.spliced_nil ?_))
  refine PySem.SC.replace (Nat.pos_iff_ne_zero.mp hp) (Nat.succ_ne_zero _) (by show s2.toks ≠ s2.toks + 1 + 1; omega) (by
    apply Bool.eq_false_iff.mpr
    intro e
    have e := eq_of_beq e
    injection e with e
    have := congrArg Array.size e
    simp at this) (by show z.length + (z.length + 1) * 0 ≤ _; omega) fun t' k => ?_
  have I5 := I4.tok k
  refine Calls.spliced_cons (thn ((pe_op (pos := bpos) op_add_str (pe_var (pos := q6) hif (.inl lf) d5 d6) (pe_var (pos := q7) hil (.inl ll) d3 d4)).run pins _ _ H1
    (fun v H2 => v = .str (fnd ++ ch c) ∧ H2 = H1) I5 ⟨_, hif', _, hil', _, _, rfl, rfl, by show fnd.length + 1 ≤ _; omega, rfl, rfl⟩) fun u5 s5 ⟨v5, H5, I6, r5, e5, e6⟩ => ?_)
  subst e5; subst e6
  obtain ⟨t5, rfl⟩ := r5
  refine Calls.spliced_nil ?_
  have rv : RelV (.str (Txt.replace z (ch c) ⟨#[]⟩)) (.str (Txt.replace z (ch c) ⟨#[]⟩) t') := ⟨_, rfl⟩
  have rw' : RelV (.str (fnd ++ ch c)) (.str (fnd ++ ch c) t5) := ⟨_, rfl⟩
  refine wpAny_newObj_type ?_ (by show 2 ≤ sizeLine; decide)
  have I7 : Inv X pins (σ.set il (some (.str (ch c)))) H5 { s5 with heap := s5.heap.push { cls := .type "tuple", data := .seq [Value.str (Txt.replace z (ch c) ⟨#[]⟩) t', Value.str (fnd ++ ch c) t5].toArray } } := I6.kept (t' := s5.toks) fun b o e => Heap.get?_push_of_some _ e
  rw [hw]
  refine wpAny_bind (wpAny_pure ?_)
  show wpAny (model X.prog X.w) X.A (do rule "assign.swapped-stores"; let items ← unpackItems (.ref s5.heap.objs.size) 2 none; assignInOrder [fun v => bindName X.env xf v, fun v => bindName X.env xr v] items.reverse; pure Flow.next) _ _ _
  refine wpAny_bind (wpAny_rule (wpAny_bind (unpackItems_tuple (items := #[Value.str (Txt.replace z (ch c) ⟨#[]⟩) t', Value.str (fnd ++ ch c) t5]) (I.ok.hd hc) (IsTup.new s5.heap _) fun h'' hx' => ?_)))
  have I8 := I7.kept (h' := h'') (t' := s5.toks) fun b o e => hx' b o (Nat.ne_of_lt (Heap.lt_size e)) e
  show wpAny _ _ (assignInOrder [fun v => bindName X.env xf v, fun v => bindName X.env xr v] [Value.str (fnd ++ ch c) t5, Value.str (Txt.replace z (ch c) ⟨#[]⟩) t'] >>= fun _ => pure Flow.next) _ _ _
  refine wpAny_bind (assignInOrder_cons (wpAny_bindName (store_ok I8 hN hif (.inl lf) rw' (fun s6 I9 => ?_) (.inr lf))))
  refine assignInOrder_cons (wpAny_bindName (store_ok I9 hN hir (.inl lr) rv (fun s7 I10 => assignInOrder_nil (wpAny_pure ?_)) (.inr lr)))
  rw [List.set_comm _ _ (Ne.symm nrf)] at I10
  exact wpAny_execs_nil ⟨_, H5, I10, q⟩
end
end L2.G
set_option Elab.async false
set_option linter.all false
set_option maxRecDepth 100000
set_option maxHeartbeats 4000000
/-! The law's letters and drawn kinds. -/
namespace L2.G
open PySem PySem.Spec PyProof.Rows WW
/-- a text by its signs -/
abbrev tx (ns : List Nat) : Str := ⟨ns.toArray⟩
theorem tx_ch (ns : List Nat) (c : Nat) : tx ns ++ ch c = tx (ns ++ [c]) := by
  show Str.mk (ns.toArray ++ #[c]) = Str.mk (ns ++ [c]).toArray
  simp
theorem str_ext {x y : Str} (h : x.cps.toList = y.cps.toList) : x = y := by
  obtain ⟨a⟩ := x
  obtain ⟨b⟩ := y
  congr 1
  exact Array.toList_inj.mp h
theorem strike_tx (ns : List Nat) (c : Nat) : Txt.replace (tx ns) (ch c) ⟨#[]⟩ = tx (ns.filter (· != c)) := by
  apply str_ext
  rw [replace_strikes]
theorem tx_len (ns : List Nat) : (tx ns).length = ns.length := by simp [Str.length]
theorem eight {r : Int} (h0 : 0 ≤ r) (h1 : r < 8) : r = 0 ∨ r = 1 ∨ r = 2 ∨ r = 3 ∨ r = 4 ∨ r = 5 ∨ r = 6 ∨ r = 7 := by omega
theorem atI_of {xs : List Nat} {r : Int} (h0 : 0 ≤ r) (h1 : r < (xs.length : Int)) : ∃ c, atI xs r = some c ∧ c ∈ xs := by
  have hk : r.toNat < xs.length := by omega
  refine ⟨xs[r.toNat], ?_, List.getElem_mem hk⟩
  have e : r = ((r.toNat : Nat) : Int) := by omega
  have := atI_nat (xs := xs) (j := r.toNat) (v := xs[r.toNat]) (by simp [hk])
  rwa [← e] at this
theorem len_strike {ns : List Nat} {c : Nat} (hn : ns.Nodup) (h : c ∈ ns) : (ns.filter (· != c)).length + 1 = ns.length := by
  have e := hn.erase_eq_filter c
  rw [← e, List.length_erase_of_mem h]
  have := List.length_pos_of_mem h
  omega
structure Names (ns : List Nat) : Prop where
  ne : ns ≠ []
  nd : ns.Nodup
  az : ∀ c ∈ ns, Az c
  le : ns.length ≤ 7
def spLetters : SpG := fun vs H Q => ∃ (a : Addr) (n : Nat), vs = [.ref a] ∧ SprAt H a (n + 10) ∧ ∀ (ns : List Nat) (H' : Hp), Names ns → Upto [a] H H' → SprAt H' a n → Q (.str (tx ns)) H'
/-- a drawn kind of m letters: of the names, m letters, waits alone -/
def spDrawn (n : Nat) : SpG := fun vs H Q => ∃ (a : Addr) (ns : List Nat) (m : Nat) (b : Nat), vs = [.ref a, .str (tx ns), .int (m : Nat), .int 2] ∧ ns ≠ [] ∧ ns.length ≤ 100 ∧ 1 ≤ m ∧ m ≤ n ∧ m ≤ 1000 ∧ SprAt H a (b + (3 * m - 2)) ∧
  ∀ (v : V) (k : Kd Nat) (H' : Hp), KAt H' v k → k.size = m → k.All (· ∈ ns) → Upto [a] H H' → SprAt H' a b → Q v H'
section
variable {P : Program} {w : World} {K : PySem.W.Frag} {mg : Str → Option Value} {base : Heap} {C : Addr}
theorem c_letters (T : Txt w K mg C) : GCal P w K mg base 2 "_law_letters" spLetters := by
  have C_sip := c_sip (P := P) (base := base) T
  have T_sip := t_sip (P := P) (base := base) T
  refine cal_of T.dL_letters scL_letters (fun vs H Q ⟨_, _, e, _⟩ => by rw [e]; rfl) fun f cdv A outer s H vs Q hr ⟨a, n, e, hs, q⟩ => ?_
  subst e
  refine ⟨_, (pss_cons (ps_asg (pe_tup (pa_cons pe_str (pa_cons pe_str pa_nil))) (pg_tup rfl (pgs_cons (pg_name (i := 1) scL_letters.nd rfl (by first | exact Or.inl rfl | exact Or.inr rfl)) (pgs_cons (pg_name (i := 2) scL_letters.nd rfl (by first | exact Or.inl rfl | exact Or.inr rfl)) pgs_nil))))
    (pss_cons (ps_for PassesOwn.never rfl (pi_range1 rfl T.m_range (pa_cons (pe_ix ix_list (pe_lst (pa_cons pe_int (pa_cons pe_int (pa_cons pe_int (pa_cons pe_int (pa_cons pe_int (pa_cons pe_int (pa_cons pe_int (pa_cons pe_int pa_nil))))))))) (pe_g C_sip hr (by omega) rfl (pa_cons (pv 0) (pa_cons pe_int pa_nil))) (fun _ _ => rfl)) pa_nil)) (pg_name (i := 3) scL_letters.nd rfl (by first | exact Or.inl rfl | exact Or.inr rfl))
      (pss_strike (ir := 1) (il := 4) (ifd := 2) rfl scL_letters.nd rfl rfl rfl (by decide) (by decide) (by decide) rfl rfl rfl
        (pe_t T_sip hr (by omega) rfl (pa_cons (pv 0) (pa_cons (pe_callB call_len_str rfl T.m_len (by decide +kernel) (pa_cons (pv 1) pa_nil)) pa_nil))) (fun _ _ => rfl)))
    (pss_one (ps_ret (pv 2))))), ?_⟩
  refine ⟨by show 2 ≤ sizeLine; decide, fun p0 np0 => ⟨_, _, rfl, SqT.of upd_same, rfl, _, _, rfl, _, _, rfl, rfl, ?_⟩⟩
  have S0 := same_new np0 (.tup [.str "abcdefghijklmnopqrstuvwxyz", .str ""])
  refine ⟨by show 8 ≤ sizeLine; decide, fun p np => ?_⟩
  have hs := hs.same S0
  have S1 := same_new np (.lst [.int 1, .int 2, .int 2, .int 3, .int 3, .int 4, .int 5, .int 7])
  have pa : p ∉ [a] := fun m => by
    obtain ⟨x, y, z, e, _⟩ := hs
    have := List.mem_singleton.mp m
    subst this
    rw [np] at e; cases e
  refine ⟨_, rfl, a, 8, n + 8, rfl, by decide, by decide, (hs.same S1).le (by omega), fun r H1 h0 h1 U1 sp1 => ?_⟩
  have hl := U1 p _ pa (upd_same (o := .lst [.int 1, .int 2, .int 2, .int 3, .int 3, .int 4, .int 5, .int 7]))
  obtain ⟨m, hm, hm1, hm7⟩ : ∃ m : Nat, atI [V.int 1, .int 2, .int 2, .int 3, .int 3, .int 4, .int 5, .int 7] r = some (.int (m : Nat)) ∧ 1 ≤ m ∧ m ≤ 7 := by
    rcases eight h0 h1 with rfl | rfl | rfl | rfl | rfl | rfl | rfl | rfl
    · exact ⟨1, rfl, by omega, by omega⟩
    · exact ⟨2, rfl, by omega, by omega⟩
    · exact ⟨2, rfl, by omega, by omega⟩
    · exact ⟨3, rfl, by omega, by omega⟩
    · exact ⟨3, rfl, by omega, by omega⟩
    · exact ⟨4, rfl, by omega, by omega⟩
    · exact ⟨5, rfl, by omega, by omega⟩
    · exact ⟨7, rfl, by omega, by omega⟩
  have U01 : Upto [a] H H1 := (Upto.of_same (S0.trans S1)).trans U1
  refine ⟨p, _, r, _, rfl, rfl, SqL.of hl, hm, _, rfl, by omega, by omega, ?_⟩
  have em : ((m : Nat) : Int).toNat = m := by omega
  rw [em]
  refine for_range (lo := 0) (n := m) (fun i σ H' => ∃ (rs fs : List Nat) (x y : Option V), σ = [some (.ref a), some (.str (tx rs)), some (.str (tx fs)), x, y] ∧ rs.length + i = 26 ∧ fs.length = i ∧ rs.Nodup ∧ fs.Nodup ∧ (∀ c ∈ rs, Az c ∧ c ∉ fs) ∧ (∀ c ∈ fs, Az c) ∧ Upto [a] H H' ∧ SprAt H' a (n + 8 - i))
    ⟨(List.range 26).map (· + 97), [], none, none, ?_, rfl, rfl, by decide, List.nodup_nil, fun c hc => ⟨mem_az (by rw [abc_list]; exact hc), by simp⟩, (fun c h => nomatch h), U01, sp1⟩ ?_ ?_
  · have e1 : ("abcdefghijklmnopqrstuvwxyz" : Str) = tx ((List.range 26).map (· + 97)) := by decide +kernel
    have e2 : ("" : Str) = tx [] := by decide +kernel
    rw [← e1, ← e2]
    rfl
  · rintro i σ H' hi ⟨rs, fs, x, y, rfl, h1', h2', nr, nf, hrs, hfs, U', sp'⟩
    refine ⟨_, rfl, _, rfl, _, rfl, _, rfl, by show (tx rs).length ≤ sizeLine; rw [tx_len]; have := sizeLine_eq; omega, a, _, n + 8 - (i + 1), rfl, by show (0 : Int) < ((tx rs).length : Nat); rw [tx_len]; omega, by show (((tx rs).length : Nat) : Int) < _; rw [tx_len]; omega, sp'.le (by omega), fun r2 H2 g0 g1 U2 sp2 => ?_⟩
    have g1 : r2 < (((tx rs).length : Nat) : Int) := g1
    rw [tx_len] at g1
    obtain ⟨c, hc, hcm⟩ := atI_of g0 g1
    refine ⟨r2, c, tx fs, rfl, by rw [tx_len]; omega, hc, rfl, by rw [tx_len]; omega, ?_⟩
    rw [strike_tx, tx_ch]
    have hlen := len_strike nr hcm
    refine ⟨_, _, _, _, rfl, by omega, by simp [h2'], nr.filter _, ?_, fun d hd => ?_, fun d hd => ?_, U'.trans U2, sp2⟩
    · exact List.nodup_append.mpr ⟨nf, by simp, fun d hd e he => by
        have := List.mem_singleton.mp he
        subst this
        intro h; subst h
        exact (hrs d hcm).2 hd⟩
    · obtain ⟨h3, h4⟩ := List.mem_filter.mp hd
      refine ⟨(hrs d h3).1, fun hm => ?_⟩
      rcases List.mem_append.mp hm with h | h
      · exact (hrs d h3).2 h
      · have := List.mem_singleton.mp h
        subst this
        simp at h4
    · rcases List.mem_append.mp hd with h | h
      · exact hfs d h
      · have := List.mem_singleton.mp h
        subst this
        exact (hrs d hcm).1
  · rintro σ H' ⟨rs, fs, x, y, rfl, h1', h2', nr, nf, hrs, hfs, U', sp'⟩
    refine ⟨_, rfl, q fs _ ⟨fun e => ?_, nf, hfs, by omega⟩ U' (sp'.le (by omega))⟩
    rw [e] at h2'
    simp at h2'
    omega
theorem c_drawn (T : Txt w K mg C) : ∀ n, GCal P w K mg base (n + 1) "_law_drawn" (spDrawn n)
  | 0 => cal_none T.dL_drawn fun vs H Q ⟨_, _, _, _, _, _, _, h1, h2, _⟩ => by omega
  | n + 1 => by
    have C_sip := c_sip (P := P) (base := base) T
    have C_drawn := c_drawn T n
    refine cal_of T.dL_drawn scL_drawn (fun vs H Q ⟨_, _, _, _, e, _⟩ => by rw [e]; rfl) fun f cdv A outer s H vs Q hr ⟨a, ns, m, b, e, hne, hl, hm1, hmn, hm2, hs, q⟩ => ?_
    subst e
    refine ⟨_, (pss_cons (ps_if (pt_cmpR op_eq (pv 2) pe_int (nomark _))
      (pss_one (ps_ret (pe_tup (pa_cons pe_str (pa_cons (pe_ix ix_str (pv 1) (pe_g C_sip hr (by omega) rfl (pa_cons (pv 0) (pa_cons (pe_callB call_len_str rfl T.m_len (by decide +kernel) (pa_cons (pv 1) pa_nil)) pa_nil))) (fun _ _ => rfl)) pa_nil)))))
      pss_nil)
    (pss_cons (ps_set (i := 4) scL_drawn.nd rfl (by first | exact Or.inl rfl | exact Or.inr rfl) (pe_op op_add pe_int (pe_g C_sip hr (by omega) rfl (pa_cons (pv 0) (pa_cons (pe_op op_sub (pv 2) pe_int) pa_nil)))))
    (pss_cons (ps_set (i := 5) scL_drawn.nd rfl (by first | exact Or.inl rfl | exact Or.inr rfl) (pe_ix ix_list (pe_lst (pa_cons pe_str (pa_cons pe_str (pa_cons pe_str pa_nil)))) (pe_g C_sip hr (by omega) rfl (pa_cons (pv 0) (pa_cons (pv 3) pa_nil))) (fun _ _ => rfl)))
    (pss_one (ps_ret (pe_tup (pa_cons (pv 5) (pa_cons (pe_g C_drawn hr (by omega) rfl (pa_cons (pv 0) (pa_cons (pv 1) (pa_cons (pv 4) (pa_cons (pv 3) pa_nil))))) (pa_cons (pe_g C_drawn hr (by omega) rfl (pa_cons (pv 0) (pa_cons (pv 1) (pa_cons (pe_op op_sub (pv 2) (pv 4)) (pa_cons (pv 3) pa_nil))))) pa_nil))))))))), ?_⟩
    have zl : sizeLine = 16777216 := sizeLine_eq
    have hlen : 0 < ns.length := List.length_pos_iff.mpr hne
    refine ⟨_, rfl, rfl, _, rfl, ite2 (fun c => ?_) (fun c => ?_)⟩
    · have c := of_decide_eq_true c
      injection c with c
      have e1 : m = 1 := by omega
      subst e1
      refine ⟨_, rfl, _, rfl, _, rfl, _, rfl, by show (tx ns).length ≤ _; rw [tx_len]; omega, a, _, b, rfl, by show (0 : Int) < (((tx ns).length : Nat) : Int); rw [tx_len]; omega, by show (((tx ns).length : Nat) : Int) < _; rw [tx_len]; omega, hs.le (by omega), fun r H1 g0 g1 U1 s1 => ?_⟩
      have g1 : r < (((tx ns).length : Nat) : Int) := g1
      rw [tx_len] at g1
      obtain ⟨c, hc, hcm⟩ := atI_of g0 g1
      refine ⟨_, r, c, rfl, rfl, by rw [tx_len]; omega, hc, by show 2 ≤ sizeLine; decide, fun p np => ?_⟩
      have S2 := same_new np (.tup [.str "plain", .str (ch c)])
      exact q (.ref p) (.p c) _ (.p upd_same) rfl hcm (U1.trans (Upto.of_same S2)) ((s1.same S2).le (by omega))
    · have c := of_decide_eq_false (Bool.eq_false_iff.mpr c)
      have hm3 : 2 ≤ m := by
        rcases Nat.lt_or_ge m 2 with h | h
        · exact absurd (by have : m = 1 := by omega
                           subst this; rfl) c
        · exact h
      refine ⟨_, rfl, _, rfl, _, _, rfl, rfl, a, _, b + (3 * m - 2) - 1, rfl, (show (0 : Int) < (m : Int) - 1 by omega), (show (m : Int) - 1 < 1073741824 by omega), hs.le (by omega), fun r H1 g0 g1 U1 s1 => ?_⟩
      refine ⟨_, _, rfl, rfl, ?_⟩
      refine ⟨by show 3 ≤ sizeLine; decide, fun p np => ?_⟩
      have S2 := same_new np (.lst [.str "behind", .str "ahead", .str "with"])
      have pa : p ∉ [a] := fun h => by
        obtain ⟨x, y, z, e, _⟩ := s1
        have := List.mem_singleton.mp h
        subst this
        rw [np] at e; cases e
      refine ⟨_, rfl, _, rfl, a, 2, b + (3 * m - 2) - 2, rfl, by decide, by decide, (s1.same S2).le (by omega), fun r2 H3 k0 k1 U3 s3 => ?_⟩
      have hlp := U3 p _ pa (upd_same (o := .lst [.str "behind", .str "ahead", .str "with"]))
      have U13 : Upto [a] H H3 := (U1.trans (Upto.of_same S2)).trans U3
      -- the cut
      obtain ⟨cut, rfl⟩ : ∃ cut : Nat, r = ((cut : Nat) : Int) := ⟨r.toNat, by omega⟩
      have ecut : (1 : Int) + ((cut : Nat) : Int) = ((1 + cut : Nat) : Int) := by omega
      have esub : ((m : Nat) : Int) - (1 + ((cut : Nat) : Int)) = ((m - (1 + cut) : Nat) : Int) := by omega
      have hcut : 1 + cut < m := by omega
      have go : ∀ (fm : Str), atI [V.str "behind", .str "ahead", .str "with"] r2 = some (.str fm) → (∀ (p2 : Addr) (v1 v2 : V) (k1 k2 : Kd Nat) (H' : Hp), KAt H' v1 k1 → KAt H' v2 k2 → H' p2 = some (.tup [.str fm, v1, v2]) → k1.size + k2.size = m → k1.All (· ∈ ns) → k2.All (· ∈ ns) → Upto [a] H H' → SprAt H' a b → Q (.ref p2) H') →
          rIxL K (V.ref p) (.int r2) H3 (fun x H4 => (tRet (tTup (tCons (tVar 5) (tCons (tCallG (spDrawn n) (tCons (tVar 0) (tCons (tVar 1) (tCons (tVar 4) (tCons (tVar 3) tNil))))) (tCons (tCallG (spDrawn n) (tCons (tVar 0) (tCons (tVar 1) (tCons (tOp rSub (tVar 2) (tVar 4)) (tCons (tVar 3) tNil))))) tNil)))))
            { nx := fun _ H' => Q .non H', rt := Q } [some (.ref a), some (.str (tx ns)), some (.int (m : Nat)), some (.int 2), some (.int (1 + ((cut : Nat) : Int))), some x] H4) := fun fm hfm fin => by
        refine ⟨p, _, r2, _, rfl, rfl, SqL.of hlp, hfm, ?_⟩
        refine ⟨_, rfl, _, rfl, _, rfl, _, rfl, _, rfl, a, ns, 1 + cut, b + (3 * (m - (1 + cut)) - 2), (by rw [ecut]), hne, hl, by omega, by omega, by omega, s3.le (by omega), fun v1 k1 H4 hk1 z1 al1 U4 s4 => ?_⟩
        refine ⟨_, rfl, _, rfl, _, rfl, _, rfl, _, _, rfl, rfl, _, rfl, a, ns, m - (1 + cut), b, (by rw [← esub]), hne, hl, by omega, by omega, by omega, s4.le (by omega), fun v2 k2 H5 hk2 z2 al2 U5 s5 => ?_⟩
        refine ⟨by show 3 ≤ sizeLine; decide, fun p2 np2 => ?_⟩
        have S6 := same_new np2 (.tup [.str fm, v1, v2])
        exact fin p2 v1 v2 k1 k2 _ ((hk1.mono (U5.tk s4.nt)).mono (Same.tk S6)) (hk2.mono (Same.tk S6)) upd_same (by omega) al1 al2 (((U13.trans U4).trans U5).trans (Upto.of_same S6)) (s5.same S6)
      have two : r2 = 0 ∨ r2 = 1 := by omega
      rcases two with rfl | rfl
      · exact go "behind" rfl fun p2 v1 v2 k1 k2 H' h1 h2 h3 hz a1 a2 u s => q _ (.b k1 k2) H' (.b h3 h1 h2) hz ⟨a1, a2⟩ u s
      · exact go "ahead" rfl fun p2 v1 v2 k1 k2 H' h1 h2 h3 hz a1 a2 u s => q _ (.a k1 k2) H' (.a h3 h1 h2) hz ⟨a1, a2⟩ u s
end
end L2.G
set_option Elab.async false
set_option linter.all false
set_option maxRecDepth 100000
set_option maxHeartbeats 4000000
/-! The law's crossed kinds. -/
namespace WW
/-- a node by its form -/
def nd {α : Type} (b : Bool) (x y : Kd α) : Kd α := if b = true then .b x y else .a x y
theorem nd_size {α : Type} {b : Bool} {x y : Kd α} : (nd b x y).size = x.size + y.size := by cases b <;> simp [nd, Kd.size]
theorem nd_ops {α : Type} {b : Bool} {x y : Kd α} : (nd b x y).ops = x.ops + y.ops + 1 := by cases b <;> simp [nd, Kd.ops]
theorem nd_all {α : Type} {p : α → Prop} {b : Bool} {x y : Kd α} : (nd b x y).All p ↔ x.All p ∧ y.All p := by cases b <;> exact Iff.rfl
end WW
namespace L2.G
open PySem PySem.Spec PyProof.Rows WW
def fmS (b : Bool) : Str := if b = true then "behind" else "ahead"
theorem KAt.nd {H : Hp} {a : Addr} {b : Bool} {u v : V} {x y : Kd Nat} (h : H a = some (.tup [.str (fmS b), u, v])) (h1 : KAt H u x) (h2 : KAt H v y) : KAt H (.ref a) (nd b x y) := by
  cases b
  · exact .a h h1 h2
  · exact .b h h1 h2
theorem KAt.inv {H : Hp} {v : V} {k : Kd Nat} (h : KAt H v k) : (∃ a c, v = .ref a ∧ k = .p c ∧ H a = some (.tup [.str "plain", .str (ch c)])) ∨
    ∃ a b u1 u2 x y, v = .ref a ∧ k = WW.nd b x y ∧ H a = some (.tup [.str (fmS b), u1, u2]) ∧ KAt H u1 x ∧ KAt H u2 y := by
  cases h with
  | p h => exact .inl ⟨_, _, rfl, rfl, h⟩
  | b h h1 h2 => exact .inr ⟨_, true, _, _, _, _, rfl, rfl, h, h1, h2⟩
  | a h h1 h2 => exact .inr ⟨_, false, _, _, _, _, rfl, rfl, h, h1, h2⟩
theorem nfp (b : Bool) : V.str (fmS b) ≠ V.str "plain" := by cases b <;> decide +kernel
theorem nfw (b : Bool) : V.str (fmS b) ≠ V.str "with" := by cases b <;> decide +kernel
def spCrossed (n : Nat) : SpG := fun vs H Q => ∃ (a : Addr) (v : V) (k : Kd Nat) (b : Nat), vs = [.ref a, v] ∧ KAt H v k ∧ k.ops < n ∧ SprAt H a (b + k.ops) ∧
  ∀ (v' : V) (k' : Kd Nat) (H' : Hp), KAt H' v' k' → k'.size = k.size → (∀ p : Nat → Prop, k.All p → k'.All p) → Upto [a] H H' → SprAt H' a b → Q v' H'
section
variable {P : Program} {w : World} {K : PySem.W.Frag} {mg : Str → Option Value} {base : Heap} {C : Addr}
theorem c_crossed (T : Txt w K mg C) : ∀ n, GCal P w K mg base (n + 1) "_law_crossed" (spCrossed n)
  | 0 => cal_none T.dL_crossed fun vs H Q ⟨_, _, _, _, _, _, h, _⟩ => absurd h (Nat.not_lt_zero _)
  | n + 1 => by
    have C_sip := c_sip (P := P) (base := base) T
    have C_crossed := c_crossed T n
    refine cal_of T.dL_crossed scL_crossed (fun vs H Q ⟨_, _, _, _, e, _⟩ => by rw [e]; rfl) fun f cdv A outer s H vs Q hr ⟨a, v, k, b, e, hk, hn, hs, q⟩ => ?_
    subst e
    refine ⟨_, (pss_cons (ps_if (pt_cmpR op_eq (pe_ix ix_tup (pv 1) pe_int (fun _ _ => rfl)) pe_str (nomark _))
      (pss_one (ps_ret (pv 1)))
      pss_nil)
    (pss_cons (ps_set (i := 2) scL_crossed.nd rfl (by first | exact Or.inl rfl | exact Or.inr rfl) (pe_g C_sip hr (by omega) rfl (pa_cons (pv 0) (pa_cons pe_int pa_nil))))
    (pss_cons (ps_if (pt_cmpR op_eq (pv 2) pe_int (nomark _))
      (pss_one (ps_ret (pe_tup (pa_cons (pe_ix ix_tup (pv 1) pe_int (fun _ _ => rfl)) (pa_cons (pe_g C_crossed hr (by omega) rfl (pa_cons (pv 0) (pa_cons (pe_ix ix_tup (pv 1) pe_int (fun _ _ => rfl)) pa_nil))) (pa_cons (pe_ix ix_tup (pv 1) pe_int (fun _ _ => rfl)) pa_nil))))))
      pss_nil)
    (pss_cons (ps_if (pt_cmpR op_eq (pv 2) pe_int (nomark _))
      (pss_one (ps_ret (pe_tup (pa_cons (pe_ix ix_tup (pv 1) pe_int (fun _ _ => rfl)) (pa_cons (pe_ix ix_tup (pv 1) pe_int (fun _ _ => rfl)) (pa_cons (pe_g C_crossed hr (by omega) rfl (pa_cons (pv 0) (pa_cons (pe_ix ix_tup (pv 1) pe_int (fun _ _ => rfl)) pa_nil))) pa_nil))))))
      pss_nil)
    (pss_cons (ps_if (PW.pt (pw_and (pt_cmpR op_eq (pv 2) pe_int (nomark _)) (pw_and1 (pt_cmpR op_ne (pe_ix ix_tup (pv 1) pe_int (fun _ _ => rfl)) pe_str (nomark _)))))
      (pss_one (ps_ret (pe_tup (pa_cons (pe_ifExp (pt_cmpR op_eq (pe_ix ix_tup (pv 1) pe_int (fun _ _ => rfl)) pe_str (nomark _)) pe_str pe_str) (pa_cons (pe_ix ix_tup (pv 1) pe_int (fun _ _ => rfl)) (pa_cons (pe_ix ix_tup (pv 1) pe_int (fun _ _ => rfl)) pa_nil))))))
      pss_nil)
    (pss_one (ps_ret (pe_tup (pa_cons (pe_ix ix_tup (pv 1) pe_int (fun _ _ => rfl)) (pa_cons (pe_ix ix_tup (pv 1) pe_int (fun _ _ => rfl)) (pa_cons (pe_ix ix_tup (pv 1) pe_int (fun _ _ => rfl)) pa_nil))))))))))), ?_⟩
    rcases hk.inv with ⟨a1, c, rfl, rfl, h⟩ | ⟨a1, fb, u1, u2, x, y, rfl, rfl, h, h1, h2⟩
    · refine ⟨_, rfl, _, _, _, _, rfl, rfl, SqT.of h, rfl, rfl, _, rfl, ifP ?_⟩
      exact ⟨_, rfl, q _ _ _ hk rfl (fun _ z => z) (Upto.refl _ _) (hs.le (by omega))⟩
    · rw [nd_ops] at hn hs
      rw [nd_size] at q
      refine ⟨_, rfl, _, _, _, _, rfl, rfl, SqT.of h, rfl, rfl, _, rfl, ifN (nfp fb) ?_⟩
      refine ⟨_, rfl, a, 4, b + (x.ops + y.ops), rfl, by decide, by decide, hs.le (by omega), fun r H1 r0 r1 U1 s1 => ?_⟩
      have hn1 := hs.nt
      have t1 := U1.tk hn1
      have h' := t1 _ _ h
      -- any node of the same form over H1
      have fin : ∀ (fb' : Bool) (v1 v2 : V) (x' y' : Kd Nat) (H2 : Hp), KAt H2 v1 x' → KAt H2 v2 y' → x'.size + y'.size = x.size + y.size → (∀ p : Nat → Prop, x.All p → y.All p → x'.All p ∧ y'.All p) → Upto [a] H H2 → SprAt H2 a b → ∀ p, H2 p = none → Q (.ref p) (upd H2 p (.tup [.str (fmS fb'), v1, v2])) := fun fb' v1 v2 x' y' H2 g1 g2 hz hp U sp p np => by
        have S := same_new np (.tup [.str (fmS fb'), v1, v2])
        refine q _ (WW.nd fb' x' y') _ (KAt.nd upd_same (g1.mono (Same.tk S)) (g2.mono (Same.tk S))) (by rw [nd_size]; exact hz) (fun p hall => nd_all.mpr ?_) (U.trans (Upto.of_same S)) (sp.same S)
        have := nd_all.mp hall
        exact hp p this.1 this.2
      refine ⟨_, rfl, rfl, _, rfl, ite2 (fun c => ?_) (fun c => ?_)⟩
      · refine ⟨_, rfl, _, _, _, _, rfl, rfl, SqT.of h', rfl, _, rfl, _, rfl, _, _, _, _, rfl, rfl, SqT.of h', rfl, a, u1, x, b, rfl, h1.mono t1, by omega, s1.le (by omega), fun v1 k1 H2 g1 z1 al1 U2 s2 => ?_⟩
        have t2 := U2.tk s1.nt
        refine ⟨_, rfl, _, _, _, _, rfl, rfl, SqT.of (t2 _ _ h'), rfl, by show 3 ≤ sizeLine; decide, fun p np => ?_⟩
        exact fin fb v1 u2 k1 y H2 g1 ((h2.mono t1).mono t2) (by omega) (fun p w1 w2 => ⟨al1 p w1, w2⟩) (U1.trans U2) s2 p np
      refine ⟨_, rfl, rfl, _, rfl, ite2 (fun c2 => ?_) (fun c2 => ?_)⟩
      · refine ⟨_, rfl, _, _, _, _, rfl, rfl, SqT.of h', rfl, _, rfl, _, _, _, _, rfl, rfl, SqT.of h', rfl, _, rfl, _, rfl, _, _, _, _, rfl, rfl, SqT.of h', rfl, a, u2, y, b, rfl, h2.mono t1, by omega, s1.le (by omega), fun v1 k1 H2 g1 z1 al1 U2 s2 => ?_⟩
        have t2 := U2.tk s1.nt
        refine ⟨by show 3 ≤ sizeLine; decide, fun p np => ?_⟩
        exact fin fb u1 v1 x k1 H2 ((h1.mono t1).mono t2) g1 (by omega) (fun p w1 w2 => ⟨w1, al1 p w2⟩) (U1.trans U2) s2 p np
      have swapped : ∀ fb' p, H1 p = none → Q (.ref p) (upd H1 p (.tup [.str (fmS fb'), u2, u1])) := fun fb' p np =>
        fin fb' u2 u1 y x H1 (h2.mono t1) (h1.mono t1) (by omega) (fun p w1 w2 => ⟨w2, w1⟩) U1 (s1.le (by omega)) p np
      have last : (tRet (tTup (tCons (tOp (rIxT K) (tVar 1) (tC (.int 0))) (tCons (tOp (rIxT K) (tVar 1) (tC (.int 2))) (tCons (tOp (rIxT K) (tVar 1) (tC (.int 1))) tNil))))) { nx := fun _ H' => Q .non H', rt := Q } [some (.ref a), some (.ref a1), some (.int r)] H1 := by
        refine ⟨_, rfl, _, _, _, _, rfl, rfl, SqT.of h', rfl, _, rfl, _, _, _, _, rfl, rfl, SqT.of h', rfl, _, rfl, _, _, _, _, rfl, rfl, SqT.of h', rfl, by show 3 ≤ sizeLine; decide, fun p np => swapped fb p np⟩
      refine ⟨_, rfl, rfl, _, rfl, ite2 (fun c3 => ?_) (fun c3 => last)⟩
      refine ⟨_, rfl, _, _, _, _, rfl, rfl, SqT.of h', rfl, rfl, _, rfl, ifNN (nfw fb) ?_⟩
      have tail : ∀ fb' : Bool, (tTup (tCons (tC (.str (fmS fb'))) (tCons (tOp (rIxT K) (tVar 1) (tC (.int 2))) (tCons (tOp (rIxT K) (tVar 1) (tC (.int 1))) tNil)))) [some (.ref a), some (.ref a1), some (.int r)] H1 Q := fun fb' =>
        ⟨_, rfl, _, _, _, _, rfl, rfl, SqT.of h', rfl, _, rfl, _, _, _, _, rfl, rfl, SqT.of h', rfl, by show 3 ≤ sizeLine; decide, fun p np => swapped fb' p np⟩
      refine ⟨_, rfl, _, _, _, _, rfl, rfl, SqT.of h', rfl, rfl, _, rfl, ?_⟩
      cases fb
      · exact ifN nab (tail true)
      · exact ifP (tail false)
end
end L2.G
set_option Elab.async false
set_option linter.all false
set_option maxRecDepth 100000
set_option maxHeartbeats 8000000
/-! Slices; the law's longer rows. -/
namespace L2.G
open PySem PySem.Spec PyProof.Rows WW
theorem cutV_take (xs : List V) (k : Nat) : cutV xs none (some ((k : Nat) : Int)) = xs.take k := by
  unfold cutV
  rw [HT.sIx_nat, HT.sIx_none, List.drop_zero, Nat.sub_zero]
  by_cases h : k ≤ xs.length
  · rw [Nat.min_eq_left h]
  · rw [Nat.min_eq_right (by omega), List.take_length, List.take_of_length_le (by omega)]
theorem cutV_drop (xs : List V) (k : Nat) : cutV xs (some ((k : Nat) : Int)) none = xs.drop k := by
  unfold cutV
  rw [HT.sIx_nat, HT.sIx_none]
  by_cases h : k ≤ xs.length
  · rw [Nat.min_eq_left h]
    exact List.take_of_length_le (by rw [List.length_drop]; omega)
  · rw [Nat.min_eq_right (by omega), List.drop_length, List.drop_of_length_le (by omega)]
    simp
theorem cutV_mid (xs : List V) {i j : Nat} (hi : i ≤ xs.length) (hj : j ≤ xs.length) : cutV xs (some ((i : Nat) : Int)) (some ((j : Nat) : Int)) = (xs.drop i).take (j - i) := by
  unfold cutV
  rw [HT.sIx_nat, HT.sIx_nat, Nat.min_eq_left hi, Nat.min_eq_left hj]
theorem cutV_init (xs : List V) : cutV xs none (some (-1)) = xs.take (xs.length - 1) := by
  unfold cutV
  rw [HT.sIx_none, List.drop_zero, Nat.sub_zero]
  congr 1
  unfold HT.sIx
  simp
  omega
/-- the row about a place -/
theorem split_at {α : Type} {xs : List α} {i : Nat} {x : α} (h : xs[i]? = some x) : xs = xs.take i ++ x :: xs.drop (i + 1) := by
  obtain ⟨hl, e⟩ := List.getElem?_eq_some_iff.mp h
  rw [← e, List.getElem_cons_drop, List.take_append_drop]
theorem rsize_at {r : List (Kd Nat)} {i : Nat} {k : Kd Nat} (h : r[i]? = some k) : rsize r = rsize (r.take i) + k.size + rsize (r.drop (i + 1)) := by
  conv => lhs; rw [split_at h]
  rw [rsize_append]
  show _ + (k.size + rsize (r.drop (i + 1))) = _
  omega
/-- a row and its goal at a pair's places -/
structure Outc (ns : List Nat) (H : Hp) (l : Addr) (g : V) (ks : List (Kd Nat)) (k : Kd Nat) : Prop where
  ex : ∃ us, H l = some (.lst us) ∧ KsAt H us ks
  ne : ks ≠ []
  al : ∀ z ∈ ks, z.All (· ∈ ns)
  g : KAt H g k
  ag : k.All (· ∈ ns)
theorem Outc.same {ns : List Nat} {H H' : Hp} {l : Addr} {g : V} {ks : List (Kd Nat)} {k : Kd Nat} (o : Outc ns H l g ks k) (s : Same H H') : Outc ns H' l g ks k := by
  obtain ⟨⟨us, h1, h2⟩, h3, h4, h5, h6⟩ := o
  exact ⟨⟨us, s _ _ h1, h2.mono (Same.tk s)⟩, h3, h4, h5.mono (Same.tk s), h6⟩
theorem Outc.notin {ns : List Nat} {H : Hp} {l a : Addr} {g : V} {ks : List (Kd Nat)} {k : Kd Nat} {n : Nat} (o : Outc ns H l g ks k) (s : SprAt H a n) : l ∉ [a] := fun m => by
  obtain ⟨⟨us, h1, h2⟩, h3, _⟩ := o
  obtain ⟨x, y, z, e, _⟩ := s
  have := List.mem_singleton.mp m
  subst this
  rw [e] at h1
  cases h1
  cases h2 with
  | cons c _ => exact nomatch c
theorem Outc.upto {ns : List Nat} {H H' : Hp} {l a : Addr} {g : V} {ks : List (Kd Nat)} {k : Kd Nat} {n : Nat} (o : Outc ns H l g ks k) (s : SprAt H a n) (u : Upto [a] H H') : Outc ns H' l g ks k := by
  have hn := o.notin s
  obtain ⟨⟨us, h1, h2⟩, h3, h4, h5, h6⟩ := o
  exact ⟨⟨us, u _ _ hn h1, h2.mono (u.tk s.nt)⟩, h3, h4, h5.mono (u.tk s.nt), h6⟩
theorem atI_back {α : Type} {xs : List α} {v : α} (h : xs[xs.length - 1]? = some v) : atI xs (-1) = some v := by
  have e := split_at h
  obtain ⟨hl, _⟩ := List.getElem?_eq_some_iff.mp h
  rw [List.drop_of_length_le (by omega)] at e
  rw [e]
  exact atI_last _ _
theorem iteR {c : Bool} {A R : Prop} (h1 : R) (h2 : c = true → R → A) : if c = true then A else R := by
  cases c
  · exact h1
  · exact h2 rfl h1
def spLonger : SpG := fun vs H Q => ∃ (a : Addr) (ns : List Nat) (l : Addr) (g : V) (ks : List (Kd Nat)) (k : Kd Nat) (b : Nat), vs = [.ref a, .str (tx ns), .int 2, .ref l, g] ∧ ns ≠ [] ∧ ns.length ≤ 100 ∧ Outc ns H l g ks k ∧ ks.length ≤ 100 ∧ SprAt H a (b + 12) ∧
  ∀ (t l' : Addr) (g' : V) (ks' : List (Kd Nat)) (k' : Kd Nat) (H' : Hp), H' t = some (.tup [.ref l', g']) → Outc ns H' l' g' ks' k' → ks'.length ≤ ks.length + 1 → rsize ks' + k'.size ≤ rsize ks + k.size + 6 → Upto [a] H H' → SprAt H' a b → Q (.ref t) H'
section
variable {P : Program} {w : World} {K : PySem.W.Frag} {mg : Str → Option Value} {base : Heap} {C : Addr}
theorem c_longer (T : Txt w K mg C) : GCal P w K mg base 5 "_law_longer" spLonger := by
  have C_sip := c_sip (P := P) (base := base) T
  have C_drawn := c_drawn (P := P) (base := base) T 3
  have C_lifted := c_lifted (P := P) (base := base) T
  refine cal_of T.dL_longer scL_longer (fun vs H Q ⟨_, _, _, _, _, _, _, e, _⟩ => by rw [e]; rfl) fun f cdv A outer s H vs Q hr ⟨a, ns, l, g, ks, k, b, e, hne, hl, hO, hkl, hs, q⟩ => ?_
  subst e
  refine ⟨_, (pss_cons (ps_par (i := 5) (j := 6) rfl scL_longer.nd rfl rfl (by decide) rfl rfl (pa_cons (pe_g C_sip hr (by omega) rfl (pa_cons (pv 0) (pa_cons (pe_ifExp (pt_cmpR op_eq (pv 2) pe_int (nomark _)) pe_int pe_int) pa_nil))) (pa_cons (pe_g C_sip hr (by omega) rfl (pa_cons (pv 0) (pa_cons (pe_callB call_len_seq rfl T.m_len (by decide +kernel) (pa_cons (pv 3) pa_nil)) pa_nil))) pa_nil)) rfl)
    (pss_cons (ps_set (i := 7) scL_longer.nd rfl (by first | exact Or.inl rfl | exact Or.inr rfl) (pe_g C_drawn hr (by omega) rfl (pa_cons (pv 0) (pa_cons (pv 1) (pa_cons (pe_op op_add pe_int (pe_ix ix_list (pe_lst (pa_cons pe_int (pa_cons pe_int (pa_cons pe_int (pa_cons pe_int (pa_cons pe_int (pa_cons pe_int pa_nil))))))) (pe_g C_sip hr (by omega) rfl (pa_cons (pv 0) (pa_cons pe_int pa_nil))) (fun _ _ => rfl))) (pa_cons (pv 2) pa_nil))))))
    (pss_cons (ps_par3 (i := 8) (j := 9) (l := 10) rfl scL_longer.nd rfl rfl rfl (by decide) (by decide) (by decide) rfl rfl rfl (pa_cons (pe_slice sl_list (pv 3) po_none (po_some (pv 6))) (pa_cons (pe_ix ix_list (pv 3) (pv 6) (fun _ _ => rfl)) (pa_cons (pe_slice sl_list (pv 3) (po_some (pe_op op_add (pv 6) pe_int)) po_none) pa_nil))) rfl)
    (pss_cons (ps_if (PW.pt (pw_or (pt_cmpR op_lt (pv 5) pe_int (nomark _)) (pw_or1 (pt_cmpR op_eq (pv 5) pe_int (nomark _)))))
      (pss_one (ps_ret (pe_tup (pa_cons (pe_op op_cat (pe_op op_cat (pv 8) (pe_lst (pa_cons (pe_tup (pa_cons pe_str (pa_cons (pv 9) (pa_cons (pv 7) pa_nil)))) (pa_cons (pv 7) pa_nil)))) (pv 10)) (pa_cons (pv 4) pa_nil)))))
      pss_nil)
    (pss_cons (ps_if (PW.pt (pw_or (pt_cmpR op_lt (pv 5) pe_int (nomark _)) (pw_or1 (pt_cmpR op_eq (pv 5) pe_int (nomark _)))))
      (pss_one (ps_ret (pe_tup (pa_cons (pe_op op_cat (pe_op op_cat (pv 8) (pe_lst (pa_cons (pv 7) (pa_cons (pe_tup (pa_cons pe_str (pa_cons (pv 7) (pa_cons (pv 9) pa_nil)))) pa_nil)))) (pv 10)) (pa_cons (pv 4) pa_nil)))))
      pss_nil)
    (pss_cons (ps_if (PW.pt (pw_and (pt_cmpR op_eq (pv 5) pe_int (nomark _)) (pw_and1 (pt_cmpR op_gt (pe_callB call_len_seq rfl T.m_len (by decide +kernel) (pa_cons (pv 3) pa_nil)) pe_int (nomark _)))))
      (pss_one (ps_ret (pe_tup (pa_cons (pe_slice sl_list (pv 3) po_none (po_some (pe_un un_neg pe_int))) (pa_cons (pe_tup (pa_cons pe_str (pa_cons (pv 4) (pa_cons (pe_ix ix_list (pv 3) (pe_un un_neg pe_int) (fun _ _ => rfl)) pa_nil)))) pa_nil)))))
      pss_nil)
    (pss_cons (ps_if (PW.pt (pw_and (pt_cmpR op_eq (pv 5) pe_int (nomark _)) (pw_and1 (pt_cmpR op_gt (pe_callB call_len_seq rfl T.m_len (by decide +kernel) (pa_cons (pv 3) pa_nil)) pe_int (nomark _)))))
      (pss_one (ps_ret (pe_tup (pa_cons (pe_slice sl_list (pv 3) (po_some pe_int) po_none) (pa_cons (pe_tup (pa_cons pe_str (pa_cons (pe_ix ix_list (pv 3) pe_int (fun _ _ => rfl)) (pa_cons (pv 4) pa_nil)))) pa_nil)))))
      pss_nil)
    (pss_cons (ps_if (PW.pt (pw_or (pt_cmpR op_eq (pv 5) pe_int (nomark _)) (pw_or1 (pt_cmpR op_eq (pv 5) pe_int (nomark _)))))
      (pss_one (ps_ret (pe_tup (pa_cons (pv 3) (pa_cons (pe_g C_lifted hr (by omega) rfl (pa_cons (pv 4) (pa_cons (pv 7) (pa_cons (pe_op op_sub (pv 5) pe_int) pa_nil)))) pa_nil)))))
      pss_nil)
    (pss_cons (ps_if (PW.pt (pw_and (pt_cmpR op_eq (pv 5) pe_int (nomark _)) (pw_and1 (pt_cmpR op_eq (pe_ix ix_tup (pv 9) pe_int (fun _ _ => rfl)) pe_str (nomark _)))))
      (pss_one (ps_ret (pe_tup (pa_cons (pe_op op_cat (pe_op op_cat (pv 8) (pe_lst (pa_cons (pe_tup (pa_cons pe_str (pa_cons (pe_ix ix_tup (pv 9) pe_int (fun _ _ => rfl)) (pa_cons (pe_g C_lifted hr (by omega) rfl (pa_cons (pe_ix ix_tup (pv 9) pe_int (fun _ _ => rfl)) (pa_cons (pv 7) (pa_cons (pe_g C_sip hr (by omega) rfl (pa_cons (pv 0) (pa_cons pe_int pa_nil))) pa_nil)))) pa_nil)))) pa_nil))) (pv 10)) (pa_cons (pv 4) pa_nil)))))
      pss_nil)
    (pss_cons (ps_if (PW.pt (pw_and (pt_cmpR op_eq (pv 5) pe_int (nomark _)) (pw_and1 (pt_cmpR op_eq (pe_ix ix_tup (pv 9) pe_int (fun _ _ => rfl)) pe_str (nomark _)))))
      (pss_one (ps_ret (pe_tup (pa_cons (pe_op op_cat (pe_op op_cat (pv 8) (pe_lst (pa_cons (pe_tup (pa_cons pe_str (pa_cons (pe_g C_lifted hr (by omega) rfl (pa_cons (pe_ix ix_tup (pv 9) pe_int (fun _ _ => rfl)) (pa_cons (pv 7) (pa_cons (pe_g C_sip hr (by omega) rfl (pa_cons (pv 0) (pa_cons pe_int pa_nil))) pa_nil)))) (pa_cons (pe_ix ix_tup (pv 9) pe_int (fun _ _ => rfl)) pa_nil)))) pa_nil))) (pv 10)) (pa_cons (pv 4) pa_nil)))))
      pss_nil)
    (pss_cons (ps_if (PW.pt (pw_and (pt_cmpR op_eq (pv 5) pe_int (nomark _)) (pw_and1 (pt_cmpR (op_neD hr.r.units) (pv 10) (pe_lst pa_nil) (nomark _)))))
      (pss_one ps_never)
      pss_nil)
    (pss_cons (ps_if (PW.pt (pw_and (pt_cmpR op_eq (pv 5) pe_int (nomark _)) (pw_and1 (pt_cmpR op_eq (pe_ix ix_tup (pv 9) pe_int (fun _ _ => rfl)) pe_str (nomark _)))))
      (pss_one ps_never)
      pss_nil)
    (pss_cons (ps_if (pt_cmpR op_eq (pv 5) pe_int (nomark _))
      (pss_one ps_never)
      pss_nil)
    (pss_cons (ps_if (pt_cmpR op_eq (pv 5) pe_int (nomark _))
      (pss_one ps_never)
      pss_nil)
    (pss_one (ps_ret (pe_tup (pa_cons (pv 3) (pa_cons (pv 4) pa_nil))))))))))))))))))), ?_⟩
  have zl : sizeLine = 16777216 := sizeLine_eq
  have hnl := hO.notin hs
  obtain ⟨us, hus, hks⟩ := hO.ex
  have hklen := hks.len
  have hkpos : 0 < ks.length := List.length_pos_iff.mpr hO.ne
  refine ⟨_, rfl, _, rfl, rfl, _, rfl, ifP ⟨a, 13, b + 11, rfl, by decide, by decide, hs.le (by omega), fun r1 H1 r10 r11 U1 s1 => ?_⟩⟩
  have hus1 := U1 _ _ hnl hus
  refine ⟨_, rfl, _, rfl, _, _, rfl, .inl (SqL.of hus1), a, _, b + 10, rfl, by omega, by omega, s1.le (by omega), fun r2 H2 r20 r21 U2 s2 => ?_⟩
  have hO2 : Outc ns H2 l g ks k := (hO.upto hs U1).upto s1 U2
  have hus2 := U2 _ _ hnl hus1
  obtain ⟨sp, rfl⟩ : ∃ n : Nat, r2 = ((n : Nat) : Int) := ⟨r2.toNat, by omega⟩
  refine ⟨_, _, rfl, _, rfl, _, rfl, by show 6 ≤ sizeLine; decide, fun p3 np3 => ?_⟩
  have S3 := same_new np3 (.lst [.int 0, .int 0, .int 0, .int 1, .int 1, .int 2])
  have pa3 : p3 ∉ [a] := fun h => by
    obtain ⟨x, y, z, e, _⟩ := s2
    have := List.mem_singleton.mp h
    subst this
    rw [np3] at e; cases e
  refine ⟨_, rfl, a, 6, b + 9, rfl, by decide, by decide, (s2.same S3).le (by omega), fun r4 H4 r40 r41 U4 s4 => ?_⟩
  have hl4 := U4 p3 _ pa3 (upd_same (o := .lst [.int 0, .int 0, .int 0, .int 1, .int 1, .int 2]))
  obtain ⟨m, hm, hm2⟩ : ∃ m : Nat, atI [V.int 0, .int 0, .int 0, .int 1, .int 1, .int 2] r4 = some (.int (m : Nat)) ∧ m ≤ 2 := by
    have : r4 = 0 ∨ r4 = 1 ∨ r4 = 2 ∨ r4 = 3 ∨ r4 = 4 ∨ r4 = 5 := by omega
    rcases this with rfl | rfl | rfl | rfl | rfl | rfl
    · exact ⟨0, rfl, by omega⟩
    · exact ⟨0, rfl, by omega⟩
    · exact ⟨0, rfl, by omega⟩
    · exact ⟨1, rfl, by omega⟩
    · exact ⟨1, rfl, by omega⟩
    · exact ⟨2, rfl, by omega⟩
  refine ⟨p3, _, r4, _, rfl, rfl, SqL.of hl4, hm, _, _, rfl, rfl, _, rfl, a, ns, 1 + m, b + 1, (by show [V.ref a, V.str (tx ns), V.int ((1 : Int) + ((m : Nat) : Int)), V.int 2] = _; rw [show (1 : Int) + ((m : Nat) : Int) = ((1 + m : Nat) : Int) by omega]), hne, hl, by omega, by omega, by omega, s4.le (by omega), fun v5 k5 H5 hk5 hz5 ha5 U5 s5 => ?_⟩
  have U05 : Upto [a] H H5 := (((U1.trans U2).trans (Upto.of_same S3)).trans U4).trans U5
  have hO5 : Outc ns H5 l g ks k := hO.upto hs U05
  have hus5 : H5 l = some (.lst us) := U05 _ _ hnl hus
  have hks5 : KsAt H5 us ks := hks.mono (U05.tk hs.nt)
  have hk5s : 1 ≤ k5.size ∧ k5.size ≤ 3 := by omega
  -- left, here, right
  refine ⟨_, rfl, _, rfl, _, rfl, l, us, rfl, SqL.of hus5, fun p6 np6 => ?_⟩
  rw [cutV_take]
  have S6 := same_new np6 (.lst (us.take sp))
  obtain ⟨x, hx⟩ : ∃ x, us[sp]? = some x := ⟨us[sp]'(by omega), by simp⟩
  obtain ⟨kx, hkx, hxk⟩ := KsAt.get' hks5 hx
  refine ⟨_, rfl, _, rfl, _, _, _, _, rfl, rfl, SqL.of (S6 _ _ hus5), atI_nat hx, ?_⟩
  refine ⟨_, rfl, _, rfl, _, _, rfl, rfl, _, rfl, l, us, rfl, SqL.of (S6 _ _ hus5), fun p7 np7 => ?_⟩
  rw [show ((sp : Nat) : Int) + 1 = ((sp + 1 : Nat) : Int) by omega, cutV_drop]
  have S7 := same_new np7 (.lst (us.drop (sp + 1)))
  generalize hH7 : upd (upd H5 p6 (.lst (us.take sp))) p7 (.lst (us.drop (sp + 1))) = H7
  rw [hH7] at S7
  have hL7 : H7 p6 = some (.lst (us.take sp)) := S7 _ _ upd_same
  have hR7 : H7 p7 = some (.lst (us.drop (sp + 1))) := by rw [← hH7]; exact upd_same
  have S57 : Same H5 H7 := S6.trans S7
  have U07 : Upto [a] H H7 := U05.trans (Upto.of_same S57)
  have s7 : SprAt H7 a (b + 1) := s5.same S57
  have hO7 := hO5.same S57
  have hk7 := hk5.mono (Same.tk S57)
  have hx7 := hxk.mono (Same.tk S57)
  have hks7 := hks5.mono (Same.tk S57)
  have hus7 := S57 _ _ hus5
  have hkxl : sp < ks.length := by omega
  have hp6 : p6 ∉ [a] := fun h => by
    obtain ⟨x, y, z, e, _⟩ := s5
    have := List.mem_singleton.mp h
    subst this
    rw [np6] at e; cases e
  have hp7 : p7 ∉ [a] := fun h => by
    obtain ⟨x, y, z, e, _⟩ := s5
    have := List.mem_singleton.mp h
    subst this
    rw [S6 _ _ e] at np7; cases np7
  have hsz := rsize_at hkx
  have haks := hO.al
  have hakx : kx.All (· ∈ ns) := haks _ (mem_of_get hkx)
  -- the tuple at the end
  have fin : ∀ (l' : Addr) (g' : V) (ks' : List (Kd Nat)) (k' : Kd Nat) (H' : Hp), Outc ns H' l' g' ks' k' → ks'.length ≤ ks.length + 1 → rsize ks' + k'.size ≤ rsize ks + k.size + 6 → Upto [a] H H' → SprAt H' a b →
      [V.ref l', g'].length ≤ sizeLine ∧ ∀ p, H' p = none → Q (.ref p) (upd H' p (.tup [.ref l', g'])) := fun l' g' ks' k' H' o h1 h2 u sp => ⟨by show 2 ≤ sizeLine; decide, fun p np => by
    have S := same_new np (.tup [.ref l', g'])
    exact q p l' g' ks' k' _ upd_same (o.same S) h1 h2 (u.trans (Upto.of_same S)) (sp.same S)⟩
  -- left + [..] + right
  have fin3 : ∀ (xs : List V) (ms : List (Kd Nat)) (H8 : Hp), KsAt H8 xs ms → Upto [a] H7 H8 → SprAt H8 a b → ms.length ≤ 2 → 1 ≤ ms.length → rsize ms ≤ kx.size + 6 → (∀ z ∈ ms, z.All (· ∈ ns)) →
      xs.length ≤ sizeLine ∧ ∀ p, H8 p = none → rCat (.ref p6) (.ref p) (upd H8 p (.lst xs)) fun y H9 => ∃ w2, (some (some (V.ref p7)) : Option (Option V)) = some (some w2) ∧ rCat y w2 H9 fun z H10 => ∃ g2, (some (some g) : Option (Option V)) = some (some g2) ∧
        ([z, g2].length ≤ sizeLine ∧ ∀ p, H10 p = none → Q (.ref p) (upd H10 p (.tup [z, g2]))) := fun xs ms H8 hxs U8 s8 hm1 hm0 hmz hma => by
    have hxl := hxs.len
    refine ⟨by omega, fun p np => ?_⟩
    have Sa := same_new np (.lst xs)
    have hL8 := U8 _ _ hp6 hL7
    have hR8 := U8 _ _ hp7 hR7
    refine ⟨p6, p, us.take sp, xs, rfl, rfl, Sa _ _ hL8, upd_same, by rw [List.length_take]; omega, fun p9 np9 => ?_⟩
    have Sb := same_new np9 (.lst (us.take sp ++ xs))
    refine ⟨_, rfl, p9, p7, _, _, rfl, rfl, upd_same, Sb _ _ (Sa _ _ hR8), by rw [List.length_append, List.length_take, List.length_drop]; omega, fun p10 np10 => ?_⟩
    have Sc := same_new np10 (.lst (us.take sp ++ xs ++ us.drop (sp + 1)))
    have Sabc := (Sa.trans Sb).trans Sc
    have t78 := U8.tk s7.nt
    have O8 : KsAt H8 (us.take sp ++ xs ++ us.drop (sp + 1)) (ks.take sp ++ ms ++ ks.drop (sp + 1)) := (((hks7.mono t78).take sp).append hxs).append ((hks7.mono t78).drop (sp + 1))
    refine ⟨_, rfl, fin p10 g (ks.take sp ++ ms ++ ks.drop (sp + 1)) k _ ⟨⟨_, upd_same, O8.mono (Same.tk Sabc)⟩, ?_, ?_, (hO7.g.mono t78).mono (Same.tk Sabc), hO.ag⟩ ?_ ?_ ((U07.trans U8).trans (Upto.of_same Sabc)) (s8.same Sabc)⟩
    · intro h0
      have := congrArg List.length h0
      simp only [List.length_append, List.length_take, List.length_drop, List.length_nil] at this
      omega
    · intro z hz
      rcases List.mem_append.mp hz with hz | hz
      · rcases List.mem_append.mp hz with hz | hz
        · exact haks z (List.mem_of_mem_take hz)
        · exact hma z hz
      · exact haks z (List.mem_of_mem_drop hz)
    · simp only [List.length_append, List.length_take, List.length_drop]; omega
    · rw [rsize_append, rsize_append]; omega
  have al2 : ∀ {k1 k2 : Kd Nat}, k1.All (· ∈ ns) → k2.All (· ∈ ns) → ∀ z ∈ [k1, k2], z.All (· ∈ ns) := fun h1 h2 z hz => by
    rcases List.mem_cons.mp hz with e | hz
    · rw [e]; exact h1
    · rw [List.mem_singleton.mp hz]; exact h2
  have al1 : ∀ {k1 : Kd Nat}, k1.All (· ∈ ns) → ∀ z ∈ [k1], z.All (· ∈ ns) := fun h1 z hz => by
    rw [List.mem_singleton.mp hz]; exact h1
  -- way < 4
  refine ⟨_, _, _, rfl, ?_⟩
  refine ⟨_, rfl, _, _, rfl, rfl, _, rfl, ite2 (fun c => iteT ?_) (fun c => ?_)⟩
  · refine ⟨_, rfl, _, rfl, _, rfl, by show 3 ≤ sizeLine; decide, fun p np => ⟨_, rfl, ?_⟩⟩
    have S := same_new np (.tup [.str "behind", x, v5])
    exact fin3 [.ref p, v5] [.b kx k5, k5] _ (.cons (.b upd_same (hx7.mono (Same.tk S)) (hk7.mono (Same.tk S))) (.cons (hk7.mono (Same.tk S)) .nil)) (Upto.of_same S) ((s7.same S).le (by omega)) (Nat.le_refl 2) (Nat.le_succ 1) (by show (Kd.b kx k5).size + (k5.size + 0) ≤ _; simp only [Kd.size]; omega) (al2 ⟨hakx, ha5⟩ ha5)
  have w4 : 4 ≤ r1 := by have := of_decide_eq_false (Bool.eq_false_iff.mpr c); omega
  have noteq : ∀ {j : Int}, r1 ≠ j → V.int r1 ≠ V.int j := fun h e => by injection e; contradiction
  refine ⟨_, rfl, rfl, _, rfl, ifN (noteq (by omega)) ?_⟩
  refine ⟨_, rfl, _, _, rfl, rfl, _, rfl, ite2 (fun c => iteT ?_) (fun c => ?_)⟩
  · refine ⟨_, rfl, _, rfl, _, rfl, _, rfl, by show 3 ≤ sizeLine; decide, fun p np => ?_⟩
    have S := same_new np (.tup [.str "ahead", v5, x])
    exact fin3 [v5, .ref p] [k5, .a k5 kx] _ (.cons (hk7.mono (Same.tk S)) (.cons (.a upd_same (hk7.mono (Same.tk S)) (hx7.mono (Same.tk S))) .nil)) (Upto.of_same S) ((s7.same S).le (by omega)) (Nat.le_refl 2) (Nat.le_succ 1) (by show k5.size + ((Kd.a k5 kx).size + 0) ≤ _; simp only [Kd.size]; omega) (al2 ha5 ⟨ha5, hakx⟩)
  have w8 : 8 ≤ r1 := by have := of_decide_eq_false (Bool.eq_false_iff.mpr c); omega
  refine ⟨_, rfl, rfl, _, rfl, ifN (noteq (by omega)) ?_⟩
  have last : ∀ y0 : Hp, y0 = H7 → (tRet (tTup (tCons (tVar 3) (tCons (tVar 4) tNil)))) { nx := fun _ H' => Q .non H', rt := Q } [some (.ref a), some (.str (tx ns)), some (.int 2), some (.ref l), some g, some (.int r1), some (.int (sp : Nat)), some v5, some (.ref p6), some x, some (.ref p7)] H7 := fun _ _ =>
    ⟨_, rfl, _, rfl, fin l g ks k H7 hO7 (by omega) (by omega) U07 (s7.le (by omega))⟩
  -- way 8
  refine ⟨_, rfl, rfl, _, rfl, iteR ?_ (fun c R => ?_)⟩
  case refine_2 =>
    refine ⟨_, rfl, _, _, rfl, .inl (SqL.of hus7), _, _, rfl, rfl, _, rfl, ite2 (fun c2 => ?_) (fun c2 => R)⟩
    refine ⟨_, rfl, _, rfl, _, rfl, l, us, rfl, SqL.of hus7, fun p np => ?_⟩
    rw [cutV_init]
    have S := same_new np (.lst (us.take (us.length - 1)))
    obtain ⟨xl, hxl⟩ : ∃ x, us[us.length - 1]? = some x := ⟨us[us.length - 1]'(by omega), by simp⟩
    obtain ⟨kl, hkl', hkv⟩ := KsAt.get' hks7 hxl
    refine ⟨_, rfl, _, rfl, _, rfl, _, _, _, _, rfl, rfl, SqL.of (S _ _ hus7), atI_back hxl, by show 3 ≤ sizeLine; decide, fun p2 np2 => ?_⟩
    have S2 := same_new np2 (.tup [.str "behind", g, xl])
    have S12 := S.trans S2
    have h2l : 2 ≤ us.length := by have := of_decide_eq_true c2; omega
    have hz := rsize_at hkl'
    rw [List.drop_of_length_le (by omega)] at hz
    have hz0 : rsize ([] : List (Kd Nat)) = 0 := rfl
    refine fin p (.ref p2) (ks.take (us.length - 1)) (.b k kl) _ ⟨⟨_, S2 _ _ upd_same, (hks7.take _).mono (Same.tk S12)⟩, ?_, fun z hz => haks z (List.mem_of_mem_take hz), .b upd_same (hO7.g.mono (Same.tk S12)) (hkv.mono (Same.tk S12)), hO.ag, haks kl (mem_of_get hkl')⟩ ?_ ?_ (U07.trans (Upto.of_same S12)) ((s7.same S12).le (by omega))
    · intro h0
      have := congrArg List.length h0
      simp only [List.length_take, List.length_nil] at this
      omega
    · rw [List.length_take]; omega
    · simp only [Kd.size]; omega
  -- way 9
  refine ⟨_, rfl, rfl, _, rfl, iteR ?_ (fun c R => ?_)⟩
  case refine_2 =>
    refine ⟨_, rfl, _, _, rfl, .inl (SqL.of hus7), _, _, rfl, rfl, _, rfl, ite2 (fun c2 => ?_) (fun c2 => R)⟩
    refine ⟨_, rfl, _, rfl, l, us, rfl, SqL.of hus7, fun p np => ?_⟩
    rw [show (1 : Int) = ((1 : Nat) : Int) from rfl, cutV_drop]
    have S := same_new np (.lst (us.drop 1))
    obtain ⟨xl, hxl⟩ : ∃ x, us[0]? = some x := ⟨us[0]'(by omega), by simp⟩
    obtain ⟨kl, hkl', hkv⟩ := KsAt.get' hks7 hxl
    refine ⟨_, rfl, _, _, _, _, rfl, rfl, SqL.of (S _ _ hus7), atI_nat hxl, _, rfl, by show 3 ≤ sizeLine; decide, fun p2 np2 => ?_⟩
    have S2 := same_new np2 (.tup [.str "ahead", xl, g])
    have S12 := S.trans S2
    have h2l : 2 ≤ us.length := by have := of_decide_eq_true c2; omega
    have hz := rsize_at hkl'
    rw [List.take_zero, Nat.zero_add] at hz
    have hz0 : rsize ([] : List (Kd Nat)) = 0 := rfl
    refine fin p (.ref p2) (ks.drop 1) (.a kl k) _ ⟨⟨_, S2 _ _ upd_same, (hks7.drop _).mono (Same.tk S12)⟩, ?_, fun z hz => haks z (List.mem_of_mem_drop hz), .a upd_same (hkv.mono (Same.tk S12)) (hO7.g.mono (Same.tk S12)), haks kl (mem_of_get hkl'), hO.ag⟩ ?_ ?_ (U07.trans (Upto.of_same S12)) ((s7.same S12).le (by omega))
    · intro h0
      have := congrArg List.length h0
      simp only [List.length_drop, List.length_nil] at this
      omega
    · rw [List.length_drop]; omega
    · simp only [Kd.size]; omega
  -- way 10, 11
  have lift : (tRet (tTup (tCons (tVar 3) (tCons (tCallG spLifted (tCons (tVar 4) (tCons (tVar 7) (tCons (tOp (rI0 fun i j => .int (i - j)) (tVar 5) (tC (.int 10))) tNil)))) tNil)))) { nx := fun _ H' => Q .non H', rt := Q } [some (.ref a), some (.str (tx ns)), some (.int 2), some (.ref l), some g, some (.int r1), some (.int (sp : Nat)), some v5, some (.ref p6), some x, some (.ref p7)] H7 := by
    refine ⟨_, rfl, _, rfl, _, rfl, _, rfl, _, _, rfl, rfl, g, v5, k, k5, _, rfl, hO7.g, hk7, fun r m2 H8 S8 hm8 hz8 hal8 => ?_⟩
    exact fin l r ks m2 _ ⟨⟨us, S8 _ _ hus7, hks7.mono (Same.tk S8)⟩, hO.ne, haks, hm8, hal8 _ hO.ag ha5⟩ (by omega) (by omega) (U07.trans (Upto.of_same S8)) ((s7.same S8).le (by omega))
  refine ⟨_, rfl, rfl, _, rfl, ite2 (fun c => lift) (fun c => ?_)⟩
  refine ⟨_, rfl, rfl, _, rfl, ite2 (fun c => lift) (fun c => ?_)⟩
  -- way 12
  refine ⟨_, rfl, rfl, _, rfl, iteR ?_ (fun c R => ?_)⟩
  case refine_2 =>
    rcases hx7.inv with ⟨a1, cc, rfl, rfl, h⟩ | ⟨a1, fb, u1, u2, kx1, kx2, rfl, rfl, h, h1, h2⟩
    · exact ⟨_, rfl, _, _, _, _, rfl, rfl, SqT.of h, rfl, rfl, _, rfl, ifN npb R⟩
    cases fb with
    | false => exact ⟨_, rfl, _, _, _, _, rfl, rfl, SqT.of h, rfl, rfl, _, rfl, ifN nab R⟩
    | true =>
      rw [nd_size] at hsz
      refine ⟨_, rfl, _, _, _, _, rfl, rfl, SqT.of h, rfl, rfl, _, rfl, ifP ?_⟩
      refine ⟨_, rfl, _, rfl, _, _, _, _, rfl, rfl, SqT.of h, rfl, _, rfl, _, _, _, _, rfl, rfl, SqT.of h, rfl, _, rfl, _, rfl, a, 2, b, rfl, by decide, by decide, s7, fun r8 H8 _ _ U8 s8 => ?_⟩
      have t8 := U8.tk s7.nt
      refine ⟨u2, v5, kx2, k5, _, rfl, h2.mono t8, hk7.mono t8, fun r m2 H9 S9 hm9 hz9 hal9 => ?_⟩
      refine ⟨by show 3 ≤ sizeLine; decide, fun p np => ?_⟩
      have S := same_new np (.tup [.str "behind", u1, r])
      have ha' := nd_all.mp hakx
      exact fin3 [.ref p] [.b kx1 m2] _ (.cons (.b upd_same (((h1.mono t8).mono (Same.tk S9)).mono (Same.tk S)) (hm9.mono (Same.tk S))) .nil) ((U8.trans (Upto.of_same S9)).trans (Upto.of_same S)) ((s8.same S9).same S) (Nat.le_succ 1) (Nat.le_refl 1)
        (by show (Kd.b kx1 m2).size + 0 ≤ _; rw [nd_size]; simp only [Kd.size]; omega) (al1 ⟨ha'.1, hal9 _ ha'.2 ha5⟩)
  refine ⟨_, rfl, rfl, _, rfl, iteR ?_ (fun c R => ?_)⟩
  case refine_2 =>
    rcases hx7.inv with ⟨a1, cc, rfl, rfl, h⟩ | ⟨a1, fb, u1, u2, kx1, kx2, rfl, rfl, h, h1, h2⟩
    · exact ⟨_, rfl, _, _, _, _, rfl, rfl, SqT.of h, rfl, rfl, _, rfl, ifN npa R⟩
    cases fb with
    | true => exact ⟨_, rfl, _, _, _, _, rfl, rfl, SqT.of h, rfl, rfl, _, rfl, ifN nba R⟩
    | false =>
      rw [nd_size] at hsz
      refine ⟨_, rfl, _, _, _, _, rfl, rfl, SqT.of h, rfl, rfl, _, rfl, ifP ?_⟩
      refine ⟨_, rfl, _, rfl, _, _, _, _, rfl, rfl, SqT.of h, rfl, _, rfl, _, rfl, a, 2, b, rfl, by decide, by decide, s7, fun r8 H8 _ _ U8 s8 => ?_⟩
      have t8 := U8.tk s7.nt
      refine ⟨u1, v5, kx1, k5, _, rfl, h1.mono t8, hk7.mono t8, fun r m2 H9 S9 hm9 hz9 hal9 => ?_⟩
      refine ⟨_, rfl, _, _, _, _, rfl, rfl, SqT.of (S9 _ _ (t8 _ _ h)), rfl, by show 3 ≤ sizeLine; decide, fun p np => ?_⟩
      have S := same_new np (.tup [.str "ahead", r, u2])
      have ha' := nd_all.mp hakx
      exact fin3 [.ref p] [.a m2 kx2] _ (.cons (.a upd_same (hm9.mono (Same.tk S)) (((h2.mono t8).mono (Same.tk S9)).mono (Same.tk S))) .nil) ((U8.trans (Upto.of_same S9)).trans (Upto.of_same S)) ((s8.same S9).same S) (Nat.le_succ 1) (Nat.le_refl 1)
        (by show (Kd.a m2 kx2).size + 0 ≤ _; rw [nd_size]; simp only [Kd.size]; omega) (al1 ⟨hal9 _ ha'.1 ha5, ha'.2⟩)
  refine ⟨_, rfl, rfl, _, rfl, ifN (noteq (by omega)) ?_⟩
  refine ⟨_, rfl, rfl, _, rfl, ifN (noteq (by omega)) ?_⟩
  refine ⟨_, rfl, rfl, _, rfl, ifN (noteq (by omega)) ?_⟩
  refine ⟨_, rfl, rfl, _, rfl, ifN (noteq (by omega)) ?_⟩
  exact last _ rfl
end
end L2.G
set_option Elab.async false
set_option linter.all false
set_option maxRecDepth 100000
set_option maxHeartbeats 8000000
/-! Kinds as plain data; the law's row. -/
namespace L2.G
open PySem PySem.Spec PyProof.Rows WW
def kdat : Kd Nat → PyData
  | .p c => .tuple [.str "plain", .str (ch c)]
  | .b x y => .tuple [.str "behind", kdat x, kdat y]
  | .a y x => .tuple [.str "ahead", kdat y, kdat x]
theorem ch_inj {c d : Nat} (h : ch c = ch d) : c = d := by
  have := congrArg (fun x : Str => x.cps.toList) h
  simpa using this
theorem eqv_str (x y : Str) : PyData.eqv (.str x) (.str y) = (x == y) := by rw [PyData.eqv]
theorem eqv_tup (xs ys : List PyData) : PyData.eqv (.tuple xs) (.tuple ys) = PyData.eqvAll xs ys := by rw [PyData.eqv]
theorem eqv_lst (xs ys : List PyData) : PyData.eqv (.list xs) (.list ys) = PyData.eqvAll xs ys := by rw [PyData.eqv]
theorem eqvAll_cons (x y : PyData) (xs ys : List PyData) : PyData.eqvAll (x :: xs) (y :: ys) = (PyData.eqv x y && PyData.eqvAll xs ys) := by rw [PyData.eqvAll]
theorem eqvAll_nil : PyData.eqvAll [] [] = true := by rw [PyData.eqvAll]
theorem eqvAll_nc (x : PyData) (xs : List PyData) : PyData.eqvAll [] (x :: xs) = false := by rw [PyData.eqvAll]
theorem eqvAll_cn (x : PyData) (xs : List PyData) : PyData.eqvAll (x :: xs) [] = false := by rw [PyData.eqvAll]
theorem kdat_eqv : ∀ x y : Kd Nat, PyData.eqv (kdat x) (kdat y) = true ↔ x = y := by
  intro x
  induction x with
  | p c =>
    intro y
    cases y with
    | p d =>
      rw [kdat, kdat, eqv_tup, eqvAll_cons, eqvAll_cons, eqvAll_nil, eqv_str, eqv_str]
      simp only [beq_self_eq_true, Bool.true_and, Bool.and_true, beq_iff_eq]
      exact ⟨fun h => by rw [ch_inj h], fun h => by injection h with h; rw [h]⟩
    | b z t =>
      rw [kdat, kdat, eqv_tup, eqvAll_cons, eqv_str, show ((("plain" : Str) == ("behind" : Str)) = false) from by decide +kernel, Bool.false_and]
      exact ⟨fun h => (nomatch h), fun h => (nomatch h)⟩
    | a z t =>
      rw [kdat, kdat, eqv_tup, eqvAll_cons, eqv_str, show ((("plain" : Str) == ("ahead" : Str)) = false) from by decide +kernel, Bool.false_and]
      exact ⟨fun h => (nomatch h), fun h => (nomatch h)⟩
  | b u v hu hv =>
    intro y
    cases y with
    | p d =>
      rw [kdat, kdat, eqv_tup, eqvAll_cons, eqv_str, show ((("behind" : Str) == ("plain" : Str)) = false) from by decide +kernel, Bool.false_and]
      exact ⟨fun h => (nomatch h), fun h => (nomatch h)⟩
    | b z t =>
      rw [kdat, kdat, eqv_tup, eqvAll_cons, eqvAll_cons, eqvAll_cons, eqvAll_nil, eqv_str]
      simp only [beq_self_eq_true, Bool.true_and, Bool.and_true, Bool.and_eq_true, hu, hv]
      exact ⟨fun ⟨h1, h2⟩ => by rw [h1, h2], fun h => by injection h with h1 h2; exact ⟨h1, h2⟩⟩
    | a z t =>
      rw [kdat, kdat, eqv_tup, eqvAll_cons, eqv_str, show ((("behind" : Str) == ("ahead" : Str)) = false) from by decide +kernel, Bool.false_and]
      exact ⟨fun h => (nomatch h), fun h => (nomatch h)⟩
  | a u v hu hv =>
    intro y
    cases y with
    | p d =>
      rw [kdat, kdat, eqv_tup, eqvAll_cons, eqv_str, show ((("ahead" : Str) == ("plain" : Str)) = false) from by decide +kernel, Bool.false_and]
      exact ⟨fun h => (nomatch h), fun h => (nomatch h)⟩
    | a z t =>
      rw [kdat, kdat, eqv_tup, eqvAll_cons, eqvAll_cons, eqvAll_cons, eqvAll_nil, eqv_str]
      simp only [beq_self_eq_true, Bool.true_and, Bool.and_true, Bool.and_eq_true, hu, hv]
      exact ⟨fun ⟨h1, h2⟩ => by rw [h1, h2], fun h => by injection h with h1 h2; exact ⟨h1, h2⟩⟩
    | b z t =>
      rw [kdat, kdat, eqv_tup, eqvAll_cons, eqv_str, show ((("ahead" : Str) == ("behind" : Str)) = false) from by decide +kernel, Bool.false_and]
      exact ⟨fun h => (nomatch h), fun h => (nomatch h)⟩
theorem kdats_eqv : ∀ xs ys : List (Kd Nat), PyData.eqvAll (xs.map kdat) (ys.map kdat) = true ↔ xs = ys
  | [], [] => by simp [eqvAll_nil]
  | [], y :: ys => by simp [eqvAll_nc]
  | x :: xs, [] => by simp [eqvAll_cn]
  | x :: xs, y :: ys => by
    rw [List.map_cons, List.map_cons, eqvAll_cons, Bool.and_eq_true, kdat_eqv, kdats_eqv xs ys, List.cons.injEq]
theorem eqv_kdat (x y : Kd Nat) : PyData.eqv (kdat x) (kdat y) = decide (x = y) := by
  rcases Bool.eq_false_or_eq_true (PyData.eqv (kdat x) (kdat y)) with h | h
  · rw [h]; exact (decide_eq_true ((kdat_eqv x y).mp h)).symm
  · rw [h]; exact (decide_eq_false fun e => by rw [(kdat_eqv x y).mpr e] at h; cases h).symm
theorem eqv_kdats (xs ys : List (Kd Nat)) : PyData.eqv (.list (xs.map kdat)) (.list (ys.map kdat)) = decide (xs = ys) := by
  rw [eqv_lst]
  rcases Bool.eq_false_or_eq_true (PyData.eqvAll (xs.map kdat) (ys.map kdat)) with h | h
  · rw [h]; exact (decide_eq_true ((kdats_eqv xs ys).mp h)).symm
  · rw [h]; exact (decide_eq_false fun e => by rw [(kdats_eqv xs ys).mpr e] at h; cases h).symm
theorem KAt.dp {K : PySem.W.Frag} {H : Hp} {v : V} {k : Kd Nat} (h : KAt H v k) : Dp K H v (kdat k) := by
  induction h with
  | p h => exact .tup (SqT.of h) (.cons (.str _) (.cons (.str _) .nil))
  | b h _ _ i1 i2 => exact .tup (SqT.of h) (.cons (.str _) (.cons i1 (.cons i2 .nil)))
  | a h _ _ i1 i2 => exact .tup (SqT.of h) (.cons (.str _) (.cons i1 (.cons i2 .nil)))
theorem KsAt.dpAll {K : PySem.W.Frag} {H : Hp} : ∀ {vs : List V} {ks : List (Kd Nat)}, KsAt H vs ks → DpAll K H vs (ks.map kdat)
  | _, _, .nil => .nil
  | _, _, .cons a r => .cons a.dp (KsAt.dpAll r)
theorem strOk_ch {c : Nat} (h : Az c) : PyData.strOk (ch c) = true := by
  have := h.2
  simp [PyData.strOk]
  omega
theorem kdat_canLay : ∀ {k : Kd Nat}, k.All Az → PyData.canLay0 (kdat k) = true
  | .p c, h => by simp [kdat, PyData.canLay0, PyData.canLayAll0, strOk_ch h]; decide +kernel
  | .b x y, h => by simp [kdat, PyData.canLay0, PyData.canLayAll0, kdat_canLay h.1, kdat_canLay h.2]; decide +kernel
  | .a x y, h => by simp [kdat, PyData.canLay0, PyData.canLayAll0, kdat_canLay h.1, kdat_canLay h.2]; decide +kernel
theorem kdat_depth : ∀ k : Kd Nat, PyData.depth (kdat k) = k.depth
  | .p c => by simp [kdat, PyData.depth, PyData.depthAll, Kd.depth]
  | .b x y => by simp [kdat, PyData.depth, PyData.depthAll, Kd.depth, kdat_depth x, kdat_depth y]; omega
  | .a x y => by simp [kdat, PyData.depth, PyData.depthAll, Kd.depth, kdat_depth x, kdat_depth y]; omega
theorem kdat_shaped {k : Kd Nat} (h : k.All Az) (hs : k.size ≤ 64) : SeqAt.shaped (kdat k) = true := by
  have := k.depth_le
  have := k.ops_size
  exact Bool.and_eq_true_iff.mpr ⟨kdat_canLay h, decide_eq_true (by rw [kdat_depth]; omega)⟩
theorem kdats_canLay : ∀ {ks : List (Kd Nat)}, (∀ k ∈ ks, k.All Az) → PyData.canLayAll0 (ks.map kdat) = true
  | [], _ => by simp [PyData.canLayAll0]
  | k :: ks, h => by
    rw [List.map_cons, PyData.canLayAll0, kdat_canLay (h k List.mem_cons_self), kdats_canLay fun z hz => h z (List.mem_cons_of_mem _ hz)]; rfl
theorem kdats_depth : ∀ {ks : List (Kd Nat)} {n : Nat}, (∀ k ∈ ks, k.depth ≤ n) → PyData.depthAll (ks.map kdat) ≤ n
  | [], n, _ => by simp [PyData.depthAll]
  | k :: ks, n, h => by
    rw [List.map_cons, PyData.depthAll, kdat_depth]
    have := h k List.mem_cons_self
    have := kdats_depth (ks := ks) fun z hz => h z (List.mem_cons_of_mem _ hz)
    omega
theorem kdats_shaped {ks : List (Kd Nat)} (h : ∀ k ∈ ks, k.All Az) (hs : ∀ k ∈ ks, k.size ≤ 63) : SeqAt.shaped (.list (ks.map kdat)) = true := by
  refine Bool.and_eq_true_iff.mpr ⟨by rw [PyData.canLay0]; exact kdats_canLay h, decide_eq_true ?_⟩
  rw [PyData.depth]
  have := kdats_depth (ks := ks) (n := 63) fun k hk => by
    have := k.depth_le
    have := k.ops_size
    have := hs k hk
    omega
  omega
theorem KsAt.dp {K : PySem.W.Frag} {H : Hp} {a : Addr} {vs : List V} {ks : List (Kd Nat)} (ha : H a = some (.lst vs)) (h : KsAt H vs ks) : Dp K H (.ref a) (.list (ks.map kdat)) := .lst (SqL.of ha) h.dpAll
def spRow : SpG := fun vs H Q => ∃ (a : Addr) (ns : List Nat) (M b : Nat), vs = [.ref a, .str (tx ns), .int (M : Nat)] ∧ ns ≠ [] ∧ ns.length ≤ 100 ∧ (∀ c ∈ ns, Az c) ∧ 4 ≤ M ∧ M ≤ 13 ∧ SprAt H a (b + (9 + 12 * M)) ∧
  ∀ (t l : Addr) (g : V) (ks : List (Kd Nat)) (k : Kd Nat) (H' : Hp), H' t = some (.tup [.ref l, g]) → Outc ns H' l g ks k → ks.length ≤ 6 → rsize ks ≤ M → k.size ≤ 3 → Upto [a] H H' → SprAt H' a b → Q (.ref t) H'
section
variable {P : Program} {w : World} {K : PySem.W.Frag} {mg : Str → Option Value} {base : Heap} {C : Addr}
theorem c_row (T : Txt w K mg C) : GCal P w K mg base 33 "_law_row" spRow := by
  have C_sip := c_sip (P := P) (base := base) T
  have C_drawn := c_drawn (P := P) (base := base) T 3
  have C_longer := c_longer (P := P) (base := base) T
  have C_fits := c_fits (P := P) (base := base) T 31
  have C_size := c_size (P := P) (base := base) T 31
  refine cal_of T.dL_row scL_row (fun vs H Q ⟨_, _, _, _, e, _⟩ => by rw [e]; rfl) fun f cdv A outer s H vs Q hr ⟨a, ns, M, b, e, hne, hl, haz, hM4, hM13, hs, q⟩ => ?_
  subst e
  refine ⟨_, (pss_cons (ps_set (i := 3) scL_row.nd rfl (by first | exact Or.inl rfl | exact Or.inr rfl) (pe_g C_drawn hr (by omega) rfl (pa_cons (pv 0) (pa_cons (pv 1) (pa_cons (pe_op op_add pe_int (pe_g C_sip hr (by omega) rfl (pa_cons (pv 0) (pa_cons pe_int pa_nil)))) (pa_cons pe_int pa_nil))))))
    (pss_cons (ps_set (i := 4) scL_row.nd rfl (by first | exact Or.inl rfl | exact Or.inr rfl) (pe_lst (pa_cons (pv 3) pa_nil)))
    (pss_cons (ps_for PassesOwn.never rfl (pi_range1 rfl T.m_range (pa_cons (pe_op op_add pe_int (pe_g C_sip hr (by omega) rfl (pa_cons (pv 0) (pa_cons (pe_op op_sub (pv 2) pe_int) pa_nil)))) pa_nil)) (pg_name (i := 5) scL_row.nd rfl (by first | exact Or.inl rfl | exact Or.inr rfl))
      (pss_cons (ps_asg (pe_g C_longer hr (by omega) rfl (pa_cons (pv 0) (pa_cons (pv 1) (pa_cons pe_int (pa_cons (pv 4) (pa_cons (pv 3) pa_nil)))))) (pg_tup rfl (pgs_cons (pg_name (i := 6) scL_row.nd rfl (by first | exact Or.inl rfl | exact Or.inr rfl)) (pgs_cons (pg_name (i := 7) scL_row.nd rfl (by first | exact Or.inl rfl | exact Or.inr rfl)) pgs_nil))))
      (pss_one (ps_if (PW.pt (pw_and (pt_cmpR (op_eqD hr.r.units) (pv 7) (pv 3) (nomark _)) (pw_and (pt_val (pe_g C_fits hr (by omega) rfl (pa_cons (pv 6) (pa_cons (pv 3) pa_nil)))) (pw_and1 (pt_cmpR op_le (pe_callB (cr_sum rfl) rfl T.m_sum (by decide +kernel) (pa_cons (pe_lc (own := [("_law_thing", 8)]) (g := gName 8) (tt := tYes) rfl scL_row.nd (pi_list (pv 6)) (blkOk_by (own := [("_law_thing", 8)]) (N := ["_law_spring_here", "_law_names", "_law_letters_here", "_law_goal", "_law_line", "_law_turn", "_law_longer_here", "_law_top", "_law_thing"]) (sc := defScope sL_row) (by decide +kernel)) (fun _ _ _ _ _ => (pg_name (i := 8) scL_row.nd rfl (by first | exact Or.inl rfl | exact Or.inr rfl))) (fun _ _ _ _ _ => pts_nil) (fun _ _ _ _ _ => (pe_g C_size hr (by omega) rfl (pa_cons (pv 8) pa_nil)))) pa_nil)) (pv 2) (nomark _))))))
        (pss_one (ps_set (i := 4) scL_row.nd rfl (by first | exact Or.inl rfl | exact Or.inr rfl) (pv 6)))
        pss_nil))))
    (pss_one (ps_ret (pe_tup (pa_cons (pv 4) (pa_cons (pv 3) pa_nil)))))))), ?_⟩
  have zl : sizeLine = 16777216 := sizeLine_eq
  refine ⟨_, rfl, _, rfl, _, rfl, a, 3, b + (8 + 12 * M), rfl, by decide, by decide, hs.le (by omega), fun r1 H1 r10 r11 U1 s1 => ?_⟩
  obtain ⟨m, rfl⟩ : ∃ m : Nat, r1 = ((m : Nat) : Int) := ⟨r1.toNat, by omega⟩
  refine ⟨_, _, rfl, rfl, a, ns, 1 + m, b + (1 + 12 * M), (by show [V.ref a, V.str (tx ns), V.int ((1 : Int) + ((m : Nat) : Int)), V.int 2] = _; rw [show (1 : Int) + ((m : Nat) : Int) = ((1 + m : Nat) : Int) by omega]), hne, hl, by omega, by omega, by omega, s1.le (by omega), fun g k H2 hk hkz hka U2 s2 => ?_⟩
  refine ⟨_, rfl, by show 1 ≤ sizeLine; decide, fun p3 np3 => ?_⟩
  have S3 := same_new np3 (.lst [g])
  have U03 : Upto [a] H (upd H2 p3 (.lst [g])) := (U1.trans U2).trans (Upto.of_same S3)
  refine ⟨_, rfl, _, rfl, _, _, rfl, rfl, a, _, b + 12 * M, rfl, (show (0 : Int) < ((M : Nat) : Int) - 3 by omega), (show ((M : Nat) : Int) - 3 < _ by omega), (s2.same S3).le (by omega), fun r4 H4 r40 r41 U4 s4 => ?_⟩
  have r41 : r4 < ((M : Nat) : Int) - 3 := r41
  obtain ⟨n, rfl⟩ : ∃ n : Nat, r4 = ((n : Nat) : Int) := ⟨r4.toNat, by omega⟩
  refine ⟨_, _, rfl, rfl, _, rfl, by omega, by omega, ?_⟩
  rw [show ((2 : Int) + ((n : Nat) : Int)).toNat = 2 + n by omega]
  have O3 : Outc ns (upd H2 p3 (.lst [g])) p3 g [k] k := ⟨⟨_, upd_same, .cons (hk.mono (Same.tk S3)) .nil⟩, by simp, fun z hz => by rw [List.mem_singleton.mp hz]; exact hka, hk.mono (Same.tk S3), hka⟩
  have O4 := O3.upto (s2.same S3) U4
  refine for_range (lo := 0) (n := 2 + n) (fun i σ H' => ∃ (l : Addr) (ks : List (Kd Nat)) (x5 x6 x7 x8 : Option V), σ = [some (.ref a), some (.str (tx ns)), some (.int (M : Nat)), some g, some (.ref l), x5, x6, x7, x8] ∧ Outc ns H' l g ks k ∧ ks.length ≤ 6 ∧ rsize ks ≤ M ∧ Upto [a] H H' ∧ SprAt H' a (b + 12 * (M - i)))
    ⟨p3, [k], none, none, none, none, rfl, O4, Nat.le_of_ble_eq_true rfl, by show k.size + 0 ≤ _; omega, U03.trans U4, s4.le (by omega)⟩ ?_ ?_
  · rintro i σ H' hi ⟨l, ks, x5, x6, x7, x8, rfl, hO, hkl, hkz', U', s'⟩
    refine ⟨_, rfl, _, rfl, _, rfl, _, rfl, a, ns, l, g, ks, k, b + 12 * (M - (i + 1)), rfl, hne, hl, hO, by omega, s'.le (by omega), fun t l' g' ks' k' H5 ht hO' hl' hz' U5 s5 => ?_⟩
    have hOo := hO.upto s' U5
    refine ⟨_, _, rfl, SqT.of ht, rfl, _, _, rfl, _, _, rfl, rfl, ?_⟩
    have azk : ∀ {z : Kd Nat}, z.All (· ∈ ns) → z.All Az := fun h => h.imp haz
    refine ⟨_, rfl, _, rfl, _, _, hO'.g.dp, hOo.g.dp, kdat_shaped (azk hO'.ag) (by omega), kdat_shaped (azk hO.ag) (by omega), _, rfl, ite2 (fun c1 => ?_) (fun c1 => ⟨l, ks, _, _, _, _, rfl, hOo, hkl, hkz', U'.trans U5, s5⟩)⟩
    obtain ⟨us', hus', hks'⟩ := hO'.ex
    have hk1 := k'.size_pos
    refine ⟨_, rfl, _, rfl, l', g, us', ks', k, rfl, hus', hks', hOo.g, by rw [hks'.len]; omega, by omega, fun bb H6 S6 hf => ?_⟩
    have U06 := (U'.trans U5).trans (Upto.of_same S6)
    refine ⟨_, rfl, ite2 (fun c2 => ?_) (fun c2 => ⟨l, ks, _, _, _, _, rfl, hOo.same S6, hkl, hkz', U06, s5.same S6⟩)⟩
    have hfit := hf c2
    have hus6 := S6 _ _ hus'
    refine ⟨_, rfl, l', rfl, ⟨_, SqL.of hus6⟩, fun D3 nD3 => ?_⟩
    refine lc_mapG (walk_list (xs := us')) (ks'.map fun z => V.int ((z.size : Nat) : Int)) (by rw [List.length_map]; exact (hks'.len).symm) (by have := hks'.len; have := hfit.1; omega) nD3 (fun H h => SqL.of (h _ _ hus6)) (fun x => rfl)
      (fun i x y H1 Q1 hx hy s1 h => ?_) (fun H7 S7 hD7 => ?_)
    · obtain ⟨z, hz, hv, rfl⟩ := ks_item hks' hx hy
      exact ⟨_, rfl, _, _, rfl, (hv.mono (Same.tk S6)).mono (Same.tk s1), (by have := ops_lt_rsize (mem_of_get hz); omega), h _ (Same.refl _)⟩
    have S67 := S6.trans S7
    refine ⟨_, ks'.map fun z => ((z.size : Nat) : Int), rfl, SqL.of (by rw [hD7, List.map_map]; rfl), ?_⟩
    rw [sum_sizes]
    have U07 := U06.trans (Upto.of_same S7)
    have O7 : Outc ns H7 l' g ks' k := ⟨⟨us', S7 _ _ hus6, hks'.mono (Same.tk S67)⟩, hO'.ne, hO'.al, hOo.g.mono (Same.tk S67), hO.ag⟩
    refine ⟨_, rfl, _, _, rfl, rfl, _, rfl, ite2 (fun c3 => ?_) (fun c3 => ?_)⟩
    · have c3 := of_decide_eq_true c3
      exact ⟨_, rfl, l', ks', _, _, _, _, rfl, O7, hfit.1, by omega, U07, (s5.same S67)⟩
    · exact ⟨l, ks, _, _, _, _, rfl, hOo.same S67, hkl, hkz', U07, s5.same S67⟩
  · rintro σ H' ⟨l, ks, x5, x6, x7, x8, rfl, hO, hkl, hkz', U', s'⟩
    refine ⟨_, rfl, _, rfl, by show 2 ≤ sizeLine; decide, fun p np => ?_⟩
    have S := same_new np (.tup [.ref l, g])
    exact q p l g ks k _ upd_same (hO.same S) hkl hkz' (by omega) (U'.trans (Upto.of_same S)) ((s'.same S).le (by omega))
end
end L2.G
set_option Elab.async false
set_option linter.all false
set_option maxRecDepth 100000
set_option maxHeartbeats 4000000
/-! list(reversed(a list)). -/
namespace PySem
open Sem (wp)
namespace F
theorem lri_no_len : typeLookup (.type "list_reverseiterator") "__len__" = pure none := by rw [typeLookup_type, builtinLookup_eq_fast]; kernel_rfl
theorem slot_lri_hint : Slot "list_reverseiterator" "__length_hint__" "list_reverseiterator.__length_hint__" :=
  .of (owner := "list_reverseiterator") (n := "__length_hint__") (by rw [typeLookup_type, builtinLookup_eq_fast]; kernel_rfl) (by decide +kernel) (by decide +kernel) (by decide +kernel)
    (by first | exact .inl (by decide +kernel) | exact .inr (by decide +kernel)) (by rw [isSubtype_type]; kernel_rfl)
end F
section
variable {prog : Program} {w : World} {A : Around} {E : Value → Shared → Prop} {s : Shared}
theorem wpAny_hint_rev {it l : Addr} {i : Int} {Q : Bool → Shared → Prop} (hit : s.heap.IsRevIter it l i) (h : Q false s) : wpAny (model prog w) A (Builtin.List.listLengthHint (.ref it)) Q E s := by
  unfold Builtin.List.listLengthHint
  refine wpAny_bind (wpAny_specialOf hit.typeIs F.lri_no_len ?_)
  show wpAny _ A (specialOf (Value.ref it) (Str.ofString "__length_hint__") >>= _) _ _ _
  refine wpAny_bind (wpAny_specialOf hit.typeIs F.slot_lri_hint.lookup ?_)
  generalize hid : ("list_reverseiterator.__length_hint__" : String) = id0
  wp_delta
  rw [show splitId id0 = some ("list_reverseiterator", "__length_hint__") from by subst hid; decide +kernel]
  subst hid
  refine wpAny_bind (wpAny_isInstance (T := "list_reverseiterator") (b := true) hit.typeIs (by rw [isSubtype_type]; kernel_rfl) ?_)
  refine wpAny_ite_split (fun hab => absurd hab (by decide)) (fun _ => ?_)
  refine wpAny_ite_split (fun _ => ?_) (fun hab => absurd (by decide +kernel) hab)
  refine wpAny_ite_split (fun hab => absurd hab (by decide +kernel)) (fun _ => ?_)
  exact wpAny_pure h
theorem wpAny_extend_rev {R : Result → Shared → Prop} {I l : Addr} {items : Array Value} (hh : A.handled = none) (hit : s.heap.IsRevIter I l ((items.size : Int) - 1)) (hl : s.heap.IsList l items) (hlI : l ≠ I)
    (hlen : items.size ≤ 2 ^ 24) (S : Addr) (res : Value) (c₀ : Nat) (hS : s.heap.get? S = some { cls := .type "list", data := .seq #[] c₀ }) (hSI : S ≠ I) (hSl : S ≠ l)
    (hR : ∀ h' tk acc' c', (∀ b o, b ≠ S → b ≠ I → s.heap.get? b = some o → h'.get? b = some o) → h'.get? S = some { cls := .type "list", dict := none, data := .seq acc' c', slots := #[] } →
      ItemsOf (fun i v => items[items.size - 1 - i]? = some v) acc' items.size → R (.ok (.ret res)) { s with heap := h', toks := tk }) :
    wpAny (model prog w) A.in1 (Builtin.List.listExtendWith (.ref S) (.ref I) res)
      (fun fin s' => match fin with | .done f => R (.ok f) s' | .again c' => c'.quiet = true ∧ codeAny (model prog w) A c' R s') (fun e s' => R (.error e) s') s := by
  have hSf : S ∉ [I, l] := fun hm => by
    rcases List.mem_cons.mp hm with e | e
    · exact hSI e
    · exact hSl (List.mem_singleton.mp e)
  have W := (Walks.listRev (prog := prog) (w := w) (A := A.in1) hh I l hlI items).toS
  unfold Builtin.List.listExtendWith
  refine wpAny_bind (wpAny_typeOf (T := "list_reverseiterator") hit.typeIs ?_)
  have h1 : Builtin.List.listSameRef (.ref S) (.ref I) = false := by simp [Builtin.List.listSameRef, hSI]
  have h2 : (Value.type "list_reverseiterator" == Value.type "list") = false := by decide
  have h3 : (Value.type "list_reverseiterator" == Value.type "tuple") = false := by decide
  simp only [h1, h2, h3, Bool.or_false, Bool.false_eq_true, if_false]
  refine wpAny_bind (wpAny_pyIter_revIter hit ?_)
  refine wpAny_bind (wpAny_holding (wpAny_hint_rev hit ?_))
  refine wpAny_ite_split (fun hab => absurd hab (by decide)) (fun _ => wpAny_pure ⟨plainId_quiet F.plain_extend_loop _, ?_⟩)
  refine codeAny_extend_loopS W (by rw [sizeLine_eq]; omega) S hSf res items.size 0 _ #[] c₀ rfl (Nat.zero_le _) ⟨Nat.zero_le _, by simpa using hit, hl⟩ hS (ItemsOf.nil _) fun s' acc' c' hm hS' hacc => ?_
  rw [Moved.eq_with hm]
  refine hR s'.heap s'.toks acc' c' (fun b o hb hb2 e => hm.heap b o (fun hmem => ?_) e) hS' hacc
  rcases List.mem_cons.mp hmem with e' | hmem
  · exact hb e'
  · exact hb2 (List.mem_singleton.mp hmem)
theorem call_list_rev {Q : Value → Shared → Prop} {I l : Addr} {items : Array Value} (hh : A.handled = none) (hit : s.heap.IsRevIter I l ((items.size : Int) - 1)) (hl : s.heap.IsList l items) (hlI : l ≠ I)
    (hlen : items.size ≤ 2 ^ 24)
    (hQ : ∀ h' tk acc' c', (∀ b o, b ≠ I → s.heap.get? b = some o → h'.get? b = some o) → h'.get? s.heap.objs.size = some { cls := .type "list", dict := none, data := .seq acc' c', slots := #[] } →
      ItemsOf (fun i v => items[items.size - 1 - i]? = some v) acc' items.size → Q (.ref s.heap.objs.size) { s with heap := h', toks := tk }) :
    wpAny (model prog w) A (call (.type "list") [.ref I]) Q E s := by
  refine callType_codes (Q₁ := fun obj s₁ => obj = .ref s.heap.objs.size ∧ s₁ = { s with heap := s.heap.push { cls := .type "list", data := .seq #[] } }) F.called_list (F.typeCall_list_1 _) F.entry_list_init
    (code_list_new _ ⟨rfl, rfl⟩) fun obj s₁ h₁ => ?_
  obtain ⟨rfl, rfl⟩ := h₁
  have hS : (s.heap.push { cls := .type "list", data := .seq #[] }).get? s.heap.objs.size = some { cls := .type "list", data := .seq #[] } := Heap.get?_push_size _ rfl
  obtain ⟨oi, hoi, hci, hdi⟩ := id hit
  obtain ⟨ol, hol, hcl, nl, hdl⟩ := id hl
  have lI : I ≠ s.heap.objs.size := Nat.ne_of_lt (Heap.lt_size hoi)
  have ll : l ≠ s.heap.objs.size := Nat.ne_of_lt (Heap.lt_size hol)
  refine ⟨⟨_, hS, rfl⟩, F.args_list_init_2 _ _, ?_⟩
  show wpAny _ _ (do let old ← Builtin.List.listItems (.ref s.heap.objs.size); Builtin.List.listUpdate (.ref s.heap.objs.size) (fun _ => #[]); letGo old.toList.reverse; Builtin.List.listExtendWith (.ref s.heap.objs.size) (.ref I) .none) _ _ _
  refine wpAny_bind ?_
  unfold Builtin.List.listItems
  refine wpAny_bind (wpAny_seqItems hS rfl (wpAny_pure ?_))
  show wpAny _ _ (updateSeq s.heap.objs.size (fun _ => #[]) >>= fun _ => letGo (#[] : Array Value).toList.reverse >>= fun _ => Builtin.List.listExtendWith (.ref s.heap.objs.size) (.ref I) .none) _ _ _
  refine wpAny_bind (wpAny_updateSeq hS rfl ?_)
  have hS₂ := Heap.get?_update_self (Obj.mapSeq (fun _ => (#[] : Array Value))) hS rfl
  have oth : ∀ b o, s.heap.get? b = some o → ((s.heap.push { cls := .type "list", data := .seq #[] }).update s.heap.objs.size (Obj.mapSeq (fun _ => (#[] : Array Value)))).get? b = some o :=
    fun b o e => (Heap.get?_update_other _ _ (Nat.ne_of_lt (Heap.lt_size e)).symm).trans (Heap.get?_push_of_some _ e)
  refine wpAny_bind (wpAny_letGo ?_)
  refine wpAny_extend_rev (A := A.in1) hh ⟨oi, oth _ _ hoi, hci, hdi⟩ ⟨ol, oth _ _ hol, hcl, nl, hdl⟩ hlI hlen s.heap.objs.size .none _ hS₂ lI.symm ll.symm fun h' tk acc' c' hk hS' hacc => ?_
  exact ⟨rfl, hQ h' tk acc' c' (fun b o hb e => hk b o (Nat.ne_of_lt (Heap.lt_size e)) hb (oth b o e)) hS' hacc⟩
end
end PySem
namespace L2.G
open PySem PySem.Spec PyProof.Rows WW
theorem items_rev {items : List Value} {acc : Array Value} (h : ItemsOf (fun i v => items.toArray[items.toArray.size - 1 - i]? = some v) acc items.toArray.size) : acc.toList = items.reverse := by
  obtain ⟨h1, h2⟩ := h
  refine List.ext_getElem? fun j => ?_
  have e0 : items.toArray.size = items.length := List.size_toArray ..
  have h1 : acc.size = items.toArray.size := h1
  by_cases hj : j < acc.size
  · have e := h2 j acc[j] (by simp [hj])
    rw [List.size_toArray] at e
    rw [Array.getElem?_toList, Array.getElem?_eq_getElem hj, List.getElem?_reverse (by omega)]
    simpa using e.symm
  · rw [List.getElem?_eq_none (by simpa using hj), List.getElem?_eq_none (by simp; omega)]
theorem vals_reverse : ∀ {xs : List V} {us : List Value}, Vals xs us → Vals xs.reverse us.reverse
  | _, _, .nil => .nil
  | _, _, .cons a r => by
    rw [List.reverse_cons, List.reverse_cons]
    exact (vals_reverse r).append (.cons a .nil)
section
variable {X : Cx}
/-- list(reversed(xs)) -/
theorem pe_listRev {e : Expr} {te : TE} {p p2 pos pos2 : Pos} (hc : X.calm = true) (hg : Gl X "list") (hm : X.mg "list" = none) (hg2 : Gl X "reversed") (hm2 : X.mg "reversed" = none) (he : PE X e te)
    (hs : starEach [e] X.env = (false, eval e X.env) :: starEach [] X.env := by rfl)
    (hs2 : starEach [.Call (.Name "reversed" p2) [e] [] pos2] X.env = (false, eval (.Call (.Name "reversed" p2) [e] [] pos2) X.env) :: starEach [] X.env := by rfl) :
    PE X (.Call (.Name "list" p) [.Call (.Name "reversed" p2) [e] [] pos2] [] pos) (fun σ H Q => te σ H fun v H1 => ∃ a xs, v = .ref a ∧ SqL X.K H1 a xs ∧ ∀ l, H1 l = none → Q (.ref l) (upd H1 l (.lst xs.reverse))) := by
  refine ⟨fun pins s σ H Q I h => ?_⟩
  refine wpAny_Call_Name_kw (ld_blt I hg hm PyProof.Rows.boot_list ?_ (by decide) (by decide))
  refine PyProof.Rows.callWith_type1 (args_cons ?_ hs2) hs2 rfl
  refine wpAny_Call_Name_kw (ld_blt I hg2 hm2 PyProof.Rows.boot_reversed (PyProof.Rows.callWith_type1 (args_cons (thn (he.run pins s σ H _ I h) fun u s1 ⟨v, H1, I1, r1, q1⟩ => args_nil ?_) hs) hs rfl) (by decide) (by decide))
  obtain ⟨a, xs, rfl, hq, q⟩ := q1
  obtain rfl : u = Value.ref a := r1
  obtain ⟨its, rv, pl, hz⟩ := I1.list hq
  have hlen := rv.length
  have hl := pl.isList
  obtain ⟨ol, hol, hcl, nl, hdl⟩ := id hl
  refine call_reversed_list hl (args_nil ?_)
  have zl : sizeLine = 16777216 := sizeLine_eq
  have lI : a ≠ s1.heap.objs.size := Nat.ne_of_lt (Heap.lt_size hol)
  refine call_list_rev (I1.ok.hd hc) ⟨_, Heap.get?_push_size _ rfl, rfl, rfl⟩ ⟨ol, Heap.get?_push_of_some _ hol, hcl, nl, hdl⟩ lI (by simp only [List.size_toArray]; omega) fun h' tk acc' c' hk hS' hacc => ?_
  have ea := items_rev hacc
  have hsz : (s1.heap.push (revObj a ((its.toArray.size : Int) - 1))).objs.size = s1.heap.objs.size + 1 := Heap.size_push ..
  rw [hsz] at hS'
  rw [show (s1.heap.push (revObj a ((its.toArray.size : Int) - 1))).objs.size = s1.heap.objs.size + 1 from hsz]
  refine ⟨.ref _, upd H1 (s1.heap.objs.size + 1) (.lst xs.reverse), I1.laid (t' := tk) (fun b o e => hk b o (Nat.ne_of_lt (Heap.lt_size e)) (Heap.get?_push_of_some _ e)) (Nat.le_succ _) ⟨by rw [List.length_reverse]; exact hz, acc'.toList, c', by rw [ea]; exact vals_reverse rv, by rw [Array.toArray_toList]; exact hS'⟩, rfl, q _ (I1.hok.fresh (Nat.le_succ _))⟩
end
end L2.G
set_option Elab.async false
set_option linter.all false
set_option maxRecDepth 100000
set_option maxHeartbeats 8000000
/-! The law's bent rows. -/
namespace L2.G
open PySem PySem.Spec PyProof.Rows WW
theorem Upto.fresh {l : List Addr} {p : Addr} {H H' : Hp} (h : Upto (p :: l) H H') (n : H p = none) : Upto l H H' := fun b o hn e => h b o (fun m => by
  rcases List.mem_cons.mp m with q | q
  · rw [q, n] at e; cases e
  · exact hn q) e
theorem Upto.weak {l : List Addr} {p : Addr} {H H' : Hp} (h : Upto l H H') : Upto (p :: l) H H' := h.mono fun b hb => List.mem_cons_of_mem _ hb
theorem rsize_set_le (ks : List (Kd Nat)) (i : Nat) (k : Kd Nat) : rsize (ks.set i k) ≤ rsize ks + k.size := by
  induction ks generalizing i with
  | nil => exact Nat.zero_le _
  | cons x r ih =>
    cases i with
    | zero => show k.size + rsize r ≤ x.size + rsize r + k.size; omega
    | succ i => have := ih i; show x.size + rsize (r.set i k) ≤ x.size + rsize r + k.size; omega
theorem mem_set_of {α : Type} {l : List α} {i : Nat} {x z : α} (h : z ∈ l.set i x) : z = x ∨ z ∈ l := by
  rcases List.mem_or_eq_of_mem_set h with h | h
  · exact .inr h
  · exact .inl h
theorem rsize_reverse (ks : List (Kd Nat)) : rsize ks.reverse = rsize ks := by simp [rsize]
theorem ixN_at {n j : Nat} (hj : j < n) : ixN n (j : Int) = some j := by
  unfold ixN
  rw [if_pos (by omega), if_pos (by omega)]
  simp
def spBent : SpG := fun vs H Q => ∃ (a : Addr) (ns : List Nat) (l : Addr) (g : V) (ks : List (Kd Nat)) (k : Kd Nat) (b : Nat), vs = [.ref a, .str (tx ns), .int 2, .ref l, g] ∧ ns ≠ [] ∧ ns.length ≤ 100 ∧ Outc ns H l g ks k ∧ Fits ks k ∧ SprAt H a (b + 50) ∧
  ∀ (t l' : Addr) (g' : V) (ks' : List (Kd Nat)) (k' : Kd Nat) (H' : Hp), H' t = some (.tup [.ref l', g']) → Outc ns H' l' g' ks' k' → Fits ks' k' → Upto [a] H H' → SprAt H' a b → Q (.ref t) H'
section
variable {P : Program} {w : World} {K : PySem.W.Frag} {mg : Str → Option Value} {base : Heap} {C : Addr}
theorem c_bent (T : Txt w K mg C) : GCal P w K mg base 62 "_law_bent" spBent := by
  have C_sip := c_sip (P := P) (base := base) T
  have C_drawn := c_drawn (P := P) (base := base) T 14
  have C_crossed := c_crossed (P := P) (base := base) T 14
  have C_size := c_size (P := P) (base := base) T 14
  have C_fits := c_fits (P := P) (base := base) T 60
  refine cal_of T.dL_bent scL_bent (fun vs H Q ⟨_, _, _, _, _, _, _, e, _⟩ => by rw [e]; rfl) fun f cdv A outer s H vs Q hr ⟨a, ns, l, g, ks, k, b, e, hne, hl, hO, hF, hs, q⟩ => ?_
  subst e
  refine ⟨_, (pss_cons (ps_par3 (i := 5) (j := 6) (l := 7) rfl scL_bent.nd rfl rfl rfl (by decide) (by decide) (by decide) rfl rfl rfl (pa_cons (pe_g C_sip hr (by omega) rfl (pa_cons (pv 0) (pa_cons pe_int pa_nil))) (pa_cons (pe_g C_sip hr (by omega) rfl (pa_cons (pv 0) (pa_cons (pe_callB call_len_seq rfl T.m_len (by decide +kernel) (pa_cons (pv 3) pa_nil)) pa_nil))) (pa_cons (pe_g C_sip hr (by omega) rfl (pa_cons (pv 0) (pa_cons (pe_callB call_len_seq rfl T.m_len (by decide +kernel) (pa_cons (pv 3) pa_nil)) pa_nil))) pa_nil))) rfl)
    (pss_cons (ps_par (i := 8) (j := 9) rfl scL_bent.nd rfl rfl (by decide) rfl rfl (pa_cons (pe_callTy call_list_of rfl T.m_list (by decide +kernel) (pa_cons (pv 3) pa_nil)) (pa_cons (pv 4) pa_nil)) rfl)
    (pss_cons (ps_if (pt_cmpR op_lt (pv 5) pe_int (nomark _))
      (pss_cons (ps_asg (pe_ix ix_list (pv 3) (pv 7) (fun _ _ => rfl)) (pg_sub (pv 8) (pv 6) set_list))
      (pss_one (ps_asg (pe_ix ix_list (pv 3) (pv 6) (fun _ _ => rfl)) (pg_sub (pv 8) (pv 7) set_list))))
      (pss_one (ps_if (pt_cmpR op_lt (pv 5) pe_int (nomark _))
        (pss_one (ps_asg (pe_g C_crossed hr (by omega) rfl (pa_cons (pv 0) (pa_cons (pe_ix ix_list (pv 3) (pv 6) (fun _ _ => rfl)) pa_nil))) (pg_sub (pv 8) (pv 6) set_list)))
        (pss_one (ps_if (pt_cmpR op_eq (pv 5) pe_int (nomark _))
          (pss_one (ps_set (i := 9) scL_bent.nd rfl (by first | exact Or.inl rfl | exact Or.inr rfl) (pe_g C_crossed hr (by omega) rfl (pa_cons (pv 0) (pa_cons (pv 4) pa_nil)))))
          (pss_one (ps_if (pt_cmpR op_eq (pv 5) pe_int (nomark _))
            (pss_one (ps_asg (pe_g C_drawn hr (by omega) rfl (pa_cons (pv 0) (pa_cons (pv 1) (pa_cons (pe_g C_size hr (by omega) rfl (pa_cons (pe_ix ix_list (pv 3) (pv 6) (fun _ _ => rfl)) pa_nil)) (pa_cons (pv 2) pa_nil))))) (pg_sub (pv 8) (pv 6) set_list)))
            (pss_one (ps_if (pt_cmpR op_eq (pv 5) pe_int (nomark _))
              (pss_one (ps_set (i := 9) scL_bent.nd rfl (by first | exact Or.inl rfl | exact Or.inr rfl) (pe_g C_drawn hr (by omega) rfl (pa_cons (pv 0) (pa_cons (pv 1) (pa_cons (pe_g C_size hr (by omega) rfl (pa_cons (pv 4) pa_nil)) (pa_cons (pv 2) pa_nil)))))))
              (pss_one (ps_if (pt_cmpR op_eq (pe_callB call_len_seq rfl T.m_len (by decide +kernel) (pa_cons (pv 3) pa_nil)) pe_int (nomark _))
                (pss_one (ps_par (i := 8) (j := 9) rfl scL_bent.nd rfl rfl (by decide) rfl rfl (pa_cons (pe_lst (pa_cons (pv 4) pa_nil)) (pa_cons (pe_ix ix_list (pv 3) pe_int (fun _ _ => rfl)) pa_nil)) rfl))
                (pss_one (ps_set (i := 8) scL_bent.nd rfl (by first | exact Or.inl rfl | exact Or.inr rfl) (pe_listRev rfl rfl T.m_list rfl T.m_reversed (pv 3)))))))))))))))
    (pss_one (ps_ret (pe_ifExp (pt_val (pe_g C_fits hr (by omega) rfl (pa_cons (pv 8) (pa_cons (pv 9) pa_nil)))) (pe_tup (pa_cons (pv 8) (pa_cons (pv 9) pa_nil))) (pe_tup (pa_cons (pv 3) (pa_cons (pv 4) pa_nil))))))))), ?_⟩
  have zl : sizeLine = 16777216 := sizeLine_eq
  have hnl := hO.notin hs
  obtain ⟨us, hus, hks⟩ := hO.ex
  have hklen := hks.len
  have hkpos : 0 < ks.length := List.length_pos_iff.mpr hO.ne
  have hF1 := hF.1
  have hF2 := hF.2
  refine ⟨_, rfl, a, 9, b + 49, rfl, by decide, by decide, hs.le (by omega), fun r1 H1 r10 r11 U1 s1 => ?_⟩
  have hus1 := U1 _ _ hnl hus
  refine ⟨_, rfl, _, rfl, _, _, rfl, .inl (SqL.of hus1), a, _, b + 48, rfl, by omega, by omega, s1.le (by omega), fun r2 H2 r20 r21 U2 s2 => ?_⟩
  have hus2 := U2 _ _ hnl hus1
  refine ⟨_, rfl, _, rfl, _, _, rfl, .inl (SqL.of hus2), a, _, b + 47, rfl, by omega, by omega, s2.le (by omega), fun r3 H3 r30 r31 U3 s3 => ?_⟩
  have hus3 := U3 _ _ hnl hus2
  have U03 := (U1.trans U2).trans U3
  have hO3 := hO.upto hs U03
  obtain ⟨sp, rfl⟩ : ∃ n : Nat, r2 = ((n : Nat) : Int) := ⟨r2.toNat, by omega⟩
  obtain ⟨sq, rfl⟩ : ∃ n : Nat, r3 = ((n : Nat) : Int) := ⟨r3.toNat, by omega⟩
  have hks3 := hks.mono (U03.tk hs.nt)
  refine ⟨_, _, _, rfl, _, rfl, l, us, rfl, .inl (SqL.of hus3), fun lc nlc => ⟨_, rfl, _, _, rfl, ?_⟩⟩
  have S4 := same_new nlc (.lst us)
  have hc4 : upd H3 lc (.lst us) lc = some (.lst us) := upd_same
  generalize hH4 : upd H3 lc (.lst us) = H4
  rw [hH4] at S4 hc4
  have hO4 := hO3.same S4
  have hks4 := hks3.mono (Same.tk S4)
  have hus4 := S4 _ _ hus3
  have s4 := s3.same S4
  have U34 : Upto (lc :: [a]) H3 H4 := (Upto.of_same S4)
  obtain ⟨x, hx⟩ : ∃ x, us[sp]? = some x := ⟨us[sp]'(by omega), by simp⟩
  obtain ⟨y, hy⟩ : ∃ y, us[sq]? = some y := ⟨us[sq]'(by omega), by simp⟩
  obtain ⟨kx, hkx, hxk⟩ := KsAt.get' hks4 hx
  obtain ⟨ky, hky, hyk⟩ := KsAt.get' hks4 hy
  have haks := hO.al
  have hakx : kx.All (· ∈ ns) := haks _ (mem_of_get hkx)
  have haky : ky.All (· ∈ ns) := haks _ (mem_of_get hky)
  have hsx := size_le_rsize (mem_of_get hkx)
  have hsy := size_le_rsize (mem_of_get hky)
  have opx := kx.ops_size
  have opk := k.ops_size
  have lla : l ≠ lc := fun e => by rw [← e, hus3] at nlc; cases nlc
  have nla : lc ∉ [a] := fun h => by
    obtain ⟨x, y, z, e, _⟩ := s3
    have := List.mem_singleton.mp h
    subst this
    rw [nlc] at e; cases e
  -- the end
  have fin : ∀ (lc' : Addr) (g' : V) (ks' : List (Kd Nat)) (k' : Kd Nat) (H' : Hp) (y5 y6 y7 : Option V), Outc ns H' lc' g' ks' k' → ks'.length ≤ 6 → rsize ks' + k'.size ≤ 60 → Upto (lc :: [a]) H3 H' → SprAt H' a b →
      (tRet (tIf (tB (tCallG (spFits 60) (tCons (tVar 8) (tCons (tVar 9) tNil)))) (tTup (tCons (tVar 8) (tCons (tVar 9) tNil))) (tTup (tCons (tVar 3) (tCons (tVar 4) tNil))))) { nx := fun _ H' => Q .non H', rt := Q }
        [some (.ref a), some (.str (tx ns)), some (.int 2), some (.ref l), some g, y5, y6, y7, some (.ref lc'), some g'] H' := fun lc' g' ks' k' H' y5 y6 y7 hO' h1 h2 U' s' => by
    obtain ⟨us', hus', hks'⟩ := hO'.ex
    refine ⟨_, rfl, _, rfl, lc', g', us', ks', k', rfl, hus', hks', hO'.g, by rw [hks'.len]; omega, h2, fun bb H6 S6 hf => ⟨_, rfl, ite2 (fun c => ?_) (fun c => ?_)⟩⟩
    · refine ⟨_, rfl, _, rfl, by show 2 ≤ sizeLine; decide, fun p np => ?_⟩
      have S7 := same_new np (.tup [.ref lc', g'])
      have S67 := S6.trans S7
      exact q p lc' g' ks' k' _ upd_same (hO'.same S67) (hf c) (U03.trans ((U'.fresh nlc).trans (Upto.of_same S67))) (s'.same S67)
    · refine ⟨_, rfl, _, rfl, by show 2 ≤ sizeLine; decide, fun p np => ?_⟩
      have S7 := same_new np (.tup [.ref l, g])
      have S67 := S6.trans S7
      have Ux := (U'.fresh nlc).trans (Upto.of_same S67)
      exact q p l g ks k _ upd_same (hO3.upto s3 Ux) hF (U03.trans Ux) (s'.same S67)
  have nt4 : NoTup H4 (lc :: [a]) := fun z hz xs e => by
    rcases List.mem_cons.mp hz with q | q
    · rw [q, hc4] at e; cases e
    · exact s4.nt z q xs e
  have noteq : ∀ {i j : Int}, i ≠ j → V.int i ≠ V.int j := fun h e => by injection e; contradiction
  have wk : Upto (lc :: [a]) H3 H4 := Upto.of_same S4
  have updc : ∀ (H5 : Hp) (o : HO), Upto (lc :: [a]) H5 (upd H5 lc o) := fun H5 o => upto_upd (by simp) o
  have spc : ∀ (H5 : Hp) (o : HO) (n : Nat), SprAt H5 a n → SprAt (upd H5 lc o) a n := fun H5 o n ⟨x, y, z, e, h0, h1⟩ => ⟨x, y, z, by
    rw [upd_ne (fun e' => nla (by rw [← e']; simp))]; exact e, h0, h1⟩
  have setAll : ∀ (i : Nat) (z : Kd Nat), z.All (· ∈ ns) → ∀ w ∈ ks.set i z, w.All (· ∈ ns) := fun i z hz w hw => by
    rcases mem_set_of hw with e | e
    · rw [e]; exact hz
    · exact haks w e
  have setNe : ∀ (i : Nat) (z : Kd Nat), ks.set i z ≠ [] := fun i z h => by
    have := congrArg List.length h
    rw [List.length_set, List.length_nil] at this
    omega
  -- one place is changed
  have one : ∀ (H5 : Hp) (v : V) (z : Kd Nat) (y5 y6 y7 : Option V), Upto [a] H4 H5 → SprAt H5 a b → KAt H5 v z → z.All (· ∈ ns) → z.size ≤ 14 →
      (tRet (tIf (tB (tCallG (spFits 60) (tCons (tVar 8) (tCons (tVar 9) tNil)))) (tTup (tCons (tVar 8) (tCons (tVar 9) tNil))) (tTup (tCons (tVar 3) (tCons (tVar 4) tNil))))) { nx := fun _ H' => Q .non H', rt := Q }
        [some (.ref a), some (.str (tx ns)), some (.int 2), some (.ref l), some g, y5, y6, y7, some (.ref lc), some g] (upd H5 lc (.lst (us.set sp v))) := fun H5 v z y5 y6 y7 U5 s5 hv hz hzs => by
    have U6 := (U5.weak (p := lc)).trans (updc H5 (.lst (us.set sp v)))
    have hc5 := U5 _ _ nla hc4
    have t56 : TK H5 (upd H5 lc (.lst (us.set sp v))) := (upto_upd (l := [lc]) (by simp) _).tk (noTup1 hc5 (fun xs q => nomatch q))
    have t6 := U6.tk nt4
    refine fin lc g (ks.set sp z) k _ y5 y6 y7 ⟨⟨_, upd_same, KsAt.set sp (hks4.mono t6) (hv.mono t56)⟩, setNe _ _, setAll sp z hz, hO4.g.mono t6, hO.ag⟩ (by rw [List.length_set]; omega) ?_ (wk.trans U6) (spc _ _ _ s5)
    have := rsize_set_le ks sp z
    omega
  -- swap
  refine ⟨_, rfl, _, _, rfl, rfl, _, rfl, ite2 (fun c => ?_) (fun c => ?_)⟩
  · refine ⟨_, rfl, _, rfl, l, us, _, _, rfl, rfl, SqL.of hus4, atI_nat hy, _, rfl, _, rfl, lc, us, _, sp, rfl, rfl, hc4, ixN_at (by omega), ?_⟩
    have U5 := updc H4 (.lst (us.set sp y))
    have hus5 : upd H4 lc (.lst (us.set sp y)) l = some (.lst us) := by rw [upd_ne lla]; exact hus4
    refine ⟨_, rfl, _, rfl, l, us, _, _, rfl, rfl, SqL.of hus5, atI_nat hx, _, rfl, _, rfl, lc, _, _, sq, rfl, rfl, upd_same, ixN_at (by rw [List.length_set]; omega), ?_⟩
    have U6 := U5.trans (updc (upd H4 lc (.lst (us.set sp y))) (.lst ((us.set sp y).set sq x)))
    have t6 := U6.tk nt4
    refine fin lc g ((ks.set sp ky).set sq kx) k _ _ _ _ ⟨⟨_, upd_same, KsAt.set sq (KsAt.set sp (hks4.mono t6) (hyk.mono t6)) (hxk.mono t6)⟩, ?_, ?_, hO4.g.mono t6, hO.ag⟩ (by rw [List.length_set, List.length_set]; omega) ?_ (wk.trans U6) ((spc _ _ _ (spc _ _ _ s4)).le (by omega))
    · intro h
      have := congrArg List.length h
      rw [List.length_set, List.length_set, List.length_nil] at this
      omega
    · intro w hw
      rcases mem_set_of hw with e | e
      · rw [e]; exact hakx
      · exact setAll sp ky haky w e
    · have := rsize_set_le ks sp ky
      have := rsize_set_le (ks.set sp ky) sq kx
      omega
  -- one is crossed
  refine ⟨_, rfl, _, _, rfl, rfl, _, rfl, ite2 (fun c => ?_) (fun c => ?_)⟩
  · refine ⟨_, rfl, _, rfl, _, rfl, l, us, _, _, rfl, rfl, SqL.of hus4, atI_nat hx, a, x, kx, b, rfl, hxk, by omega, s4.le (by omega), fun v' k' H5 hk' hz' hal' U5 s5 => ?_⟩
    exact ⟨_, rfl, _, rfl, lc, us, _, sp, rfl, rfl, U5 _ _ nla hc4, ixN_at (by omega), one H5 v' k' _ _ _ U5 s5 hk' (hal' _ hakx) (by omega)⟩
  -- the goal is crossed
  refine ⟨_, rfl, rfl, _, rfl, ite2 (fun c => ?_) (fun c => ?_)⟩
  · refine ⟨_, rfl, _, rfl, a, g, k, b, rfl, hO4.g, by omega, s4.le (by omega), fun v' k' H5 hk' hz' hal' U5 s5 => ?_⟩
    have hc5 := U5 _ _ nla hc4
    have t5 := U5.tk s4.nt
    exact fin lc v' ks k' _ _ _ _ ⟨⟨us, hc5, hks4.mono t5⟩, hO.ne, haks, hk', hal' _ hO.ag⟩ (by omega) (by omega) (wk.trans U5.weak) s5
  -- one is drawn anew
  refine ⟨_, rfl, rfl, _, rfl, ite2 (fun c => ?_) (fun c => ?_)⟩
  · refine ⟨_, rfl, _, rfl, _, rfl, _, rfl, l, us, _, _, rfl, rfl, SqL.of hus4, atI_nat hx, _, _, rfl, hxk, by omega, _, rfl, a, ns, kx.size, b, rfl, hne, hl, by omega, by omega, by omega, s4.le (by omega), fun v' k' H5 hk' hz' hal' U5 s5 => ?_⟩
    exact ⟨_, rfl, _, rfl, lc, us, _, sp, rfl, rfl, U5 _ _ nla hc4, ixN_at (by omega), one H5 v' k' _ _ _ U5 s5 hk' hal' (by omega)⟩
  -- the goal is drawn anew
  refine ⟨_, rfl, rfl, _, rfl, ite2 (fun c => ?_) (fun c => ?_)⟩
  · refine ⟨_, rfl, _, rfl, _, rfl, _, _, rfl, hO4.g, by omega, _, rfl, a, ns, k.size, b, rfl, hne, hl, by omega, by omega, by omega, s4.le (by omega), fun v' k' H5 hk' hz' hal' U5 s5 => ?_⟩
    have hc5 := U5 _ _ nla hc4
    have t5 := U5.tk s4.nt
    exact fin lc v' ks k' _ _ _ _ ⟨⟨us, hc5, hks4.mono t5⟩, hO.ne, haks, hk', hal'⟩ (by omega) (by omega) (wk.trans U5.weak) s5
  -- one kind: row and goal change places
  refine ⟨_, rfl, _, _, rfl, .inl (SqL.of hus4), rfl, _, rfl, ite2 (fun c => ?_) (fun c => ?_)⟩
  · obtain ⟨x0, hx0⟩ : ∃ x, us[0]? = some x := ⟨us[0]'(by omega), by simp⟩
    obtain ⟨k0, hk0, hv0⟩ := KsAt.get' hks4 hx0
    have hs0 := size_le_rsize (mem_of_get hk0)
    refine ⟨_, rfl, by show 1 ≤ sizeLine; decide, fun p np => ?_⟩
    have S5 := same_new np (.lst [g])
    refine ⟨_, rfl, l, us, _, _, rfl, rfl, SqL.of (S5 _ _ hus4), atI_nat hx0, _, _, rfl, ?_⟩
    exact fin p x0 [k] k0 _ _ _ _ ⟨⟨_, upd_same, .cons (hO4.g.mono (Same.tk S5)) .nil⟩, by simp, fun z hz => by rw [List.mem_singleton.mp hz]; exact hO.ag, hv0.mono (Same.tk S5), haks _ (mem_of_get hk0)⟩ (by show 1 ≤ 6; omega) (by show k.size + 0 + k0.size ≤ 60; omega) (wk.trans (Upto.of_same S5)) ((s4.same S5).le (by omega))
  · refine ⟨_, rfl, l, us, rfl, SqL.of hus4, fun p np => ?_⟩
    have S5 := same_new np (.lst us.reverse)
    refine fin p g ks.reverse k _ _ _ _ ⟨⟨_, upd_same, (hks4.mono (Same.tk S5)).reverse⟩, ?_, fun z hz => haks z (List.mem_reverse.mp hz), hO4.g.mono (Same.tk S5), hO.ag⟩ (by rw [List.length_reverse]; omega) (by rw [rsize_reverse]; omega) (wk.trans (Upto.of_same S5)) ((s4.same S5).le (by omega))
    intro h
    have := congrArg List.length h
    rw [List.length_reverse, List.length_nil] at this
    omega
end
end L2.G
set_option Elab.async false
set_option linter.all false
set_option maxRecDepth 100000
set_option maxHeartbeats 8000000
/-! The law's sums; its small kinds. -/
namespace L2.G
open PySem PySem.Spec PyProof.Rows WW
/-- the weight of a letter among the names -/
def wt (ns : List Nat) (c : Nat) : Int :=
  match Builtin.Str.occurrences (tx ns) (ch c) 0 (tx ns).length 1 with
  | i :: _ => ([1, 64, 4096, 262144, 16777216, 1073741824, 68719476736, 4398046511104] : List Int).getD i 0
  | [] => 0
theorem occ_tx {ns : List Nat} {c : Nat} (h : c ∈ ns) : ∃ i rest, Builtin.Str.occurrences (tx ns) (ch c) 0 (tx ns).length 1 = i :: rest ∧ i < ns.length := by
  have h1 := StrLaws.found_one (tx ns) c
  rw [decide_eq_true (by simpa using h)] at h1
  cases e : Builtin.Str.occurrences (tx ns) (ch c) 0 (tx ns).length 1 with
  | nil => rw [show (⟨#[c]⟩ : Str) = ch c from rfl, e] at h1; simp at h1
  | cons i rest =>
    have h3 : i + (ch c).length ≤ (tx ns).length := (StrLaws.occ_spec (tx ns) (ch c) 0 (tx ns).length 1 i (by rw [e]; exact List.mem_cons_self)).1
    have h4 : (tx ns).length = ns.length := tx_len ns
    have h2 : (ch c).length = 1 := rfl
    exact ⟨i, rest, rfl, by omega⟩
def spSum (n : Nat) : SpG := fun vs H Q => ∃ (v : V) (k : Kd Nat) (ns : List Nat), vs = [v, .str (tx ns)] ∧ KAt H v k ∧ k.ops < n ∧ k.All (· ∈ ns) ∧ ns.length ≤ 8 ∧ ∀ H', Same H H' → Q (.int (k.val (wt ns))) H'
section
variable {P : Program} {w : World} {K : PySem.W.Frag} {mg : Str → Option Value} {base : Heap} {C : Addr}
theorem c_sum (T : Txt w K mg C) : ∀ n, GCal P w K mg base n "_law_sum" (spSum n)
  | 0 => cal_none T.dL_sum fun vs H Q ⟨_, _, _, _, _, h, _⟩ => absurd h (Nat.not_lt_zero _)
  | n + 1 => by
    have C_sum := c_sum T n
    refine cal_of T.dL_sum scL_sum (fun vs H Q ⟨_, _, _, e, _⟩ => by rw [e]; rfl) fun f cdv A outer s H vs Q hr ⟨v, k, ns, e, hk, hn, ha, hl, q⟩ => ?_
    subst e
    refine ⟨_, (pss_cons (ps_if (pt_cmpR op_eq (pe_ix ix_tup (pv 0) pe_int (fun _ _ => rfl)) pe_str (nomark _))
      (pss_one (ps_ret (pe_ix ix_list (pe_lst (pa_cons pe_int (pa_cons pe_int (pa_cons pe_int (pa_cons pe_int (pa_cons pe_int (pa_cons pe_int (pa_cons pe_int (pa_cons pe_int pa_nil))))))))) (pe_bm PySem.F.plainAttrs_str PySem.F.slot_str_index PySem.F.type_str_index mt_sindex (pv 1) (pa_cons (pe_ix ix_tup (pv 0) pe_int (fun _ _ => rfl)) pa_nil)) (fun _ _ => rfl))))
      pss_nil)
    (pss_cons (ps_if (pt_cmpR op_eq (pe_ix ix_tup (pv 0) pe_int (fun _ _ => rfl)) pe_str (nomark _))
      (pss_one (ps_ret (pe_op op_sub (pe_g C_sum hr (by omega) rfl (pa_cons (pe_ix ix_tup (pv 0) pe_int (fun _ _ => rfl)) (pa_cons (pv 1) pa_nil))) (pe_g C_sum hr (by omega) rfl (pa_cons (pe_ix ix_tup (pv 0) pe_int (fun _ _ => rfl)) (pa_cons (pv 1) pa_nil))))))
      pss_nil)
    (pss_one (ps_ret (pe_op op_add (pe_g C_sum hr (by omega) rfl (pa_cons (pe_ix ix_tup (pv 0) pe_int (fun _ _ => rfl)) (pa_cons (pv 1) pa_nil))) (pe_op op_mul (pe_ifExp (pt_cmpR op_eq (pe_ix ix_tup (pv 0) pe_int (fun _ _ => rfl)) pe_str (nomark _)) pe_int (pe_un un_neg pe_int)) (pe_g C_sum hr (by omega) rfl (pa_cons (pe_ix ix_tup (pv 0) pe_int (fun _ _ => rfl)) (pa_cons (pv 1) pa_nil))))))))), ?_⟩
    cases hk with
    | @p ad c h =>
      refine ⟨_, rfl, _, _, _, _, rfl, rfl, SqT.of h, rfl, rfl, _, rfl, ifP ?_⟩
      refine ⟨by show 8 ≤ sizeLine; decide, fun p np => ?_⟩
      have S := same_new np (.lst [.int 1, .int 64, .int 4096, .int 262144, .int 16777216, .int 1073741824, .int 68719476736, .int 4398046511104])
      obtain ⟨i, rest, ho, hi⟩ := occ_tx (show c ∈ ns from ha)
      refine ⟨_, rfl, rfl, _, rfl, _, _, _, _, rfl, rfl, SqT.of (S _ _ h), rfl, tx ns, ch c, i, rest, rfl, rfl, ho, ?_⟩
      have hw : atI [V.int 1, .int 64, .int 4096, .int 262144, .int 16777216, .int 1073741824, .int 68719476736, .int 4398046511104] ((i : Nat) : Int) = some (.int (wt ns c)) := by
        refine atI_nat ?_
        unfold wt
        rw [ho]
        have : i = 0 ∨ i = 1 ∨ i = 2 ∨ i = 3 ∨ i = 4 ∨ i = 5 ∨ i = 6 ∨ i = 7 := by omega
        rcases this with rfl | rfl | rfl | rfl | rfl | rfl | rfl | rfl <;> rfl
      exact ⟨p, _, _, _, rfl, rfl, SqL.of upd_same, hw, q _ S⟩
    | @b ad u v x y h h1 h2 =>
      simp only [Kd.ops] at hn
      refine ⟨_, rfl, _, _, _, _, rfl, rfl, SqT.of h, rfl, rfl, _, rfl, ifN nbp ?_⟩
      refine ⟨_, rfl, _, _, _, _, rfl, rfl, SqT.of h, rfl, rfl, _, rfl, ifN nba ?_⟩
      refine ⟨_, rfl, _, _, _, _, rfl, rfl, SqT.of h, rfl, _, rfl, _, _, ns, rfl, h1, by omega, ha.1, hl, fun H1 S1 => ?_⟩
      refine ⟨_, rfl, _, _, _, _, rfl, rfl, SqT.of (S1 _ _ h), rfl, rfl, _, rfl, ifN nbw ?_⟩
      refine ⟨_, rfl, _, rfl, _, _, _, _, rfl, rfl, SqT.of (S1 _ _ h), rfl, _, rfl, _, _, ns, rfl, h2.mono (Same.tk S1), by omega, ha.2, hl, fun H2 S2 => ?_⟩
      refine ⟨_, _, rfl, rfl, .inl ⟨by decide, by decide⟩, _, _, rfl, rfl, ?_⟩
      exact qi (by show x.val (wt ns) + -1 * y.val (wt ns) = x.val (wt ns) - y.val (wt ns); omega) (q _ (S1.trans S2))
    | @a ad u v x y h h1 h2 =>
      simp only [Kd.ops] at hn
      refine ⟨_, rfl, _, _, _, _, rfl, rfl, SqT.of h, rfl, rfl, _, rfl, ifN nap ?_⟩
      refine ⟨_, rfl, _, _, _, _, rfl, rfl, SqT.of h, rfl, rfl, _, rfl, ifP ?_⟩
      refine ⟨_, rfl, _, _, _, _, rfl, rfl, SqT.of h, rfl, _, rfl, _, _, ns, rfl, h2, by omega, ha.2, hl, fun H1 S1 => ?_⟩
      refine ⟨_, rfl, _, _, _, _, rfl, rfl, SqT.of (S1 _ _ h), rfl, _, rfl, _, _, ns, rfl, h1.mono (Same.tk S1), by omega, ha.1, hl, fun H2 S2 => ?_⟩
      exact ⟨_, _, rfl, rfl, q _ (S1.trans S2)⟩
end
end L2.G
set_option Elab.async false
set_option linter.all false
set_option maxRecDepth 100000
set_option maxHeartbeats 4000000
/-! repr((row, goal)): its text says which. -/
namespace L2.G
open PySem PySem.Spec PyProof.Rows WW
def qPlain : List Nat := [39, 112, 108, 97, 105, 110, 39]
def qBehind : List Nat := [39, 98, 101, 104, 105, 110, 100, 39]
def qAhead : List Nat := [39, 97, 104, 101, 97, 100, 39]
/-- the signs of a kind's repr -/
def kcs : Kd Nat → List Nat
  | .p c => 40 :: (qPlain ++ ([44, 32] ++ ([39, c, 39] ++ [41])))
  | .b x y => 40 :: (qBehind ++ ([44, 32] ++ (kcs x ++ ([44, 32] ++ (kcs y ++ [41])))))
  | .a y x => 40 :: (qAhead ++ ([44, 32] ++ (kcs y ++ ([44, 32] ++ (kcs x ++ [41])))))
def scs : List (Kd Nat) → List Nat
  | [] => []
  | [k] => kcs k
  | k :: l :: r => kcs k ++ ([44, 32] ++ scs (l :: r))
def rcs (r : List (Kd Nat)) (k : Kd Nat) : List Nat := 40 :: (91 :: (scs r ++ (93 :: ([44, 32] ++ (kcs k ++ [41])))))
theorem kcs_inj : ∀ (k l : Kd Nat) (r t : List Nat), kcs k ++ r = kcs l ++ t → k = l ∧ r = t
  | .p c, .p d, r, t, h => by
    simp only [kcs, qPlain, List.cons_append, List.nil_append, List.append_assoc, List.cons.injEq, true_and] at h
    exact ⟨by rw [h.1], h.2⟩
  | .p c, .b x y, r, t, h => by simp [kcs, qPlain, qBehind] at h
  | .p c, .a x y, r, t, h => by simp [kcs, qPlain, qAhead] at h
  | .b x y, .p c, r, t, h => by simp [kcs, qPlain, qBehind] at h
  | .b x y, .a u v, r, t, h => by simp [kcs, qAhead, qBehind] at h
  | .a x y, .p c, r, t, h => by simp [kcs, qPlain, qAhead] at h
  | .a x y, .b u v, r, t, h => by simp [kcs, qAhead, qBehind] at h
  | .b x y, .b u v, r, t, h => by
    simp only [kcs, qBehind, List.cons_append, List.nil_append, List.append_assoc, List.cons.injEq, true_and] at h
    obtain ⟨h1, h⟩ := kcs_inj x u _ _ h
    simp only [List.cons.injEq, true_and] at h
    obtain ⟨h2, h⟩ := kcs_inj y v _ _ h
    simp only [List.cons.injEq, true_and] at h
    exact ⟨by rw [h1, h2], h⟩
  | .a x y, .a u v, r, t, h => by
    simp only [kcs, qAhead, List.cons_append, List.nil_append, List.append_assoc, List.cons.injEq, true_and] at h
    obtain ⟨h1, h⟩ := kcs_inj x u _ _ h
    simp only [List.cons.injEq, true_and] at h
    obtain ⟨h2, h⟩ := kcs_inj y v _ _ h
    simp only [List.cons.injEq, true_and] at h
    exact ⟨by rw [h1, h2], h⟩
theorem kcs_head (k : Kd Nat) : ∃ t, kcs k = 40 :: t := by cases k <;> exact ⟨_, rfl⟩
theorem scs_inj : ∀ (ks ls : List (Kd Nat)) (r t : List Nat), scs ks ++ 93 :: r = scs ls ++ 93 :: t → ks = ls ∧ r = t
  | [], [], r, t, h => by simpa [scs] using h
  | [], [l], r, t, h => by
    obtain ⟨u, e⟩ := kcs_head l
    simp [scs, e] at h
  | [], l :: l2 :: ls, r, t, h => by
    obtain ⟨u, e⟩ := kcs_head l
    simp [scs, e] at h
  | [k], [], r, t, h => by
    obtain ⟨u, e⟩ := kcs_head k
    simp [scs, e] at h
  | k :: k2 :: ks, [], r, t, h => by
    obtain ⟨u, e⟩ := kcs_head k
    simp [scs, e] at h
  | [k], [l], r, t, h => by
    obtain ⟨h1, h2⟩ := kcs_inj k l _ _ h
    simp at h2
    exact ⟨by rw [h1], h2⟩
  | [k], l :: l2 :: ls, r, t, h => by
    rw [scs, scs, List.append_assoc] at h
    obtain ⟨h1, h2⟩ := kcs_inj k l _ _ h
    simp at h2
  | k :: k2 :: ks, [l], r, t, h => by
    rw [scs, scs, List.append_assoc] at h
    obtain ⟨h1, h2⟩ := kcs_inj k l _ _ h
    simp at h2
  | k :: k2 :: ks, l :: l2 :: ls, r, t, h => by
    simp only [scs, List.append_assoc] at h
    obtain ⟨h1, h2⟩ := kcs_inj k l _ _ h
    simp only [List.cons_append, List.nil_append, List.cons.injEq, true_and] at h2
    obtain ⟨h3, h4⟩ := scs_inj (k2 :: ks) (l2 :: ls) _ _ h2
    exact ⟨by rw [h1, h3], h4⟩
theorem rcs_inj {r t : List (Kd Nat)} {k l : Kd Nat} (h : rcs r k = rcs t l) : r = t ∧ k = l := by
  simp only [rcs, List.cons.injEq, true_and] at h
  obtain ⟨h1, h2⟩ := scs_inj _ _ _ _ h
  simp only [List.cons_append, List.nil_append, List.cons.injEq, true_and] at h2
  exact ⟨h1, (kcs_inj _ _ _ _ h2).1⟩
/-! ### the model's text -/
theorem rt_az {c : Nat} (h : Az c) : (reprText (ch c)).cps.toList = [39, c, 39] := by
  have all : ∀ i ∈ List.range 26, (reprText (ch (i + 97))).cps.toList = [39, i + 97, 39] := by decide +kernel
  have := all (c - 97) (List.mem_range.mpr (by have := h.1; have := h.2; omega))
  rwa [show c - 97 + 97 = c from by have := h.1; omega] at this
theorem rt_plain : (reprText "plain").cps.toList = qPlain := by decide +kernel
theorem rt_behind : (reprText "behind").cps.toList = qBehind := by decide +kernel
theorem rt_ahead : (reprText "ahead").cps.toList = qAhead := by decide +kernel
theorem tup2 (a b : Str) : (tupleText [a, b]).cps.toList = 40 :: (a.cps.toList ++ ([44, 32] ++ (b.cps.toList ++ [41]))) := by
  show ((("(" : Str) ++ ((a ++ ", ") ++ b)) ++ (")" : Str)).cps.toList = _
  simp only [cps_toList_append]
  rw [show ((", " : Str)).cps.toList = [44, 32] from rfl, show (("(" : Str)).cps.toList = [40] from rfl, show ((")" : Str)).cps.toList = [41] from rfl]
  simp
theorem tup3 (a b c : Str) : (tupleText [a, b, c]).cps.toList = 40 :: (a.cps.toList ++ ([44, 32] ++ (b.cps.toList ++ ([44, 32] ++ (c.cps.toList ++ [41]))))) := by
  show ((("(" : Str) ++ ((a ++ ", ") ++ ((b ++ ", ") ++ c))) ++ (")" : Str)).cps.toList = _
  simp only [cps_toList_append]
  rw [show ((", " : Str)).cps.toList = [44, 32] from rfl, show (("(" : Str)).cps.toList = [40] from rfl, show ((")" : Str)).cps.toList = [41] from rfl]
  simp
theorem shown_k : ∀ {k : Kd Nat}, k.All Az → (PyData.shown (kdat k)).cps.toList = kcs k
  | .p c, h => by
    simp only [kdat, PyData.shown, PyData.shownAll]
    rw [tup2, rt_plain, rt_az h]
    rfl
  | .b x y, h => by
    simp only [kdat, PyData.shown, PyData.shownAll]
    rw [tup3, rt_behind, shown_k h.1, shown_k h.2]
    rfl
  | .a x y, h => by
    simp only [kdat, PyData.shown, PyData.shownAll]
    rw [tup3, rt_ahead, shown_k h.1, shown_k h.2]
    rfl
theorem shown_join : ∀ {ks : List (Kd Nat)}, (∀ k ∈ ks, k.All Az) → (Str.join ", " (PyData.shownAll (ks.map kdat))).cps.toList = scs ks
  | [], _ => rfl
  | [k], h => shown_k (h k (by simp))
  | k :: l :: ks, h => by
    show ((PyData.shown (kdat k) ++ ", ") ++ Str.join ", " (PyData.shownAll ((l :: ks).map kdat))).cps.toList = _
    simp only [cps_toList_append]
    rw [shown_k (h k (by simp)), shown_join fun z hz => h z (List.mem_cons_of_mem _ hz), show ((", " : Str)).cps.toList = [44, 32] from rfl, scs, List.append_assoc]
theorem listText_join (ts : List Str) : (listText ts).cps.toList = 91 :: ((Str.join ", " ts).cps.toList ++ [93]) := by
  rw [listText_eq_join]
  simp only [cps_toList_append]
  rw [show (("[" : Str)).cps.toList = [91] from rfl, show (("]" : Str)).cps.toList = [93] from rfl]
  rfl
/-- the memo's key -/
def rt (r : List (Kd Nat)) (k : Kd Nat) : Str := PyData.shown (.tuple [.list (r.map kdat), kdat k])
theorem rt_cs {r : List (Kd Nat)} {k : Kd Nat} (hr : ∀ z ∈ r, z.All Az) (hk : k.All Az) : (rt r k).cps.toList = rcs r k := by
  show (PyData.shown (.tuple [.list (r.map kdat), kdat k])).cps.toList = _
  simp only [PyData.shown, PyData.shownAll]
  rw [tup2, listText_join, shown_join hr, shown_k hk]
  simp [rcs]
theorem rt_inj {r t : List (Kd Nat)} {k l : Kd Nat} (hr : ∀ z ∈ r, z.All Az) (hk : k.All Az) (ht : ∀ z ∈ t, z.All Az) (hl : l.All Az) (h : rt r k = rt t l) : r = t ∧ k = l :=
  rcs_inj (by rw [← rt_cs hr hk, ← rt_cs ht hl, h])
theorem kcs_len : ∀ k : Kd Nat, (kcs k).length + 14 ≤ 28 * k.size
  | .p c => by simp [kcs, qPlain, Kd.size]
  | .b x y => by have := kcs_len x; have := kcs_len y; have := x.size_pos; have := y.size_pos; simp [kcs, qBehind, Kd.size]; omega
  | .a x y => by have := kcs_len x; have := kcs_len y; have := x.size_pos; have := y.size_pos; simp [kcs, qAhead, Kd.size]; omega
theorem scs_len : ∀ r : List (Kd Nat), (scs r).length ≤ 28 * rsize r
  | [] => Nat.zero_le _
  | [k] => by have := kcs_len k; show (kcs k).length ≤ 28 * (k.size + 0); omega
  | k :: l :: r => by
    have := kcs_len k
    have := scs_len (l :: r)
    have := k.size_pos
    show (kcs k ++ ([44, 32] ++ scs (l :: r))).length ≤ 28 * (k.size + rsize (l :: r))
    simp only [List.length_append, List.length_cons, List.length_nil]
    omega
theorem rt_len {r : List (Kd Nat)} {k : Kd Nat} (hr : ∀ z ∈ r, z.All Az) (hk : k.All Az) : (rt r k).length ≤ 28 * (rsize r + k.size) + 6 := by
  have h1 := kcs_len k
  have h2 := scs_len r
  show (rt r k).cps.size ≤ _
  rw [← Array.length_toList, rt_cs hr hk]
  simp only [rcs, List.length_append, List.length_cons, List.length_nil]
  omega
theorem kdat_showable : ∀ k : Kd Nat, PyData.showable (kdat k) = true
  | .p c => rfl
  | .b x y => by simp [kdat, PyData.showable, PyData.showableAll, kdat_showable x, kdat_showable y]
  | .a x y => by simp [kdat, PyData.showable, PyData.showableAll, kdat_showable x, kdat_showable y]
theorem kdat_noDict : ∀ k : Kd Nat, PyData.hasDict (kdat k) = false
  | .p c => rfl
  | .b x y => by simp [kdat, PyData.hasDict, PyData.hasDictAll, kdat_noDict x, kdat_noDict y]
  | .a x y => by simp [kdat, PyData.hasDict, PyData.hasDictAll, kdat_noDict x, kdat_noDict y]
theorem kdats_showable : ∀ r : List (Kd Nat), PyData.showableAll (r.map kdat) = true
  | [] => rfl
  | k :: r => by rw [List.map_cons, PyData.showableAll, kdat_showable, kdats_showable r]; rfl
theorem kdats_noDict : ∀ r : List (Kd Nat), PyData.hasDictAll (r.map kdat) = false
  | [] => rfl
  | k :: r => by rw [List.map_cons, PyData.hasDictAll, kdat_noDict, kdats_noDict r]; rfl
section
variable {X : Cx}
/-- repr(a pair of a row and its goal) -/
def rRepr (K : PySem.W.Frag) : List V → Hp → VK → Prop := fun vs H Q => ∃ (a l : Addr) (g : V) (us : List V) (r : List (Kd Nat)) (k : Kd Nat), vs = [.ref a] ∧ H a = some (.tup [.ref l, g]) ∧ H l = some (.lst us) ∧ KsAt H us r ∧ KAt H g k ∧ (∀ z ∈ r, z.All Az) ∧ k.All Az ∧ (∀ z ∈ r, z.size ≤ 40) ∧ k.size ≤ 40 ∧ rsize r + k.size ≤ 1000 ∧ Q (.str (rt r k)) H
theorem cr_repr (hg : X.A.guards = some []) (hu : X.A.units + 64 < cLine) : CallR X (.builtin "repr") (rRepr X.K) := by
  intro pins s σ H vs us Q I r h
  obtain ⟨a, l, g, ws, ks, k, rfl, ha, hl, hks, hk, hr, hka, hs, hks2, hz, q⟩ := h
  obtain ⟨u, rfl, ru⟩ := vals1 r
  obtain rfl : u = Value.ref a := ru
  have D : Dp X.K H (.ref a) (.tuple [.list (ks.map kdat), kdat k]) := .tup (SqT.of ha) (.cons (KsAt.dp hl hks) (.cons hk.dp .nil))
  obtain ⟨as, R⟩ := Dp.reads I _ _ _ D (show RelV (.ref a) (.ref a) from rfl)
  have hd : PyData.depth (.tuple [.list (ks.map kdat), kdat k]) ≤ 44 := by
    simp only [PyData.depth, PyData.depthAll]
    rw [kdat_depth]
    have h1 := kdats_depth (ks := ks) (n := 41) fun z hz => by
      have := z.depth_le
      have := z.ops_size
      have := hs z hz
      omega
    have := k.depth_le
    have := k.ops_size
    omega
  have hlen := rt_len hr hka
  have zl : sizeLine = 16777216 := sizeLine_eq
  refine repr_of_reads' R (by simp only [PyData.showable, PyData.showableAll]; rw [kdat_showable, kdats_showable]; rfl) (fun e => by
    simp only [PyData.hasDict, PyData.hasDictAll] at e
    rw [kdat_noDict, kdats_noDict] at e
    cases e) hg (by omega) (fun _ _ e => e) (fun h' u tk hk => ?_) (by show (rt ks k).length ≤ _; omega)
  exact ⟨.str (rt ks k), H, I.kept hk, ⟨_, rfl⟩, q⟩
end
end L2.G
set_option Elab.async false
set_option linter.all false
set_option maxRecDepth 100000
set_option maxHeartbeats 8000000
/-! The law's search. -/
namespace L2.G
open PySem PySem.Spec PyProof.Rows WW
theorem nodup_len {α : Type} [DecidableEq α] : ∀ (l m : List α), l.Nodup → (∀ x ∈ l, x ∈ m) → l.length ≤ m.length
  | [], m, _, _ => Nat.zero_le _
  | x :: l, m, hn, hs => by
    have hx := hs x List.mem_cons_self
    have hn' := List.nodup_cons.mp hn
    have ih := nodup_len l (m.erase x) hn'.2 fun y hy => (List.mem_erase_of_ne (fun e => hn'.1 (by rw [← e]; exact hy))).mpr (hs y (List.mem_cons_of_mem _ hy))
    rw [List.length_erase_of_mem hx] at ih
    have := List.length_pos_of_mem hx
    rw [List.length_cons]
    omega
theorem mem_putK {κ : Type} [DecidableEq κ] {kvs : List (κ × V)} {k : κ} {v : V} {p : κ × V} (h : p ∈ putK kvs k v) : p = (k, v) ∨ p ∈ kvs := by
  unfold putK at h
  split at h
  · obtain ⟨q, hq, e⟩ := List.mem_map.mp h
    split at e
    · rename_i hk
      exact .inl (by rw [← e, hk])
    · exact .inr (e ▸ hq)
  · rcases List.mem_append.mp h with h | h
    · exact .inr h
    · exact .inl (List.mem_singleton.mp h)
theorem nd_put {κ : Type} [DecidableEq κ] {kvs : List (κ × V)} {k : κ} (v : V) (hn : (kvs.map (·.1)).Nodup) : ((putK kvs k v).map (·.1)).Nodup := by
  cases e : valV kvs k with
  | none => exact L2.nd_putK v hn e
  | some y =>
    unfold putK
    rw [valV_any, e, if_pos (show (some y).isSome = true from rfl), List.map_map]
    have : ((fun x : κ × V => x.1) ∘ fun kv : κ × V => if kv.1 = k then (kv.1, v) else kv) = fun x : κ × V => x.1 := by
      funext x
      simp only [Function.comp]
      split <;> rfl
    rw [this]
    exact hn
theorem mem_of_valV {κ : Type} [DecidableEq κ] {kvs : List (κ × V)} {k : κ} {v : V} (h : valV kvs k = some v) : (k, v) ∈ kvs := by
  unfold valV at h
  obtain ⟨p, hp, e⟩ := Option.map_eq_some_iff.mp h
  have h1 := List.mem_of_find?_eq_some hp
  have h2 := List.find?_some hp
  have h2 := of_decide_eq_true h2
  rw [← h2, ← e]
  exact h1
abbrev Stt := List (Kd Nat) × Kd Nat
/-- the law's memo -/
structure Memo (B : List Stt) (H : Hp) (d : Addr) : Prop where
  ex : ∃ kvs : List (Key × V), H d = some (.dK kvs) ∧ (kvs.map (·.1)).Nodup ∧ ∀ p ∈ kvs, ∃ (r : List (Kd Nat)) (k : Kd Nat) (b : Bool), p = (.inr (rt r k), .bl b) ∧ (b = true ↔ L r k) ∧ (∀ z ∈ r, z.All Az) ∧ k.All Az ∧ (r, k) ∈ B
theorem Memo.same {B : List Stt} {H H' : Hp} {d : Addr} (m : Memo B H d) (s : Same H H') : Memo B H' d := by
  obtain ⟨kvs, h, r⟩ := m.ex
  exact ⟨kvs, s _ _ h, r⟩
theorem Memo.nt {B : List Stt} {H : Hp} {d : Addr} (m : Memo B H d) : NoTup H [d] := by
  obtain ⟨kvs, h, r⟩ := m.ex
  exact noTup1 h (fun xs q => nomatch q)
theorem Memo.more {B B' : List Stt} {H : Hp} {d : Addr} (m : Memo B H d) (h : ∀ s ∈ B, s ∈ B') : Memo B' H d := by
  obtain ⟨kvs, h1, h2, h3⟩ := m.ex
  exact ⟨kvs, h1, h2, fun p hp => by
    obtain ⟨r, k, b, e, h4, h5, h6, h7⟩ := h3 p hp
    exact ⟨r, k, b, e, h4, h5, h6, h _ h7⟩⟩
theorem Memo.len {B : List Stt} {kvs : List (Key × V)} (hn : (kvs.map (·.1)).Nodup) (h : ∀ p ∈ kvs, ∃ (r : List (Kd Nat)) (k : Kd Nat) (b : Bool), p = (.inr (rt r k), .bl b) ∧ (b = true ↔ L r k) ∧ (∀ z ∈ r, z.All Az) ∧ k.All Az ∧ (r, k) ∈ B) : kvs.length ≤ B.length := by
  have := nodup_len (kvs.map (·.1)) (B.map fun s => (.inr (rt s.1 s.2) : Key)) hn fun x hx => by
    obtain ⟨p, hp, e⟩ := List.mem_map.mp hx
    obtain ⟨r, k, b, e2, _, _, _, hm⟩ := h p hp
    rw [← e, e2]
    exact List.mem_map.mpr ⟨(r, k), hm, rfl⟩
  rwa [List.length_map, List.length_map] at this
theorem Outc.uptoD {ns : List Nat} {H H' : Hp} {l d : Addr} {g : V} {ks : List (Kd Nat)} {k : Kd Nat} {B : List Stt} (o : Outc ns H l g ks k) (m : Memo B H d) (u : Upto [d] H H') : Outc ns H' l g ks k := by
  obtain ⟨⟨us, h1, h2⟩, h3, h4, h5, h6⟩ := o
  have hn : l ∉ [d] := fun e => by
    obtain ⟨kvs, hd, _⟩ := m.ex
    have := List.mem_singleton.mp e
    subst this
    rw [h1] at hd; cases hd
  exact ⟨⟨us, u _ _ hn h1, h2.mono (u.tk m.nt)⟩, h3, h4, h5.mono (u.tk m.nt), h6⟩
/-- a state of a search all of whose states are in B -/
def Sts (B : List Stt) (r : List (Kd Nat)) (k : Kd Nat) : Prop := ∃ r0 k0, InSt r0 k0 r k ∧ ∀ s ∈ states r0 k0, s ∈ B
theorem Sts.mem {B : List Stt} {r : List (Kd Nat)} {k : Kd Nat} (h : Sts B r k) : (r, k) ∈ B := let ⟨_, _, h1, h2⟩ := h; h2 _ h1.mem
theorem Sts.rb {B : List Stt} {r : List (Kd Nat)} {x y : Kd Nat} (h : Sts B r (.b x y)) : Sts B (r ++ [y]) x := let ⟨_, _, h1, h2⟩ := h; ⟨_, _, h1.rb, h2⟩
theorem Sts.ra {B : List Stt} {r : List (Kd Nat)} {x y : Kd Nat} (h : Sts B r (.a y x)) : Sts B (y :: r) x := let ⟨_, _, h1, h2⟩ := h; ⟨_, _, h1.ra, h2⟩
theorem Sts.lb {B : List Stt} {g d t : List (Kd Nat)} {x y k : Kd Nat} (h : Sts B (g ++ .b x y :: (d ++ t)) k) : Sts B d y ∧ Sts B (g ++ x :: t) k := let ⟨_, _, h1, h2⟩ := h; ⟨⟨_, _, h1.lb.1, h2⟩, ⟨_, _, h1.lb.2, h2⟩⟩
theorem Sts.la {B : List Stt} {g d t : List (Kd Nat)} {x y k : Kd Nat} (h : Sts B (g ++ (d ++ .a y x :: t)) k) : Sts B d y ∧ Sts B (g ++ x :: t) k := let ⟨_, _, h1, h2⟩ := h; ⟨⟨_, _, h1.la.1, h2⟩, ⟨_, _, h1.la.2, h2⟩⟩
def rops (r : List (Kd Nat)) : Nat := (r.map Kd.ops).sum
theorem rops_append (r t : List (Kd Nat)) : rops (r ++ t) = rops r + rops t := by simp [rops]
theorem rops_cons (k : Kd Nat) (t : List (Kd Nat)) : rops (k :: t) = k.ops + rops t := rfl
theorem rsize_cons (k : Kd Nat) (t : List (Kd Nat)) : rsize (k :: t) = k.size + rsize t := rfl
structure Names8 (ns : List Nat) : Prop where
  az : ∀ c ∈ ns, Az c
  le : ns.length ≤ 8
def spComes (m : Nat) : SpG := fun vs H Q => ∃ (l : Addr) (g : V) (ns : List Nat) (d : Addr) (r : List (Kd Nat)) (k : Kd Nat) (B : List Stt), vs = [.ref l, g, .str (tx ns), .ref d] ∧ Outc ns H l g r k ∧ Names8 ns ∧ rsize r + k.size ≤ 30 ∧ Sts B r k ∧ Memo B H d ∧ B.length < sizeLine ∧ rops r + k.ops < m ∧
  ∀ (b : Bool) (H' : Hp), (b = true ↔ L r k) → Upto [d] H H' → Memo B H' d → Q (.bl b) H'
def spPut (m : Nat) : SpG := fun vs H Q => ∃ (l : Addr) (g : V) (ns : List Nat) (d : Addr) (r : List (Kd Nat)) (c : Nat) (B : List Stt) (i : Nat), vs = [.ref l, .int (i : Nat), g, .str (tx ns), .ref d] ∧ i < r.length ∧ Outc ns H l g r (.p c) ∧ Names8 ns ∧ rsize r + 1 ≤ 30 ∧ Sts B r (.p c) ∧ Memo B H d ∧ B.length < sizeLine ∧ rops r < m ∧
  ∀ (b : Bool) (H' : Hp), (b = true ↔ (∃ cut, TakeB r (.p c) i cut) ∨ ∃ cut, TakeA r (.p c) i cut) → Upto [d] H H' → Memo B H' d → Q (.bl b) H'
section
variable {P : Program} {w : World} {K : PySem.W.Frag} {mg : Str → Option Value} {base : Heap} {C : Addr}
theorem c_comes1 (T : Txt w K mg C) {m j : Nat} (C_comes_anew : GCal P w K mg base j "_law_comes_anew" (spComes m)) (hj : 30 ≤ j) : GCal P w K mg base (j + 1) "_law_comes" (spComes m) := by
  have C_sum := c_sum (P := P) (base := base) T 30
  refine cal_of T.dL_comes scL_comes (fun vs H Q ⟨_, _, _, _, _, _, _, e, _⟩ => by rw [e]; rfl) fun f cdv A outer s H vs Q hr ⟨l, g, ns, d, r, k, B, e, hO, hN, hz, hst, hM, hB, hm, q⟩ => ?_
  subst e
  refine ⟨_, (pss_cons (ps_if (pt_cmpR op_ne (pe_callB (cr_sum rfl) rfl T.m_sum (by decide +kernel) (pa_cons (pe_lc (own := [("_law_thing", 4)]) (g := gName 4) (tt := tYes) rfl scL_comes.nd (pi_list (pv 0)) (blkOk_by (own := [("_law_thing", 4)]) (N := ["_law_line", "_law_goal", "_law_names", "_law_known", "_law_thing", "_law_mark"]) (sc := defScope sL_comes) (by decide +kernel)) (fun _ _ _ _ _ => (pg_name (i := 4) scL_comes.nd rfl (by first | exact Or.inl rfl | exact Or.inr rfl))) (fun _ _ _ _ _ => pts_nil) (fun _ _ _ _ _ => (pe_g C_sum hr (by omega) rfl (pa_cons (pv 4) (pa_cons (pv 2) pa_nil))))) pa_nil)) (pe_g C_sum hr (by omega) rfl (pa_cons (pv 1) (pa_cons (pv 2) pa_nil))) (nomark _))
      (pss_one (ps_ret pe_bl))
      pss_nil)
    (pss_cons (ps_set (i := 5) scL_comes.nd rfl (by first | exact Or.inl rfl | exact Or.inr rfl) (pe_callB (cr_repr hr.g hr.r.units) rfl T.m_repr (by decide +kernel) (pa_cons (pe_tup (pa_cons (pv 0) (pa_cons (pv 1) pa_nil))) pa_nil)))
    (pss_cons (ps_if (pt_cmp (pc_dnotin (hu_of hr.r) (pv 5) (pv 3)))
      (pss_one (ps_dput (hu_of hr.r) (pv 3) (pv 5) (pe_g C_comes_anew hr (by omega) rfl (pa_cons (pv 0) (pa_cons (pv 1) (pa_cons (pv 2) (pa_cons (pv 3) pa_nil))))) rfl))
      pss_nil)
    (pss_one (ps_ret (pe_dget (hu_of hr.r) (pv 3) (pv 5) (fun _ _ => rfl))))))), ?_⟩
  have zl : sizeLine = 16777216 := sizeLine_eq
  obtain ⟨us, hus, hks⟩ := hO.ex
  have hsz : ∀ z ∈ r, z.ops < 30 ∧ z.size ≤ 40 := fun z hz' => by
    have := size_le_rsize hz'
    have := z.ops_size
    omega
  have hko := k.ops_size
  have azr : ∀ z ∈ r, z.All Az := fun z hz => (hO.al z hz).imp hN.az
  have azk : k.All Az := hO.ag.imp hN.az
  have hrl := len_le_rsize r
  -- the sums
  refine ⟨_, rfl, l, rfl, ⟨_, SqL.of hus⟩, fun D nD => ?_⟩
  refine lc_mapG (walk_list (xs := us)) (r.map fun z => V.int (z.val (wt ns))) (by rw [List.length_map]; exact hks.len.symm) (by rw [hks.len]; omega) nD (fun H h => SqL.of (h _ _ hus)) (fun x => rfl)
    (fun i x y H1 Q1 hx hy s1 h => ?_) (fun H3 S3 hD3 => ?_)
  · obtain ⟨z, hz', hv, rfl⟩ := ks_item hks hx hy
    exact ⟨_, rfl, _, rfl, _, _, ns, rfl, hv.mono (Same.tk s1), (hsz z (mem_of_get hz')).1, hO.al z (mem_of_get hz'), hN.le, h⟩
  refine ⟨_, r.map fun z => z.val (wt ns), rfl, SqL.of (by rw [hD3, List.map_map]; rfl), ?_⟩
  refine ⟨_, rfl, _, rfl, g, k, ns, rfl, hO.g.mono (Same.tk S3), by omega, hO.ag, hN.le, fun H4 S4 => ?_⟩
  have S34 := S3.trans S4
  refine ⟨rfl, _, rfl, ite2 (fun c => ?_) (fun c => ?_)⟩
  · refine q false H4 ⟨fun h => (nomatch h), fun h => ?_⟩ (Upto.of_same S34) (hM.same S34)
    have hv := L.val (wt ns) h
    have : decide (V.int (r.map fun z => z.val (wt ns)).sum = V.int (k.val (wt ns))) = true := decide_eq_true (by rw [← hv])
    rw [this] at c
    cases c
  -- the mark
  have hus4 := S34 _ _ hus
  refine ⟨_, rfl, _, rfl, by show 2 ≤ sizeLine; decide, fun p np => ?_⟩
  have S5 := same_new np (.tup [.ref l, g])
  have S45 := S34.trans S5
  have hO5 := hO.same S45
  have hM5 := hM.same S45
  refine ⟨p, l, g, us, r, k, rfl, upd_same, S5 _ _ hus4, hks.mono (Same.tk S45), hO5.g, azr, azk, fun z hz => (hsz z hz).2, by omega, by omega, ?_⟩
  generalize hH5 : upd H4 p (.tup [.ref l, g]) = H5
  rw [hH5] at S45 hO5 hM5
  obtain ⟨kvs, hd, hnd, hall⟩ := hM5.ex
  refine ⟨_, rfl, _, rfl, d, _, rfl, DGet.k (k := .inr (rt r k)) hd, _, rfl, ?_⟩
  cases hv : valV kvs (.inr (rt r k)) with
  | some v =>
    refine iteF ?_
    obtain ⟨r', k', b, e1, hb, a1, a2, _⟩ := hall _ (mem_of_valV hv)
    injection e1 with e1 e2
    injection e1 with e1
    obtain ⟨rfl, rfl⟩ := rt_inj azr azk a1 a2 e1
    subst e2
    exact ⟨_, rfl, _, rfl, d, _, rfl, by rw [← hv]; exact DGet.k (k := .inr (rt r k)) hd, q b H5 hb (Upto.of_same S45) hM5⟩
  | none =>
    refine iteT ?_
    refine ⟨_, rfl, _, rfl, _, rfl, _, rfl, l, g, ns, d, r, k, B, rfl, hO5, hN, hz, hst, hM5, hB, hm, fun b H6 hb U6 M6 => ?_⟩
    obtain ⟨kvs6, hd6, hnd6, hall6⟩ := M6.ex
    have hl6 := Memo.len hnd6 hall6
    refine ⟨_, rfl, _, rfl, d, _, rfl, DPut.k (k := .inr (rt r k)) hd6 (by omega), ?_⟩
    refine ⟨_, rfl, _, rfl, d, .bl b, rfl, by
      have := DGet.k (k := .inr (rt r k)) (upd_same (H := H6) (a := d) (o := .dK (putK kvs6 (.inr (rt r k)) (.bl b))))
      rw [L2.valV_put, if_pos rfl] at this
      exact this, ?_⟩
    refine q b _ hb (((Upto.of_same S45).trans U6).trans (upto_upd (by simp) _)) ⟨⟨_, upd_same, nd_put _ hnd6, fun p hp => ?_⟩⟩
    rcases mem_putK hp with e | e
    · exact ⟨r, k, b, e, hb, azr, azk, hst.mem⟩
    · exact hall6 p e
theorem c_put1 (T : Txt w K mg C) {m j : Nat} (C_comes : GCal P w K mg base j "_law_comes" (spComes m)) (hj : 1 ≤ j) : GCal P w K mg base (j + 1) "_law_put_together" (spPut (m + 1)) := by
  refine cal_of T.dL_put_together scL_put_together (fun vs H Q ⟨_, _, _, _, _, _, _, _, e, _⟩ => by rw [e]; rfl) fun f cdv A outer s H vs Q hr ⟨l, g, ns, d, r, c, B, sp, e, hsp, hO, hN, hz, hst, hM, hB, hm, q⟩ => ?_
  subst e
  refine ⟨_, (pss_cons (ps_set (i := 5) scL_put_together.nd rfl (by first | exact Or.inl rfl | exact Or.inr rfl) (pe_ix ix_list (pv 0) (pv 1) (fun _ _ => rfl)))
    (pss_cons (ps_if (pt_cmpR op_eq (pe_ix ix_tup (pv 5) pe_int (fun _ _ => rfl)) pe_str (nomark _))
      (pss_one (ps_for PassesOwn.never rfl (pi_range2 rfl T.m_range (pa_cons (pe_op op_add (pv 1) pe_int) (pa_cons (pe_op op_add (pe_callB call_len_seq rfl T.m_len (by decide +kernel) (pa_cons (pv 0) pa_nil)) pe_int) pa_nil))) (pg_name (i := 6) scL_put_together.nd rfl (by first | exact Or.inl rfl | exact Or.inr rfl))
        (pss_one (ps_if (pt_val (pe_g C_comes hr (by omega) rfl (pa_cons (pe_slice sl_list (pv 0) (po_some (pe_op op_add (pv 1) pe_int)) (po_some (pv 6))) (pa_cons (pe_ix ix_tup (pv 5) pe_int (fun _ _ => rfl)) (pa_cons (pv 3) (pa_cons (pv 4) pa_nil))))))
          (pss_one (ps_if (pt_val (pe_g C_comes hr (by omega) rfl (pa_cons (pe_op op_cat (pe_op op_cat (pe_slice sl_list (pv 0) po_none (po_some (pv 1))) (pe_lst (pa_cons (pe_ix ix_tup (pv 5) pe_int (fun _ _ => rfl)) pa_nil))) (pe_slice sl_list (pv 0) (po_some (pv 6)) po_none)) (pa_cons (pv 2) (pa_cons (pv 3) (pa_cons (pv 4) pa_nil))))))
            (pss_one (ps_ret pe_bl))
            pss_nil))
          pss_nil))))
      pss_nil)
    (pss_cons (ps_if (pt_cmpR op_eq (pe_ix ix_tup (pv 5) pe_int (fun _ _ => rfl)) pe_str (nomark _))
      (pss_one (ps_for PassesOwn.never rfl (pi_range1 rfl T.m_range (pa_cons (pv 1) pa_nil)) (pg_name (i := 6) scL_put_together.nd rfl (by first | exact Or.inl rfl | exact Or.inr rfl))
        (pss_one (ps_if (pt_val (pe_g C_comes hr (by omega) rfl (pa_cons (pe_slice sl_list (pv 0) (po_some (pv 6)) (po_some (pv 1))) (pa_cons (pe_ix ix_tup (pv 5) pe_int (fun _ _ => rfl)) (pa_cons (pv 3) (pa_cons (pv 4) pa_nil))))))
          (pss_one (ps_if (pt_val (pe_g C_comes hr (by omega) rfl (pa_cons (pe_op op_cat (pe_op op_cat (pe_slice sl_list (pv 0) po_none (po_some (pv 6))) (pe_lst (pa_cons (pe_ix ix_tup (pv 5) pe_int (fun _ _ => rfl)) pa_nil))) (pe_slice sl_list (pv 0) (po_some (pe_op op_add (pv 1) pe_int)) po_none)) (pa_cons (pv 2) (pa_cons (pv 3) (pa_cons (pv 4) pa_nil))))))
            (pss_one (ps_ret pe_bl))
            pss_nil))
          pss_nil))))
      pss_nil)
    (pss_one (ps_ret pe_bl))))), ?_⟩
  have zl : sizeLine = 16777216 := sizeLine_eq
  obtain ⟨us, hus, hks⟩ := hO.ex
  have hkl := hks.len
  have hrl := len_le_rsize r
  obtain ⟨x, hx⟩ : ∃ x, us[sp]? = some x := ⟨us[sp]'(by omega), by simp⟩
  obtain ⟨kx, hkx, hxk⟩ := KsAt.get' hks hx
  have hld : l ∉ [d] := fun e => by
    obtain ⟨kvs, hd, _⟩ := hM.ex
    have := List.mem_singleton.mp e
    subst this
    rw [hus] at hd; cases hd
  refine ⟨_, rfl, _, rfl, l, us, _, _, rfl, rfl, SqL.of hus, atI_nat hx, ?_⟩
  -- what a call over a part of the row needs
  have part : ∀ (lo hi : Nat) (H5 : Hp) (p : Addr), Upto [d] H H5 → Memo B H5 d → H5 p = none → lo < hi → hi ≤ r.length → ∀ (gv : V) (y : Kd Nat), KAt H5 gv y → y.All (· ∈ ns) → Outc ns (upd H5 p (.lst (cutV us (some ((lo : Nat) : Int)) (some ((hi : Nat) : Int))))) p gv ((r.take hi).drop lo) y := fun lo hi H5 p U5 M5 np h1 h2 gv y hg hy => by
    have S := same_new np (.lst (cutV us (some ((lo : Nat) : Int)) (some ((hi : Nat) : Int))))
    have hk5 : KsAt H5 us r := hks.mono (U5.tk hM.nt)
    refine ⟨⟨_, upd_same, ?_⟩, ?_, fun z hz => hO.al z (List.mem_of_mem_take (List.mem_of_mem_drop hz)), hg.mono (Same.tk S), hy⟩
    · have e : cutV us (some ((lo : Nat) : Int)) (some ((hi : Nat) : Int)) = (us.take hi).drop lo := by rw [cutV_mid us (by omega) (by omega), ← List.drop_take]
      have K1 := ((hk5.take hi).drop lo).mono (Same.tk S)
      rw [← e] at K1
      exact K1
    · intro h
      have := congrArg List.length h
      rw [List.length_drop, List.length_take, List.length_nil] at this
      omega
  -- a row of three parts
  have three : ∀ (lo hi : Nat) (H5 H9 : Hp) (p10 : Addr) (v : V) (y : Kd Nat), Upto [d] H H5 → KAt H5 v y → y.All (· ∈ ns) → Same H5 H9 → H9 p10 = none →
      Outc ns (upd H9 p10 (.lst (us.take lo ++ [v] ++ us.drop hi))) p10 g (r.take lo ++ y :: r.drop hi) (.p c) := fun lo hi H5 H9 p10 v y U5 hv hy S9 np => by
    have hk5 : KsAt H5 us r := hks.mono (U5.tk hM.nt)
    have S := S9.trans (same_new np (.lst (us.take lo ++ [v] ++ us.drop hi)))
    refine ⟨⟨_, upd_same, ?_⟩, by simp, fun z hz => ?_, (hO.g.mono (U5.tk hM.nt)).mono (Same.tk S), hO.ag⟩
    · have K1 := (((hk5.take lo).append (.cons hv .nil)).append (hk5.drop hi)).mono (Same.tk S)
      have e : r.take lo ++ [y] ++ r.drop hi = r.take lo ++ y :: r.drop hi := by simp
      rw [e] at K1
      exact K1
    · rcases List.mem_append.mp hz with e | e
      · exact hO.al z (List.mem_of_mem_take e)
      · rcases List.mem_cons.mp e with e | e
        · rw [e]; exact hy
        · exact hO.al z (List.mem_of_mem_drop e)
  rcases hxk.inv with ⟨a1, cc, rfl, rfl, h⟩ | ⟨a1, fb, u1, u2, x1, x2, rfl, rfl, h, h1, h2⟩
  · refine ⟨_, rfl, _, _, _, _, rfl, rfl, SqT.of h, rfl, rfl, _, rfl, ifN npb ?_⟩
    refine ⟨_, rfl, _, _, _, _, rfl, rfl, SqT.of h, rfl, rfl, _, rfl, ifN npa ?_⟩
    refine q false H ⟨fun h => (nomatch h), fun h => ?_⟩ (Upto.refl _ _) hM
    rcases h with ⟨cut, x, y, e, _⟩ | ⟨cut, x, y, e, _⟩ <;> (rw [hkx] at e; cases e)
  cases fb with
  | true =>
    have hkx : r[sp]? = some (.b x1 x2) := hkx
    refine ⟨_, rfl, _, _, _, _, rfl, rfl, SqT.of h, rfl, rfl, _, rfl, ifP ?_⟩
    have heq := fun (cut : Nat) (h1 : sp + 1 ≤ cut) (h2 : cut ≤ r.length) => take_b_eq hkx h1 h2
    have ax : x1.All (· ∈ ns) ∧ x2.All (· ∈ ns) := hO.al _ (mem_of_get hkx)
    refine ⟨_, rfl, _, _, rfl, rfl, _, rfl, _, _, rfl, .inl (SqL.of hus), _, _, rfl, rfl, _, _, rfl, ⟨by omega, by omega, by omega, by omega⟩, ?_⟩
    rw [show (((us.length : Nat) : Int) + 1 - (((sp : Nat) : Int) + 2)).toNat = us.length - (sp + 1) by omega]
    refine for_range (fun i σ H5 => ∃ x6 : Option V, σ = [some (.ref l), some (.int (sp : Nat)), some g, some (.str (tx ns)), some (.ref d), some (.ref a1), x6] ∧ Upto [d] H H5 ∧ Memo B H5 d ∧ ∀ cut, cut < sp + 2 + i → ¬ TakeB r (.p c) sp cut)
      ⟨none, rfl, Upto.refl _ _, hM, fun cut h3 ⟨_, _, _, h4, _⟩ => by omega⟩ ?_ ?_
    · rintro i σ H5 hi ⟨x6, rfl, U5, M5, hno⟩
      have t5 := U5.tk hM.nt
      have hus5 := U5 _ _ hld hus
      have h5 := t5 _ _ h
      have ecut : ((sp : Nat) : Int) + 2 + ((i : Nat) : Int) = ((sp + 2 + i : Nat) : Int) := by omega
      have hcl : sp + 2 + i ≤ r.length := by omega
      have eq1 := heq (sp + 2 + i) (by omega) hcl
      have stt := (show Sts B (r.take sp ++ .b x1 x2 :: ((r.take (sp + 2 + i)).drop (sp + 1) ++ r.drop (sp + 2 + i))) (.p c) by rw [← eq1]; exact hst).lb
      have hops : rops r = rops (r.take sp) + (x1.ops + x2.ops + 1 + (rops ((r.take (sp + 2 + i)).drop (sp + 1)) + rops (r.drop (sp + 2 + i)))) := by
        conv => lhs; rw [eq1]
        rw [rops_append, rops_cons, rops_append]; rfl
      have hsz : rsize r = rsize (r.take sp) + (x1.size + x2.size + (rsize ((r.take (sp + 2 + i)).drop (sp + 1)) + rsize (r.drop (sp + 2 + i)))) := by
        conv => lhs; rw [eq1]
        rw [rsize_append, rsize_cons, rsize_append]; rfl
      refine ⟨_, rfl, _, rfl, _, _, rfl, rfl, _, rfl, _, rfl, _, rfl, l, us, rfl, SqL.of hus5, fun p np => ?_⟩
      rw [ecut, show ((sp : Nat) : Int) + 1 = ((sp + 1 : Nat) : Int) from by omega]
      have S6 := same_new np (.lst (cutV us (some ((sp + 1 : Nat) : Int)) (some ((sp + 2 + i : Nat) : Int))))
      have O6 := part (sp + 1) (sp + 2 + i) H5 p U5 M5 np (by omega) hcl u2 x2 (h2.mono t5) ax.2
      refine ⟨_, rfl, _, _, _, _, rfl, rfl, SqT.of (S6 _ _ h5), rfl, _, rfl, _, rfl, p, u2, ns, d, _, x2, B, rfl, O6, hN, by omega, stt.1, M5.same S6, hB, by omega, fun b1 H7 hb1 U7 M7 => ?_⟩
      have U57 := U5.trans ((Upto.of_same S6).trans U7)
      refine ⟨_, rfl, ite2 (fun c1 => ?_) (fun c1 => ?_)⟩
      · have t7 := U57.tk hM.nt
        have hus7 := U57 _ _ hld hus
        have h7 := t7 _ _ h
        refine ⟨_, rfl, _, rfl, _, rfl, l, us, rfl, SqL.of hus7, fun p6 np6 => ?_⟩
        rw [cutV_take]
        have S8 := same_new np6 (.lst (us.take sp))
        refine ⟨_, rfl, _, _, _, _, rfl, rfl, SqT.of (S8 _ _ h7), rfl, by show 1 ≤ sizeLine; decide, fun p1 np1 => ?_⟩
        have S9 := same_new np1 (.lst [u1])
        refine ⟨p6, p1, _, _, rfl, rfl, S9 _ _ upd_same, upd_same, by rw [List.length_take]; show _ + 1 ≤ _; omega, fun p8 np8 => ?_⟩
        have S10 := same_new np8 (.lst (us.take sp ++ [u1]))
        refine ⟨_, rfl, _, rfl, _, rfl, l, us, rfl, SqL.of (S10 _ _ (S9 _ _ (S8 _ _ hus7))), fun p9 np9 => ?_⟩
        rw [cutV_drop]
        have S11 := same_new np9 (.lst (us.drop (sp + 2 + i)))
        refine ⟨p8, p9, _, _, rfl, rfl, S11 _ _ upd_same, upd_same, by simp only [List.length_append, List.length_take, List.length_drop, List.length_cons, List.length_nil]; omega, fun p10 np10 => ?_⟩
        have S7x := ((S8.trans S9).trans S10).trans S11
        have O10 := three sp (sp + 2 + i) H7 _ p10 u1 x1 U57 (h1.mono t7) ax.1 S7x np10
        have S12 := S7x.trans (same_new np10 (.lst (us.take sp ++ [u1] ++ us.drop (sp + 2 + i))))
        refine ⟨_, rfl, _, rfl, _, rfl, p10, g, ns, d, _, .p c, B, rfl, O10, hN, by rw [rsize_append, rsize_cons]; simp only [Kd.size]; omega, stt.2, M7.same S12, hB, by rw [rops_append, rops_cons]; simp only [Kd.ops]; omega, fun b2 H13 hb2 U13 M13 => ?_⟩
        have U7e := U57.trans ((Upto.of_same S12).trans U13)
        refine ⟨_, rfl, ite2 (fun c2 => ?_) (fun c2 => ?_)⟩
        · exact q true H13 ⟨fun _ => .inl ⟨sp + 2 + i, x1, x2, hkx, by omega, hcl, hb1.mp c1, hb2.mp c2⟩, fun _ => rfl⟩ U7e M13
        · exact ⟨some (.int ((sp + 2 + i : Nat) : Int)), rfl, U7e, M13, fun cut hc ht => by
            rcases Nat.lt_or_ge cut (sp + 2 + i) with h3 | h3
            · exact hno cut h3 ht
            · have : cut = sp + 2 + i := by omega
              subst this
              obtain ⟨x, y, e, _, _, _, h6⟩ := ht
              rw [hkx] at e
              injection e with e
              injection e with e1 e2
              subst e1
              exact c2 (hb2.mpr h6)⟩
      · exact ⟨some (.int ((sp + 2 + i : Nat) : Int)), rfl, U57, M7, fun cut hc ht => by
          rcases Nat.lt_or_ge cut (sp + 2 + i) with h3 | h3
          · exact hno cut h3 ht
          · have : cut = sp + 2 + i := by omega
            subst this
            obtain ⟨x, y, e, _, _, h6, _⟩ := ht
            rw [hkx] at e
            injection e with e
            injection e with e1 e2
            subst e2
            exact c1 (hb1.mpr h6)⟩
    · rintro σ H5 ⟨x6, rfl, U5, M5, hno⟩
      have h5 := (U5.tk hM.nt) _ _ h
      refine ⟨_, rfl, _, _, _, _, rfl, rfl, SqT.of h5, rfl, rfl, _, rfl, ifN nba ?_⟩
      refine q false H5 ⟨fun h => (nomatch h), fun h => ?_⟩ U5 M5
      rcases h with ⟨cut, ht⟩ | ⟨cut, x, y, e, _⟩
      · have hcut : cut ≤ r.length := by obtain ⟨_, _, _, _, h6, _⟩ := ht; exact h6
        exact absurd ht (hno cut (by omega))
      · rw [hkx] at e; cases e
  | false =>
    have hkx : r[sp]? = some (.a x1 x2) := hkx
    refine ⟨_, rfl, _, _, _, _, rfl, rfl, SqT.of h, rfl, rfl, _, rfl, ifN nab ?_⟩
    refine ⟨_, rfl, _, _, _, _, rfl, rfl, SqT.of h, rfl, rfl, _, rfl, ifP ?_⟩
    have ax : x1.All (· ∈ ns) ∧ x2.All (· ∈ ns) := hO.al _ (mem_of_get hkx)
    have heq := fun (cut : Nat) (h1 : cut ≤ sp) => take_a_eq hkx h1
    refine ⟨_, rfl, _, rfl, by omega, by omega, ?_⟩
    rw [show (((sp : Nat) : Int)).toNat = sp by omega]
    refine for_range (lo := 0) (n := sp) (fun i σ H5 => ∃ x6 : Option V, σ = [some (.ref l), some (.int (sp : Nat)), some g, some (.str (tx ns)), some (.ref d), some (.ref a1), x6] ∧ Upto [d] H H5 ∧ Memo B H5 d ∧ ∀ cut, cut < i → ¬ TakeA r (.p c) sp cut)
      ⟨none, rfl, Upto.refl _ _, hM, fun cut h3 => by omega⟩ ?_ ?_
    · rintro i σ H5 hi ⟨x6, rfl, U5, M5, hno⟩
      have t5 := U5.tk hM.nt
      have hus5 := U5 _ _ hld hus
      have h5 := t5 _ _ h
      have ecut : (0 : Int) + ((i : Nat) : Int) = ((i : Nat) : Int) := by omega
      have eq1 := heq i (by omega)
      have stt := (show Sts B (r.take i ++ ((r.take sp).drop i ++ .a x1 x2 :: r.drop (sp + 1))) (.p c) by rw [← eq1]; exact hst).la
      have hops : rops r = rops (r.take i) + (rops ((r.take sp).drop i) + (x1.ops + x2.ops + 1 + rops (r.drop (sp + 1)))) := by
        conv => lhs; rw [eq1]
        rw [rops_append, rops_append, rops_cons]; rfl
      have hsz : rsize r = rsize (r.take i) + (rsize ((r.take sp).drop i) + (x1.size + x2.size + rsize (r.drop (sp + 1)))) := by
        conv => lhs; rw [eq1]
        rw [rsize_append, rsize_append, rsize_cons]; rfl
      refine ⟨_, rfl, _, rfl, _, rfl, _, rfl, _, rfl, l, us, rfl, SqL.of hus5, fun p np => ?_⟩
      rw [ecut]
      have S6 := same_new np (.lst (cutV us (some ((i : Nat) : Int)) (some ((sp : Nat) : Int))))
      have O6 := part i sp H5 p U5 M5 np (by omega) (by omega) u1 x1 (h1.mono t5) ax.1
      refine ⟨_, rfl, _, _, _, _, rfl, rfl, SqT.of (S6 _ _ h5), rfl, _, rfl, _, rfl, p, u1, ns, d, _, x1, B, rfl, O6, hN, by omega, stt.1, M5.same S6, hB, by omega, fun b1 H7 hb1 U7 M7 => ?_⟩
      have U57 := U5.trans ((Upto.of_same S6).trans U7)
      refine ⟨_, rfl, ite2 (fun c1 => ?_) (fun c1 => ?_)⟩
      · have t7 := U57.tk hM.nt
        have hus7 := U57 _ _ hld hus
        have h7 := t7 _ _ h
        refine ⟨_, rfl, _, rfl, _, rfl, l, us, rfl, SqL.of hus7, fun p6 np6 => ?_⟩
        rw [cutV_take]
        have S8 := same_new np6 (.lst (us.take i))
        refine ⟨_, rfl, _, _, _, _, rfl, rfl, SqT.of (S8 _ _ h7), rfl, by show 1 ≤ sizeLine; decide, fun p1 np1 => ?_⟩
        have S9 := same_new np1 (.lst [u2])
        refine ⟨p6, p1, _, _, rfl, rfl, S9 _ _ upd_same, upd_same, by rw [List.length_take]; show _ + 1 ≤ _; omega, fun p8 np8 => ?_⟩
        have S10 := same_new np8 (.lst (us.take i ++ [u2]))
        refine ⟨_, rfl, _, rfl, _, _, rfl, rfl, _, rfl, l, us, rfl, SqL.of (S10 _ _ (S9 _ _ (S8 _ _ hus7))), fun p9 np9 => ?_⟩
        rw [show ((sp : Nat) : Int) + 1 = ((sp + 1 : Nat) : Int) from by omega, cutV_drop]
        have S11 := same_new np9 (.lst (us.drop (sp + 1)))
        refine ⟨p8, p9, _, _, rfl, rfl, S11 _ _ upd_same, upd_same, by simp only [List.length_append, List.length_take, List.length_drop, List.length_cons, List.length_nil]; omega, fun p10 np10 => ?_⟩
        have S7x := ((S8.trans S9).trans S10).trans S11
        have O10 := three i (sp + 1) H7 _ p10 u2 x2 U57 (h2.mono t7) ax.2 S7x np10
        have S12 := S7x.trans (same_new np10 (.lst (us.take i ++ [u2] ++ us.drop (sp + 1))))
        refine ⟨_, rfl, _, rfl, _, rfl, p10, g, ns, d, _, .p c, B, rfl, O10, hN, by rw [rsize_append, rsize_cons]; simp only [Kd.size]; omega, stt.2, M7.same S12, hB, by rw [rops_append, rops_cons]; simp only [Kd.ops]; omega, fun b2 H13 hb2 U13 M13 => ?_⟩
        have U7e := U57.trans ((Upto.of_same S12).trans U13)
        refine ⟨_, rfl, ite2 (fun c2 => ?_) (fun c2 => ?_)⟩
        · exact q true H13 ⟨fun _ => .inr ⟨i, x2, x1, hkx, hi, hb1.mp c1, hb2.mp c2⟩, fun _ => rfl⟩ U7e M13
        · exact ⟨some (.int ((i : Nat) : Int)), rfl, U7e, M13, fun cut hc ht => by
            rcases Nat.lt_or_ge cut i with h3 | h3
            · exact hno cut h3 ht
            · have : cut = i := by omega
              subst this
              obtain ⟨x, y, e, _, _, h6⟩ := ht
              rw [hkx] at e
              injection e with e
              injection e with e1 e2
              subst e2
              exact c2 (hb2.mpr h6)⟩
      · exact ⟨some (.int ((i : Nat) : Int)), rfl, U57, M7, fun cut hc ht => by
          rcases Nat.lt_or_ge cut i with h3 | h3
          · exact hno cut h3 ht
          · have : cut = i := by omega
            subst this
            obtain ⟨x, y, e, _, h6, _⟩ := ht
            rw [hkx] at e
            injection e with e
            injection e with e1 e2
            subst e1
            exact c1 (hb1.mpr h6)⟩
    · rintro σ H5 ⟨x6, rfl, U5, M5, hno⟩
      refine q false H5 ⟨fun h => (nomatch h), fun h => ?_⟩ U5 M5
      rcases h with ⟨cut, x, y, e, _⟩ | ⟨cut, ht⟩
      · rw [hkx] at e; cases e
      · have hcut : cut < sp := by obtain ⟨_, _, _, h6, _⟩ := ht; exact h6
        exact absurd ht (hno cut hcut)
theorem c_anew1 (T : Txt w K mg C) {m j : Nat} (C_comes : GCal P w K mg base j "_law_comes" (spComes m)) (C_put_together : GCal P w K mg base (j + 1) "_law_put_together" (spPut (m + 1))) (hj : 1 ≤ j) : GCal P w K mg base (j + 2) "_law_comes_anew" (spComes (m + 1)) := by
  refine cal_of T.dL_comes_anew scL_comes_anew (fun vs H Q ⟨_, _, _, _, _, _, _, e, _⟩ => by rw [e]; rfl) fun f cdv A outer s H vs Q hr ⟨l, g, ns, d, r, k, B, e, hO, hN, hz, hst, hM, hB, hm, q⟩ => ?_
  subst e
  refine ⟨_, (pss_cons (ps_if (pt_cmpR (op_eqD hr.r.units) (pv 0) (pe_lst (pa_cons (pv 1) pa_nil)) (nomark _))
      (pss_one (ps_ret pe_bl))
      pss_nil)
    (pss_cons (ps_if (pt_cmpR op_eq (pe_ix ix_tup (pv 1) pe_int (fun _ _ => rfl)) pe_str (nomark _))
      (pss_one (ps_ret (pe_g C_comes hr (by omega) rfl (pa_cons (pe_op op_cat (pv 0) (pe_lst (pa_cons (pe_ix ix_tup (pv 1) pe_int (fun _ _ => rfl)) pa_nil))) (pa_cons (pe_ix ix_tup (pv 1) pe_int (fun _ _ => rfl)) (pa_cons (pv 2) (pa_cons (pv 3) pa_nil)))))))
      pss_nil)
    (pss_cons (ps_if (pt_cmpR op_eq (pe_ix ix_tup (pv 1) pe_int (fun _ _ => rfl)) pe_str (nomark _))
      (pss_one (ps_ret (pe_g C_comes hr (by omega) rfl (pa_cons (pe_op op_cat (pe_lst (pa_cons (pe_ix ix_tup (pv 1) pe_int (fun _ _ => rfl)) pa_nil)) (pv 0)) (pa_cons (pe_ix ix_tup (pv 1) pe_int (fun _ _ => rfl)) (pa_cons (pv 2) (pa_cons (pv 3) pa_nil)))))))
      pss_nil)
    (pss_cons (ps_for PassesOwn.never rfl (pi_enum rfl T.m_enumerate (pa_cons (pv 0) pa_nil)) (pg_tup rfl (pgs_cons (pg_name (i := 4) scL_comes_anew.nd rfl (by first | exact Or.inl rfl | exact Or.inr rfl)) (pgs_cons (pg_name (i := 5) scL_comes_anew.nd rfl (by first | exact Or.inl rfl | exact Or.inr rfl)) pgs_nil)))
      (pss_one (ps_if (pt_cmpR op_eq (pe_ix ix_tup (pv 5) pe_int (fun _ _ => rfl)) pe_str (nomark _))
        (pss_one ps_never)
        pss_nil)))
    (pss_cons (ps_if (pt_cmpR op_eq (pe_ix ix_tup (pv 1) pe_int (fun _ _ => rfl)) pe_str (nomark _))
      (pss_one ps_never)
      pss_nil)
    (pss_cons (ps_for PassesOwn.never rfl (pi_range1 rfl T.m_range (pa_cons (pe_callB call_len_seq rfl T.m_len (by decide +kernel) (pa_cons (pv 0) pa_nil)) pa_nil)) (pg_name (i := 4) scL_comes_anew.nd rfl (by first | exact Or.inl rfl | exact Or.inr rfl))
      (pss_one (ps_if (pt_val (pe_g C_put_together hr (by omega) rfl (pa_cons (pv 0) (pa_cons (pv 4) (pa_cons (pv 1) (pa_cons (pv 2) (pa_cons (pv 3) pa_nil)))))))
        (pss_one (ps_ret pe_bl))
        pss_nil)))
    (pss_one (ps_ret pe_bl)))))))), ?_⟩
  have zl : sizeLine = 16777216 := sizeLine_eq
  obtain ⟨us, hus, hks⟩ := hO.ex
  have hkl := hks.len
  have hrl := len_le_rsize r
  have azr : ∀ z ∈ r, z.All Az := fun z hz => (hO.al z hz).imp hN.az
  have azk : k.All Az := hO.ag.imp hN.az
  have hld : l ∉ [d] := fun e => by
    obtain ⟨kvs, hd, _⟩ := hM.ex
    have := List.mem_singleton.mp e
    subst this
    rw [hus] at hd; cases hd
  refine ⟨_, rfl, _, rfl, by show 1 ≤ sizeLine; decide, fun p np => ?_⟩
  have S1 := same_new np (.lst [g])
  have hus1 := S1 _ _ hus
  have hO1 := hO.same S1
  have hM1 := hM.same S1
  have hks1 := hks.mono (Same.tk S1)
  refine ⟨_, _, KsAt.dp hus1 hks1, KsAt.dp (ks := [k]) upd_same (.cons hO1.g .nil), kdats_shaped azr (fun z hz => by have := size_le_rsize hz; omega), kdats_shaped (fun z hz => by rw [List.mem_singleton.mp hz]; exact azk) (fun z hz => by rw [List.mem_singleton.mp hz]; omega), _, rfl, ?_⟩
  rw [eqv_kdats]
  refine ite2 (fun c => ?_) (fun c => ?_)
  · have c := of_decide_eq_true c
    exact q true _ ⟨fun _ => by rw [c]; exact .ax k, fun _ => rfl⟩ (Upto.of_same S1) hM1
  have c := of_decide_eq_false (Bool.eq_false_iff.mpr c)
  generalize hH1 : upd H p (.lst [g]) = H1
  rw [hH1] at S1 hus1 hO1 hM1 hks1
  have hg1 := hO1.g
  cases hg1 with
  | @b ad u v x y h h1 h2 =>
    refine ⟨_, rfl, _, _, _, _, rfl, rfl, SqT.of h, rfl, rfl, _, rfl, ifP ?_⟩
    refine ⟨_, rfl, _, rfl, _, _, _, _, rfl, rfl, SqT.of h, rfl, by show 1 ≤ sizeLine; decide, fun p2 np2 => ?_⟩
    have S2 := same_new np2 (.lst [v])
    refine ⟨l, p2, us, _, rfl, rfl, S2 _ _ hus1, upd_same, by show us.length + 1 ≤ _; omega, fun p3 np3 => ?_⟩
    have S3 := same_new np3 (.lst (us ++ [v]))
    have S23 := S2.trans S3
    have ag : x.All (· ∈ ns) ∧ y.All (· ∈ ns) := hO.ag
    have O3 : Outc ns (upd (upd H1 p2 (.lst [v])) p3 (.lst (us ++ [v]))) p3 u (r ++ [y]) x := ⟨⟨_, upd_same, (hks1.append (.cons h2 .nil)).mono (Same.tk S23)⟩, by simp, fun z hz => by
      rcases List.mem_append.mp hz with e | e
      · exact hO.al z e
      · rw [List.mem_singleton.mp e]; exact ag.2, h1.mono (Same.tk S23), ag.1⟩
    refine ⟨_, rfl, _, _, _, _, rfl, rfl, SqT.of (S23 _ _ h), rfl, _, rfl, _, rfl, p3, u, ns, d, _, x, B, rfl, O3, hN, by rw [rsize_append, rsize_cons]; simp only [Kd.size] at hz; show rsize r + (y.size + 0) + x.size ≤ _; omega, hst.rb, hM1.same S23, hB, by rw [rops_append, rops_cons]; simp only [Kd.ops] at hm; show rops r + (y.ops + 0) + x.ops < _; omega, fun b H4 hb U4 M4 => ?_⟩
    exact q b H4 (hb.trans L.at_b_iff.symm) ((Upto.of_same (S1.trans S23)).trans U4) M4
  | @a ad u v y x h h1 h2 =>
    refine ⟨_, rfl, _, _, _, _, rfl, rfl, SqT.of h, rfl, rfl, _, rfl, ifN nab ?_⟩
    refine ⟨_, rfl, _, _, _, _, rfl, rfl, SqT.of h, rfl, rfl, _, rfl, ifP ?_⟩
    refine ⟨_, rfl, _, _, _, _, rfl, rfl, SqT.of h, rfl, by show 1 ≤ sizeLine; decide, fun p2 np2 => ?_⟩
    have S2 := same_new np2 (.lst [u])
    refine ⟨_, rfl, p2, l, _, us, rfl, rfl, upd_same, S2 _ _ hus1, by show 1 + us.length ≤ _; omega, fun p3 np3 => ?_⟩
    have S3 := same_new np3 (.lst ([u] ++ us))
    have S23 := S2.trans S3
    have ag : x.All (· ∈ ns) ∧ y.All (· ∈ ns) := hO.ag
    have O3 : Outc ns (upd (upd H1 p2 (.lst [u])) p3 (.lst ([u] ++ us))) p3 v (x :: r) y := ⟨⟨_, upd_same, .cons (h1.mono (Same.tk S23)) (hks1.mono (Same.tk S23))⟩, by simp, fun z hz => by
      rcases List.mem_cons.mp hz with e | e
      · rw [e]; exact ag.1
      · exact hO.al z e, h2.mono (Same.tk S23), ag.2⟩
    refine ⟨_, rfl, _, _, _, _, rfl, rfl, SqT.of (S23 _ _ h), rfl, _, rfl, _, rfl, p3, v, ns, d, _, y, B, rfl, O3, hN, by rw [rsize_cons]; simp only [Kd.size] at hz; omega, hst.ra, hM1.same S23, hB, by rw [rops_cons]; simp only [Kd.ops] at hm; omega, fun b H4 hb U4 M4 => ?_⟩
    exact q b H4 (hb.trans L.at_a_iff.symm) ((Upto.of_same (S1.trans S23)).trans U4) M4
  | @p ad cc h =>
    refine ⟨_, rfl, _, _, _, _, rfl, rfl, SqT.of h, rfl, rfl, _, rfl, ifN npb ?_⟩
    refine ⟨_, rfl, _, _, _, _, rfl, rfl, SqT.of h, rfl, rfl, _, rfl, ifN npa ?_⟩
    refine ⟨_, rfl, l, us, rfl, SqL.of hus1, ?_⟩
    refine for_it walk_enum (fun i σ H5 => ∃ x4 x5 x6 : Option V, σ = [some (.ref l), some (.ref ad), some (.str (tx ns)), some (.ref d), x4, x5, x6] ∧ Same H1 H5)
      ⟨none, none, none, rfl, Same.refl _⟩ (fun i σ H5 _ ⟨_, _, _, _, S5⟩ => SqL.of (S5 _ _ hus1)) ?_ ?_
    · rintro i x σ H5 H6 hi ⟨x4, x5, x6, rfl, S5⟩ ⟨Tp, y1, y2, rfl, nT, rfl, hy1, hy2⟩
      have S6 := same_new nT (.tup [y1, y2])
      have S56 := S5.trans S6
      obtain ⟨kz, hkz, hvz⟩ := KsAt.get' hks1 hy2
      have hvz' := hvz.mono (Same.tk S56)
      refine ⟨_, _, rfl, SqT.of upd_same, rfl, _, _, rfl, _, _, rfl, rfl, ?_⟩
      rcases hvz'.inv with ⟨a1, c1, rfl, rfl, h9⟩ | ⟨a1, fb, u1, u2, z1, z2, rfl, rfl, h9, h10, h11⟩
      · exact ⟨_, rfl, _, _, _, _, rfl, rfl, SqT.of h9, rfl, rfl, _, rfl, ifN npw ⟨_, _, _, rfl, S56⟩⟩
      · exact ⟨_, rfl, _, _, _, _, rfl, rfl, SqT.of h9, rfl, rfl, _, rfl, ifN (nfw fb) ⟨_, _, _, rfl, S56⟩⟩
    · rintro σ H5 ⟨x4, x5, x6, rfl, S5⟩
      refine ⟨_, rfl, _, _, _, _, rfl, rfl, SqT.of (S5 _ _ h), rfl, rfl, _, rfl, ifN npw ?_⟩
      refine ⟨_, rfl, _, _, rfl, .inl (SqL.of (S5 _ _ hus1)), _, rfl, by omega, by omega, ?_⟩
      rw [show (((us.length : Nat) : Int)).toNat = us.length by omega]
      have S15 := S1.trans S5
      refine for_range (lo := 0) (n := us.length) (fun i σ H6 => ∃ x4 x5 x6 : Option V, σ = [some (.ref l), some (.ref ad), some (.str (tx ns)), some (.ref d), x4, x5, x6] ∧ Upto [d] H H6 ∧ Memo B H6 d ∧ ∀ sp, sp < i → ¬ ((∃ cut, TakeB r (.p cc) sp cut) ∨ ∃ cut, TakeA r (.p cc) sp cut))
        ⟨x4, x5, x6, rfl, Upto.of_same S15, hM.same S15, fun sp hsp => by omega⟩ ?_ ?_
      · rintro i σ H6 hi ⟨x4, x5, x6, rfl, U6, M6, hno⟩
        have O6 := hO.uptoD hM U6
        refine ⟨_, rfl, _, rfl, _, rfl, _, rfl, _, rfl, l, _, ns, d, r, cc, B, i, (by rw [show (0 : Int) + ((i : Nat) : Int) = ((i : Nat) : Int) from by omega]), by omega, O6, hN, by simp only [Kd.size] at hz; omega, hst, M6, hB, by simp only [Kd.ops] at hm; omega, fun b H7 hb U7 M7 => ?_⟩
        refine ⟨_, rfl, ite2 (fun c1 => ?_) (fun c1 => ?_)⟩
        · refine q true H7 ⟨fun _ => L.plain_iff.mpr (.inr ?_), fun _ => rfl⟩ (U6.trans U7) M7
          rcases hb.mp c1 with ⟨cut, h9⟩ | ⟨cut, h9⟩
          · exact .inl ⟨i, cut, h9⟩
          · exact .inr ⟨i, cut, h9⟩
        · refine ⟨_, _, _, rfl, U6.trans U7, M7, fun sp hsp h9 => ?_⟩
          rcases Nat.lt_or_ge sp i with h10 | h10
          · exact hno sp h10 h9
          · have : sp = i := by omega
            subst this
            exact c1 (hb.mpr h9)
      · rintro σ H6 ⟨x4, x5, x6, rfl, U6, M6, hno⟩
        refine q false H6 ⟨fun h9 => (nomatch h9), fun h9 => ?_⟩ U6 M6
        rcases L.plain_iff.mp h9 with e | ⟨sp, cut, h10⟩ | ⟨sp, cut, h10⟩
        · exact absurd e c
        · have hsp : sp < r.length := by
            obtain ⟨x, y, e, _⟩ := h10
            exact (List.getElem?_eq_some_iff.mp e).1
          exact absurd (.inl ⟨cut, h10⟩) (hno sp (by omega))
        · have hsp : sp < r.length := by
            obtain ⟨x, y, e, _⟩ := h10
            exact (List.getElem?_eq_some_iff.mp e).1
          exact absurd (.inr ⟨cut, h10⟩) (hno sp (by omega))
theorem c_comes (T : Txt w K mg C) : ∀ m, GCal P w K mg base (3 * m + 33) "_law_comes" (spComes m)
  | 0 => cal_none T.dL_comes fun vs H Q ⟨_, _, _, _, _, _, _, _, _, _, _, _, _, _, h, _⟩ => absurd h (Nat.not_lt_zero _)
  | m + 1 => by
    have h1 := c_comes T m
    have h2 := c_put1 (P := P) (base := base) T h1 (by omega)
    have h3 := c_anew1 (P := P) (base := base) T h1 h2 (by omega)
    exact c_comes1 T h3 (by omega)
end
end L2.G
set_option Elab.async false
set_option linter.all false
set_option maxRecDepth 100000
set_option maxHeartbeats 4000000
/-! Dicts whose keys are (a tuple of ints, an int). -/
namespace L2.G
open PySem PySem.Spec PyProof.Rows WW
abbrev NKy := List Int × Int
def nkey (p : NKy) : NestedKey := .tup [.tup (p.1.map .num), .num p.2]
theorem nums_inj : ∀ {a b : List Int}, a.map NestedKey.num = b.map NestedKey.num → a = b
  | [], [], _ => rfl
  | [], _ :: _, e => by simp at e
  | _ :: _, [], e => by simp at e
  | x :: xs, y :: ys, e => by
    rw [List.map_cons, List.map_cons] at e
    injection e with e1 e2
    injection e1 with e1
    rw [e1, nums_inj e2]
theorem nkey_inj {p q : NKy} (e : nkey p = nkey q) : p = q := by
  obtain ⟨a, b⟩ := p
  obtain ⟨c, d⟩ := q
  unfold nkey at e
  injection e with e
  injection e with e1 e2
  injection e1 with e1
  injection e2 with e2 _
  injection e2 with e2
  have h1 : a = c := nums_inj e1
  have h2 : b = d := e2
  rw [h1, h2]
/-- the tuple at b is the key p -/
def NK (H : Hp) (p : NKy) (b : Addr) : Prop := ∃ c, H b = some (.tup [.ref c, .int p.2]) ∧ H c = some (.tup (p.1.map V.int))
theorem NK.mono {H H' : Hp} {p : NKy} {b : Addr} (t : TK H H') (h : NK H p b) : NK H' p b := let ⟨c, h1, h2⟩ := h; ⟨c, t _ _ h1, t _ _ h2⟩
section
variable {P : Program} {w : World} {H : Hp} {h : Heap} {a b d : Addr}
theorem nested_ints : ∀ {is : List Int} {us : List Value}, Vals (is.map V.int) us → NestedAll h (is.map .num) us
  | [], _, r => by rw [List.map_nil] at r; cases r; exact .nil
  | i :: is, _, r => by
    rw [List.map_cons] at r
    cases r with
    | cons hd t =>
      obtain ⟨tk, rfl⟩ := (show ∃ t, _ = Value.int i t from hd)
      exact .cons (.int i tk) (nested_ints t)
theorem depthNums : ∀ is : List Int, NestedKey.depthAll (is.map .num) = 0
  | [] => by simp [NestedKey.depthAll]
  | i :: is => by simp [NestedKey.depthAll, NestedKey.depth, depthNums is]
theorem nk_is {p : NKy} (ok : HOk P w H h) (e : NK H p b) : (nestedKind P w).is h (nkey p) b := by
  obtain ⟨c, h1, h2⟩ := e
  obtain ⟨_, its, r, o, g1, g2, n, g3⟩ := (show ObjOk P w H h b (.tup [.ref c, .int p.2]) from ok b _ h1)
  obtain ⟨_, its2, r2, o2, g4, g5, n2, g6⟩ := (show ObjOk P w H h c (.tup (p.1.map V.int)) from ok c _ h2)
  refine ⟨?_, by show NestedKey.depth (nkey p) ≤ 8; simp [nkey, NestedKey.depth, NestedKey.depthAll, depthNums]⟩
  obtain ⟨u1, u2, rfl, e1, e2⟩ := vals2 r
  obtain rfl : u1 = Value.ref c := e1
  obtain ⟨tk, rfl⟩ := (show ∃ t, u2 = Value.int p.2 t from e2)
  exact .tup g1 g2 g3 (.cons (.tup g4 g5 g6 (by simpa using nested_ints r2)) (.cons (.int _ _) .nil))
abbrev NT (H : Hp) : List (NKy × V) → List (NestedKey × Addr × Value) → Prop := Paired fun p q => q.1 = nkey p.1 ∧ NK H p.1 q.2.1 ∧ RelV p.2 q.2.2
/-- the object that the dict at d is -/
def NObj (P : Program) (w : World) (d : Addr) (xs : List (NestedKey × Addr × Value)) : HO := .ext fun h => ∃ o es ep, h.get? d = some o ∧ o.ExactDict ∧ o.data = .dict es ep ∧ es.toList = xs.map (entryOfKey (nestedKind P w))
/-- a dict with keys (ints, int) -/
def ND (P : Program) (w : World) (H : Hp) (d : Addr) (kvs : List (NKy × V)) : Prop :=
  (kvs = [] ∧ H d = some (.dK [])) ∨ ∃ xs, H d = some (NObj P w d xs) ∧ (d == sysModules) = false ∧ kvs.length ≤ sizeLine ∧ (xs.map (·.1)).Nodup ∧ NT H kvs xs
theorem NT.mono {H' : Hp} {kvs : List (NKy × V)} {xs : List (NestedKey × Addr × Value)} (t : TK H H') (r : NT H kvs xs) : NT H' kvs xs := Paired.mapP r fun _ _ z => ⟨z.1, z.2.1.mono t, z.2.2⟩
theorem ND.keep {H' : Hp} {kvs : List (NKy × V)} (n : ND P w H d kvs) (t : TK H H') (hd : ∀ o, H d = some o → H' d = some o) : ND P w H' d kvs := by
  rcases n with ⟨e, h1⟩ | ⟨xs, h1, h2, h3, h4, h5⟩
  · exact .inl ⟨e, hd _ h1⟩
  · exact .inr ⟨xs, hd _ h1, h2, h3, h4, NT.mono t h5⟩
theorem ND.some {kvs : List (NKy × V)} (n : ND P w H d kvs) : ∃ o, H d = some o ∧ (∀ xs, o ≠ .tup xs) ∧ ∀ xs, o ≠ .lst xs := by
  rcases n with ⟨e, h1⟩ | ⟨xs, h1, _⟩
  · exact ⟨_, h1, fun _ q => (nomatch q), fun _ q => (nomatch q)⟩
  · exact ⟨_, h1, fun _ q => (nomatch q), fun _ q => (nomatch q)⟩
theorem NT.val {kvs : List (NKy × V)} {xs : List (NestedKey × Addr × Value)} (r : NT H kvs xs) (k : NKy) : RelO (valV kvs k) ((atKey xs (nkey k)).map (·.2)) := by
  induction r with
  | nil => exact True.intro
  | @cons p q ps qs h t ih =>
    obtain ⟨h1, _, h2⟩ := h
    by_cases e : p.1 = k
    · have e' : q.1 = nkey k := by rw [h1, e]
      have b : atKey (q :: qs) (nkey k) = Option.some q.2 := by simp [atKey, List.find?_cons, e']
      rw [valV_pos e, b]; exact h2
    · have e' : ¬ q.1 = nkey k := fun z => e (nkey_inj (h1.symm.trans z))
      have b : atKey (q :: qs) (nkey k) = atKey qs (nkey k) := by simp [atKey, List.find?_cons, e']
      rw [valV_neg e, b]; exact ih
theorem NT.repl {kvs : List (NKy × V)} {xs : List (NestedKey × Addr × Value)} (r : NT H kvs xs) (k : NKy) {y : V} {u : Value} (ry : RelV y u) :
    NT H (kvs.map fun kv => if kv.1 = k then (kv.1, y) else kv) (xs.map (putAt (nkey k) u)) := by
  induction r with
  | nil => exact .nil
  | @cons p q ps qs h t ih =>
    rw [List.map_cons, List.map_cons]
    refine .cons ?_ ih
    obtain ⟨h1, h2, h3⟩ := h
    unfold putAt
    by_cases e : p.1 = k
    · rw [if_pos e, if_pos (by rw [h1, e])]; exact ⟨h1, h2, ry⟩
    · rw [if_neg e, if_neg (fun z => e (nkey_inj (h1.symm.trans z)))]; exact ⟨h1, h2, h3⟩
theorem NT.put {kvs : List (NKy × V)} {xs : List (NestedKey × Addr × Value)} (r : NT H kvs xs) (k : NKy) {b : Addr} {y : V} {u : Value} (hb : NK H k b) (ry : RelV y u) :
    NT H (putK kvs k y) (storedH xs (nkey k) b u) := by
  have e : (kvs.any fun kv => decide (kv.1 = k)) = (atKey xs (nkey k)).isSome := by
    rw [valV_any, (r.val k).isSome_eq, Option.isSome_map]
  unfold putK storedH
  rw [e]
  by_cases q : (atKey xs (nkey k)).isSome = true
  · rw [if_pos q, if_pos q]; exact r.repl k ry
  · rw [if_neg q, if_neg q]; exact Paired.snoc r ⟨rfl, hb, ry⟩
theorem nd_of {kvs : List (NKy × V)} (ok : HOk P w H h) (n : ND P w H d kvs) : kvs.length ≤ sizeLine ∧ (d == sysModules) = false ∧ ∃ xs, NT H kvs xs ∧ h.DictOfH (nestedKind P w) d xs := by
  rcases n with ⟨e, h1⟩ | ⟨xs, h1, h2, h3, h4, h5⟩
  · subst e
    obtain ⟨z, hd, vs, rel, dd⟩ := dk_of ok h1
    cases rel
    obtain ⟨o, es, ep, g1, g2, g3, g4, g5, _⟩ := dd
    have e0 : es.toList = [] := by
      generalize es.toList = l at g5
      cases g5
      rfl
    exact ⟨Nat.zero_le _, hd, [], .nil, o, es, ep, g1, g2, g3, e0, (fun _ q => (nomatch q)), List.nodup_nil⟩
  · obtain ⟨⟨o, es, ep, g1, g2, g3, g4⟩, _, _⟩ := (show ObjOk P w H h d (NObj P w d xs) from ok d _ h1)
    refine ⟨h3, h2, xs, h5, o, es, ep, g1, g2, g3, g4, fun x hx => ?_, h4⟩
    have all : ∀ {l : List (NKy × V)} {m : List (NestedKey × Addr × Value)}, NT H l m → ∀ x ∈ m, (nestedKind P w).is h x.1 x.2.1 := by
      intro l m q
      induction q with
      | nil => intro x hx; exact nomatch hx
      | @cons p q ps qs hq t ih =>
        intro x hx
        rcases List.mem_cons.mp hx with e | hx
        · subst e
          rw [hq.1]
          exact nk_is ok hq.2.1
        · exact ih x hx
    exact all h5 x hx
end
section
variable {X : Cx} {o i value : Expr} {pos pos' : Pos} {td ty tv : TE}
theorem nroom {A : Around} (hu : A.units + 64 < cLine) {P : Program} {w : World} : (nestedKind P w).room A.in1 := by
  show A.units + 1 + 8 < cLine
  omega
def tNGet (P : Program) (w : World) (td ty : TE) : TE := fun σ H Q => td σ H fun x H1 => ty σ H1 fun y H2 => ∃ d b kvs p v, x = .ref d ∧ y = .ref b ∧ ND P w H2 d kvs ∧ NK H2 p b ∧ valV kvs p = some v ∧ Q v H2
def tNNot (P : Program) (w : World) (ty td : TE) : TE := fun σ H Q => ty σ H fun y H1 => td σ H1 fun x H2 => ∃ d b kvs p, x = .ref d ∧ y = .ref b ∧ ND P w H2 d kvs ∧ NK H2 p b ∧ Q (.bl (!(valV kvs p).isSome)) H2
def sNPut (P : Program) (w : World) (td ty tv : TE) : TS := fun D σ H => tv σ H fun v H1 => td σ H1 fun x H2 => ty σ H2 fun y H3 => ∃ d b kvs p, x = .ref d ∧ y = .ref b ∧ ND P w H3 d kvs ∧ NK H3 p b ∧ kvs.length < sizeLine ∧
  ∀ o, ND P w (upd H3 d o) d (putK kvs p v) → (∀ xs, o ≠ .tup xs) → D.nx σ (upd H3 d o)
theorem pe_nget (hu : X.A.units + 64 < cLine) (ho : PE X o td) (hi : PE X i ty) (hs : NoSl i) : PE X (.Subscript o i pos) (tNGet X.prog X.w td ty) := by
  refine ⟨fun pins s σ H Q I h => ?_⟩
  refine subD_of PySem.F.slot_dict_getitem.lookup hs (thn (ho.run pins s σ H _ I h) fun u s1 ⟨x, H1, I1, rx, q1⟩ => thn (hi.run pins s1 σ H1 _ I1 q1) fun iv s2 ⟨y, H2, I2, ry, d, b, kvs, p, v, ex, ey, hd, hk, hv, q2⟩ => ?_)
  subst ex ey
  obtain rfl : u = Value.ref d := rx
  obtain rfl : iv = Value.ref b := ry
  obtain ⟨z, hd', xs, rel, dd⟩ := nd_of I2.hok hd
  refine ⟨dd.typeIs, ?_⟩
  obtain ⟨w', hw, rw'⟩ := RelO.some_of (v := v) (o := (atKey xs (nkey p)).map (·.2)) (by rw [← hv]; exact rel.val p)
  obtain ⟨pp, hp, hp2⟩ := Option.map_eq_some_iff.mp hw
  refine wpAny_getItem_heap (nroom hu) (nk_is I2.hok hk) dd hp ?_
  rw [hp2]
  exact ⟨v, H2, I2.tok _, rw', q2⟩
theorem pc_nnot (hu : X.A.units + 64 < cLine) (hi : PE X i ty) (ho : PE X o td) : PC X .NotIn i o (tNNot X.prog X.w ty td) := by
  refine ⟨fun pins s σ H Q I h => ?_⟩
  refine thn (hi.run pins s σ H _ I h) fun iv s1 ⟨y, H1, I1, ry, q1⟩ => thn (ho.run pins s1 σ H1 _ I1 q1) fun u s2 ⟨x, H2, I2, rx, d, b, kvs, p, ex, ey, hd, hk, q2⟩ => ?_
  subst ex ey
  obtain rfl : u = Value.ref d := rx
  obtain rfl : iv = Value.ref b := ry
  obtain ⟨z, hd', xs, rel, dd⟩ := nd_of I2.hok hd
  refine wpAny_notIn_heap (nroom hu) (nk_is I2.hok hk) hd' dd ?_
  have e := (rel.val p).isSome_eq
  rw [Option.isSome_map] at e
  rw [← e]
  exact ⟨.bl _, H2, I2.tok _, rfl, q2⟩
theorem ps_nput (hu : X.A.units + 64 < cLine) (ho : PE X o td) (hi : PE X i ty) (hv : PE X value tv) (hs : swapsWith value (some (.Subscript o i pos')) pos.line X.env = pure false) :
    PS X (.Assign [.Subscript o i pos'] value pos) (sNPut X.prog X.w td ty tv) := by
  refine ⟨fun pins s σ H D I h => ?_⟩
  refine wpAny_Assign_Subscript (thn (hv.run pins s σ H _ I h) fun r s1 ⟨v, H1, I1, rv, q1⟩ => thn (ho.run pins s1 σ H1 _ I1 q1) fun u s2 ⟨x, H2, I2, rx, q2⟩ => thn (hi.run pins s2 σ H2 _ I2 q2) fun iv s3 ⟨y, H3, I3, ry, d, b, kvs, p, ex, ey, hd, hk, hl, q3⟩ => ?_) hs
  subst ex ey
  obtain rfl : u = Value.ref d := rx
  obtain rfl : iv = Value.ref b := ry
  obtain ⟨z, hd', xs, rel, dd⟩ := nd_of I3.hok hd
  have hz : xs.length ≤ sizeLine := by rw [← Paired.length rel]; exact z
  have hl2 : (putK kvs p v).length ≤ sizeLine := by have := length_putK kvs p v; omega
  obtain ⟨od, hod, hnt, hnl⟩ := hd.some
  have hmu : Mut (H3 d) := by
    rcases hd with ⟨_, e⟩ | ⟨_, e, _⟩ <;> (rw [e]; exact True.intro)
  refine wpAny_setItem_heap (hsz := hz) (nroom hu) (nk_is I3.hok hk) dd fun h' dd' hs => ?_
  have rel' := rel.put p hk rv
  obtain ⟨q, es, ep, hq, h2, h3, h4, _, h5⟩ := dd'
  have t3 : TK H3 (upd H3 d (NObj X.prog X.w d (storedH xs (nkey p) b r))) := fun c ys ec => by
    rw [upd_ne (fun e => by subst e; rw [hod] at ec; cases ec; exact hnt _ rfl)]
    exact ec
  refine ⟨σ, upd H3 d (NObj X.prog X.w d (storedH xs (nkey p) b r)), d_write I3 hmu hs ⟨q, hq⟩ ⟨⟨q, es, ep, hq, h2, h3, h4⟩, ⟨q, hq⟩, fun h1 h2 ⟨o1, es1, ep1, g1, g2, g3, g4⟩ k => ⟨o1, es1, ep1, k _ g1, g2, g3, g4⟩⟩, q3 _ ?_ (fun _ q => (nomatch q))⟩
  exact .inr ⟨_, upd_same, hd', hl2, h5, NT.mono t3 rel'⟩
end
end L2.G
set_option Elab.async false
set_option linter.all false
set_option maxRecDepth 100000
set_option maxHeartbeats 4000000
/-! a tuple's slices, a tuple from behind; joined words, back word. -/
namespace L2.G
open PySem PySem.Spec PyProof.Rows WW
section
variable {K : PySem.W.Frag} {H : Hp} {a b : Addr} {xs ys : List V} {lo hi : Option Int} {Q : VK}
/-- t[lo:hi], whether the whole or not -/
theorem slT (h : H a = some (.tup xs)) (q : ∀ p H', Same H H' → H' p = some (.tup (cutV xs lo hi)) → Q (.ref p) H') : rSlA K (.ref a) lo hi H Q := by
  refine ⟨a, xs, rfl, SqT.of h, fun ⟨h0, h1⟩ => ?_, fun _ p np => q p _ (same_new np _) upd_same⟩
  refine q a H (Same.refl _) ?_
  rw [h]
  unfold cutV
  rw [h0, h1, List.drop_zero, Nat.sub_zero, List.take_length]
/-- t + u -/
theorem catT (h : H a = some (.tup xs)) (h' : H b = some (.tup ys)) (hz : xs.length + ys.length ≤ sizeLine) (q : ∀ p H', Same H H' → H' p = some (.tup (xs ++ ys)) → Q (.ref p) H') : rCatA K (.ref a) (.ref b) H Q := by
  refine ⟨a, b, xs, ys, rfl, rfl, SqT.of h, SqT.of h', hz, fun e => ?_, fun _ e => ?_, fun _ _ p np => q p _ (same_new np _) upd_same⟩
  · exact q b H (Same.refl _) (by rw [e]; exact h')
  · exact q a H (Same.refl _) (by rw [e, List.append_nil]; exact h)
end
section
variable {prog : Program} {w : World} {A : Around} {E : Value → Shared → Prop} {s : Shared}
theorem places_rev (n : Nat) : Builtin.Slice.slicePlaces ((n : Int) - 1) (-1) (-1) = n := by
  unfold Builtin.Slice.slicePlaces
  have h1 : ¬ ((-1 : Int) > 0) := by omega
  simp only [h1, if_false]
  split <;> simp <;> omega
theorem fm_congr {α β : Type} {f g : α → Option β} : ∀ {l : List α}, (∀ m ∈ l, f m = g m) → l.filterMap f = l.filterMap g
  | [], _ => rfl
  | x :: l, h => by
    rw [List.filterMap_cons, List.filterMap_cons, h x List.mem_cons_self, fm_congr fun m hm => h m (List.mem_cons_of_mem _ hm)]
theorem pick_rev (xs : Array Value) : ((List.range xs.size).filterMap fun (m : Nat) => xs[(((xs.size : Int) - 1) + (m : Int) * -1).toNat]?).toArray = xs.toList.reverse.toArray := by
  have e := HT.pick_gen xs.toList.reverse.toArray 0 xs.size
  rw [List.drop_zero, List.take_of_length_le (by simp)] at e
  have e2 : (xs.toList.reverse.toArray.toList).toArray = xs.toList.reverse.toArray := by rw [Array.toArray_toList]
  rw [e2] at e
  rw [← e]
  congr 1
  refine fm_congr fun m hm => ?_
  have hm := List.mem_range.mp hm
  rw [show (((xs.size : Int) - 1) + (m : Int) * -1).toNat = xs.size - 1 - m by omega, show (((0 : Nat) : Int) + (m : Int) * 1).toNat = m by omega]
  rw [← Array.getElem?_toList, ← Array.getElem?_toList, List.toList_toArray, List.getElem?_reverse (by simpa using hm), Array.length_toList]
theorem sliceApplied_rev {sl : Addr} {vs : Value} {n : Nat} {Q : Int × Int × Nat → Shared → Prop} (hs : s.heap.IsSliceOf sl .none .none vs) (ps : IsPart vs (some (-1)))
    (h : Q ((n : Int) - 1, -1, n) s) : wpAny (model prog w) A (Builtin.Slice.sliceApplied (.ref sl) (pure (n : Int))) Q E s := by
  obtain ⟨os, hos, hcs, hds⟩ := id hs
  unfold Builtin.Slice.sliceApplied Builtin.Slice.sliceFields
  refine wpAny_bind (wpAny_bind (wpAny_field hos hds (x := .none) rfl (wpAny_bind (wpAny_field hos hds (x := .none) rfl (wpAny_bind (wpAny_field hos hds (x := vs) rfl (wpAny_pure ?_)))))))
  refine wpAny_bind (HT.slicePart_ ps ?_)
  show wpAny _ _ (if ((-1 : Int) == 0) = true then _ else _) _ _ s
  rw [if_neg (by decide)]
  refine wpAny_bind (PyProof.Rows.slicePart_none (wpAny_bind (PyProof.Rows.slicePart_none (wpAny_bind (wpAny_pure ?_)))))
  have e : Builtin.Slice.sliceAdjust none none (-1) (n : Int) = ((n : Int) - 1, -1) := by
    unfold Builtin.Slice.sliceAdjust
    simp
  show wpAny _ _ (match Builtin.Slice.sliceAdjust none none (-1) (n : Int) with | (lo, hi) => pure (lo, (-1 : Int), Builtin.Slice.slicePlaces lo hi (-1))) _ _ s
  rw [e]
  show wpAny _ _ (pure ((n : Int) - 1, (-1 : Int), Builtin.Slice.slicePlaces ((n : Int) - 1) (-1) (-1))) _ _ s
  rw [places_rev]
  exact wpAny_pure h
end
section
variable {prog : Program} {w : World} {A : Around} {E : Value → Shared → Prop} {s : Shared}
theorem getItem_tuple_rev {t sl : Addr} {items : Array Value} {vs : Value} {Q : Value → Shared → Prop} (ht : IsTup s.heap t items) (hs : s.heap.IsSliceOf sl .none .none vs) (ps : IsPart vs (some (-1)))
    (h : Q (.ref s.heap.objs.size) { s with heap := s.heap.push { cls := .type "tuple", data := .seq items.toList.reverse.toArray } })
    (hsz : items.size ≤ sizeLine) : wpAny (model prog w) A (getItem (.ref t) (.ref sl)) Q E s := by
  have htake : sizeOk (.seq items.toList.reverse.toArray) := by
    show items.toList.reverse.toArray.size ≤ sizeLine
    rw [List.size_toArray, List.length_reverse, Array.length_toList]
    exact hsz
  obtain ⟨os, hos, hcs, hds⟩ := id hs
  have hTs : s.TypeIs (.ref sl) "slice" := ⟨os, hos, hcs⟩
  unfold getItem
  try with_reducible refine wpAny_holding ?_
  first | refine wpAny_bind (wpAny_pure ?_) | skip
  refine wpAny_bind (wpAny_sequenceKey ht.typeIs (by decide) ?_)
  refine wpAny_bind (wpAny_callSpecial?_slot (name := Str.ofString "__getitem__") ht.typeIs PyProof.Rows.slot_tuple_getitem
    (wpAny_call_entry PyProof.Rows.slot_tuple_getitem ht.typeIs PyProof.Rows.entry_tuple_getitem ?_ (PyProof.Rows.args_tuple_getitem _ _)))
  show wpAny _ _ (Builtin.Tuple.tupleItemsOf (.ref t) >>= _) _ _ s
  refine wpAny_bind (PyProof.Rows.tupleItemsOf_ ht ?_)
  refine wpAny_bind (wpAny_typeOf hTs ?_)
  rw [if_pos (by decide)]
  refine wpAny_bind (sliceApplied_rev hs ps ?_)
  have hno : ¬ ((((items.size : Int) - 1) == 0 && (-1 : Int) == 1 && items.size == items.size) = true) := by
    rw [show ((-1 : Int) == 1) = false from by decide, Bool.and_false, Bool.false_and]
    exact Bool.false_ne_true
  show wpAny _ _ (if (((items.size : Int) - 1) == 0 && (-1 : Int) == 1 && items.size == items.size) = true then _ else _) _ _ s
  rw [if_neg hno, pick_rev]
  first
    | exact wpAny_bind (m := Builtin.Tuple.tupleExact _) (wpAny_newObj_type (wpAny_pure ⟨_, rfl, wpAny_pure h⟩) htake)
    | exact wpAny_bind (m := Builtin.Tuple.tupleExact _) (wpAny_newObj_type (wpAny_bind (wpAny_pure (wpAny_pure ⟨_, rfl, wpAny_pure h⟩))) htake)
    | exact wpAny_bind (wpAny_bind (m := Builtin.Tuple.tupleExact _) (wpAny_newObj_type (wpAny_pure (wpAny_pure ⟨_, rfl, wpAny_pure h⟩)) htake))
    | exact wpAny_bind (wpAny_bind (m := Builtin.Tuple.tupleExact _) (wpAny_newObj_type (wpAny_pure ⟨_, rfl, wpAny_pure h⟩) htake))
end
def tRevT (K : PySem.W.Frag) (te : TE) : TE := fun σ H Q => te σ H fun x H1 => ∃ a xs, x = .ref a ∧ SqT K H1 a xs ∧ ∀ p, H1 p = none → Q (.ref p) (upd H1 p (.tup xs.reverse))
section
variable {X : Cx} {e : Expr} {te : TE} {k : Nat} {p1 p2 p3 pos : Pos}
theorem pe_revT (he : PE X e te) : PE X (.Subscript e (.Slice none none (some (.UnaryOp .USub (.Constant (.int 1) k p1) p2)) p3) pos) (tRevT X.K te) := by
  refine ⟨fun pins s σ H Q I h => ?_⟩
  refine Subscript_ (thn (he.run pins s σ H _ I h) fun v s1 ⟨x, H1, I1, r1, q1⟩ => ?_)
  obtain ⟨a, xs, ex, hx, q⟩ := q1
  subst ex
  cases r1
  have hst : PO X (some (.UnaryOp .USub (.Constant (.int 1) k p1) p2)) (tPart (tUn (rU fun i => .int (-i)) (tC (.int 1)))) := po_some (pe_un un_neg pe_int)
  refine wpAny_Slice (thn (po_none.run pins s1 σ H1 (fun o H2 => o = none ∧ H2 = H1) I1 ⟨rfl, rfl⟩) fun vl s2 ⟨l, H2, I2, pl, el, e2⟩ => ?_)
  subst el e2
  refine thn (po_none.run pins s2 σ H2 (fun o H3 => o = none ∧ H3 = H2) I2 ⟨rfl, rfl⟩) fun vu s3 ⟨u, H3, I3, pu, eu, e3⟩ => ?_
  subst eu e3
  refine thn (hst.run pins s3 σ H3 (fun o H4 => o = some (-1) ∧ H4 = H3) I3 ⟨1, rfl, -1, rfl, rfl, rfl⟩) fun vs s4 ⟨o, H4, I4, ps, eo, e4⟩ => ?_
  subst eo e4
  cases pl
  cases pu
  have I5 : Inv X pins σ H4 { s4 with heap := s4.heap.push { cls := .type "slice", data := .fields #[.none, .none, vs] } } := I4.kept (t' := s4.toks) fun b ob q => Heap.get?_push_of_some _ q
  obtain ⟨its, r, ht, hz⟩ := I5.tuple hx
  have hlen := r.length
  show wpAny (model X.prog X.w) X.A (subscriptTail e (.Slice none none (some (.UnaryOp .USub (.Constant (.int 1) k p1) p2)) p3) (.ref a) (.ref s4.heap.objs.size)) (EP X pins σ Q) X.xe { s4 with heap := s4.heap.push { cls := .type "slice", data := .fields #[.none, .none, vs] } }
  refine tail_any (ops := [.ref a, .ref s4.heap.objs.size]) ht.typeIs (PyProof.Rows.slot_tuple_getitem.lookup) ?_ (by with_unfolding_all rfl)
  refine getItem_tuple_rev ht (Heap.IsSliceOf.new _ .none .none vs) ps ?_ (by rw [List.size_toArray]; omega)
  refine ⟨.ref _, _, I5.laid (t' := s4.toks) (o := .tup xs.reverse) (fun b ob q => Heap.get?_push_of_some _ q) (Nat.le_refl _) ?_, rfl, q _ (I5.hok.fresh (Nat.le_refl _))⟩
  exact ⟨by rw [List.length_reverse]; exact hz, _, r.reverse, IsTup.new _ _⟩
end
def spJoined : SpG := fun vs H Q => ∃ (a b : Addr) (u v : List Int), vs = [.ref a, .ref b] ∧ H a = some (.tup (u.map .int)) ∧ H b = some (.tup (v.map .int)) ∧ u.length + v.length ≤ 10000 ∧ ∀ p H', Same H H' → H' p = some (.tup ((jw u v).map .int)) → Q (.ref p) H'
def spBack : SpG := fun vs H Q => ∃ (a : Addr) (u : List Int), vs = [.ref a] ∧ H a = some (.tup (u.map .int)) ∧ u.length ≤ 10000 ∧ ∀ p H', Same H H' → H' p = some (.tup ((inv u).map .int)) → Q (.ref p) H'
section
variable {P : Program} {w : World} {K : PySem.W.Frag} {mg : Str → Option Value} {base : Heap} {C : Addr}
theorem c_back_word (T : Txt w K mg C) : GCal P w K mg base 1 "back_word" spBack := by
  refine cal_of T.dP_back_word scP_back_word (fun vs H Q ⟨_, _, e, _⟩ => by rw [e]; rfl) fun f cdv A outer s H vs Q hr ⟨a, u, e, ha, hl, q⟩ => ?_
  subst e
  refine ⟨_, (pss_one (ps_ret (pe_callTy call_tuple_of rfl T.m_tuple (by decide +kernel) (pa_cons (pe_lc (own := [("sign", 1)]) (g := gName 1) (tt := tYes) rfl scP_back_word.nd (pi_tup (pe_revT (pv 0))) (blkOk_by (own := [("sign", 1)]) (N := ["told", "sign"]) (sc := defScope sP_back_word) (by decide +kernel)) (fun _ _ _ _ _ => (pg_name (i := 1) scP_back_word.nd rfl (by first | exact Or.inl rfl | exact Or.inr rfl))) (fun _ _ _ _ _ => pts_nil) (fun _ _ _ _ _ => (pe_un un_neg (pv 1)))) pa_nil)))), ?_⟩
  have zl : sizeLine = 16777216 := sizeLine_eq
  refine ⟨_, rfl, a, _, rfl, SqT.of ha, fun p np => ?_⟩
  have S := same_new np (.tup (u.map V.int).reverse)
  have er : (u.map V.int).reverse = u.reverse.map V.int := (List.map_reverse ..).symm
  have hp : upd H p (.tup (u.map V.int).reverse) p = some (.tup (u.reverse.map V.int)) := by rw [upd_same, er]
  refine ⟨p, rfl, ⟨_, SqT.of hp⟩, fun D nD => ?_⟩
  refine lc_mapG (walk_tup (xs := u.reverse.map V.int)) ((inv u).map V.int) (by simp [WW.inv]) (by simp; omega) nD (fun H h => SqT.of (h _ _ hp)) (fun x => rfl)
    (fun i x y H1 Q1 hx hy s1 h => ?_) (fun H3 S3 hD3 => ?_)
  · rw [List.getElem?_map] at hx
    obtain ⟨z, hz, e1⟩ := Option.map_eq_some_iff.mp hx
    subst e1
    unfold WW.inv at hy
    rw [List.getElem?_map, List.getElem?_map, hz] at hy
    cases hy
    exact ⟨_, rfl, _, rfl, h _ (Same.refl _)⟩
  · refine ⟨D, _, rfl, .inl ⟨SqL.of hD3, fun l nl => ?_⟩⟩
    have S4 := same_new nl (.tup ((inv u).map V.int))
    exact q l _ ((S.trans S3).trans S4) upd_same
theorem c_joined_words (T : Txt w K mg C) : GCal P w K mg base 1 "joined_words" spJoined := by
  refine cal_of T.dP_joined_words scP_joined_words (fun vs H Q ⟨_, _, _, _, e, _⟩ => by rw [e]; rfl) fun f cdv A outer s H vs Q hr ⟨a, b, u, v, e, ha, hb, hl, q⟩ => ?_
  subst e
  refine ⟨_, (pss_cons (ps_par (i := 2) (j := 3) rfl scP_joined_words.nd rfl rfl (by decide) rfl rfl (pa_cons pe_int (pa_cons (pe_callB (call_min2 rfl) rfl T.m_min (by decide +kernel) (pa_cons (pe_callB call_len_seq rfl T.m_len (by decide +kernel) (pa_cons (pv 0) pa_nil)) (pa_cons (pe_callB call_len_seq rfl T.m_len (by decide +kernel) (pa_cons (pv 1) pa_nil)) pa_nil))) pa_nil)) rfl)
    (pss_cons (ps_while PassesOwn.never (PW.pt (pw_and (pt_cmpR op_lt (pv 2) (pv 3) (nomark _)) (pw_and1 (pt_cmpR op_eq (pe_ix ix_tup (pv 0) (pe_op op_sub (pe_op op_sub (pe_callB call_len_seq rfl T.m_len (by decide +kernel) (pa_cons (pv 0) pa_nil)) pe_int) (pv 2)) (fun _ _ => rfl)) (pe_un un_neg (pe_ix ix_tup (pv 1) (pv 2) (fun _ _ => rfl))) (nomark _)))))
      (pss_one (ps_aug (i := 2) scP_joined_words.nd rfl (by first | exact Or.inl rfl | exact Or.inr rfl) pe_int ip_add)))
    (pss_one (ps_ret (pe_op op_catA (pe_slice sl_tupA (pv 0) po_none (po_some (pe_op op_sub (pe_callB call_len_seq rfl T.m_len (by decide +kernel) (pa_cons (pv 0) pa_nil)) (pv 2)))) (pe_slice sl_tupA (pv 1) (po_some (pv 2)) po_none)))))), ?_⟩
  have zl : sizeLine = 16777216 := sizeLine_eq
  have hc := ncut_le u.reverse v
  rw [List.length_reverse] at hc
  refine ⟨_, rfl, _, _, rfl, .inr (SqT.of ha), _, rfl, _, _, rfl, .inr (SqT.of hb), ?_⟩
  rw [List.length_map, List.length_map]
  refine ⟨_, _, rfl, ?_⟩
  obtain ⟨m, hm, hmm⟩ : ∃ m : Nat, (if ((v.length : Nat) : Int) < ((u.length : Nat) : Int) then ((v.length : Nat) : Int) else ((u.length : Nat) : Int)) = ((m : Nat) : Int) ∧ m = min u.length v.length := ⟨min u.length v.length, by split <;> omega, rfl⟩
  rw [hm]
  refine ⟨_, _, rfl, ?_⟩
  have fin : ∀ c : Nat, c = ncut u.reverse v → (tRet (tOp (rCatA K) (tSl (rSlA K) (tVar 0) tNoPart (tPart (tOp (rI0 fun i j => .int (i - j)) (tCB (fun xs H Q => ∃ p ys, xs = [.ref p] ∧ (SqL K H p ys ∨ SqT K H p ys) ∧ Q (.int ys.length) H) (tCons (tVar 0) tNil)) (tVar 2)))) (tSl (rSlA K) (tVar 1) (tPart (tVar 2)) tNoPart)))
      { nx := fun _ H' => Q .non H', rt := Q } [some (.ref a), some (.ref b), some (.int (c : Nat)), some (.int (m : Nat))] H := fun c e => by
    refine ⟨_, rfl, _, rfl, _, _, rfl, .inr (SqT.of ha), _, rfl, _, _, rfl, rfl, _, rfl, slT ha fun p1 H1 S1 h1 => ?_⟩
    refine ⟨_, rfl, _, rfl, _, rfl, ?_⟩
    dsimp only [tNoPart]
    refine slT (S1 _ _ hb) fun p2 H2 S2 h2 => ?_
    rw [List.length_map, show ((u.length : Nat) : Int) - ((c : Nat) : Int) = ((u.length - c : Nat) : Int) by omega, cutV_take] at h1
    rw [cutV_drop] at h2
    refine catT (S2 _ _ h1) h2 (by rw [List.length_take, List.length_drop, List.length_map, List.length_map]; omega) fun p3 H3 S3 h3 => ?_
    refine q p3 H3 ((S1.trans S2).trans S3) ?_
    rw [h3, ← List.map_take, ← List.map_drop, ← List.map_append]
    unfold WW.jw
    rw [← e]
  refine ⟨fun n σ H' => ∃ c : Nat, σ = [some (.ref a), some (.ref b), some (.int (c : Nat)), some (.int (m : Nat))] ∧ H' = H ∧ c ≤ ncut u.reverse v ∧ n = ncut u.reverse v - c, ⟨_, 0, rfl, rfl, Nat.zero_le _, rfl⟩, ?_⟩
  rintro n σ H' ⟨c, rfl, rfl, hcc, rfl⟩
  refine ⟨_, rfl, _, rfl, _, _, rfl, rfl, _, rfl, ite2 (fun c1 => ?_) (fun c1 => ?_)⟩
  · have c1 : ((c : Nat) : Int) < ((m : Nat) : Int) := of_decide_eq_true c1
    obtain ⟨x, hx⟩ : ∃ x, u.reverse[c]? = some x := ⟨u.reverse[c]'(by rw [List.length_reverse]; omega), List.getElem?_eq_getElem _⟩
    obtain ⟨y, hy⟩ : ∃ y, v[c]? = some y := ⟨v[c]'(by omega), List.getElem?_eq_getElem _⟩
    have hx2 : (u.map V.int)[u.length - 1 - c]? = some (.int x) := by
      rw [List.getElem?_reverse (by omega)] at hx
      rw [List.getElem?_map, hx]; rfl
    have hy2 : (v.map V.int)[c]? = some (.int y) := by rw [List.getElem?_map, hy]; rfl
    have hat : atI (u.map V.int) (((u.map V.int).length : Nat) - 1 - ((c : Nat) : Int)) = some (.int x) := by
      rw [List.length_map, show ((u.length : Nat) : Int) - 1 - ((c : Nat) : Int) = ((u.length - 1 - c : Nat) : Int) by omega]
      exact atI_nat hx2
    refine ⟨_, rfl, _, rfl, _, _, rfl, .inr (SqT.of ha), _, _, rfl, rfl, _, rfl, _, _, rfl, rfl, _, _, _, _, rfl, rfl, SqT.of ha, hat, ?_⟩
    refine ⟨_, rfl, _, rfl, _, _, _, _, rfl, rfl, SqT.of hb, atI_nat hy2, _, rfl, rfl, _, rfl, ite2 (fun c2 => ?_) (fun c2 => ?_)⟩
    · have c2 := of_decide_eq_true c2
      injection c2 with c2
      have hlt : c < ncut u.reverse v := by
        rcases Nat.lt_or_ge c (ncut u.reverse v) with h | h
        · exact h
        · have e : c = ncut u.reverse v := by omega
          rw [e] at hx hy
          exact absurd c2 (ncut_at _ _ _ _ hx hy)
      refine ⟨fun σ' H2 => ∃ c' : Nat, σ' = [some (.ref a), some (.ref b), some (.int (c' : Nat)), some (.int (m : Nat))] ∧ H2 = H' ∧ c' ≤ ncut u.reverse v ∧ c < c', ?_, ?_⟩
      · rintro σ' H2 ⟨c', rfl, rfl, h1, h2⟩
        exact ⟨ncut u.reverse v - c', by omega, c', rfl, rfl, h1, rfl⟩
      · refine ⟨_, rfl, _, _, rfl, rfl, ?_⟩
        exact ⟨c + 1, rfl, rfl, hlt, Nat.lt_succ_self _⟩
    · have hne : c = ncut u.reverse v := by
        rcases Nat.lt_or_ge c (ncut u.reverse v) with h | h
        · obtain ⟨x', y', h1, h2, h3⟩ := ncut_below _ _ _ h
          rw [hx] at h1; cases h1
          rw [hy] at h2; cases h2
          exact absurd (decide_eq_true (by rw [h3])) c2
        · omega
      exact fin c hne
  · have c1 : ¬ ((c : Nat) : Int) < ((m : Nat) : Int) := of_decide_eq_false (Bool.eq_false_iff.mpr c1)
    exact fin c (by omega)
end
end L2.G
set_option Elab.async false
set_option linter.all false
set_option maxRecDepth 100000
set_option maxHeartbeats 8000000
/-! The program's table. -/
namespace WW
theorem jw_len (u v : List Int) : (jw u v).length ≤ u.length + v.length := by
  unfold jw
  rw [List.length_append, List.length_take, List.length_drop]
  omega
theorem inv_len (u : List Int) : (inv u).length = u.length := by simp [inv]
theorem gw_len {α : Type} (f : α → Int) : ∀ k : Kd α, (k.gw f).length ≤ k.size
  | .p c => Nat.le_refl _
  | .b x y => by
    have := jw_len (x.gw f) (inv (y.gw f))
    have := gw_len f x
    have := gw_len f y
    rw [inv_len] at *
    simp only [Kd.gw, Kd.size]; omega
  | .a y x => by
    have := jw_len (inv (y.gw f)) (x.gw f)
    have := gw_len f x
    have := gw_len f y
    rw [inv_len] at *
    simp only [Kd.gw, Kd.size]; omega
end WW
namespace L2.G
open PySem PySem.Spec PyProof.Rows WW
structure Adr where
  (x dx am ash af ap asu asp ac ak : Addr)
def Adr.ls (t : Adr) : List Addr := [t.x, t.am, t.ash, t.af, t.ap, t.asu, t.asp, t.ac, t.ak]
theorem nd_ix {α : Type} {N : List α} (hN : N.Nodup) {i j : Nat} {x : α} (a : N[i]? = some x) (b : N[j]? = some x) : i = j := by
  obtain ⟨h1, e1⟩ := List.getElem?_eq_some_iff.mp a
  obtain ⟨h2, e2⟩ := List.getElem?_eq_some_iff.mp b
  exact (List.getElem_inj hN).mp (e1.trans e2.symm)
theorem nea {l : List Addr} {i j : Nat} {a b : Addr} (h : l.Nodup) (h1 : l[i]? = some a) (h2 : l[j]? = some b) (hn : i ≠ j) : a ≠ b := fun e => by
  subst e
  exact hn (nd_ix h h1 h2)
def form : Kd Nat → Str
  | .p _ => "plain"
  | .b _ _ => "behind"
  | .a _ _ => "ahead"
def idx (T : List (Kd Nat)) (k : Kd Nat) : Int := ((T.idxOf k : Nat) : Int)
def mkey (T : List (Kd Nat)) : Kd Nat → List Key
  | .p c => [.inr "plain", .inr (ch c)]
  | .b x y => [.inr "behind", .inl (idx T x), .inl (idx T y)]
  | .a x y => [.inr "ahead", .inl (idx T x), .inl (idx T y)]
def Kids (T : List (Kd Nat)) : Kd Nat → Prop
  | .p _ => True
  | .b x y => x ∈ T ∧ y ∈ T
  | .a x y => x ∈ T ∧ y ∈ T
def PrOk (H : Hp) (T : List (Kd Nat)) (v : V) : Kd Nat → Prop
  | .p _ => ∃ a, v = .ref a ∧ H a = some (.tup [.int 0, .int 0])
  | .b x y => ∃ (a : Addr) (i j : Nat), v = .ref a ∧ H a = some (.tup [.int (i : Nat), .int (j : Nat)]) ∧ T[i]? = some x ∧ T[j]? = some y
  | .a x y => ∃ (a : Addr) (i j : Nat), v = .ref a ∧ H a = some (.tup [.int (i : Nat), .int (j : Nat)]) ∧ T[i]? = some x ∧ T[j]? = some y
def SpOk (H : Hp) (fg : Nat → Int) (v : V) (k : Kd Nat) : Prop := ∃ a, v = .ref a ∧ H a = some (.tup ((k.gw fg).map .int))
def tfs (t : Adr) (wt met : Int) : List (Str × V) := [("marks", .ref t.am), ("shapes", .ref t.ash), ("forms", .ref t.af), ("pairs", .ref t.ap), ("sums", .ref t.asu), ("spelled", .ref t.asp), ("cores", .ref t.ac), ("weight", .int wt), ("met", .int met), ("known", .ref t.ak)]
def Marks (T : List (Kd Nat)) (kvs : List (List Key × V)) : Prop := kvs.length ≤ T.length ∧ ∀ key v, valV kvs key = some v ↔ ∃ (i : Nat) (k : Kd Nat), T[i]? = some k ∧ key = mkey T k ∧ v = .int (i : Nat)
structure TabAt (P : Program) (w : World) (C : Addr) (H : Hp) (t : Adr) (T : List (Kd Nat)) (fs fg : Nat → Int) (wt met : Int) (kn : List (NKy × V)) : Prop where
  nd : t.ls.Nodup
  ins : H t.x = some (.ins C t.dx (tfs t wt met))
  marks : ∃ kvs, H t.am = some (.dT kvs) ∧ Marks T kvs
  shapes : ∃ vs, H t.ash = some (.lst vs) ∧ KsAt H vs T
  forms : H t.af = some (.lst (T.map fun k => .str (form k)))
  pairs : ∃ vs, H t.ap = some (.lst vs) ∧ Paired (PrOk H T) vs T
  sums : H t.asu = some (.lst (T.map fun k => .int (k.val fs)))
  spelled : ∃ vs, H t.asp = some (.lst vs) ∧ Paired (SpOk H fg) vs T
  cores : H t.ac = some (.lst (T.map fun k => .str (ch k.core)))
  known : ND P w H t.ak kn
  kids : ∀ k ∈ T, Kids T k
  tnd : T.Nodup
  ne0 : ∀ c, fg c ≠ 0
  met0 : 0 ≤ met
  small : ∀ k ∈ T, k.size ≤ 30
theorem PrOk.mono {H H' : Hp} {T : List (Kd Nat)} (t : TK H H') {v : V} {k : Kd Nat} (h : PrOk H T v k) : PrOk H' T v k := by
  cases k with
  | p c => obtain ⟨a, e, h⟩ := h; exact ⟨a, e, t _ _ h⟩
  | b x y => obtain ⟨a, i, j, e, h, h1⟩ := h; exact ⟨a, i, j, e, t _ _ h, h1⟩
  | a x y => obtain ⟨a, i, j, e, h, h1⟩ := h; exact ⟨a, i, j, e, t _ _ h, h1⟩
theorem get_snoc {α : Type} {T : List α} {i : Nat} {k z : α} (h : T[i]? = some k) : (T ++ [z])[i]? = some k := by
  rw [List.getElem?_append_left (List.getElem?_eq_some_iff.mp h).1]; exact h
theorem PrOk.snoc {H : Hp} {T : List (Kd Nat)} {v : V} {k z : Kd Nat} (h : PrOk H T v k) : PrOk H (T ++ [z]) v k := by
  cases k with
  | p c => exact h
  | b x y => obtain ⟨a, i, j, e, h, h1, h2⟩ := h; exact ⟨a, i, j, e, h, get_snoc h1, get_snoc h2⟩
  | a x y => obtain ⟨a, i, j, e, h, h1, h2⟩ := h; exact ⟨a, i, j, e, h, get_snoc h1, get_snoc h2⟩
theorem SpOk.mono {H H' : Hp} {fg : Nat → Int} (t : TK H H') {v : V} {k : Kd Nat} (h : SpOk H fg v k) : SpOk H' fg v k := by
  obtain ⟨a, e, h⟩ := h; exact ⟨a, e, t _ _ h⟩
theorem idx_get {T : List (Kd Nat)} (hn : T.Nodup) {i : Nat} {k : Kd Nat} (h : T[i]? = some k) : idx T k = ((i : Nat) : Int) := by
  obtain ⟨hl, e⟩ := List.getElem?_eq_some_iff.mp h
  have h2 : k ∈ T := List.mem_of_getElem? h
  have h3 := List.idxOf_lt_length_iff.mpr h2
  have h4 : T[T.idxOf k]? = some k := by rw [List.getElem?_eq_getElem h3]; simp
  have : T.idxOf k = i := nd_ix hn h4 h
  unfold idx
  rw [this]
theorem idx_snoc {T : List (Kd Nat)} {k z : Kd Nat} (h : k ∈ T) : idx (T ++ [z]) k = idx T k := by
  unfold idx
  rw [List.idxOf_append, if_pos h]
theorem mkey_snoc {T : List (Kd Nat)} {k z : Kd Nat} (h : Kids T k) : mkey (T ++ [z]) k = mkey T k := by
  cases k with
  | p c => rfl
  | b x y => simp only [mkey]; rw [idx_snoc h.1, idx_snoc h.2]
  | a x y => simp only [mkey]; rw [idx_snoc h.1, idx_snoc h.2]
theorem Kids.snoc {T : List (Kd Nat)} {k z : Kd Nat} (h : Kids T k) : Kids (T ++ [z]) k := by
  cases k with
  | p c => trivial
  | b x y => exact ⟨List.mem_append_left _ h.1, List.mem_append_left _ h.2⟩
  | a x y => exact ⟨List.mem_append_left _ h.1, List.mem_append_left _ h.2⟩
/-- a new kind is marked -/
theorem Marks.put {T : List (Kd Nat)} {kvs : List (List Key × V)} (m : Marks T kvs) (hk : ∀ k ∈ T, Kids T k) {k : Kd Nat} (hkk : Kids T k) (hv : valV kvs (mkey T k) = none) : Marks (T ++ [k]) (putK kvs (mkey T k) (.int ((T.length : Nat) : Int))) := by
  refine ⟨by rw [putK_new _ hv]; simp; exact m.1, fun key v => ?_⟩
  rw [valV_put]
  by_cases e : key = mkey T k
  · rw [if_pos e]
    constructor
    · intro h
      injection h with h
      exact ⟨T.length, k, by simp, by rw [mkey_snoc hkk]; exact e, h.symm⟩
    · rintro ⟨i, k', h1, h2, h3⟩
      rcases Nat.lt_or_ge i T.length with hi | hi
      · rw [List.getElem?_append_left hi] at h1
        have := (m.2 key (.int (i : Nat))).mpr ⟨i, k', h1, by rw [h2, mkey_snoc (hk k' (List.mem_of_getElem? h1))], rfl⟩
        rw [e, hv] at this; cases this
      · have hl := (List.getElem?_eq_some_iff.mp h1).1
        rw [List.length_append, List.length_singleton] at hl
        have : i = T.length := by omega
        rw [h3, this]
  · rw [if_neg e, m.2]
    constructor
    · rintro ⟨i, k', h1, h2, h3⟩
      exact ⟨i, k', get_snoc h1, by rw [mkey_snoc (hk k' (List.mem_of_getElem? h1))]; exact h2, h3⟩
    · rintro ⟨i, k', h1, h2, h3⟩
      rcases Nat.lt_or_ge i T.length with hi | hi
      · rw [List.getElem?_append_left hi] at h1
        exact ⟨i, k', h1, by rw [← mkey_snoc (hk k' (List.mem_of_getElem? h1))]; exact h2, h3⟩
      · have hl := (List.getElem?_eq_some_iff.mp h1).1
        rw [List.length_append, List.length_singleton] at hl
        have : i = T.length := by omega
        subst this
        rw [List.getElem?_append_right (Nat.le_refl _), Nat.sub_self] at h1
        injection h1 with h1
        subst h1
        exact absurd (by rw [h2, mkey_snoc hkk]) e
theorem Marks.mem {T : List (Kd Nat)} {kvs : List (List Key × V)} (m : Marks T kvs) {k : Kd Nat} (h : valV kvs (mkey T k) = none) : k ∉ T := fun hk => by
  obtain ⟨i, hi⟩ := List.getElem?_of_mem hk
  have := (m.2 (mkey T k) (.int (i : Nat))).mpr ⟨i, k, hi, rfl, rfl⟩
  rw [h] at this; cases this
theorem idx_inj {T : List (Kd Nat)} {x y : Kd Nat} (hn : T.Nodup) (hx : x ∈ T) (hy : y ∈ T) (e : idx T x = idx T y) : x = y := by
  obtain ⟨i, hi⟩ := List.getElem?_of_mem hx
  obtain ⟨j, hj⟩ := List.getElem?_of_mem hy
  rw [idx_get hn hi, idx_get hn hj] at e
  have : i = j := by omega
  subst this
  rw [hi] at hj
  exact Option.some.inj hj
theorem mkey_inj {T : List (Kd Nat)} {x y : Kd Nat} (hn : T.Nodup) (hx : Kids T x) (hy : Kids T y) (e : mkey T x = mkey T y) : x = y := by
  have nbp' : ("behind" : Str) ≠ "plain" := by decide +kernel
  have nap' : ("ahead" : Str) ≠ "plain" := by decide +kernel
  have nab' : ("ahead" : Str) ≠ "behind" := by decide +kernel
  cases x with
  | p c =>
    cases y with
    | p d => simp only [mkey, List.cons.injEq, Sum.inr.injEq, and_true, true_and] at e; rw [ch_inj e]
    | b u v => simp only [mkey, List.cons.injEq, Sum.inr.injEq] at e; exact absurd e.1.symm nbp'
    | a u v => simp only [mkey, List.cons.injEq, Sum.inr.injEq] at e; exact absurd e.1.symm nap'
  | b x1 x2 =>
    cases y with
    | p d => simp only [mkey, List.cons.injEq, Sum.inr.injEq] at e; exact absurd e.1 nbp'
    | b u v =>
      simp only [mkey, List.cons.injEq, Sum.inl.injEq, and_true, true_and] at e
      rw [idx_inj hn hx.1 hy.1 e.1, idx_inj hn hx.2 hy.2 e.2]
    | a u v => simp only [mkey, List.cons.injEq, Sum.inr.injEq] at e; exact absurd e.1.symm nab'
  | a x1 x2 =>
    cases y with
    | p d => simp only [mkey, List.cons.injEq, Sum.inr.injEq] at e; exact absurd e.1 nap'
    | a u v =>
      simp only [mkey, List.cons.injEq, Sum.inl.injEq, and_true, true_and] at e
      rw [idx_inj hn hx.1 hy.1 e.1, idx_inj hn hx.2 hy.2 e.2]
    | b u v => simp only [mkey, List.cons.injEq, Sum.inr.injEq] at e; exact absurd e.1 nab'
section
variable {P : Program} {w : World} {C : Addr} {H H' : Hp} {t : Adr} {T : List (Kd Nat)} {fs fg : Nat → Int} {wt met : Int} {kn : List (NKy × V)}
theorem TabAt.same (h : TabAt P w C H t T fs fg wt met kn) (s : Same H H') : TabAt P w C H' t T fs fg wt met kn := by
  have k := Same.tk s
  obtain ⟨h1, h2, ⟨kvs, h3, h3'⟩, ⟨vs, h4, h4'⟩, h5, ⟨ps, h6, h6'⟩, h7, ⟨ws, h8, h8'⟩, h9, h10, h11, h12, h13, h14, h15⟩ := h
  exact ⟨h1, s _ _ h2, ⟨kvs, s _ _ h3, h3'⟩, ⟨vs, s _ _ h4, h4'.mono k⟩, s _ _ h5, ⟨ps, s _ _ h6, Paired.mapP h6' fun _ _ => PrOk.mono k⟩, s _ _ h7, ⟨ws, s _ _ h8, Paired.mapP h8' fun _ _ => SpOk.mono k⟩, s _ _ h9, h10.keep k fun o => s _ o, h11, h12, h13, h14, h15⟩
theorem TabAt.nt (h : TabAt P w C H t T fs fg wt met kn) : NoTup H t.ls := fun b hb xs e => by
  obtain ⟨h1, h2, ⟨kvs, h3, h3'⟩, ⟨vs, h4, h4'⟩, h5, ⟨ps, h6, h6'⟩, h7, ⟨ws, h8, h8'⟩, h9, h10, _⟩ := h
  obtain ⟨o, ho, hn, _⟩ := h10.some
  simp only [Adr.ls, List.mem_cons, List.not_mem_nil, or_false] at hb
  rcases hb with rfl | rfl | rfl | rfl | rfl | rfl | rfl | rfl | rfl
  · rw [h2] at e; cases e
  · rw [h3] at e; cases e
  · rw [h4] at e; cases e
  · rw [h5] at e; cases e
  · rw [h6] at e; cases e
  · rw [h7] at e; cases e
  · rw [h8] at e; cases e
  · rw [h9] at e; cases e
  · rw [ho] at e; cases e; exact hn _ rfl
end
def IsMk (H : Hp) (T : List (Kd Nat)) (b : Addr) (k : Kd Nat) : Prop := H b = some (.tup ((mkey T k).map kV))
def spKeep (P : Program) (w : World) (C : Addr) : SpG := fun vs H Q => ∃ (t : Adr) (T : List (Kd Nat)) (fs fg fs' fg' : Nat → Int) (wt met : Int) (kn : List (NKy × V)) (mb : Addr) (v pv : V) (tb wb : Addr) (k : Kd Nat),
  vs = [.ref t.x, .ref mb, v, pv, .ref tb] ∧ TabAt P w C H t T fs fg wt met kn ∧ T.length ≤ 1000 ∧ IsMk H T mb k ∧ k ∉ T ∧ Kids T k ∧ KAt H v k ∧ PrOk H T pv k ∧ H tb = some (.tup [.int (k.val fs'), .ref wb, .str (ch k.core)]) ∧ H wb = some (.tup ((k.gw fg').map .int)) ∧
  (∀ z ∈ T, z.val fs' = z.val fs ∧ z.gw fg' = z.gw fg) ∧ (∀ c, fg' c ≠ 0) ∧ k.size ≤ 30 ∧
  ∀ H', TabAt P w C H' t (T ++ [k]) fs' fg' wt met kn → Upto t.ls H H' → Q .non H'
section
variable {P : Program} {w : World} {K : PySem.W.Frag} {mg : Str → Option Value} {base : Heap} {C : Addr}
theorem form_ix {H : Hp} {v : V} {k : Kd Nat} (h : KAt H v k) : ∃ a xs, v = .ref a ∧ H a = some (.tup xs) ∧ atI xs 0 = some (.str (form k)) := by
  cases h with
  | p h => exact ⟨_, _, rfl, h, rfl⟩
  | b h _ _ => exact ⟨_, _, rfl, h, rfl⟩
  | a h _ _ => exact ⟨_, _, rfl, h, rfl⟩
theorem m_keep (T : Txt w K mg C) : GMet P w K mg base 1 C "keep" (spKeep P w C) := by
  refine met_of T.dT_keep scT_keep (fun vs H Q ⟨_, _, _, _, _, _, _, _, _, _, _, _, _, _, _, e, _⟩ => by rw [e]; rfl) fun f cdv A outer s H vs Q hr ⟨t, L, fs, fg, fs', fg', wt, met, kn, mb, v, pv0, tb, wb, k, e, ht, hl, hmk, hnew, hkk, hv, hp, htb, hwb, hag, hne, hsz, q⟩ => ?_
  subst e
  refine ⟨_, (pss_cons (ps_dput (hu_of hr.r) (pe_fld (pv 0) rfl) (pv 1) (pe_callB call_len_seq rfl T.m_len (by decide +kernel) (pa_cons (pe_fld (pv 0) rfl) pa_nil)) rfl)
    (pss_cons (ps_expr (pe_bm PySem.F.plainAttrs_list PySem.F.slot_list_append PySem.F.type_list_append mt_append (pe_fld (pv 0) rfl) (pa_cons (pv 2) pa_nil)))
    (pss_cons (ps_expr (pe_bm PySem.F.plainAttrs_list PySem.F.slot_list_append PySem.F.type_list_append mt_append (pe_fld (pv 0) rfl) (pa_cons (pe_ix ix_tup (pv 2) pe_int (fun _ _ => rfl)) pa_nil)))
    (pss_cons (ps_expr (pe_bm PySem.F.plainAttrs_list PySem.F.slot_list_append PySem.F.type_list_append mt_append (pe_fld (pv 0) rfl) (pa_cons (pv 3) pa_nil)))
    (pss_cons (ps_expr (pe_bm PySem.F.plainAttrs_list PySem.F.slot_list_append PySem.F.type_list_append mt_append (pe_fld (pv 0) rfl) (pa_cons (pe_ix ix_tup (pv 4) pe_int (fun _ _ => rfl)) pa_nil)))
    (pss_cons (ps_expr (pe_bm PySem.F.plainAttrs_list PySem.F.slot_list_append PySem.F.type_list_append mt_append (pe_fld (pv 0) rfl) (pa_cons (pe_ix ix_tup (pv 4) pe_int (fun _ _ => rfl)) pa_nil)))
    (pss_one (ps_expr (pe_bm PySem.F.plainAttrs_list PySem.F.slot_list_append PySem.F.type_list_append mt_append (pe_fld (pv 0) rfl) (pa_cons (pe_ix ix_tup (pv 4) pe_int (fun _ _ => rfl)) pa_nil)))))))))), ?_⟩
  have zl : sizeLine = 16777216 := sizeLine_eq
  obtain ⟨kvs, hmarks, hM⟩ := ht.marks
  obtain ⟨shs, hshapes, hsh⟩ := ht.shapes
  obtain ⟨prs, hpairs, hpr⟩ := ht.pairs
  obtain ⟨sps, hspell, hsp⟩ := ht.spelled
  have hshl := hsh.len
  have hprl := Paired.length hpr
  have hspl := Paired.length hsp
  have U : ∀ {Hx : Hp} {i j : Nat} {p q : Addr} {o ob : HO}, t.ls[i]? = some p → t.ls[j]? = some q → i ≠ j → Hx p = some ob → upd Hx q o p = some ob := fun h1 h2 hn e => (upd_ne (nea ht.nd h1 h2 hn)).trans e
  have M : ∀ {Hx : Hp} {q : Addr} {o : HO}, q ∈ t.ls → Upto t.ls Hx (upd Hx q o) := fun h => upto_upd h _
  have hvn : valV kvs (mkey L k) = none := by
    cases e : valV kvs (mkey L k) with
    | none => rfl
    | some y =>
      obtain ⟨i, k', h1, h2, h3⟩ := (hM.2 _ _).mp e
      have hk' := List.mem_of_getElem? h1
      have : k' = k := mkey_inj ht.tnd (ht.kids k' hk') hkk h2.symm
      exact absurd (this ▸ hk') hnew
  -- the mark
  refine ⟨_, rfl, t.x, C, t.dx, _, _, rfl, ht.ins, T.cl, T.n_shapes, rfl, _, _, rfl, .inl (SqL.of hshapes), _, rfl, t.x, C, t.dx, _, _, rfl, ht.ins, T.cl, T.n_marks, rfl, _, rfl, t.am, _, rfl, DPut.t hmarks hmk (by have := hM.1; omega), ?_⟩
  rw [hshl]
  obtain ⟨va, vxs, rfl, hva, hvat⟩ := form_ix hv
  generalize hH1 : upd H t.am (.dT (putK kvs (mkey L k) (.int ((L.length : Nat) : Int)))) = H1
  have x1 : H1 t.x = some (.ins C t.dx (tfs t wt met)) := by rw [← hH1]; exact U (i := 0) (j := 1) rfl rfl (by decide) ht.ins
  have u1 : Upto t.ls H H1 := by rw [← hH1]; exact M (by simp [Adr.ls])
  have ash1 : H1 t.ash = some (.lst shs) := by rw [← hH1]; exact U (i := 2) (j := 1) rfl rfl (by decide) hshapes
  have af1 : H1 t.af = some (.lst (L.map fun k => V.str (form k))) := by rw [← hH1]; exact U (i := 3) (j := 1) rfl rfl (by decide) ht.forms
  have ap1 : H1 t.ap = some (.lst prs) := by rw [← hH1]; exact U (i := 4) (j := 1) rfl rfl (by decide) hpairs
  have asu1 : H1 t.asu = some (.lst (L.map fun k => V.int (k.val fs))) := by rw [← hH1]; exact U (i := 5) (j := 1) rfl rfl (by decide) ht.sums
  have asp1 : H1 t.asp = some (.lst sps) := by rw [← hH1]; exact U (i := 6) (j := 1) rfl rfl (by decide) hspell
  have ac1 : H1 t.ac = some (.lst (L.map fun k => V.str (ch k.core))) := by rw [← hH1]; exact U (i := 7) (j := 1) rfl rfl (by decide) ht.cores
  have w1_am : H1 t.am = some (.dT (putK kvs (mkey L k) (.int ((L.length : Nat) : Int)))) := by rw [← hH1]; exact upd_same
  refine ⟨_, rfl, t.x, C, t.dx, _, _, rfl, x1, T.cl, T.n_shapes, rfl, .inl ⟨rfl, _, SqL.of ash1⟩, _, rfl, t.ash, shs, _, rfl, rfl, ash1, by first | omega | (rw [List.length_map]; omega), ?_⟩
  generalize hH2 : upd H1 t.ash (.lst (shs ++ [V.ref va])) = H2
  have x2 : H2 t.x = some (.ins C t.dx (tfs t wt met)) := by rw [← hH2]; exact U (i := 0) (j := 2) rfl rfl (by decide) x1
  have u2 : Upto t.ls H H2 := by rw [← hH2]; exact u1.trans (M (by simp [Adr.ls]))
  have af2 : H2 t.af = some (.lst (L.map fun k => V.str (form k))) := by rw [← hH2]; exact U (i := 3) (j := 2) rfl rfl (by decide) af1
  have ap2 : H2 t.ap = some (.lst prs) := by rw [← hH2]; exact U (i := 4) (j := 2) rfl rfl (by decide) ap1
  have asu2 : H2 t.asu = some (.lst (L.map fun k => V.int (k.val fs))) := by rw [← hH2]; exact U (i := 5) (j := 2) rfl rfl (by decide) asu1
  have asp2 : H2 t.asp = some (.lst sps) := by rw [← hH2]; exact U (i := 6) (j := 2) rfl rfl (by decide) asp1
  have ac2 : H2 t.ac = some (.lst (L.map fun k => V.str (ch k.core))) := by rw [← hH2]; exact U (i := 7) (j := 2) rfl rfl (by decide) ac1
  have w2_ash : H2 t.ash = some (.lst (shs ++ [V.ref va])) := by rw [← hH2]; exact upd_same
  have w2_am : H2 t.am = some (.dT (putK kvs (mkey L k) (.int ((L.length : Nat) : Int)))) := by rw [← hH2]; exact U (i := 1) (j := 2) rfl rfl (by decide) w1_am
  refine ⟨_, rfl, t.x, C, t.dx, _, _, rfl, x2, T.cl, T.n_forms, rfl, .inl ⟨rfl, _, SqL.of af2⟩, _, rfl, _, _, _, _, rfl, rfl, SqT.of ((u2.tk ht.nt) _ _ hva), hvat, t.af, (L.map fun k => V.str (form k)), _, rfl, rfl, af2, by first | omega | (rw [List.length_map]; omega), ?_⟩
  generalize hH3 : upd H2 t.af (.lst ((L.map fun k => V.str (form k)) ++ [V.str (form k)])) = H3
  have x3 : H3 t.x = some (.ins C t.dx (tfs t wt met)) := by rw [← hH3]; exact U (i := 0) (j := 3) rfl rfl (by decide) x2
  have u3 : Upto t.ls H H3 := by rw [← hH3]; exact u2.trans (M (by simp [Adr.ls]))
  have ap3 : H3 t.ap = some (.lst prs) := by rw [← hH3]; exact U (i := 4) (j := 3) rfl rfl (by decide) ap2
  have asu3 : H3 t.asu = some (.lst (L.map fun k => V.int (k.val fs))) := by rw [← hH3]; exact U (i := 5) (j := 3) rfl rfl (by decide) asu2
  have asp3 : H3 t.asp = some (.lst sps) := by rw [← hH3]; exact U (i := 6) (j := 3) rfl rfl (by decide) asp2
  have ac3 : H3 t.ac = some (.lst (L.map fun k => V.str (ch k.core))) := by rw [← hH3]; exact U (i := 7) (j := 3) rfl rfl (by decide) ac2
  have w3_af : H3 t.af = some (.lst ((L.map fun k => V.str (form k)) ++ [V.str (form k)])) := by rw [← hH3]; exact upd_same
  have w3_am : H3 t.am = some (.dT (putK kvs (mkey L k) (.int ((L.length : Nat) : Int)))) := by rw [← hH3]; exact U (i := 1) (j := 3) rfl rfl (by decide) w2_am
  have w3_ash : H3 t.ash = some (.lst (shs ++ [V.ref va])) := by rw [← hH3]; exact U (i := 2) (j := 3) rfl rfl (by decide) w2_ash
  refine ⟨_, rfl, t.x, C, t.dx, _, _, rfl, x3, T.cl, T.n_pairs, rfl, .inl ⟨rfl, _, SqL.of ap3⟩, _, rfl, t.ap, prs, _, rfl, rfl, ap3, by first | omega | (rw [List.length_map]; omega), ?_⟩
  generalize hH4 : upd H3 t.ap (.lst (prs ++ [pv0])) = H4
  have x4 : H4 t.x = some (.ins C t.dx (tfs t wt met)) := by rw [← hH4]; exact U (i := 0) (j := 4) rfl rfl (by decide) x3
  have u4 : Upto t.ls H H4 := by rw [← hH4]; exact u3.trans (M (by simp [Adr.ls]))
  have asu4 : H4 t.asu = some (.lst (L.map fun k => V.int (k.val fs))) := by rw [← hH4]; exact U (i := 5) (j := 4) rfl rfl (by decide) asu3
  have asp4 : H4 t.asp = some (.lst sps) := by rw [← hH4]; exact U (i := 6) (j := 4) rfl rfl (by decide) asp3
  have ac4 : H4 t.ac = some (.lst (L.map fun k => V.str (ch k.core))) := by rw [← hH4]; exact U (i := 7) (j := 4) rfl rfl (by decide) ac3
  have w4_ap : H4 t.ap = some (.lst (prs ++ [pv0])) := by rw [← hH4]; exact upd_same
  have w4_am : H4 t.am = some (.dT (putK kvs (mkey L k) (.int ((L.length : Nat) : Int)))) := by rw [← hH4]; exact U (i := 1) (j := 4) rfl rfl (by decide) w3_am
  have w4_ash : H4 t.ash = some (.lst (shs ++ [V.ref va])) := by rw [← hH4]; exact U (i := 2) (j := 4) rfl rfl (by decide) w3_ash
  have w4_af : H4 t.af = some (.lst ((L.map fun k => V.str (form k)) ++ [V.str (form k)])) := by rw [← hH4]; exact U (i := 3) (j := 4) rfl rfl (by decide) w3_af
  refine ⟨_, rfl, t.x, C, t.dx, _, _, rfl, x4, T.cl, T.n_sums, rfl, .inl ⟨rfl, _, SqL.of asu4⟩, _, rfl, _, _, _, _, rfl, rfl, SqT.of ((u4.tk ht.nt) _ _ htb), rfl, t.asu, (L.map fun k => V.int (k.val fs)), _, rfl, rfl, asu4, by first | omega | (rw [List.length_map]; omega), ?_⟩
  generalize hH5 : upd H4 t.asu (.lst ((L.map fun k => V.int (k.val fs)) ++ [V.int (k.val fs')])) = H5
  have x5 : H5 t.x = some (.ins C t.dx (tfs t wt met)) := by rw [← hH5]; exact U (i := 0) (j := 5) rfl rfl (by decide) x4
  have u5 : Upto t.ls H H5 := by rw [← hH5]; exact u4.trans (M (by simp [Adr.ls]))
  have asp5 : H5 t.asp = some (.lst sps) := by rw [← hH5]; exact U (i := 6) (j := 5) rfl rfl (by decide) asp4
  have ac5 : H5 t.ac = some (.lst (L.map fun k => V.str (ch k.core))) := by rw [← hH5]; exact U (i := 7) (j := 5) rfl rfl (by decide) ac4
  have w5_asu : H5 t.asu = some (.lst ((L.map fun k => V.int (k.val fs)) ++ [V.int (k.val fs')])) := by rw [← hH5]; exact upd_same
  have w5_am : H5 t.am = some (.dT (putK kvs (mkey L k) (.int ((L.length : Nat) : Int)))) := by rw [← hH5]; exact U (i := 1) (j := 5) rfl rfl (by decide) w4_am
  have w5_ash : H5 t.ash = some (.lst (shs ++ [V.ref va])) := by rw [← hH5]; exact U (i := 2) (j := 5) rfl rfl (by decide) w4_ash
  have w5_af : H5 t.af = some (.lst ((L.map fun k => V.str (form k)) ++ [V.str (form k)])) := by rw [← hH5]; exact U (i := 3) (j := 5) rfl rfl (by decide) w4_af
  have w5_ap : H5 t.ap = some (.lst (prs ++ [pv0])) := by rw [← hH5]; exact U (i := 4) (j := 5) rfl rfl (by decide) w4_ap
  refine ⟨_, rfl, t.x, C, t.dx, _, _, rfl, x5, T.cl, T.n_spelled, rfl, .inl ⟨rfl, _, SqL.of asp5⟩, _, rfl, _, _, _, _, rfl, rfl, SqT.of ((u5.tk ht.nt) _ _ htb), rfl, t.asp, sps, _, rfl, rfl, asp5, by first | omega | (rw [List.length_map]; omega), ?_⟩
  generalize hH6 : upd H5 t.asp (.lst (sps ++ [V.ref wb])) = H6
  have x6 : H6 t.x = some (.ins C t.dx (tfs t wt met)) := by rw [← hH6]; exact U (i := 0) (j := 6) rfl rfl (by decide) x5
  have u6 : Upto t.ls H H6 := by rw [← hH6]; exact u5.trans (M (by simp [Adr.ls]))
  have ac6 : H6 t.ac = some (.lst (L.map fun k => V.str (ch k.core))) := by rw [← hH6]; exact U (i := 7) (j := 6) rfl rfl (by decide) ac5
  have w6_asp : H6 t.asp = some (.lst (sps ++ [V.ref wb])) := by rw [← hH6]; exact upd_same
  have w6_am : H6 t.am = some (.dT (putK kvs (mkey L k) (.int ((L.length : Nat) : Int)))) := by rw [← hH6]; exact U (i := 1) (j := 6) rfl rfl (by decide) w5_am
  have w6_ash : H6 t.ash = some (.lst (shs ++ [V.ref va])) := by rw [← hH6]; exact U (i := 2) (j := 6) rfl rfl (by decide) w5_ash
  have w6_af : H6 t.af = some (.lst ((L.map fun k => V.str (form k)) ++ [V.str (form k)])) := by rw [← hH6]; exact U (i := 3) (j := 6) rfl rfl (by decide) w5_af
  have w6_ap : H6 t.ap = some (.lst (prs ++ [pv0])) := by rw [← hH6]; exact U (i := 4) (j := 6) rfl rfl (by decide) w5_ap
  have w6_asu : H6 t.asu = some (.lst ((L.map fun k => V.int (k.val fs)) ++ [V.int (k.val fs')])) := by rw [← hH6]; exact U (i := 5) (j := 6) rfl rfl (by decide) w5_asu
  refine ⟨_, rfl, t.x, C, t.dx, _, _, rfl, x6, T.cl, T.n_cores, rfl, .inl ⟨rfl, _, SqL.of ac6⟩, _, rfl, _, _, _, _, rfl, rfl, SqT.of ((u6.tk ht.nt) _ _ htb), rfl, t.ac, (L.map fun k => V.str (ch k.core)), _, rfl, rfl, ac6, by first | omega | (rw [List.length_map]; omega), ?_⟩
  generalize hH7 : upd H6 t.ac (.lst ((L.map fun k => V.str (ch k.core)) ++ [V.str (ch k.core)])) = H7
  have x7 : H7 t.x = some (.ins C t.dx (tfs t wt met)) := by rw [← hH7]; exact U (i := 0) (j := 7) rfl rfl (by decide) x6
  have u7 : Upto t.ls H H7 := by rw [← hH7]; exact u6.trans (M (by simp [Adr.ls]))
  have w7_ac : H7 t.ac = some (.lst ((L.map fun k => V.str (ch k.core)) ++ [V.str (ch k.core)])) := by rw [← hH7]; exact upd_same
  have w7_am : H7 t.am = some (.dT (putK kvs (mkey L k) (.int ((L.length : Nat) : Int)))) := by rw [← hH7]; exact U (i := 1) (j := 7) rfl rfl (by decide) w6_am
  have w7_ash : H7 t.ash = some (.lst (shs ++ [V.ref va])) := by rw [← hH7]; exact U (i := 2) (j := 7) rfl rfl (by decide) w6_ash
  have w7_af : H7 t.af = some (.lst ((L.map fun k => V.str (form k)) ++ [V.str (form k)])) := by rw [← hH7]; exact U (i := 3) (j := 7) rfl rfl (by decide) w6_af
  have w7_ap : H7 t.ap = some (.lst (prs ++ [pv0])) := by rw [← hH7]; exact U (i := 4) (j := 7) rfl rfl (by decide) w6_ap
  have w7_asu : H7 t.asu = some (.lst ((L.map fun k => V.int (k.val fs)) ++ [V.int (k.val fs')])) := by rw [← hH7]; exact U (i := 5) (j := 7) rfl rfl (by decide) w6_asu
  have w7_asp : H7 t.asp = some (.lst (sps ++ [V.ref wb])) := by rw [← hH7]; exact U (i := 6) (j := 7) rfl rfl (by decide) w6_asp
  have t7 := u7.tk ht.nt
  obtain ⟨oak, hoak, _, _⟩ := ht.known.some
  have k7 : ND P w H7 t.ak kn := by
    refine ht.known.keep t7 fun o ho => ?_
    rw [← hH7]
    refine U (i := 8) (j := 7) rfl rfl (by decide) ?_
    rw [← hH6]
    refine U (i := 8) (j := 6) rfl rfl (by decide) ?_
    rw [← hH5]
    refine U (i := 8) (j := 5) rfl rfl (by decide) ?_
    rw [← hH4]
    refine U (i := 8) (j := 4) rfl rfl (by decide) ?_
    rw [← hH3]
    refine U (i := 8) (j := 3) rfl rfl (by decide) ?_
    rw [← hH2]
    refine U (i := 8) (j := 2) rfl rfl (by decide) ?_
    rw [← hH1]
    exact U (i := 8) (j := 1) rfl rfl (by decide) ho
  have mapS : ∀ {α : Type} (f g : Kd Nat → α), (∀ z ∈ L, g z = f z) → L.map f ++ [g k] = (L ++ [k]).map g := fun f g h => by
    rw [List.map_append]
    congr 1
    exact List.map_congr_left fun z hz => (h z hz).symm
  refine q H7 ⟨ht.nd, x7, ⟨_, w7_am, hM.put ht.kids hkk hvn⟩, ⟨_, w7_ash, (hsh.mono t7).append (.cons (hv.mono t7) .nil)⟩, ?_, ⟨_, w7_ap, ?_⟩, ?_, ⟨_, w7_asp, ?_⟩, ?_, k7, ?_, ?_, hne, ht.met0, ?_⟩ u7
  · rw [w7_af, mapS (fun k => V.str (form k)) (fun k => V.str (form k)) fun _ _ => rfl]
  · exact Paired.snoc (Paired.mapP hpr fun _ _ z => (z.mono t7).snoc) (hp.mono t7).snoc
  · rw [w7_asu, mapS (fun k => V.int (k.val fs)) (fun k => V.int (k.val fs')) fun z hz => by rw [(hag z hz).1]]
  · refine Paired.snoc ?_ ⟨wb, rfl, t7 _ _ hwb⟩
    have all : ∀ (vs : List V) (ks : List (Kd Nat)), Paired (SpOk H fg) vs ks → (∀ z ∈ ks, z.gw fg' = z.gw fg) → Paired (SpOk H7 fg') vs ks := by
      intro vs ks h
      induction h with
      | nil => exact fun _ => .nil
      | cons a r ih =>
        intro hz
        obtain ⟨b, e, hb⟩ := a
        exact .cons ⟨b, e, by rw [hz _ List.mem_cons_self]; exact t7 _ _ hb⟩ (ih fun z h => hz z (List.mem_cons_of_mem _ h))
    exact all _ _ hsp fun z hz => (hag z hz).2
  · rw [w7_ac, mapS (fun k => V.str (ch k.core)) (fun k => V.str (ch k.core)) fun _ _ => rfl]
  · intro z hz
    rcases List.mem_append.mp hz with h | h
    · exact (ht.kids z h).snoc
    · rw [List.mem_singleton.mp h]; exact hkk.snoc
  · refine List.nodup_append.mpr ⟨ht.tnd, by simp, fun a ha b hb e => ?_⟩
    rw [List.mem_singleton.mp hb] at e
    exact hnew (e ▸ ha)
  · intro z hz
    rcases List.mem_append.mp hz with h | h
    · exact ht.small z h
    · rw [List.mem_singleton.mp h]; exact hsz
end
end L2.G
set_option Elab.async false
set_option linter.all false
set_option maxRecDepth 100000
set_option maxHeartbeats 8000000
/-! The program's table: letters_of, number. Printed by mk_x.py. -/
namespace WW
theorem Kd.val_congr {α : Type} {f g : α → Int} : ∀ {k : Kd α}, k.All (fun d => f d = g d) → k.val f = k.val g
  | .p c, h => h
  | .b x y, h => by simp only [Kd.val]; rw [val_congr h.1, val_congr h.2]
  | .a y x, h => by simp only [Kd.val]; rw [val_congr h.1, val_congr h.2]
theorem Kd.gw_congr {α : Type} {f g : α → Int} : ∀ {k : Kd α}, k.All (fun d => f d = g d) → k.gw f = k.gw g
  | .p c, h => by simp only [Kd.gw]; rw [show f c = g c from h]
  | .b x y, h => by simp only [Kd.gw]; rw [gw_congr h.1, gw_congr h.2]
  | .a y x, h => by simp only [Kd.gw]; rw [gw_congr h.1, gw_congr h.2]
end WW
namespace L2.G
open PySem PySem.Spec PyProof.Rows WW
theorem pget {α β : Type} {R : α → β → Prop} : ∀ {vs : List α} {ks : List β}, Paired R vs ks → ∀ {i : Nat} {k : β}, ks[i]? = some k → ∃ v, vs[i]? = some v ∧ R v k
  | _, _, .nil, _, _, e => by simp at e
  | _, _, .cons a r, 0, _, e => by simp at e; subst e; exact ⟨_, rfl, a⟩
  | _, _, .cons a r, i + 1, _, e => by
    obtain ⟨v, h1, h2⟩ := pget r (i := i) (by simpa using e)
    exact ⟨v, by simpa using h1, h2⟩
theorem mget {β : Type} {T : List (Kd Nat)} {f : Kd Nat → β} {i : Nat} {k : Kd Nat} (h : T[i]? = some k) : (T.map f)[i]? = some (f k) := by rw [List.getElem?_map, h]; rfl
theorem all_in {T : List (Kd Nat)} (hk : ∀ k ∈ T, Kids T k) : ∀ z : Kd Nat, z ∈ T → z.All (fun d => Kd.p d ∈ T)
  | .p c, h => h
  | .b x y, h => ⟨all_in hk x (hk _ h).1, all_in hk y (hk _ h).2⟩
  | .a x y, h => ⟨all_in hk x (hk _ h).1, all_in hk y (hk _ h).2⟩
section
variable {P : Program} {w : World} {C : Addr} {H H' : Hp} {t : Adr} {T : List (Kd Nat)} {fs fg : Nat → Int} {wt met : Int} {kn : List (NKy × V)}
theorem TabAt.setx (h : TabAt P w C H t T fs fg wt met kn) {wt' met' : Int} (hm : 0 ≤ met') : TabAt P w C (upd H t.x (.ins C t.dx (tfs t wt' met'))) t T fs fg wt' met' kn := by
  have u : Upto t.ls H (upd H t.x (.ins C t.dx (tfs t wt' met'))) := upto_upd (by simp [Adr.ls]) _
  have k := u.tk h.nt
  have U : ∀ {j : Nat} {p : Addr} {ob : HO}, t.ls[j]? = some p → j ≠ 0 → H p = some ob → upd H t.x (.ins C t.dx (tfs t wt' met')) p = some ob := fun h1 hn e => (upd_ne (nea h.nd h1 (show t.ls[0]? = some t.x from rfl) hn)).trans e
  obtain ⟨h1, h2, ⟨kvs, h3, h3'⟩, ⟨vs, h4, h4'⟩, h5, ⟨ps, h6, h6'⟩, h7, ⟨ws, h8, h8'⟩, h9, h10, h11, h12, h13, h14, h15⟩ := h
  exact ⟨h1, upd_same, ⟨kvs, U (j := 1) rfl (by decide) h3, h3'⟩, ⟨vs, U (j := 2) rfl (by decide) h4, h4'.mono k⟩, U (j := 3) rfl (by decide) h5, ⟨ps, U (j := 4) rfl (by decide) h6, Paired.mapP h6' fun _ _ => PrOk.mono k⟩, U (j := 5) rfl (by decide) h7, ⟨ws, U (j := 6) rfl (by decide) h8, Paired.mapP h8' fun _ _ => SpOk.mono k⟩, U (j := 7) rfl (by decide) h9, h10.keep k fun o e => U (j := 8) rfl (by decide) e, h11, h12, h13, hm, h15⟩
end
def spLof (P : Program) (w : World) (C : Addr) : SpG := fun vs H Q => ∃ (t : Adr) (T : List (Kd Nat)) (fs fg : Nat → Int) (wt met : Int) (kn : List (NKy × V)) (mb : Addr) (b : Bool) (i j : Nat) (x y : Kd Nat), vs = [.ref t.x, .ref mb] ∧ TabAt P w C H t T fs fg wt met kn ∧
  H mb = some (.tup [.str (fmS b), .int (i : Nat), .int (j : Nat)]) ∧ T[i]? = some x ∧ T[j]? = some y ∧
  ∀ (tb wb : Addr) (H' : Hp), Same H H' → H' tb = some (.tup [.int ((WW.nd b x y).val fs), .ref wb, .str (ch (WW.nd b x y).core)]) → H' wb = some (.tup (((WW.nd b x y).gw fg).map .int)) → Q (.ref tb) H'
def spNum (P : Program) (w : World) (C : Addr) (n : Nat) : SpG := fun vs H Q => ∃ (t : Adr) (T : List (Kd Nat)) (fs fg : Nat → Int) (wt met : Int) (kn : List (NKy × V)) (v : V) (k : Kd Nat), vs = [.ref t.x, v] ∧ TabAt P w C H t T fs fg wt met kn ∧ KAt H v k ∧ k.ops < n ∧ k.size ≤ 30 ∧ T.length + 2 * k.size ≤ 1000 ∧
  ∀ (S : List (Kd Nat)) (fs' fg' : Nat → Int) (wt' met' : Int) (i : Nat) (H' : Hp), TabAt P w C H' t (T ++ S) fs' fg' wt' met' kn → (T ++ S)[i]? = some k → S.length + 1 ≤ 2 * k.size → Upto t.ls H H' → Q (.int (i : Nat)) H'
section
variable {P : Program} {w : World} {K : PySem.W.Frag} {mg : Str → Option Value} {base : Heap} {C : Addr}
theorem m_letters_of (T : Txt w K mg C) : GMet P w K mg base 2 C "letters_of" (spLof P w C) := by
  have C_joined_words := c_joined_words (P := P) (base := base) T
  have C_back_word := c_back_word (P := P) (base := base) T
  refine met_of T.dT_letters_of scT_letters_of (fun vs H Q ⟨_, _, _, _, _, _, _, _, _, _, _, _, _, e, _⟩ => by rw [e]; rfl) fun f cdv A outer s H vs Q hr ⟨t, L, fs, fg, wt, met, kn, mb, fb, i, j, x, y, e, ht, hmb, hi, hj, q⟩ => ?_
  subst e
  refine ⟨_, (pss_cons (ps_asg (pv 1) (pg_tup rfl (pgs_cons (pg_name (i := 2) scT_letters_of.nd rfl (by first | exact Or.inl rfl | exact Or.inr rfl)) (pgs_cons (pg_name (i := 3) scT_letters_of.nd rfl (by first | exact Or.inl rfl | exact Or.inr rfl)) (pgs_cons (pg_name (i := 4) scT_letters_of.nd rfl (by first | exact Or.inl rfl | exact Or.inr rfl)) pgs_nil)))))
    (pss_cons (ps_par (i := 5) (j := 6) rfl scT_letters_of.nd rfl rfl (by decide) rfl rfl (pa_cons (pe_ix ix_list (pe_fld (pv 0) rfl) (pv 3) (fun _ _ => rfl)) (pa_cons (pe_ix ix_list (pe_fld (pv 0) rfl) (pv 4) (fun _ _ => rfl)) pa_nil)) rfl)
    (pss_cons (ps_if (pt_cmpR op_eq (pv 2) pe_str (nomark _))
      (pss_one ps_never)
      pss_nil)
    (pss_cons (ps_if (pt_cmpR op_eq (pv 2) pe_str (nomark _))
      (pss_one (ps_ret (pe_tup (pa_cons (pe_op op_sub (pe_ix ix_list (pe_fld (pv 0) rfl) (pv 3) (fun _ _ => rfl)) (pe_ix ix_list (pe_fld (pv 0) rfl) (pv 4) (fun _ _ => rfl))) (pa_cons (pe_g C_joined_words hr (by omega) rfl (pa_cons (pv 5) (pa_cons (pe_g C_back_word hr (by omega) rfl (pa_cons (pv 6) pa_nil)) pa_nil))) (pa_cons (pe_ix ix_list (pe_fld (pv 0) rfl) (pv 3) (fun _ _ => rfl)) pa_nil))))))
      pss_nil)
    (pss_one (ps_ret (pe_tup (pa_cons (pe_op op_sub (pe_ix ix_list (pe_fld (pv 0) rfl) (pv 4) (fun _ _ => rfl)) (pe_ix ix_list (pe_fld (pv 0) rfl) (pv 3) (fun _ _ => rfl))) (pa_cons (pe_g C_joined_words hr (by omega) rfl (pa_cons (pe_g C_back_word hr (by omega) rfl (pa_cons (pv 5) pa_nil)) (pa_cons (pv 6) pa_nil))) (pa_cons (pe_ix ix_list (pe_fld (pv 0) rfl) (pv 4) (fun _ _ => rfl)) pa_nil)))))))))), ?_⟩
  have zl : sizeLine = 16777216 := sizeLine_eq
  obtain ⟨sps, hspell, hsp⟩ := ht.spelled
  obtain ⟨v1, hv1, a1, rfl, ha1⟩ := pget hsp hi
  obtain ⟨v2, hv2, a2, rfl, ha2⟩ := pget hsp hj
  have s1 := ht.small x (mem_of_get hi)
  have s2 := ht.small y (mem_of_get hj)
  have g1 := gw_len fg x
  have g2 := gw_len fg y
  refine ⟨_, rfl, _, _, rfl, SqT.of hmb, rfl, _, _, rfl, _, _, rfl, _, _, rfl, rfl, ?_⟩
  refine ⟨_, rfl, t.x, C, t.dx, _, _, rfl, ht.ins, T.cl, T.n_spelled, rfl, _, rfl, _, _, _, _, rfl, rfl, SqL.of hspell, atI_nat hv1, ?_⟩
  refine ⟨_, rfl, t.x, C, t.dx, _, _, rfl, ht.ins, T.cl, T.n_spelled, rfl, _, rfl, _, _, _, _, rfl, rfl, SqL.of hspell, atI_nat hv2, _, _, rfl, ?_⟩
  refine ⟨_, rfl, rfl, _, rfl, ifN (nfw fb) ?_⟩
  cases fb with
  | true =>
    refine ⟨_, rfl, rfl, _, rfl, ifP ?_⟩
    refine ⟨_, rfl, t.x, C, t.dx, _, _, rfl, ht.ins, T.cl, T.n_sums, rfl, _, rfl, _, _, _, _, rfl, rfl, SqL.of ht.sums, atI_nat (mget hi), ?_⟩
    refine ⟨_, rfl, t.x, C, t.dx, _, _, rfl, ht.ins, T.cl, T.n_sums, rfl, _, rfl, _, _, _, _, rfl, rfl, SqL.of ht.sums, atI_nat (mget hj), _, _, rfl, rfl, ?_⟩
    refine ⟨_, rfl, _, rfl, a2, _, rfl, ha2, by omega, fun p1 H1 S1 h1 => ?_⟩
    refine ⟨a1, p1, _, _, rfl, S1 _ _ ha1, h1, by rw [inv_len]; omega, fun p2 H2 S2 h2 => ?_⟩
    have S12 := S1.trans S2
    refine ⟨_, rfl, t.x, C, t.dx, _, _, rfl, S12 _ _ ht.ins, T.cl, T.n_cores, rfl, _, rfl, _, _, _, _, rfl, rfl, SqL.of (S12 _ _ ht.cores), atI_nat (mget hi), by show 3 ≤ sizeLine; decide, fun p3 np3 => ?_⟩
    have S3 := same_new np3 (.tup [.int (x.val fs - y.val fs), .ref p2, .str (ch x.core)])
    exact q p3 p2 _ (S12.trans S3) upd_same (S3 _ _ h2)
  | false =>
    refine ⟨_, rfl, rfl, _, rfl, ifN nab ?_⟩
    refine ⟨_, rfl, t.x, C, t.dx, _, _, rfl, ht.ins, T.cl, T.n_sums, rfl, _, rfl, _, _, _, _, rfl, rfl, SqL.of ht.sums, atI_nat (mget hj), ?_⟩
    refine ⟨_, rfl, t.x, C, t.dx, _, _, rfl, ht.ins, T.cl, T.n_sums, rfl, _, rfl, _, _, _, _, rfl, rfl, SqL.of ht.sums, atI_nat (mget hi), _, _, rfl, rfl, ?_⟩
    refine ⟨_, rfl, a1, _, rfl, ha1, by omega, fun p1 H1 S1 h1 => ?_⟩
    refine ⟨_, rfl, p1, a2, _, _, rfl, h1, S1 _ _ ha2, by rw [inv_len]; omega, fun p2 H2 S2 h2 => ?_⟩
    have S12 := S1.trans S2
    refine ⟨_, rfl, t.x, C, t.dx, _, _, rfl, S12 _ _ ht.ins, T.cl, T.n_cores, rfl, _, rfl, _, _, _, _, rfl, rfl, SqL.of (S12 _ _ ht.cores), atI_nat (mget hj), by show 3 ≤ sizeLine; decide, fun p3 np3 => ?_⟩
    have S3 := same_new np3 (.tup [.int (y.val fs - x.val fs), .ref p2, .str (ch y.core)])
    exact q p3 p2 _ (S12.trans S3) upd_same (S3 _ _ h2)
theorem m_number (T : Txt w K mg C) : ∀ n, GMet P w K mg base (n + 3) C "number" (spNum P w C n)
  | 0 => met_none T.dT_number fun vs H Q ⟨_, _, _, _, _, _, _, _, _, _, _, _, h, _⟩ => absurd h (Nat.not_lt_zero _)
  | n + 1 => by
    have C_number := m_number T n
    have C_keep := m_keep (P := P) (base := base) T
    have C_letters_of := m_letters_of (P := P) (base := base) T
    refine met_of T.dT_number scT_number (fun vs H Q ⟨_, _, _, _, _, _, _, _, _, e, _⟩ => by rw [e]; rfl) fun f cdv A outer s H vs Q hr ⟨t, L, fs, fg, wt, met, kn, v, k, e, ht, hk, hn, hs, hl, q⟩ => ?_
    subst e
    refine ⟨_, (pss_cons (ps_if (pt_cmpR op_eq (pe_ix ix_tup (pv 1) pe_int (fun _ _ => rfl)) pe_str (nomark _))
      (pss_cons (ps_set (i := 2) scT_number.nd rfl (by first | exact Or.inl rfl | exact Or.inr rfl) (pe_tup (pa_cons pe_str (pa_cons (pe_ix ix_tup (pv 1) pe_int (fun _ _ => rfl)) pa_nil))))
      (pss_cons (ps_if (pt_cmp (pc_dnotin (hu_of hr.r) (pv 2) (pe_fld (pv 0) rfl)))
        (pss_cons (ps_fldaug (pv 0) pe_int in_add)
        (pss_cons (ps_expr (pe_gm C_keep hr (by omega) (pv 0) (pa_cons (pv 2) (pa_cons (pv 1) (pa_cons (pe_tup (pa_cons pe_int (pa_cons pe_int pa_nil))) (pa_cons (pe_tup (pa_cons (pe_fld (pv 0) rfl) (pa_cons (pe_tup (pa_cons (pe_fld (pv 0) rfl) pa_nil)) (pa_cons (pe_ix ix_tup (pv 1) pe_int (fun _ _ => rfl)) pa_nil)))) pa_nil))))))
        (pss_one (ps_fldaug (pv 0) (pe_gl T.G_STEP) in_mul))))
        pss_nil)
      (pss_one (ps_ret (pe_dget (hu_of hr.r) (pe_fld (pv 0) rfl) (pv 2) (fun _ _ => rfl))))))
      pss_nil)
    (pss_cons (ps_set (i := 2) scT_number.nd rfl (by first | exact Or.inl rfl | exact Or.inr rfl) (pe_tup (pa_cons (pe_ix ix_tup (pv 1) pe_int (fun _ _ => rfl)) (pa_cons (pe_gm C_number hr (by omega) (pv 0) (pa_cons (pe_ix ix_tup (pv 1) pe_int (fun _ _ => rfl)) pa_nil)) (pa_cons (pe_gm C_number hr (by omega) (pv 0) (pa_cons (pe_ix ix_tup (pv 1) pe_int (fun _ _ => rfl)) pa_nil)) pa_nil)))))
    (pss_cons (ps_if (pt_cmp (pc_dnotin (hu_of hr.r) (pv 2) (pe_fld (pv 0) rfl)))
      (pss_one (ps_expr (pe_gm C_keep hr (by omega) (pv 0) (pa_cons (pv 2) (pa_cons (pv 1) (pa_cons (pe_tup (pa_cons (pe_ix ix_tup (pv 2) pe_int (fun _ _ => rfl)) (pa_cons (pe_ix ix_tup (pv 2) pe_int (fun _ _ => rfl)) pa_nil))) (pa_cons (pe_gm C_letters_of hr (by omega) (pv 0) (pa_cons (pv 2) pa_nil)) pa_nil)))))))
      pss_nil)
    (pss_one (ps_ret (pe_dget (hu_of hr.r) (pe_fld (pv 0) rfl) (pv 2) (fun _ _ => rfl))))))), ?_⟩
    have zl : sizeLine = 16777216 := sizeLine_eq
    rcases hk.inv with ⟨a1, c, rfl, rfl, h⟩ | ⟨a1, fb, u1, u2, x, y, rfl, rfl, h, h1, h2⟩
    · refine ⟨_, rfl, _, _, _, _, rfl, rfl, SqT.of h, rfl, rfl, _, rfl, ifP ?_⟩
      refine ⟨_, rfl, _, _, _, _, rfl, rfl, SqT.of h, rfl, by show 2 ≤ sizeLine; decide, fun p np => ?_⟩
      have S1 := same_new np (.tup [.str "plain", .str (ch c)])
      have ht1 := ht.same S1
      have hmk : IsMk (upd H p (.tup [.str "plain", .str (ch c)])) L p (.p c) := upd_same
      have hk1 := hk.mono (Same.tk S1)
      have h1 := S1 _ _ h
      generalize upd H p (.tup [.str "plain", .str (ch c)]) = H1 at *
      obtain ⟨kvs, hmarks, hM⟩ := ht1.marks
      refine ⟨_, rfl, _, rfl, t.x, C, t.dx, _, _, rfl, ht1.ins, T.cl, T.n_marks, rfl, t.am, _, rfl, DGet.t hmarks hmk, _, rfl, ?_⟩
      -- the number is told
      have fin : ∀ (S : List (Kd Nat)) (fs' fg' : Nat → Int) (wt' met' : Int) (H' : Hp), TabAt P w C H' t (L ++ S) fs' fg' wt' met' kn → Kd.p c ∈ L ++ S → S.length ≤ 1 → Upto t.ls H H' → TK H1 H' →
          (tRet (tDGet (tFld K (tVar 0) "marks") (tVar 2))) { nx := fun _ H' => Q .non H', rt := Q } [some (.ref t.x), some (.ref a1), some (.ref p)] H' := fun S fs' fg' wt' met' H' ht' hin hS U' t' => by
        obtain ⟨kvs', hm', hM'⟩ := ht'.marks
        obtain ⟨i, hi⟩ := List.getElem?_of_mem hin
        have e := (hM'.2 (mkey (L ++ S) (.p c)) (.int (i : Nat))).mpr ⟨i, _, hi, rfl, rfl⟩
        refine ⟨_, rfl, t.x, C, t.dx, _, _, rfl, ht'.ins, T.cl, T.n_marks, rfl, _, rfl, t.am, _, rfl, ?_, q S fs' fg' wt' met' i H' ht' hi (by simp only [Kd.size]; omega) U'⟩
        have := DGet.t (k := mkey (L ++ S) (.p c)) hm' (show H' p = some (.tup ((mkey (L ++ S) (.p c)).map kV)) from t' _ _ hmk)
        rwa [e] at this
      cases hv : valV kvs (mkey L (.p c)) with
      | some vv =>
        obtain ⟨i, k', hi, e1, e2⟩ := (hM.2 _ _).mp hv
        have hk' := List.mem_of_getElem? hi
        have : k' = .p c := mkey_inj ht.tnd (ht.kids k' hk') trivial e1.symm
        refine iteF (fin [] fs fg wt met H1 (by rw [List.append_nil]; exact ht1) (by rw [List.append_nil]; exact this ▸ hk') (by simp) (Upto.of_same S1) (fun _ _ z => z))
      | none =>
        refine iteT ?_
        have hnew := hM.mem hv
        refine ⟨_, rfl, t.x, C, t.dx, _, _, rfl, ht1.ins, T.cl, T.n_met, rfl, ?_⟩
        refine ⟨_, _, rfl, rfl, t.dx, _, ht1.ins, by show 10 < 1000; decide, ?_⟩
        have ht2 := ht1.setx (wt' := wt) (met' := met + 1) (by have := ht1.met0; omega)
        have U2 : Upto t.ls H1 (upd H1 t.x (.ins C t.dx (tfs t wt (met + 1)))) := upto_upd (by simp [Adr.ls]) _
        have t2 := U2.tk ht1.nt
        have e2 : putF "met" (.int (met + 1)) (tfs t wt met) = tfs t wt (met + 1) := rfl
        rw [show upd H1 t.x (.ins C t.dx (putF "met" ((fun i j => V.int (i + j)) met 1) (tfs t wt met))) = upd H1 t.x (.ins C t.dx (tfs t wt (met + 1))) from rfl]
        generalize upd H1 t.x (.ins C t.dx (tfs t wt (met + 1))) = H2 at *
        have np2e : ∀ {q : Addr} {o : HO}, H1 q = some o → q ∉ t.ls → H2 q = some o := fun e hn => U2 _ _ hn e
        refine ⟨_, rfl, t.x, t.dx, _, rfl, ht2.ins, rfl, _, rfl, _, rfl, by show 2 ≤ sizeLine; decide, fun p3 np3 => ?_⟩
        have S3 := same_new np3 (.tup [.int 0, .int 0])
        have h3 : upd H2 p3 (.tup [.int 0, .int 0]) p3 = some (.tup [.int 0, .int 0]) := upd_same
        refine ⟨_, rfl, t.x, C, t.dx, _, _, rfl, (S3 _ _ ht2.ins), T.cl, T.n_weight, rfl, _, rfl, t.x, C, t.dx, _, _, rfl, (S3 _ _ ht2.ins), T.cl, T.n_met, rfl, by show 1 ≤ sizeLine; decide, fun p4 np4 => ?_⟩
        have S4 := same_new np4 (.tup [.int (met + 1)])
        have h4 : upd (upd H2 p3 (.tup [.int 0, .int 0])) p4 (.tup [.int (met + 1)]) p4 = some (.tup [.int (met + 1)]) := upd_same
        refine ⟨_, rfl, _, _, _, _, rfl, rfl, SqT.of (S4 _ _ (S3 _ _ (t2 _ _ h1))), rfl, by show 3 ≤ sizeLine; decide, fun p5 np5 => ?_⟩
        have S5 := same_new np5 (.tup [.int wt, .ref p4, .str (ch c)])
        have S25 := (S3.trans S4).trans S5
        have ht5 := ht2.same S25
        refine ⟨t, L, fs, fg, (fun d => if d = c then wt else fs d), (fun d => if d = c then met + 1 else fg d), wt, met + 1, kn, p, .ref a1, .ref p3, p5, p4, .p c, rfl, ht5, by omega, S25 _ _ (t2 _ _ hmk), hnew, trivial, (hk1.mono t2).mono (Same.tk S25), ⟨p3, rfl, S5 _ _ (S4 _ _ h3)⟩, ?_, ?_, ?_, ?_, hs, ?_⟩
        · rw [upd_same]
          simp [Kd.val, Kd.core]
        · rw [S5 _ _ h4]
          simp [Kd.gw]
        · intro z hz
          have hall := (all_in ht1.kids z hz).imp (q := fun d => d ≠ c) fun d hd e => hnew (e ▸ hd)
          exact ⟨Kd.val_congr (hall.imp fun d hd => if_neg hd), Kd.gw_congr (hall.imp fun d hd => if_neg hd)⟩
        · intro d
          show (if d = c then met + 1 else fg d) ≠ 0
          have := ht1.met0
          split
          · omega
          · exact ht1.ne0 d
        intro H6 ht6 U6
        have t6 := U6.tk ht5.nt
        refine ⟨_, rfl, t.x, C, t.dx, _, _, rfl, ht6.ins, T.cl, T.n_weight, rfl, ?_⟩
        refine ⟨_, _, rfl, rfl, .inr ⟨by decide, by decide⟩, t.dx, _, ht6.ins, by show 10 < 1000; decide, ?_⟩
        have ht7 := ht6.setx (wt' := wt * 4096) (met' := met + 1) ht6.met0
        have U7 : Upto t.ls H6 (upd H6 t.x (.ins C t.dx (tfs t (wt * 4096) (met + 1)))) := upto_upd (by simp [Adr.ls]) _
        have t7 := U7.tk ht6.nt
        exact fin [.p c] _ _ _ _ _ ht7 (by simp) (by show 1 ≤ 1; decide) ((((Upto.of_same S1).trans U2).trans (Upto.of_same S25)).trans (U6.trans U7)) (fun b xs e => t7 _ _ (t6 _ _ (S25 _ _ (t2 _ _ e))))
    · rw [nd_ops] at hn
      rw [nd_size] at hs hl q
      have hx1 := x.size_pos
      have hy1 := y.size_pos
      refine ⟨_, rfl, _, _, _, _, rfl, rfl, SqT.of h, rfl, rfl, _, rfl, ifN (nfp fb) ?_⟩
      refine ⟨_, rfl, _, _, _, _, rfl, rfl, SqT.of h, rfl, _, rfl, t.x, t.dx, _, rfl, ht.ins, rfl, _, rfl, _, _, _, _, rfl, rfl, SqT.of h, rfl, t, L, fs, fg, wt, met, kn, u1, x, rfl, ht, h1, by omega, by omega, by omega, fun S1 fs1 fg1 wt1 met1 i H1 ht1 hi hS1 U1 => ?_⟩
      have t1 := U1.tk ht.nt
      refine ⟨_, rfl, t.x, t.dx, _, rfl, ht1.ins, rfl, _, rfl, _, _, _, _, rfl, rfl, SqT.of (t1 _ _ h), rfl, t, L ++ S1, fs1, fg1, wt1, met1, kn, u2, y, rfl, ht1, h2.mono t1, by omega, by omega, by rw [List.length_append]; omega, fun S2 fs2 fg2 wt2 met2 j H2 ht2 hj hS2 U2 => ?_⟩
      have t2 := U2.tk ht1.nt
      have hi2 : ((L ++ S1) ++ S2)[i]? = some x := by rw [List.getElem?_append_left (List.getElem?_eq_some_iff.mp hi).1]; exact hi
      have hlen : ((L ++ S1) ++ S2).length ≤ L.length + 2 * x.size + 2 * y.size := by simp only [List.length_append]; omega
      refine ⟨by show 3 ≤ sizeLine; decide, fun p np => ?_⟩
      have S3 := same_new np (.tup [.str (fmS fb), .int (i : Nat), .int (j : Nat)])
      have ht3 := ht2.same S3
      have hmt : upd H2 p (.tup [.str (fmS fb), .int (i : Nat), .int (j : Nat)]) p = some (.tup [.str (fmS fb), .int (i : Nat), .int (j : Nat)]) := upd_same
      have mk : ∀ (S : List (Kd Nat)), (((L ++ S1) ++ S2) ++ S).Nodup → (mkey (((L ++ S1) ++ S2) ++ S) (WW.nd fb x y)).map kV = [.str (fmS fb), .int (i : Nat), .int (j : Nat)] := fun S hn => by
        have e1 := idx_get hn (i := i) (k := x) (by rw [List.getElem?_append_left (List.getElem?_eq_some_iff.mp hi2).1]; exact hi2)
        have e2 := idx_get hn (i := j) (k := y) (by rw [List.getElem?_append_left (List.getElem?_eq_some_iff.mp hj).1]; exact hj)
        cases fb <;> (show [_, V.int (idx _ x), V.int (idx _ y)] = _; rw [e1, e2]; rfl)
      have kids : Kids ((L ++ S1) ++ S2) (WW.nd fb x y) := by
        have m1 := List.mem_of_getElem? hi2
        have m2 := List.mem_of_getElem? hj
        cases fb <;> exact ⟨m1, m2⟩
      have U03 : Upto t.ls H (upd H2 p (.tup [.str (fmS fb), .int (i : Nat), .int (j : Nat)])) := (U1.trans U2).trans (Upto.of_same S3)
      have tk03 := (fun b xs e => (Same.tk S3) _ _ (t2 _ _ (t1 b xs e)) : TK H (upd H2 p (.tup [.str (fmS fb), .int (i : Nat), .int (j : Nat)])))
      generalize upd H2 p (.tup [.str (fmS fb), .int (i : Nat), .int (j : Nat)]) = H3 at *
      have hmk : IsMk H3 ((L ++ S1) ++ S2) p (WW.nd fb x y) := by
        have := mk [] (by rw [List.append_nil]; exact ht3.tnd)
        rw [List.append_nil] at this
        show H3 p = _
        rw [this]; exact hmt
      obtain ⟨kvs, hmarks, hM⟩ := ht3.marks
      refine ⟨_, rfl, _, rfl, t.x, C, t.dx, _, _, rfl, ht3.ins, T.cl, T.n_marks, rfl, t.am, _, rfl, DGet.t hmarks hmk, _, rfl, ?_⟩
      have fin : ∀ (S : List (Kd Nat)) (fs' fg' : Nat → Int) (wt' met' : Int) (H' : Hp), TabAt P w C H' t (((L ++ S1) ++ S2) ++ S) fs' fg' wt' met' kn → WW.nd fb x y ∈ ((L ++ S1) ++ S2) ++ S → S.length ≤ 1 → Upto t.ls H H' → TK H3 H' →
          (tRet (tDGet (tFld K (tVar 0) "marks") (tVar 2))) { nx := fun _ H' => Q .non H', rt := Q } [some (.ref t.x), some (.ref a1), some (.ref p)] H' := fun S fs' fg' wt' met' H' ht' hin hS U' t' => by
        obtain ⟨kvs', hm', hM'⟩ := ht'.marks
        obtain ⟨ii, hii⟩ := List.getElem?_of_mem hin
        have e := (hM'.2 (mkey (((L ++ S1) ++ S2) ++ S) (WW.nd fb x y)) (.int (ii : Nat))).mpr ⟨ii, _, hii, rfl, rfl⟩
        have ea : ((L ++ S1) ++ S2) ++ S = L ++ ((S1 ++ S2) ++ S) := by simp only [List.append_assoc]
        refine ⟨_, rfl, t.x, C, t.dx, _, _, rfl, ht'.ins, T.cl, T.n_marks, rfl, _, rfl, t.am, _, rfl, ?_, q ((S1 ++ S2) ++ S) fs' fg' wt' met' ii H' (by rw [← ea]; exact ht') (by rw [← ea]; exact hii) (by simp only [List.length_append]; omega) U'⟩
        have := DGet.t (k := mkey (((L ++ S1) ++ S2) ++ S) (WW.nd fb x y)) hm' (show H' p = some (.tup ((mkey (((L ++ S1) ++ S2) ++ S) (WW.nd fb x y)).map kV)) from by rw [mk S ht'.tnd]; exact t' _ _ hmt)
        rwa [e] at this
      cases hv : valV kvs (mkey ((L ++ S1) ++ S2) (WW.nd fb x y)) with
      | some vv =>
        obtain ⟨i', k', hi', e1, e2⟩ := (hM.2 _ _).mp hv
        have hk' := List.mem_of_getElem? hi'
        have : k' = WW.nd fb x y := mkey_inj ht3.tnd (ht3.kids k' hk') kids e1.symm
        exact iteF (fin [] fs2 fg2 wt2 met2 H3 (by rw [List.append_nil]; exact ht3) (by rw [List.append_nil]; exact this ▸ hk') (by simp) U03 (fun _ _ z => z))
      | none =>
        refine iteT ?_
        have hnew := hM.mem hv
        refine ⟨_, rfl, t.x, t.dx, _, rfl, ht3.ins, rfl, _, rfl, _, rfl, ?_⟩
        refine ⟨_, rfl, _, _, _, _, rfl, rfl, SqT.of hmt, rfl, _, rfl, _, _, _, _, rfl, rfl, SqT.of hmt, rfl, by show 2 ≤ sizeLine; decide, fun p3 np3 => ?_⟩
        have S4 := same_new np3 (.tup [.int (i : Nat), .int (j : Nat)])
        have h4 : upd H3 p3 (.tup [.int (i : Nat), .int (j : Nat)]) p3 = some (.tup [.int (i : Nat), .int (j : Nat)]) := upd_same
        have ht4 := ht3.same S4
        refine ⟨_, rfl, t.x, t.dx, _, rfl, ht4.ins, rfl, _, rfl, t, _, fs2, fg2, wt2, met2, kn, p, fb, i, j, x, y, rfl, ht4, S4 _ _ hmt, hi2, hj, fun tb wb H5 S5 htb hwb => ?_⟩
        have S45 := S4.trans S5
        have ht5 := ht4.same S5
        have pr : PrOk H5 ((L ++ S1) ++ S2) (.ref p3) (WW.nd fb x y) := by
          cases fb <;> exact ⟨p3, i, j, rfl, S5 _ _ h4, hi2, hj⟩
        refine ⟨t, _, fs2, fg2, fs2, fg2, wt2, met2, kn, p, .ref a1, .ref p3, tb, wb, WW.nd fb x y, rfl, ht5, by omega, S45 _ _ hmk, hnew, kids, (hk.mono tk03).mono (Same.tk S45), pr, htb, hwb, fun z hz => ⟨rfl, rfl⟩, ht5.ne0, by rw [nd_size]; exact hs, fun H6 ht6 U6 => ?_⟩
        have t6 := U6.tk ht5.nt
        exact fin [WW.nd fb x y] _ _ _ _ _ ht6 (by simp) (by show 1 ≤ 1; decide) ((U03.trans (Upto.of_same S45)).trans U6) (fun b xs e => t6 _ _ (S45 _ _ e))
end
end L2.G
set_option Elab.async false
set_option linter.all false
set_option maxRecDepth 100000
set_option maxHeartbeats 4000000
/-! for i, x in enumerate(a tuple). -/
namespace L2.G
open PySem PySem.Spec PyProof.Rows WW
theorem meets_enumerate_newB1 {v : Value} {o : Obj} {H : Heap → Prop} (B : Begins v o H) :
    Meets (Builtin.«enumerate.__new__» ⟨[.type "enumerate", v], []⟩) (fun _ R s => H s.heap ∧
      R (.ok (.ret (.ref (s.heap.push o).objs.size))) { s with heap := (s.heap.push o).push { cls := .type "enumerate", data := .fields #[.none, .bool false, .ref s.heap.objs.size, rawInt 0, .none, .none] } }) :=
  .of_wp fun prog w A R s h => by
    obtain ⟨hp, g, d, tk, os⟩ := s; obtain ⟨h1, h⟩ := h
    have hsub := sub_enumerate
    have q1 : ∀ {A' : Around} {E : Value → Shared → Prop} {Q : Value → Shared → Prop}, Q (.ref hp.objs.size) ⟨hp.push o, g, d, tk, os⟩ → wpAny (model prog w) A' (pyIter v) Q E ⟨hp, g, d, tk, os⟩ :=
      fun q => B.iter prog w _ _ ⟨hp, g, d, tk, os⟩ _ h1 q
    wp_walk using q1
    refine wpAny_stack_any fun st => wpAny_pure ?_
    split
    · rename_i c _ _ _ _ _
      cases (c == Value.type "enumerate")
      · wp_walk using q1
        exact ⟨_, rfl, h⟩
      · wp_walk using q1
        exact ⟨_, rfl, h⟩
    · wp_walk using q1
      exact ⟨_, rfl, h⟩
section
variable {prog : Program} {w : World} {A : Around} {E : Value → Shared → Prop} {s : Shared}
theorem enum_begins1 {v : Value} {o : Obj} {H : Heap → Prop} {Q : Value → Shared → Prop} (B : Begins v o H) (h1 : H s.heap)
    (h : ∀ h', IsEnum h' (s.heap.objs.size + 1) s.heap.objs.size 0 .none → h'.get? s.heap.objs.size = some o → h'.objs.size = s.heap.objs.size + 2 →
      (∀ b o, s.heap.get? b = some o → h'.get? b = some o) → Q (.ref (s.heap.objs.size + 1)) { s with heap := h' }) :
    wpAny (model prog w) A (call (.type "enumerate") [v]) Q E s := by
  refine callType_new F.called_enumerate (by decide) (F.typeCall_enumerate_1 _) (F.newCall_enumerate_1 _) (fun obj => F.args_object_init_2 obj _) F.entry_enumerate_new
    (meets_enumerate_newB1 B) ⟨h1, ?_⟩
  have hz : (s.heap.push o).objs.size = s.heap.objs.size + 1 := Heap.size_push ..
  show _ ∧ _
  rw [hz]
  have he : IsEnum ((s.heap.push o).push { cls := .type "enumerate", data := .fields #[.none, .bool false, .ref s.heap.objs.size, rawInt 0, .none, .none] }) (s.heap.objs.size + 1) s.heap.objs.size 0 .none := by
    have := Heap.get?_push_size (s.heap.push o) (o := { cls := .type "enumerate", data := .fields #[.none, .bool false, .ref s.heap.objs.size, rawInt 0, .none, .none] }) rfl
    rw [hz] at this; exact this
  refine ⟨⟨_, he, rfl⟩, h _ he (Heap.get?_push_of_some _ (Heap.get?_push_size _ B.free)) (by rw [Heap.size_push, hz]) fun b o x => Heap.get?_push_of_some _ (Heap.get?_push_of_some _ x)⟩
end
/-- the tuple at a, each item in a new pair -/
def IteT (K : PySem.W.Frag) (a : Addr) : It :=
  ⟨fun i H => ∃ (xs : List V) (x : V), SqT K H a xs ∧ xs[i]? = some x, fun i H v H' => ∃ T x, v = .ref T ∧ H T = none ∧ H' = upd H T (.tup [.int (i : Nat), x]) ∧ ∀ xs, SqT K H a xs → xs[i]? = some x, fun i H => ∃ xs : List V, SqT K H a xs ∧ xs.length ≤ i⟩
theorem turn_enumT {P : Program} {w : World} {K : PySem.W.Frag} {elts : List Expr} {kk : Nat} {tpos : Pos} (a e it : Addr) :
    Turn P w K (.Tuple elts kk tpos) (IteT K a) [e, it] e (fun i h => (∃ old, IsEnum h e it ((i : Nat) : Int) old) ∧ h.IsTupleIter it a i ∧ e ≠ it ∧ e ≠ a ∧ a ≠ it) where
  mem := by simp
  obj := fun i h st b hb => by
    obtain ⟨⟨old, he⟩, ⟨o, ho, hc, hd⟩, _⟩ := st
    have e' : b = e ∨ b = it := by simpa using hb
    rcases e' with z | z
    · rw [z]; exact ⟨_, he, fun v q => nomatch q⟩
    · rw [z]; exact ⟨o, ho, fun v q => by rw [hd] at q; cases q⟩
  keep := fun i h h' st k => let ⟨⟨old, he⟩, hi, hne⟩ := st; ⟨⟨old, k e (by simp) _ he⟩, hi.at fun o q => k it (by simp) o q, hne⟩
  item := by
    intro X hP hw hK hc i pins s σ H E I hf st hg
    subst hP hw hK
    obtain ⟨⟨old, he⟩, hit, hne, hea, hai⟩ := st
    obtain ⟨xs, x, hq, hx⟩ := hg
    obtain ⟨its, rv, p, hz⟩ := I.tuple hq
    obtain ⟨u, hu, ru⟩ := rv.get hx
    have hel : e < s.heap.objs.size := Heap.lt_size he
    have hil : it < s.heap.objs.size := by obtain ⟨_, q, _⟩ := hit; exact Heap.lt_size q
    have hil2 : i < its.toArray.size := by
      have := (List.getElem?_eq_some_iff.mp hu).1
      simpa using this
    refine wpAny_pyNext_enum_itemD (Draws.tuple (prog := X.prog) (w := X.w) (A := X.A.in1) (I.ok.hd hc) it a hai its.toArray) he ⟨hit, p⟩ hil2 hne (by simp; exact ⟨hne, hea⟩) fun x' h' tk hP ho hst' hT hsz hk => ?_
    have hxx : x' = u := by
      have : its.toArray[i]? = some u := by simpa using hu
      rw [this] at hP; exact (Option.some.inj hP).symm
    subst hxx
    obtain ⟨hit', _⟩ := hst'
    refine ⟨_, rfl, wpAny_letOwnedTupleGo_enum (s := { s with heap := h', toks := tk + 1 }) ho fun h'' he' sb => ?_⟩
    have hT2 : h''.get? s.heap.objs.size = some { cls := .type "tuple", data := .seq #[.int i tk, x'] } := (sb.2 _ (Nat.ne_of_gt hel)).trans hT
    have new : ObjOk X.prog X.w (upd H s.heap.objs.size (.tup [.int (i : Nat), x])) h'' s.heap.objs.size (.tup [.int (i : Nat), x]) :=
      ⟨by show 2 ≤ sizeLine; decide, [.int i tk, x'], .cons ⟨_, rfl⟩ (.cons ru .nil), ⟨_, hT2, rfl, _, rfl⟩⟩
    have I1 : Inv X pins σ (upd H s.heap.objs.size (.tup [.int (i : Nat), x])) { s with heap := h'', toks := tk + 1 } :=
      I.turnedNew (ch := [e, it]) (fun b ob hb q => (sb.2 b (fun z => hb (by simp [z]))).trans (hk b ob (fun z => hb (by simp [z])) (fun z => hb (by simp [z])) q)) hf (Nat.le_refl _) new
    refine ⟨.ref s.heap.objs.size, _, I1, rfl, ⟨_, x, rfl, I.hok.fresh (Nat.le_refl _), rfl, fun ys hy => by rw [I.tuple_inj hy hq]; exact hx⟩, ⟨⟨x', ?_⟩, hit'.at fun o q => (sb.2 it (Ne.symm hne)).trans q, hne, hea, hai⟩, fun b hb => ?_⟩
    · have e1 : ((i + 1 : Nat) : Int) = (i : Int) + 1 := by omega
      rw [e1]; exact he'
    · have hb' : b < s.heap.objs.size := by
        have e' : b = e ∨ b = it := by simpa using hb
        rcases e' with z | z
        · rw [z]; exact hel
        · rw [z]; exact hil
      rw [upd_ne (Nat.ne_of_lt hb')]
      exact (hf b hb).1
  done := by
    intro X hP hw hK hc i pins s σ H E I hf st hg
    subst hP hw hK
    obtain ⟨⟨old, he⟩, hit, hne, hea, hai⟩ := st
    obtain ⟨xs, hq, hx⟩ := hg
    obtain ⟨its, rv, p, hz⟩ := I.tuple hq
    obtain ⟨f0, f1, f2, f3, f4, f5⟩ := hf it (by simp)
    have hl := rv.length
    have hT : s.TypeIs (.ref e) "enumerate" := ⟨_, he, rfl⟩
    unfold pyNext
    refine wpAny_bind (wpAny_attempt (wpAny_callSpecial?_slot (name := Str.ofString "__next__") hT PySem.F.slot_enumerate_next
      (wpAny_call_entry PySem.F.slot_enumerate_next hT PySem.F.entry_enumerate_next ?_ (PySem.F.args_enumerate_next_1 _))))
    show wpAny _ _ (field (.ref e) 2 >>= _) _ _ _
    refine wpAny_bind (wpAny_field he rfl (x := .ref it) rfl ?_)
    refine wpAny_bind (wpAny_nextOf_tuple_end (I.ok.hd hc) hit p (by simp; omega) fun h' x he' hx' => ?_)
    obtain ⟨o, ho, hc'⟩ := hx'
    refine wpAny_bind (wpAny_isInstance (T := "StopIteration") (b := true) ⟨o, ho, hc'⟩ isSubtype_stop ?_)
    exact wpAny_pure ⟨rfl, I.turned (t' := s.toks) (fun b o hb q => he' b o hb q) f0 f1 f3 f4 f5⟩
  self := fun A i s Q E st h => let ⟨⟨_, he⟩, _⟩ := st; wpAny_pyIter_enum he h
def iEnumT (K : PySem.W.Frag) (ta : TA) : TI := fun σ H R => ta σ H fun vs H1 => ∃ a xs, vs = [.ref a] ∧ SqT K H1 a xs ∧ R (IteT K a) H1
theorem pi_enumT {X : Cx} {e : Expr} {ta : TA} {p pos tpos : Pos} {elts : List Expr} {kk : Nat} (hg : Gl X "enumerate") (hm : X.mg "enumerate" = none) (ha : PA X [e] ta) (hs : starEach [e] X.env = [(false, eval e X.env)] := by rfl) :
    PI X (.Tuple elts kk tpos) (.Call (.Name "enumerate" p) [e] [] pos) (iEnumT X.K ta) := by
  refine ⟨fun pins s σ H R I h => ?_⟩
  refine Call_ (ld_blt I hg hm boot_enumerate (PyProof.Rows.callWith_type1 (thn (ha.run pos pins s σ H _ I h) fun us s1 ⟨vs, H1, I1, r1, q1⟩ => ?_) hs rfl))
  obtain ⟨a, xs, ex, hq, q⟩ := q1
  subst ex
  cases r1 with
  | cons r rr =>
    cases rr
    cases r
    obtain ⟨its, rv, p', hz⟩ := I1.tuple hq
    obtain ⟨oa, hoa, hca, _⟩ := id p'
    have hal : a < s1.heap.objs.size := Heap.lt_size hoa
    refine enum_begins1 (begins_tuple a its.toArray) p' fun h' he hit hsz hk => wpAny_pyIter_enum he ?_
    have I2 : Inv X pins σ H1 { s1 with heap := h' } := I1.kept (t' := s1.toks) hk
    refine ⟨s1.heap.objs.size + 1, [s1.heap.objs.size + 1, s1.heap.objs.size], _, _, H1, rfl, I2, turn_enumT a (s1.heap.objs.size + 1) s1.heap.objs.size, ⟨⟨.none, he⟩, ⟨_, hit, rfl, rfl⟩, Nat.succ_ne_self _, Nat.ne_of_gt (Nat.lt_succ_of_lt hal), Nat.ne_of_lt hal⟩, fun b hb => ?_, q⟩
    have e' : b = s1.heap.objs.size + 1 ∨ b = s1.heap.objs.size := by simpa using hb
    have hle : s1.heap.objs.size ≤ b := by
      rcases e' with z | z
      · rw [z]; exact Nat.le_add_right _ _
      · rw [z]; exact Nat.le_refl _
    exact I1.fpOk hle (I1.hok.fresh hle)
theorem walk_enumT {K : PySem.W.Frag} {a : Addr} {xs : List V} : Walk (IteT K a) xs.length (fun H => SqT K H a xs) (YPair (fun i => some (.int (i : Nat))) (fun i => xs[i]?)) := by
  refine ⟨fun i _ hi q => ⟨xs, xs[i], q, by simp [hi]⟩, fun _ q => ⟨xs, q, Nat.le_refl _⟩, fun i H v H' _ q y => ?_⟩
  obtain ⟨T, x, h1, h2, h3, h4⟩ := y
  exact ⟨T, .int (i : Nat), x, h1, h2, h3, rfl, h4 xs q⟩
end L2.G
set_option Elab.async false
set_option linter.all false
set_option maxRecDepth 100000
set_option maxHeartbeats 8000000
/-! The program's search: may_come, paper. Printed by mk_a.py. -/
namespace L2.G
open PySem PySem.Spec PyProof.Rows WW
/-- a row as indexes of the table -/
abbrev RowIx (M : List (Kd Nat)) (js : List Nat) (r : List (Kd Nat)) : Prop := Paired (fun (j : Nat) (k : Kd Nat) => M[j]? = some k) js r
abbrev ixs (js : List Nat) : List Int := js.map fun j => ((j : Nat) : Int)
theorem ixs_idx {M : List (Kd Nat)} (hn : M.Nodup) : ∀ {js : List Nat} {r : List (Kd Nat)}, RowIx M js r → ixs js = r.map (idx M)
  | _, _, .nil => rfl
  | _, _, .cons a h => by
    show _ :: ixs _ = _ :: List.map (idx M) _
    rw [ixs_idx hn h, idx_get hn a]
theorem RowIx.append {M : List (Kd Nat)} : ∀ {js is : List Nat} {r u : List (Kd Nat)}, RowIx M js r → RowIx M is u → RowIx M (js ++ is) (r ++ u)
  | _, _, _, _, .nil, h => h
  | _, _, _, _, .cons a r, h => .cons a (RowIx.append r h)
theorem RowIx.take {M : List (Kd Nat)} : ∀ {js : List Nat} {r : List (Kd Nat)} (n : Nat), RowIx M js r → RowIx M (js.take n) (r.take n)
  | _, _, 0, _ => .nil
  | _, _, _ + 1, .nil => .nil
  | _, _, n + 1, .cons a r => .cons a (RowIx.take n r)
theorem RowIx.drop {M : List (Kd Nat)} : ∀ {js : List Nat} {r : List (Kd Nat)} (n : Nat), RowIx M js r → RowIx M (js.drop n) (r.drop n)
  | _, _, 0, h => h
  | _, _, _ + 1, .nil => .nil
  | _, _, n + 1, .cons _ r => RowIx.drop n r
theorem RowIx.inj {M : List (Kd Nat)} {js is : List Nat} {r u : List (Kd Nat)} (h1 : RowIx M js r) (h2 : RowIx M is u) (e : js = is) : r = u := by
  subst e
  induction h1 generalizing u with
  | nil => cases h2; rfl
  | cons a _ ih =>
    cases h2 with
    | cons b r2 =>
      rw [a] at b
      rw [Option.some.inj b, ih r2]
/-- the program's memo -/
def Kn (B : List Stt) (M : List (Kd Nat)) (kn : List (NKy × V)) : Prop := (kn.map (·.1)).Nodup ∧ ∀ p ∈ kn, ∃ (js : List Nat) (g : Nat) (r : List (Kd Nat)) (k : Kd Nat) (v : V), p = ((ixs js, ((g : Nat) : Int)), v) ∧ RowIx M js r ∧ M[g]? = some k ∧ (r, k) ∈ B ∧ (v = .non ↔ ¬ L r k) ∧ (v = .non ∨ ∃ a, v = .ref a)
theorem Kn.len {B : List Stt} {M : List (Kd Nat)} {kn : List (NKy × V)} (hn : M.Nodup) (h : Kn B M kn) : kn.length ≤ B.length := by
  have := nodup_len (kn.map (·.1)) (B.map fun s => ((s.1.map (idx M), idx M s.2) : NKy)) h.1 fun x hx => by
    obtain ⟨p, hp, e⟩ := List.mem_map.mp hx
    obtain ⟨js, g, r, k, v, e2, h1, h2, h3, _⟩ := h.2 p hp
    rw [← e, e2]
    exact List.mem_map.mpr ⟨(r, k), h3, by rw [ixs_idx hn h1, idx_get hn h2]⟩
  rwa [List.length_map, List.length_map] at this
theorem ints_canLay : ∀ u : List Int, PyData.canLayAll0 (u.map PyData.int) = true
  | [] => by simp [PyData.canLayAll0]
  | i :: u => by rw [List.map_cons, PyData.canLayAll0, ints_canLay u]; simp [PyData.canLay0]
theorem ints_depth : ∀ u : List Int, PyData.depthAll (u.map PyData.int) = 0
  | [] => by simp [PyData.depthAll]
  | i :: u => by rw [List.map_cons, PyData.depthAll, ints_depth u]; simp [PyData.depth]
theorem ints_shaped (u : List Int) : SeqAt.shaped (.tuple (u.map PyData.int)) = true :=
  Bool.and_eq_true_iff.mpr ⟨by rw [PyData.canLay0]; exact ints_canLay u, decide_eq_true (by rw [PyData.depth, ints_depth]; decide)⟩
theorem dp_ints {K : PySem.W.Frag} {H : Hp} : ∀ u : List Int, DpAll K H (u.map V.int) (u.map PyData.int)
  | [] => .nil
  | i :: u => .cons (.int i) (dp_ints u)
theorem eqv_ints (u v : List Int) : PyData.eqv (.tuple (u.map PyData.int)) (.tuple (v.map PyData.int)) = decide (u = v) := by
  rw [eqv_tup, PySem.W.ked_eqvAll]
section
variable {P : Program} {w : World} {C : Addr} {H H' : Hp} {t : Adr} {M : List (Kd Nat)} {fs fg : Nat → Int} {wt met : Int} {kn : List (NKy × V)}
theorem TabAt.setk (h : TabAt P w C H t M fs fg wt met kn) {o : HO} {kn' : List (NKy × V)} (hn : ND P w (upd H t.ak o) t.ak kn') : TabAt P w C (upd H t.ak o) t M fs fg wt met kn' := by
  have u : Upto t.ls H (upd H t.ak o) := upto_upd (by simp [Adr.ls]) _
  have k := u.tk h.nt
  have U : ∀ {j : Nat} {p : Addr} {ob : HO}, t.ls[j]? = some p → j ≠ 8 → H p = some ob → upd H t.ak o p = some ob := fun h1 hn e => (upd_ne (nea h.nd h1 (show t.ls[8]? = some t.ak from rfl) hn)).trans e
  obtain ⟨h1, h2, ⟨kvs, h3, h3'⟩, ⟨vs, h4, h4'⟩, h5, ⟨ps, h6, h6'⟩, h7, ⟨ws, h8, h8'⟩, h9, h10, h11, h12, h13, h14, h15⟩ := h
  exact ⟨h1, U (j := 0) rfl (by decide) h2, ⟨kvs, U (j := 1) rfl (by decide) h3, h3'⟩, ⟨vs, U (j := 2) rfl (by decide) h4, h4'.mono k⟩, U (j := 3) rfl (by decide) h5, ⟨ps, U (j := 4) rfl (by decide) h6, Paired.mapP h6' fun _ _ => PrOk.mono k⟩, U (j := 5) rfl (by decide) h7, ⟨ws, U (j := 6) rfl (by decide) h8, Paired.mapP h8' fun _ _ => SpOk.mono k⟩, U (j := 7) rfl (by decide) h9, hn, h11, h12, h13, h14, h15⟩
end
def spMay (P : Program) (w : World) (C : Addr) : SpG := fun vs H Q => ∃ (t : Adr) (M : List (Kd Nat)) (fs fg : Nat → Int) (wt met : Int) (kn : List (NKy × V)) (rt : Addr) (js : List Nat) (g : Nat) (r : List (Kd Nat)) (k : Kd Nat), vs = [.ref t.x, .ref rt, .int (g : Nat)] ∧ TabAt P w C H t M fs fg wt met kn ∧
  H rt = some (.tup ((ixs js).map .int)) ∧ RowIx M js r ∧ M[g]? = some k ∧ rsize r ≤ 100 ∧ ∀ (b : Bool) (H' : Hp), Same H H' → (b = false → ¬ L r k) → Q (.bl b) H'
def spPaper (P : Program) (w : World) (C : Addr) (m : Nat) : SpG := fun vs H Q => ∃ (t : Adr) (M : List (Kd Nat)) (fs fg : Nat → Int) (wt met : Int) (kn : List (NKy × V)) (rt : Addr) (js : List Nat) (g : Nat) (r : List (Kd Nat)) (k : Kd Nat) (B : List Stt), vs = [.ref t.x, .ref rt, .int (g : Nat)] ∧ TabAt P w C H t M fs fg wt met kn ∧ Kn B M kn ∧
  H rt = some (.tup ((ixs js).map .int)) ∧ RowIx M js r ∧ M[g]? = some k ∧ rsize r + k.size ≤ 30 ∧ Sts B r k ∧ B.length < sizeLine ∧ rops r + k.ops < m ∧
  ∀ (v : V) (kn' : List (NKy × V)) (H' : Hp), TabAt P w C H' t M fs fg wt met kn' → Kn B M kn' → (v = .non ↔ ¬ L r k) → (v = .non ∨ ∃ a, v = .ref a) → Upto t.ls H H' → Q v H'
section
variable {P : Program} {w : World} {K : PySem.W.Frag} {mg : Str → Option Value} {base : Heap} {C : Addr}
theorem m_may_come (T : Txt w K mg C) : GMet P w K mg base 2 C "may_come" (spMay P w C) := by
  have C_joined_words := c_joined_words (P := P) (base := base) T
  refine met_of T.dT_may_come scT_may_come (fun vs H Q ⟨_, _, _, _, _, _, _, _, _, _, _, _, e, _⟩ => by rw [e]; rfl) fun f cdv A outer s H vs Q hr ⟨t, M, fs, fg, wt, met, kn, rt, js, g, r, k, e, ht, hrt, hrow, hg, hz, q⟩ => ?_
  subst e
  refine ⟨_, (pss_cons (ps_if (pt_cmpR op_ne (pe_callB (cr_sum rfl) rfl T.m_sum (by decide +kernel) (pa_cons (pe_lc (own := [("one", 3)]) (g := gName 3) (tt := tYes) (te := tOp (rIxL K) (tFld K (tVar 0) "sums") (tVar 3)) rfl scT_may_come.nd (pi_tup (pv 1)) (blkOk_by (own := [("one", 3)]) (N := ["self", "row", "goal", "one", "told"]) (sc := defScope sT_may_come) (by decide +kernel)) (fun _ _ _ _ _ => (pg_name (i := 3) scT_may_come.nd rfl (by first | exact Or.inl rfl | exact Or.inr rfl))) (fun _ _ _ _ _ => pts_nil) (fun _ _ _ _ _ => (pe_ix ix_list (pe_fld (pv 0) rfl) (pv 3) (fun _ _ => rfl)))) pa_nil)) (pe_ix ix_list (pe_fld (pv 0) rfl) (pv 2) (fun _ _ => rfl)) (nomark _))
      (pss_one (ps_ret pe_bl))
      pss_nil)
    (pss_cons (ps_set (i := 4) scT_may_come.nd rfl (by first | exact Or.inl rfl | exact Or.inr rfl) (pe_tup pa_nil))
    (pss_cons (ps_for PassesOwn.never rfl (pi_tup (pv 1)) (pg_name (i := 3) scT_may_come.nd rfl (by first | exact Or.inl rfl | exact Or.inr rfl))
      (pss_one (ps_set (i := 4) scT_may_come.nd rfl (by first | exact Or.inl rfl | exact Or.inr rfl) (pe_g C_joined_words hr (by omega) rfl (pa_cons (pv 4) (pa_cons (pe_ix ix_list (pe_fld (pv 0) rfl) (pv 3) (fun _ _ => rfl)) pa_nil))))))
    (pss_one (ps_ret (pe_cmpR (op_eqD hr.r.units) (pv 4) (pe_ix ix_list (pe_fld (pv 0) rfl) (pv 2) (fun _ _ => rfl)) (nomark _))))))), ?_⟩
  have zl : sizeLine = 16777216 := sizeLine_eq
  have hlen := Paired.length hrow
  have hrl := len_le_rsize r
  obtain ⟨sps, hspell, hsp⟩ := ht.spelled
  have hil : ((ixs js).map V.int).length = r.length := by rw [List.length_map, List.length_map]; exact hlen
  -- the items
  have item : ∀ {i : Nat} {x : V}, ((ixs js).map V.int)[i]? = some x → ∃ (j : Nat) (z : Kd Nat), x = .int (j : Nat) ∧ r[i]? = some z ∧ M[j]? = some z := fun {i x} hx => by
    rw [List.getElem?_map, List.getElem?_map] at hx
    obtain ⟨y, hy, e1⟩ := Option.map_eq_some_iff.mp hx
    obtain ⟨j, hj, e2⟩ := Option.map_eq_some_iff.mp hy
    subst e2
    subst e1
    obtain ⟨hjl, _⟩ := List.getElem?_eq_some_iff.mp hj
    obtain ⟨z, hz⟩ : ∃ z, r[i]? = some z := ⟨r[i]'(by omega), List.getElem?_eq_getElem _⟩
    obtain ⟨j', hj', hm⟩ := pget hrow hz
    rw [hj] at hj'
    cases hj'
    exact ⟨j, z, rfl, hz, hm⟩
  refine ⟨_, rfl, rt, rfl, ⟨_, SqT.of hrt⟩, fun D nD => ?_⟩
  refine lc_mapG (walk_tup (xs := (ixs js).map V.int)) (r.map fun z => V.int (z.val fs)) (by rw [List.length_map, hil]) (by omega) nD (fun H h => SqT.of (h _ _ hrt)) (fun x => rfl)
    (fun i x y H1 Q1 hx hy s1 h => ?_) (fun H3 S3 hD3 => ?_)
  · obtain ⟨j, z, rfl, hz1, hm⟩ := item hx
    rw [List.getElem?_map, hz1] at hy
    cases hy
    exact ⟨_, rfl, t.x, C, t.dx, _, _, rfl, (s1 _ _ ht.ins), T.cl, T.n_sums, rfl, _, rfl, _, _, _, _, rfl, rfl, SqL.of (s1 _ _ ht.sums), atI_nat (mget hm), h _ (Same.refl _)⟩
  refine ⟨_, r.map fun z => z.val fs, rfl, SqL.of (by rw [hD3, List.map_map]; rfl), ?_⟩
  refine ⟨_, rfl, t.x, C, t.dx, _, _, rfl, (S3 _ _ ht.ins), T.cl, T.n_sums, rfl, _, rfl, _, _, _, _, rfl, rfl, SqL.of (S3 _ _ ht.sums), atI_nat (mget hg), rfl, _, rfl, ite2 (fun c => ?_) (fun c => ?_)⟩
  · refine q false H3 S3 fun _ h => ?_
    have hv := L.val fs h
    have : decide (V.int (r.map fun z => z.val fs).sum = V.int (k.val fs)) = true := decide_eq_true (by rw [← hv])
    rw [this] at c
    cases c
  refine ⟨by show 0 ≤ sizeLine; omega, fun p0 np0 => ?_⟩
  have S4 := S3.trans (same_new np0 (.tup []))
  have hp0 : upd H3 p0 (.tup []) p0 = some (.tup []) := upd_same
  generalize upd H3 p0 (.tup []) = H4 at *
  refine ⟨_, rfl, rt, rfl, ⟨_, SqT.of (S4 _ _ hrt)⟩, ?_⟩
  refine for_it (walk_tup (xs := (ixs js).map V.int)) (fun i σ H5 => ∃ (x3 : Option V) (p : Addr), σ = [some (.ref t.x), some (.ref rt), some (.int (g : Nat)), x3, some (.ref p)] ∧ Same H H5 ∧ H5 p = some (.tup ((((r.take i).map (Kd.gw fg)).foldl jw []).map .int)) ∧ (((r.take i).map (Kd.gw fg)).foldl jw []).length ≤ rsize (r.take i))
    ⟨none, p0, rfl, S4, hp0, Nat.le_refl _⟩ (fun i σ H5 _ ⟨_, _, _, S5, _⟩ => SqT.of (S5 _ _ hrt)) ?_ ?_
  · rintro i x σ H5 H6 hi ⟨x3, p, rfl, S5, hp, hpl⟩ ⟨rfl, hx⟩
    obtain ⟨j, z, rfl, hz1, hm⟩ := item hx
    obtain ⟨sv, hsv, sa, rfl, hsa⟩ := pget hsp hm
    have hzs := ht.small z (mem_of_get hm)
    have hgl := gw_len fg z
    have etk : r.take (i + 1) = r.take i ++ [z] := by
      obtain ⟨hl, e⟩ := List.getElem?_eq_some_iff.mp hz1
      rw [List.take_succ_eq_append_getElem hl, e]
    have ers : rsize (r.take (i + 1)) = rsize (r.take i) + z.size := by rw [etk, rsize_append]; rfl
    have hrt2 : rsize (r.take i) ≤ rsize r := by
      have := rsize_append (r.take i) (r.drop i)
      rw [List.take_append_drop] at this
      omega
    refine ⟨_, rfl, _, rfl, t.x, C, t.dx, _, _, rfl, (S5 _ _ ht.ins), T.cl, T.n_spelled, rfl, _, rfl, _, _, _, _, rfl, rfl, SqL.of (S5 _ _ hspell), atI_nat hsv, ?_⟩
    refine ⟨p, sa, _, _, rfl, hp, S5 _ _ hsa, by omega, fun p' H7 S7 hp' => ?_⟩
    refine ⟨_, p', rfl, S5.trans S7, ?_, ?_⟩
    · rw [hp', etk, List.map_append, List.foldl_append]; rfl
    · rw [etk, List.map_append, List.foldl_append, rsize_append]
      have := jw_len (((r.take i).map (Kd.gw fg)).foldl jw []) (z.gw fg)
      show (jw (((r.take i).map (Kd.gw fg)).foldl jw []) (z.gw fg)).length ≤ rsize (r.take i) + (z.size + 0)
      omega
  · rintro σ H5 ⟨x3, p, rfl, S5, hp, hpl⟩
    rw [hil, List.take_length] at hp
    obtain ⟨sv, hsv, sa, rfl, hsa⟩ := pget hsp hg
    refine ⟨_, rfl, _, rfl, t.x, C, t.dx, _, _, rfl, (S5 _ _ ht.ins), T.cl, T.n_spelled, rfl, _, rfl, _, _, _, _, rfl, rfl, SqL.of (S5 _ _ hspell), atI_nat hsv, ?_⟩
    refine ⟨_, _, .tup (SqT.of hp) (dp_ints _), .tup (SqT.of (S5 _ _ hsa)) (dp_ints _), ints_shaped _, ints_shaped _, ?_⟩
    rw [eqv_ints]
    refine q _ H5 S5 fun hb hL => ?_
    exact absurd (L.word ht.ne0 hL) (of_decide_eq_false hb)
theorem m_paper1 (T : Txt w K mg C) {m j : Nat} (C_paper_anew : GMet P w K mg base j C "paper_anew" (spPaper P w C m)) (hj : 2 ≤ j) : GMet P w K mg base (j + 1) C "paper" (spPaper P w C m) := by
  have C_may_come := m_may_come (P := P) (base := base) T
  refine met_of T.dT_paper scT_paper (fun vs H Q ⟨_, _, _, _, _, _, _, _, _, _, _, _, _, e, _⟩ => by rw [e]; rfl) fun f cdv A outer s H vs Q hr ⟨t, M, fs, fg, wt, met, kn, rt, js, g, r, k, B, e, ht, hK, hrt, hrow, hg, hz, hst, hB, hm, q⟩ => ?_
  subst e
  refine ⟨_, (pss_cons (ps_if (pt_cmp (pc_nnot hr.r.units (pe_tup (pa_cons (pv 1) (pa_cons (pv 2) pa_nil))) (pe_fld (pv 0) rfl)))
      (pss_one (ps_nput hr.r.units (pe_fld (pv 0) rfl) (pe_tup (pa_cons (pv 1) (pa_cons (pv 2) pa_nil))) (pe_ifExp (pt_val (pe_gm C_may_come hr (by omega) (pv 0) (pa_cons (pv 1) (pa_cons (pv 2) pa_nil)))) (pe_gm C_paper_anew hr (by omega) (pv 0) (pa_cons (pv 1) (pa_cons (pv 2) pa_nil))) pe_non) rfl))
      pss_nil)
    (pss_one (ps_ret (pe_nget hr.r.units (pe_fld (pv 0) rfl) (pe_tup (pa_cons (pv 1) (pa_cons (pv 2) pa_nil))) (fun _ _ => rfl))))), ?_⟩
  have zl : sizeLine = 16777216 := sizeLine_eq
  -- what is told at the end
  have fin : ∀ (kn' : List (NKy × V)) (v : V) (H' : Hp), TabAt P w C H' t M fs fg wt met kn' → Kn B M kn' → valV kn' (ixs js, ((g : Nat) : Int)) = some v → Upto t.ls H H' → TK H H' →
      (tRet (tNGet P w (tFld K (tVar 0) "known") (tTup (tCons (tVar 1) (tCons (tVar 2) tNil))))) { nx := fun _ H' => Q .non H', rt := Q } [some (.ref t.x), some (.ref rt), some (.int (g : Nat))] H' := fun kn' v H' ht' hK' hv U' t' => by
    refine ⟨_, rfl, t.x, C, t.dx, _, _, rfl, ht'.ins, T.cl, T.n_known, rfl, _, rfl, _, rfl, by show 2 ≤ sizeLine; decide, fun p np => ?_⟩
    have S := same_new np (.tup [.ref rt, .int (g : Nat)])
    have ht2 := ht'.same S
    obtain ⟨js2, g2, r2, k2, v2, e1, a1, a2, a3, a4, a5⟩ := hK'.2 _ (mem_of_valV hv)
    injection e1 with e1 e2
    injection e1 with e1 e3
    have ejs : js2 = js := by
      have := ixs_idx ht.tnd a1
      have h2 : js2.map (fun j => ((j : Nat) : Int)) = js.map fun j => ((j : Nat) : Int) := e1.symm
      have := congrArg (List.map Int.toNat) h2
      simpa [List.map_map, Function.comp_def] using this
    have eg : g2 = g := by omega
    subst ejs
    subst eg
    have er : r2 = r := RowIx.inj a1 hrow rfl
    have ek : k2 = k := by rw [hg] at a2; exact (Option.some.inj a2).symm
    subst er ek e2
    refine ⟨t.ak, p, kn', (ixs js2, ((g2 : Nat) : Int)), v, rfl, rfl, ht2.known, ⟨rt, upd_same, S _ _ (t' _ _ hrt)⟩, hv, ?_⟩
    exact q v kn' _ ht2 hK' a4 a5 (U'.trans (Upto.of_same S))
  refine ⟨_, rfl, _, rfl, by show 2 ≤ sizeLine; decide, fun p np => ?_⟩
  have S1 := same_new np (.tup [.ref rt, .int (g : Nat)])
  have ht1 := ht.same S1
  refine ⟨_, rfl, t.x, C, t.dx, _, _, rfl, ht1.ins, T.cl, T.n_known, rfl, t.ak, p, kn, (ixs js, ((g : Nat) : Int)), rfl, rfl, ht1.known, ⟨rt, upd_same, S1 _ _ hrt⟩, _, rfl, ?_⟩
  cases hv : valV kn (ixs js, ((g : Nat) : Int)) with
  | some v => exact iteF (fin kn v _ ht1 hK hv (Upto.of_same S1) (Same.tk S1))
  | none =>
    refine iteT ?_
    generalize upd H p (.tup [.ref rt, .int (g : Nat)]) = H1 at *
    -- the value is put
    have put : ∀ (v : V) (kn2 : List (NKy × V)) (H2 : Hp), TabAt P w C H2 t M fs fg wt met kn2 → Kn B M kn2 → (v = .non ↔ ¬ L r k) → (v = .non ∨ ∃ a, v = .ref a) → Upto t.ls H H2 → TK H H2 →
        (fun σ H1 => tFld K (tVar 0) "known" σ H1 fun x H2 => tTup (tCons (tVar 1) (tCons (tVar 2) tNil)) σ H2 fun y H3 => ∃ d b kvs p, x = .ref d ∧ y = .ref b ∧ ND P w H3 d kvs ∧ NK H3 p b ∧ kvs.length < sizeLine ∧
          ∀ o, ND P w (upd H3 d o) d (putK kvs p v) → (∀ xs, o ≠ .tup xs) → (tRet (tNGet P w (tFld K (tVar 0) "known") (tTup (tCons (tVar 1) (tCons (tVar 2) tNil))))) { nx := fun _ H' => Q .non H', rt := Q } σ (upd H3 d o)) [some (.ref t.x), some (.ref rt), some (.int (g : Nat))] H2 := fun v kn2 H2 ht2 hK2 hvn hvr U2 t2 => by
      refine ⟨_, rfl, t.x, C, t.dx, _, _, rfl, ht2.ins, T.cl, T.n_known, rfl, _, rfl, _, rfl, by show 2 ≤ sizeLine; decide, fun p3 np3 => ?_⟩
      have S3 := same_new np3 (.tup [.ref rt, .int (g : Nat)])
      have ht3 := ht2.same S3
      have hlen := Kn.len ht.tnd hK2
      refine ⟨t.ak, p3, kn2, (ixs js, ((g : Nat) : Int)), rfl, rfl, ht3.known, ⟨rt, upd_same, S3 _ _ (t2 _ _ hrt)⟩, by omega, fun o hnd ho => ?_⟩
      have u4 : Upto t.ls (upd H2 p3 (.tup [.ref rt, .int (g : Nat)])) (upd (upd H2 p3 (.tup [.ref rt, .int (g : Nat)])) t.ak o) := upto_upd (by simp [Adr.ls]) _
      have k4 := u4.tk ht3.nt
      refine fin _ v _ (ht3.setk hnd) ⟨nd_put _ hK2.1, fun pp hp => ?_⟩ (by rw [L2.valV_put, if_pos rfl]) ((U2.trans (Upto.of_same S3)).trans u4) (fun b xs e => k4 _ _ ((Same.tk S3) _ _ (t2 _ _ e)))
      rcases mem_putK hp with e | e
      · exact ⟨js, g, r, k, v, e, hrow, hg, hst.mem, hvn, hvr⟩
      · exact hK2.2 pp e
    refine ⟨_, rfl, t.x, t.dx, _, rfl, ht1.ins, rfl, _, rfl, _, rfl, t, M, fs, fg, wt, met, kn, rt, js, g, r, k, rfl, ht1, S1 _ _ hrt, hrow, hg, by omega, fun b H2 S2 hb => ?_⟩
    have S12 := S1.trans S2
    have ht2 := ht1.same S2
    refine ⟨_, rfl, ite2 (fun c => ?_) (fun c => ?_)⟩
    · refine ⟨_, rfl, t.x, t.dx, _, rfl, ht2.ins, rfl, _, rfl, _, rfl, t, M, fs, fg, wt, met, kn, rt, js, g, r, k, B, rfl, ht2, hK, S12 _ _ hrt, hrow, hg, hz, hst, hB, hm, fun v kn' H3 ht3 hK3 hv3 hr3 U3 => ?_⟩
      have t3 := U3.tk ht2.nt
      exact put v kn' H3 ht3 hK3 hv3 hr3 ((Upto.of_same S12).trans U3) (fun b xs e => t3 _ _ (S12 _ _ e))
    · refine put .non kn H2 ht2 hK ⟨fun _ => hb (by simpa using c), fun _ => rfl⟩ (.inl rfl) (Upto.of_same S12) (Same.tk S12)
end
end L2.G
set_option Elab.async false
set_option linter.all false
set_option maxRecDepth 100000
set_option maxHeartbeats 8000000
/-! The program's search: behind_paper, ahead_paper. Printed by mk_b.py. -/
namespace L2.G
open PySem PySem.Spec PyProof.Rows WW
def spBehind (P : Program) (w : World) (C : Addr) (m : Nat) : SpG := fun vs H Q => ∃ (t : Adr) (M : List (Kd Nat)) (fs fg : Nat → Int) (wt met : Int) (kn : List (NKy × V)) (rt : Addr) (js : List Nat) (g : Nat) (r : List (Kd Nat)) (c : Nat) (B : List Stt) (sp : Nat) (x1 x2 : Kd Nat), vs = [.ref t.x, .ref rt, .int (sp : Nat), .int (g : Nat)] ∧ TabAt P w C H t M fs fg wt met kn ∧ Kn B M kn ∧
  H rt = some (.tup ((ixs js).map .int)) ∧ RowIx M js r ∧ M[g]? = some (.p c) ∧ r[sp]? = some (.b x1 x2) ∧ rsize r + 1 ≤ 30 ∧ Sts B r (.p c) ∧ B.length < sizeLine ∧ rops r < m ∧
  ∀ (v : V) (kn' : List (NKy × V)) (H' : Hp), TabAt P w C H' t M fs fg wt met kn' → Kn B M kn' → (v = .non ↔ ¬ ∃ cut, TakeB r (.p c) sp cut) → (v = .non ∨ ∃ a, v = .ref a) → Upto t.ls H H' → Q v H'
def spAhead (P : Program) (w : World) (C : Addr) (m : Nat) : SpG := fun vs H Q => ∃ (t : Adr) (M : List (Kd Nat)) (fs fg : Nat → Int) (wt met : Int) (kn : List (NKy × V)) (rt : Addr) (js : List Nat) (g : Nat) (r : List (Kd Nat)) (c : Nat) (B : List Stt) (sp : Nat) (x1 x2 : Kd Nat), vs = [.ref t.x, .ref rt, .int (sp : Nat), .int (g : Nat)] ∧ TabAt P w C H t M fs fg wt met kn ∧ Kn B M kn ∧
  H rt = some (.tup ((ixs js).map .int)) ∧ RowIx M js r ∧ M[g]? = some (.p c) ∧ r[sp]? = some (.a x2 x1) ∧ rsize r + 1 ≤ 30 ∧ Sts B r (.p c) ∧ B.length < sizeLine ∧ rops r < m ∧
  ∀ (v : V) (kn' : List (NKy × V)) (H' : Hp), TabAt P w C H' t M fs fg wt met kn' → Kn B M kn' → (v = .non ↔ ¬ ∃ cut, TakeA r (.p c) sp cut) → (v = .non ∨ ∃ a, v = .ref a) → Upto t.ls H H' → Q v H'
section
variable {P : Program} {w : World} {K : PySem.W.Frag} {mg : Str → Option Value} {base : Heap} {C : Addr}
theorem m_behind1 (T : Txt w K mg C) {m j : Nat} (C_paper : GMet P w K mg base j C "paper" (spPaper P w C m)) (hj : 1 ≤ j) : GMet P w K mg base (j + 1) C "behind_paper" (spBehind P w C (m + 1)) := by
  refine met_of T.dT_behind_paper scT_behind_paper (fun vs H Q ⟨_, _, _, _, _, _, _, _, _, _, _, _, _, _, _, _, e, _⟩ => by rw [e]; rfl) fun f cdv A outer s H vs Q hr ⟨t, M, fs, fg, wt, met, kn, rt, js, g, r, c, B, sp, x1, x2, e, ht, hK, hrt, hrow, hg, hkx, hz, hst, hB, hm, q⟩ => ?_
  subst e
  refine ⟨_, (pss_cons (ps_asg (pe_ix ix_list (pe_fld (pv 0) rfl) (pe_ix ix_tup (pv 1) (pv 2) (fun _ _ => rfl)) (fun _ _ => rfl)) (pg_tup rfl (pgs_cons (pg_name (i := 4) scT_behind_paper.nd rfl (by first | exact Or.inl rfl | exact Or.inr rfl)) (pgs_cons (pg_name (i := 5) scT_behind_paper.nd rfl (by first | exact Or.inl rfl | exact Or.inr rfl)) pgs_nil))))
    (pss_cons (ps_for PassesOwn.never rfl (pi_range2 rfl T.m_range (pa_cons (pe_op op_add (pv 2) pe_int) (pa_cons (pe_op op_add (pe_callB call_len_seq rfl T.m_len (by decide +kernel) (pa_cons (pv 1) pa_nil)) pe_int) pa_nil))) (pg_name (i := 6) scT_behind_paper.nd rfl (by first | exact Or.inl rfl | exact Or.inr rfl))
      (pss_cons (ps_set (i := 7) scT_behind_paper.nd rfl (by first | exact Or.inl rfl | exact Or.inr rfl) (pe_gm C_paper hr (by omega) (pv 0) (pa_cons (pe_slice sl_tupA (pv 1) (po_some (pe_op op_add (pv 2) pe_int)) (po_some (pv 6))) (pa_cons (pv 5) pa_nil))))
      (pss_cons (ps_set (i := 8) scT_behind_paper.nd rfl (by first | exact Or.inl rfl | exact Or.inr rfl) (pe_ifExp (pt_cmpR op_isN (pv 7) pe_non (nomark _)) pe_non (pe_gm C_paper hr (by omega) (pv 0) (pa_cons (pe_op op_catA (pe_op op_catA (pe_slice sl_tupA (pv 1) po_none (po_some (pv 2))) (pe_tup (pa_cons (pv 4) pa_nil))) (pe_slice sl_tupA (pv 1) (po_some (pv 6)) po_none)) (pa_cons (pv 3) pa_nil)))))
      (pss_one (ps_if (pt_cmpR op_notN (pv 8) pe_non (nomark _))
        (pss_one (ps_ret (pe_tup (pa_cons pe_str (pa_cons (pv 2) (pa_cons (pv 8) (pa_cons (pv 7) pa_nil)))))))
        pss_nil)))))
    (pss_one (ps_ret pe_non)))), ?_⟩
  have zl : sizeLine = 16777216 := sizeLine_eq
  have hjl := Paired.length hrow
  have hrl := len_le_rsize r
  have hsp : sp < r.length := (List.getElem?_eq_some_iff.mp hkx).1
  obtain ⟨jx, hjx, hmx⟩ := pget hrow hkx
  have hix : ((ixs js).map V.int)[sp]? = some (.int (jx : Nat)) := by rw [List.getElem?_map, List.getElem?_map, hjx]; rfl
  have hil : ((ixs js).map V.int).length = r.length := by rw [List.length_map, List.length_map]; exact hjl
  obtain ⟨prs, hpairs, hpr⟩ := ht.pairs
  obtain ⟨pv1, hpv, hpo⟩ := pget hpr hmx
  obtain ⟨pa, i1, i2, rfl, hpa, hi1, hi2⟩ : ∃ (a : Addr) (i j : Nat), pv1 = .ref a ∧ H a = some (.tup [.int (i : Nat), .int (j : Nat)]) ∧ M[i]? = some x1 ∧ M[j]? = some x2 := hpo
  refine ⟨_, rfl, t.x, C, t.dx, _, _, rfl, ht.ins, T.cl, T.n_pairs, rfl, _, rfl, _, rfl, _, _, _, _, rfl, rfl, SqT.of hrt, atI_nat hix, _, _, _, _, rfl, rfl, SqL.of hpairs, atI_nat hpv, _, _, rfl, SqT.of hpa, rfl, _, _, rfl, _, _, rfl, rfl, ?_⟩
  have heq := fun (cut : Nat) (h1 : sp + 1 ≤ cut) (h2 : cut ≤ r.length) => take_b_eq hkx h1 h2
  refine ⟨_, rfl, _, _, rfl, rfl, _, rfl, _, _, rfl, .inr (SqT.of hrt), _, _, rfl, rfl, _, _, rfl, ⟨by omega, by omega, by omega, by omega⟩, ?_⟩
  rw [show (((((ixs js).map V.int).length : Nat) : Int) + 1 - (((sp : Nat) : Int) + 2)).toNat = r.length - (sp + 1) by omega]
  refine for_range (fun i σ H5 => ∃ (x6 x7 x8 : Option V) (kn' : List (NKy × V)), σ = [some (.ref t.x), some (.ref rt), some (.int (sp : Nat)), some (.int (g : Nat)), some (.int (i1 : Nat)), some (.int (i2 : Nat)), x6, x7, x8] ∧ TabAt P w C H5 t M fs fg wt met kn' ∧ Kn B M kn' ∧ Upto t.ls H H5 ∧ ∀ cut, cut < sp + 2 + i → ¬ TakeB r (.p c) sp cut)
    ⟨none, none, none, kn, rfl, ht, hK, Upto.refl _ _, fun cut h3 ⟨_, _, _, h4, _⟩ => by omega⟩ ?_ ?_
  · rintro i σ H5 hi ⟨x6, x7, x8, kn5, rfl, ht5, hK5, U5, hno⟩
    have ecut : ((sp : Nat) : Int) + 2 + ((i : Nat) : Int) = ((sp + 2 + i : Nat) : Int) := by omega
    have hcl : sp + 2 + i ≤ r.length := by omega
    obtain ⟨lo, elo⟩ : ∃ lo, lo = sp + 1 := ⟨_, rfl⟩
    obtain ⟨hi', ehi⟩ : ∃ hi', hi' = sp + 2 + i := ⟨_, rfl⟩
    have eq1 := heq (sp + 2 + i) (by omega) hcl
    have stt := (show Sts B (r.take sp ++ .b x1 x2 :: ((r.take (sp + 2 + i)).drop (sp + 1) ++ r.drop (sp + 2 + i))) (.p c) by rw [← eq1]; exact hst).lb
    have hops : rops r = rops (r.take sp) + (x1.ops + x2.ops + 1 + (rops ((r.take (sp + 2 + i)).drop (sp + 1)) + rops (r.drop (sp + 2 + i)))) := by
      conv => lhs; rw [eq1]
      rw [rops_append, rops_cons, rops_append]; rfl
    have hsz : rsize r = rsize (r.take sp) + (x1.size + x2.size + (rsize ((r.take (sp + 2 + i)).drop (sp + 1)) + rsize (r.drop (sp + 2 + i)))) := by
      conv => lhs; rw [eq1]
      rw [rsize_append, rsize_cons, rsize_append]; rfl
    have t5 := U5.tk ht.nt
    refine ⟨_, rfl, t.x, t.dx, _, rfl, ht5.ins, rfl, _, rfl, _, rfl, _, _, rfl, rfl, _, rfl, _, rfl, _, rfl, slT (t5 _ _ hrt) fun p1 H6 S6 h6 => ?_⟩
    rw [ecut, show ((sp : Nat) : Int) + 1 = ((sp + 1 : Nat) : Int) from by omega, cutV_mid _ (by omega) (by omega), ← List.drop_take] at h6
    have e6 : (((ixs js).map V.int).take (sp + 2 + i)).drop (sp + 1) = (ixs ((js.take (sp + 2 + i)).drop (sp + 1))).map V.int := by simp only [ixs, List.map_take, List.map_drop]
    rw [e6] at h6
    have ht6 := ht5.same S6
    refine ⟨_, rfl, t, M, fs, fg, wt, met, kn5, p1, _, i2, _, x2, B, rfl, ht6, hK5, h6, (hrow.take _).drop _, hi2, by omega, stt.1, hB, by omega, fun v7 kn7 H7 ht7 hK7 hv7 hr7 U7 => ?_⟩
    have U57 := (U5.trans (Upto.of_same S6)).trans U7
    have t57 := U57.tk ht.nt
    rcases hr7 with rfl | ⟨a7, rfl⟩
    · refine ⟨_, rfl, rfl, _, rfl, ifP ?_⟩
      refine ⟨_, rfl, rfl, _, rfl, ifNP ?_⟩
      refine ⟨_, _, _, kn7, rfl, ht7, hK7, U57, fun cut hc ht' => ?_⟩
      rcases Nat.lt_or_ge cut (sp + 2 + i) with h3 | h3
      · exact hno cut h3 ht'
      · have : cut = sp + 2 + i := by omega
        subst this
        obtain ⟨x, y, e, _, _, h9, _⟩ := ht'
        rw [hkx] at e
        injection e with e
        injection e with e1 e2
        subst e2
        exact hv7.mp rfl h9
    · have hL1 : L ((r.take (sp + 2 + i)).drop (sp + 1)) x2 := Classical.byContradiction fun h => (nomatch (hv7.mpr h))
      refine ⟨_, rfl, rfl, _, rfl, ifN (fun h => nomatch h) ?_⟩
      refine ⟨_, rfl, t.x, t.dx, _, rfl, ht7.ins, rfl, ?_⟩
      refine ⟨_, rfl, _, rfl, _, rfl, slT (t57 _ _ hrt) fun p8 H8 S8 h8 => ?_⟩
      rw [cutV_take] at h8
      refine ⟨_, rfl, by show 1 ≤ sizeLine; decide, fun p9 np9 => ?_⟩
      have S9 := same_new np9 (.tup [.int (i1 : Nat)])
      refine catT (S9 _ _ h8) upd_same (by rw [List.length_take]; show _ + 1 ≤ _; omega) fun p10 H10 S10 h10 => ?_
      have S810 := (S8.trans S9).trans S10
      refine ⟨_, rfl, _, rfl, _, rfl, ?_⟩
      dsimp only [tNoPart]
      refine slT (S810 _ _ (t57 _ _ hrt)) fun p11 H11 S11 h11 => ?_
      rw [show (((sp : Nat) : Int) + 2 + ((i : Nat) : Int)) = ((sp + 2 + i : Nat) : Int) from by omega, cutV_drop] at h11
      refine catT (S11 _ _ h10) h11 (by simp only [List.length_append, List.length_take, List.length_drop, List.length_cons, List.length_nil]; omega) fun p12 H12 S12 h12 => ?_
      have S712 := (S810.trans S11).trans S12
      have e12 : ((ixs js).map V.int).take sp ++ [V.int (i1 : Nat)] ++ ((ixs js).map V.int).drop (sp + 2 + i) = (ixs (js.take sp ++ i1 :: js.drop (sp + 2 + i))).map V.int := by simp [ixs, List.map_take, List.map_drop]
      rw [e12] at h12
      have ht12 := ht7.same S712
      refine ⟨_, rfl, t, M, fs, fg, wt, met, kn7, p12, _, g, r.take sp ++ x1 :: r.drop (sp + 2 + i), .p c, B, rfl, ht12, hK7, h12, (hrow.take _).append (.cons hi1 (hrow.drop _)), hg, by rw [rsize_append, rsize_cons]; simp only [Kd.size]; omega, stt.2, hB, by rw [rops_append, rops_cons]; simp only [Kd.ops]; omega, fun v13 kn13 H13 ht13 hK13 hv13 hr13 U13 => ?_⟩
      have U7e := (U57.trans (Upto.of_same S712)).trans U13
      rcases hr13 with rfl | ⟨a13, rfl⟩
      · refine ⟨_, rfl, rfl, _, rfl, ifNP ?_⟩
        refine ⟨_, _, _, kn13, rfl, ht13, hK13, U7e, fun cut hc ht' => ?_⟩
        rcases Nat.lt_or_ge cut (sp + 2 + i) with h3 | h3
        · exact hno cut h3 ht'
        · have : cut = sp + 2 + i := by omega
          subst this
          obtain ⟨x, y, e, _, _, _, h9⟩ := ht'
          rw [hkx] at e
          injection e with e
          injection e with e1 e2
          subst e1
          exact hv13.mp rfl h9
      · have hL2 : L (r.take sp ++ x1 :: r.drop (sp + 2 + i)) (.p c) := Classical.byContradiction fun h => (nomatch (hv13.mpr h))
        refine ⟨_, rfl, rfl, _, rfl, ifNN (fun h => nomatch h) ?_⟩
        refine ⟨_, rfl, _, rfl, _, rfl, by show 4 ≤ sizeLine; decide, fun pz npz => ?_⟩
        have Sz := same_new npz (.tup [.str "behind", .int (sp : Nat), .ref a13, .ref a7])
        exact q _ kn13 _ (ht13.same Sz) hK13 ⟨fun h => (nomatch h), fun h => absurd ⟨sp + 2 + i, x1, x2, hkx, by omega, hcl, hL1, hL2⟩ h⟩ (.inr ⟨_, rfl⟩) (U7e.trans (Upto.of_same Sz))
  · rintro σ H5 ⟨x6, x7, x8, kn5, rfl, ht5, hK5, U5, hno⟩
    refine q .non kn5 H5 ht5 hK5 ⟨fun _ ⟨cut, h⟩ => ?_, fun _ => rfl⟩ (.inl rfl) U5
    have hcut : cut ≤ r.length := by obtain ⟨_, _, _, _, h6, _⟩ := h; exact h6
    exact hno cut (by omega) h
theorem m_ahead1 (T : Txt w K mg C) {m j : Nat} (C_paper : GMet P w K mg base j C "paper" (spPaper P w C m)) (hj : 1 ≤ j) : GMet P w K mg base (j + 1) C "ahead_paper" (spAhead P w C (m + 1)) := by
  refine met_of T.dT_ahead_paper scT_ahead_paper (fun vs H Q ⟨_, _, _, _, _, _, _, _, _, _, _, _, _, _, _, _, e, _⟩ => by rw [e]; rfl) fun f cdv A outer s H vs Q hr ⟨t, M, fs, fg, wt, met, kn, rt, js, g, r, c, B, sp, x1, x2, e, ht, hK, hrt, hrow, hg, hkx, hz, hst, hB, hm, q⟩ => ?_
  subst e
  refine ⟨_, (pss_cons (ps_asg (pe_ix ix_list (pe_fld (pv 0) rfl) (pe_ix ix_tup (pv 1) (pv 2) (fun _ _ => rfl)) (fun _ _ => rfl)) (pg_tup rfl (pgs_cons (pg_name (i := 4) scT_ahead_paper.nd rfl (by first | exact Or.inl rfl | exact Or.inr rfl)) (pgs_cons (pg_name (i := 5) scT_ahead_paper.nd rfl (by first | exact Or.inl rfl | exact Or.inr rfl)) pgs_nil))))
    (pss_cons (ps_for PassesOwn.never rfl (pi_range1 rfl T.m_range (pa_cons (pv 2) pa_nil)) (pg_name (i := 6) scT_ahead_paper.nd rfl (by first | exact Or.inl rfl | exact Or.inr rfl))
      (pss_cons (ps_set (i := 7) scT_ahead_paper.nd rfl (by first | exact Or.inl rfl | exact Or.inr rfl) (pe_gm C_paper hr (by omega) (pv 0) (pa_cons (pe_slice sl_tupA (pv 1) (po_some (pv 6)) (po_some (pv 2))) (pa_cons (pv 4) pa_nil))))
      (pss_cons (ps_set (i := 8) scT_ahead_paper.nd rfl (by first | exact Or.inl rfl | exact Or.inr rfl) (pe_ifExp (pt_cmpR op_isN (pv 7) pe_non (nomark _)) pe_non (pe_gm C_paper hr (by omega) (pv 0) (pa_cons (pe_op op_catA (pe_op op_catA (pe_slice sl_tupA (pv 1) po_none (po_some (pv 6))) (pe_tup (pa_cons (pv 5) pa_nil))) (pe_slice sl_tupA (pv 1) (po_some (pe_op op_add (pv 2) pe_int)) po_none)) (pa_cons (pv 3) pa_nil)))))
      (pss_one (ps_if (pt_cmpR op_notN (pv 8) pe_non (nomark _))
        (pss_one (ps_ret (pe_tup (pa_cons pe_str (pa_cons (pv 6) (pa_cons (pv 8) (pa_cons (pv 7) pa_nil)))))))
        pss_nil)))))
    (pss_one (ps_ret pe_non)))), ?_⟩
  have zl : sizeLine = 16777216 := sizeLine_eq
  have hjl := Paired.length hrow
  have hrl := len_le_rsize r
  have hsp : sp < r.length := (List.getElem?_eq_some_iff.mp hkx).1
  obtain ⟨jx, hjx, hmx⟩ := pget hrow hkx
  have hix : ((ixs js).map V.int)[sp]? = some (.int (jx : Nat)) := by rw [List.getElem?_map, List.getElem?_map, hjx]; rfl
  have hil : ((ixs js).map V.int).length = r.length := by rw [List.length_map, List.length_map]; exact hjl
  obtain ⟨prs, hpairs, hpr⟩ := ht.pairs
  obtain ⟨pv1, hpv, hpo⟩ := pget hpr hmx
  obtain ⟨pa, i2, i1, rfl, hpa, hi2, hi1⟩ : ∃ (a : Addr) (i j : Nat), pv1 = .ref a ∧ H a = some (.tup [.int (i : Nat), .int (j : Nat)]) ∧ M[i]? = some x2 ∧ M[j]? = some x1 := hpo
  refine ⟨_, rfl, t.x, C, t.dx, _, _, rfl, ht.ins, T.cl, T.n_pairs, rfl, _, rfl, _, rfl, _, _, _, _, rfl, rfl, SqT.of hrt, atI_nat hix, _, _, _, _, rfl, rfl, SqL.of hpairs, atI_nat hpv, _, _, rfl, SqT.of hpa, rfl, _, _, rfl, _, _, rfl, rfl, ?_⟩
  have heq := fun (cut : Nat) (h1 : cut ≤ sp) => take_a_eq hkx h1
  refine ⟨_, rfl, _, rfl, by omega, by omega, ?_⟩
  rw [show (((sp : Nat) : Int)).toNat = sp by omega]
  refine for_range (lo := 0) (n := sp) (fun i σ H5 => ∃ (x6 x7 x8 : Option V) (kn' : List (NKy × V)), σ = [some (.ref t.x), some (.ref rt), some (.int (sp : Nat)), some (.int (g : Nat)), some (.int (i2 : Nat)), some (.int (i1 : Nat)), x6, x7, x8] ∧ TabAt P w C H5 t M fs fg wt met kn' ∧ Kn B M kn' ∧ Upto t.ls H H5 ∧ ∀ cut, cut < i → ¬ TakeA r (.p c) sp cut)
    ⟨none, none, none, kn, rfl, ht, hK, Upto.refl _ _, fun cut h3 => by omega⟩ ?_ ?_
  · rintro i σ H5 hi ⟨x6, x7, x8, kn5, rfl, ht5, hK5, U5, hno⟩
    have ecut : (0 : Int) + ((i : Nat) : Int) = ((i : Nat) : Int) := by omega
    have eq1 := heq i (by omega)
    have stt := (show Sts B (r.take i ++ ((r.take sp).drop i ++ .a x2 x1 :: r.drop (sp + 1))) (.p c) by rw [← eq1]; exact hst).la
    have hops : rops r = rops (r.take i) + (rops ((r.take sp).drop i) + (x2.ops + x1.ops + 1 + rops (r.drop (sp + 1)))) := by
      conv => lhs; rw [eq1]
      rw [rops_append, rops_append, rops_cons]; rfl
    have hsz : rsize r = rsize (r.take i) + (rsize ((r.take sp).drop i) + (x2.size + x1.size + rsize (r.drop (sp + 1)))) := by
      conv => lhs; rw [eq1]
      rw [rsize_append, rsize_append, rsize_cons]; rfl
    have t5 := U5.tk ht.nt
    refine ⟨_, rfl, t.x, t.dx, _, rfl, ht5.ins, rfl, _, rfl, _, rfl, _, rfl, _, rfl, _, rfl, slT (t5 _ _ hrt) fun p1 H6 S6 h6 => ?_⟩
    rw [ecut, cutV_mid _ (by omega) (by omega), ← List.drop_take] at h6
    have e6 : (((ixs js).map V.int).take sp).drop i = (ixs ((js.take sp).drop i)).map V.int := by simp only [ixs, List.map_take, List.map_drop]
    rw [e6] at h6
    have ht6 := ht5.same S6
    refine ⟨_, rfl, t, M, fs, fg, wt, met, kn5, p1, _, i2, _, x2, B, rfl, ht6, hK5, h6, (hrow.take _).drop _, hi2, by omega, stt.1, hB, by omega, fun v7 kn7 H7 ht7 hK7 hv7 hr7 U7 => ?_⟩
    have U57 := (U5.trans (Upto.of_same S6)).trans U7
    have t57 := U57.tk ht.nt
    rcases hr7 with rfl | ⟨a7, rfl⟩
    · refine ⟨_, rfl, rfl, _, rfl, ifP ?_⟩
      refine ⟨_, rfl, rfl, _, rfl, ifNP ?_⟩
      refine ⟨_, _, _, kn7, rfl, ht7, hK7, U57, fun cut hc ht' => ?_⟩
      rcases Nat.lt_or_ge cut i with h3 | h3
      · exact hno cut h3 ht'
      · have : cut = i := by omega
        subst this
        obtain ⟨x, y, e, _, h9, _⟩ := ht'
        rw [hkx] at e
        injection e with e
        injection e with e1 e2
        subst e1
        exact hv7.mp rfl h9
    · have hL1 : L ((r.take sp).drop i) x2 := Classical.byContradiction fun h => (nomatch (hv7.mpr h))
      refine ⟨_, rfl, rfl, _, rfl, ifN (fun h => nomatch h) ?_⟩
      refine ⟨_, rfl, t.x, t.dx, _, rfl, ht7.ins, rfl, ?_⟩
      refine ⟨_, rfl, _, rfl, _, rfl, slT (t57 _ _ hrt) fun p8 H8 S8 h8 => ?_⟩
      rw [show ((0 : Int) + ((i : Nat) : Int)) = ((i : Nat) : Int) from by omega, cutV_take] at h8
      refine ⟨_, rfl, by show 1 ≤ sizeLine; decide, fun p9 np9 => ?_⟩
      have S9 := same_new np9 (.tup [.int (i1 : Nat)])
      refine catT (S9 _ _ h8) upd_same (by rw [List.length_take]; show _ + 1 ≤ _; omega) fun p10 H10 S10 h10 => ?_
      have S810 := (S8.trans S9).trans S10
      refine ⟨_, rfl, _, rfl, _, _, rfl, rfl, _, rfl, ?_⟩
      dsimp only [tNoPart]
      refine slT (S810 _ _ (t57 _ _ hrt)) fun p11 H11 S11 h11 => ?_
      rw [show ((sp : Nat) : Int) + 1 = ((sp + 1 : Nat) : Int) from by omega, cutV_drop] at h11
      refine catT (S11 _ _ h10) h11 (by simp only [List.length_append, List.length_take, List.length_drop, List.length_cons, List.length_nil]; omega) fun p12 H12 S12 h12 => ?_
      have S712 := (S810.trans S11).trans S12
      have e12 : ((ixs js).map V.int).take i ++ [V.int (i1 : Nat)] ++ ((ixs js).map V.int).drop (sp + 1) = (ixs (js.take i ++ i1 :: js.drop (sp + 1))).map V.int := by simp [ixs, List.map_take, List.map_drop]
      rw [e12] at h12
      have ht12 := ht7.same S712
      refine ⟨_, rfl, t, M, fs, fg, wt, met, kn7, p12, _, g, r.take i ++ x1 :: r.drop (sp + 1), .p c, B, rfl, ht12, hK7, h12, (hrow.take _).append (.cons hi1 (hrow.drop _)), hg, by rw [rsize_append, rsize_cons]; simp only [Kd.size]; omega, stt.2, hB, by rw [rops_append, rops_cons]; simp only [Kd.ops]; omega, fun v13 kn13 H13 ht13 hK13 hv13 hr13 U13 => ?_⟩
      have U7e := (U57.trans (Upto.of_same S712)).trans U13
      rcases hr13 with rfl | ⟨a13, rfl⟩
      · refine ⟨_, rfl, rfl, _, rfl, ifNP ?_⟩
        refine ⟨_, _, _, kn13, rfl, ht13, hK13, U7e, fun cut hc ht' => ?_⟩
        rcases Nat.lt_or_ge cut i with h3 | h3
        · exact hno cut h3 ht'
        · have : cut = i := by omega
          subst this
          obtain ⟨x, y, e, _, _, h9⟩ := ht'
          rw [hkx] at e
          injection e with e
          injection e with e1 e2
          subst e2
          exact hv13.mp rfl h9
      · have hL2 : L (r.take i ++ x1 :: r.drop (sp + 1)) (.p c) := Classical.byContradiction fun h => (nomatch (hv13.mpr h))
        refine ⟨_, rfl, rfl, _, rfl, ifNN (fun h => nomatch h) ?_⟩
        refine ⟨_, rfl, _, rfl, _, rfl, by show 4 ≤ sizeLine; decide, fun pz npz => ?_⟩
        have Sz := same_new npz (.tup [.str "ahead", .int (0 + (i : Nat)), .ref a13, .ref a7])
        exact q _ kn13 _ (ht13.same Sz) hK13 ⟨fun h => (nomatch h), fun h => absurd ⟨i, x1, x2, hkx, hi, hL1, hL2⟩ h⟩ (.inr ⟨_, rfl⟩) (U7e.trans (Upto.of_same Sz))
  · rintro σ H5 ⟨x6, x7, x8, kn5, rfl, ht5, hK5, U5, hno⟩
    refine q .non kn5 H5 ht5 hK5 ⟨fun _ ⟨cut, h⟩ => ?_, fun _ => rfl⟩ (.inl rfl) U5
    have hcut : cut < sp := by obtain ⟨_, _, _, h6, _⟩ := h; exact h6
    exact hno cut hcut h
end
end L2.G
set_option Elab.async false
set_option linter.all false
set_option maxRecDepth 100000
set_option maxHeartbeats 8000000
/-! The program's search: waiting_paper, paper_anew, paper. Printed by mk_c.py. -/
namespace L2.G
open PySem PySem.Spec PyProof.Rows WW
theorem inV_core (a c : Nat) : inV (V.str (ch a)) [V.str "", V.str (ch c)] = decide (a = c) := by
  unfold inV
  have h1 : eqV (V.str "") (V.str (ch a)) = false := by
    show (("" : Str) == ch a) = false
    refine beq_eq_false_iff_ne.mpr fun e => ?_
    have := congrArg (fun x : Str => x.cps.size) e
    simp at this
    exact absurd this (by decide)
  rw [List.any_cons, List.any_cons, List.any_nil, h1, Bool.false_or, Bool.or_false]
  show (ch c == ch a) = decide (a = c)
  by_cases h : a = c
  · subst h; rw [decide_eq_true rfl]; exact beq_self_eq_true _
  · rw [decide_eq_false h]
    exact beq_eq_false_iff_ne.mpr fun e => h (ch_inj e).symm
def spWait (P : Program) (w : World) (C : Addr) (m : Nat) : SpG := fun vs H Q => ∃ (t : Adr) (M : List (Kd Nat)) (fs fg : Nat → Int) (wt met : Int) (kn : List (NKy × V)) (rt : Addr) (js : List Nat) (g : Nat) (r : List (Kd Nat)) (c : Nat) (B : List Stt), vs = [.ref t.x, .ref rt, .int (g : Nat)] ∧ TabAt P w C H t M fs fg wt met kn ∧ Kn B M kn ∧
  H rt = some (.tup ((ixs js).map .int)) ∧ RowIx M js r ∧ M[g]? = some (.p c) ∧ r ≠ [.p c] ∧ rsize r + 1 ≤ 30 ∧ Sts B r (.p c) ∧ B.length < sizeLine ∧ rops r < m ∧
  ∀ (v : V) (kn' : List (NKy × V)) (H' : Hp), TabAt P w C H' t M fs fg wt met kn' → Kn B M kn' → (v = .non ↔ ¬ L r (.p c)) → (v = .non ∨ ∃ a, v = .ref a) → Upto t.ls H H' → Q v H'
section
variable {P : Program} {w : World} {K : PySem.W.Frag} {mg : Str → Option Value} {base : Heap} {C : Addr}
theorem row_item {M : List (Kd Nat)} {js : List Nat} {r : List (Kd Nat)} (hrow : RowIx M js r) {i : Nat} {x : V} (hx : ((ixs js).map V.int)[i]? = some x) : ∃ (j : Nat) (z : Kd Nat), x = .int (j : Nat) ∧ r[i]? = some z ∧ M[j]? = some z := by
  have hlen := Paired.length hrow
  rw [List.getElem?_map, List.getElem?_map] at hx
  obtain ⟨y, hy, e1⟩ := Option.map_eq_some_iff.mp hx
  obtain ⟨j, hj, e2⟩ := Option.map_eq_some_iff.mp hy
  subst e2
  subst e1
  obtain ⟨hjl, _⟩ := List.getElem?_eq_some_iff.mp hj
  obtain ⟨z, hz⟩ : ∃ z, r[i]? = some z := ⟨r[i]'(by omega), List.getElem?_eq_getElem _⟩
  obtain ⟨j', hj', hm⟩ := pget hrow hz
  rw [hj] at hj'
  cases hj'
  exact ⟨j, z, rfl, hz, hm⟩
theorem m_waiting1 (T : Txt w K mg C) {m j : Nat} (C_behind_paper : GMet P w K mg base j C "behind_paper" (spBehind P w C m)) (C_ahead_paper : GMet P w K mg base j C "ahead_paper" (spAhead P w C m)) : GMet P w K mg base (j + 1) C "waiting_paper" (spWait P w C m) := by
  refine met_of T.dT_waiting_paper scT_waiting_paper (fun vs H Q ⟨_, _, _, _, _, _, _, _, _, _, _, _, _, e, _⟩ => by rw [e]; rfl) fun f cdv A outer s H vs Q hr ⟨t, M, fs, fg, wt, met, kn, rt, js, g, r, c, B, e, ht, hK, hrt, hrow, hg, hne, hz, hst, hB, hm, q⟩ => ?_
  subst e
  refine ⟨_, (pss_cons (ps_for PassesOwn.never rfl (pi_enumT rfl T.m_enumerate (pa_cons (pv 1) pa_nil)) (pg_tup rfl (pgs_cons (pg_name (i := 3) scT_waiting_paper.nd rfl (by first | exact Or.inl rfl | exact Or.inr rfl)) (pgs_cons (pg_name (i := 4) scT_waiting_paper.nd rfl (by first | exact Or.inl rfl | exact Or.inr rfl)) pgs_nil)))
      (pss_one (ps_if (PW.pt (pw_and (pt_cmpR op_ne (pe_ix ix_list (pe_fld (pv 0) rfl) (pv 4) (fun _ _ => rfl)) pe_str (nomark _)) (pw_and1 (pt_cmpR op_in_seq (pe_ix ix_list (pe_fld (pv 0) rfl) (pv 4) (fun _ _ => rfl)) (pe_tup (pa_cons pe_str (pa_cons (pe_ix ix_list (pe_fld (pv 0) rfl) (pv 2) (fun _ _ => rfl)) pa_nil))) (by with_unfolding_all rfl)))))
        (pss_cons (ps_set (i := 5) scT_waiting_paper.nd rfl (by first | exact Or.inl rfl | exact Or.inr rfl) (pe_ifExp (pt_cmpR op_eq (pe_ix ix_list (pe_fld (pv 0) rfl) (pv 4) (fun _ _ => rfl)) pe_str (nomark _)) (pe_gm C_behind_paper hr (by omega) (pv 0) (pa_cons (pv 1) (pa_cons (pv 3) (pa_cons (pv 2) pa_nil)))) pe_non))
        (pss_cons (ps_if (pt_cmpR op_eq (pe_ix ix_list (pe_fld (pv 0) rfl) (pv 4) (fun _ _ => rfl)) pe_str (nomark _))
          (pss_one (ps_set (i := 5) scT_waiting_paper.nd rfl (by first | exact Or.inl rfl | exact Or.inr rfl) (pe_gm C_ahead_paper hr (by omega) (pv 0) (pa_cons (pv 1) (pa_cons (pv 3) (pa_cons (pv 2) pa_nil))))))
          pss_nil)
        (pss_one (ps_if (pt_cmpR op_notN (pv 5) pe_non (nomark _))
          (pss_one (ps_ret (pv 5)))
          pss_nil))))
        pss_nil)))
    (pss_one (ps_ret pe_non))), ?_⟩
  have zl : sizeLine = 16777216 := sizeLine_eq
  have hlen := Paired.length hrow
  have hil : ((ixs js).map V.int).length = r.length := by rw [List.length_map, List.length_map]; exact hlen
  refine ⟨_, rfl, rt, _, rfl, SqT.of hrt, ?_⟩
  refine for_it walk_enumT (fun i σ H5 => ∃ (x3 x4 x5 : Option V) (kn' : List (NKy × V)), σ = [some (.ref t.x), some (.ref rt), some (.int (g : Nat)), x3, x4, x5] ∧ TabAt P w C H5 t M fs fg wt met kn' ∧ Kn B M kn' ∧ Upto t.ls H H5 ∧
      ∀ sp, sp < i → r[sp]?.map Kd.core = some c → ¬ ((∃ cut, TakeB r (.p c) sp cut) ∨ ∃ cut, TakeA r (.p c) sp cut))
    ⟨none, none, none, kn, rfl, ht, hK, Upto.refl _ _, fun sp h => by omega⟩ (fun i σ H5 _ ⟨_, _, _, _, _, _, _, U5, _⟩ => SqT.of ((U5.tk ht.nt) _ _ hrt)) ?_ ?_
  · rintro i xx σ H5 H6 hi ⟨x3, x4, x5, kn5, rfl, ht5', hK5, U5', hno⟩ ⟨Tp, y1, y2, rfl, nT, rfl, hy1, hy2⟩
    have S6 := same_new nT (.tup [y1, y2])
    have ht5 := ht5'.same S6
    have U5 : Upto t.ls H (upd H5 Tp (.tup [y1, y2])) := U5'.trans (Upto.of_same S6)
    obtain ⟨j, z, rfl, hz1, hmz⟩ := row_item hrow hy2
    cases hy1
    refine ⟨_, _, rfl, SqT.of upd_same, rfl, _, _, rfl, _, _, rfl, rfl, ?_⟩
    generalize upd H5 Tp (.tup [.int (i : Nat), .int (j : Nat)]) = H6 at *
    have t5 := U5.tk ht.nt
    -- nothing at this place
    have next : ∀ (kn6 : List (NKy × V)) (H7 : Hp) (x5' : Option V), TabAt P w C H7 t M fs fg wt met kn6 → Kn B M kn6 → Upto t.ls H H7 → (r[i]?.map Kd.core = some c → ¬ ((∃ cut, TakeB r (.p c) i cut) ∨ ∃ cut, TakeA r (.p c) i cut)) →
        ∃ (y3 y4 y5 : Option V) (kn' : List (NKy × V)), [some (.ref t.x), some (.ref rt), some (.int (g : Nat)), some (.int (i : Nat)), some (.int (j : Nat)), x5'] = [some (.ref t.x), some (.ref rt), some (.int (g : Nat)), y3, y4, y5] ∧ TabAt P w C H7 t M fs fg wt met kn' ∧ Kn B M kn' ∧ Upto t.ls H H7 ∧
          ∀ sp, sp < i + 1 → r[sp]?.map Kd.core = some c → ¬ ((∃ cut, TakeB r (.p c) sp cut) ∨ ∃ cut, TakeA r (.p c) sp cut) := fun kn6 H7 x5' h7 hK7 U7 hh =>
      ⟨_, _, _, kn6, rfl, h7, hK7, U7, fun sp hsp => by
        rcases Nat.lt_or_ge sp i with h | h
        · exact hno sp h
        · have : sp = i := by omega
          subst this
          exact hh⟩
    have noP : ∀ {cc : Nat}, r[i]? = some (.p cc) → ¬ ((∃ cut, TakeB r (.p c) i cut) ∨ ∃ cut, TakeA r (.p c) i cut) := fun h hh => by
      rcases hh with ⟨cut, x, y, e, _⟩ | ⟨cut, x, y, e, _⟩ <;> (rw [h] at e; cases e)
    refine ⟨_, rfl, t.x, C, t.dx, _, _, rfl, ht5.ins, T.cl, T.n_forms, rfl, _, rfl, _, _, _, _, rfl, rfl, SqL.of ht5.forms, atI_nat (mget hmz), rfl, _, rfl, ?_⟩
    have test : form z ≠ "plain" → (∀ cc, z ≠ .p cc) := fun h cc e => h (by rw [e]; rfl)
    by_cases hp : ∃ cc, z = .p cc
    · obtain ⟨cc, rfl⟩ := hp
      exact ifNP (next kn5 H6 x5 ht5 hK5 U5 fun _ => noP hz1)
    have hfp : V.str (form z) ≠ V.str "plain" := by
      cases z with
      | p cc => exact absurd ⟨cc, rfl⟩ hp
      | b x y => exact nbp
      | a x y => exact nap
    refine ifNN hfp ?_
    refine ⟨_, rfl, t.x, C, t.dx, _, _, rfl, ht5.ins, T.cl, T.n_cores, rfl, _, rfl, _, _, _, _, rfl, rfl, SqL.of ht5.cores, atI_nat (mget hmz), ?_⟩
    refine ⟨_, rfl, t.x, C, t.dx, _, _, rfl, ht5.ins, T.cl, T.n_cores, rfl, _, rfl, _, _, _, _, rfl, rfl, SqL.of ht5.cores, atI_nat (mget hg), by show 2 ≤ sizeLine; decide, fun p2 np2 => ?_⟩
    have S7 := same_new np2 (.tup [.str "", .str (ch c)])
    have ht7 := ht5.same S7
    have U7 := U5.trans (Upto.of_same S7)
    refine ⟨p2, _, rfl, .inr (SqT.of upd_same), rfl, rfl, _, rfl, ?_⟩
    show if inV (V.str (ch z.core)) [V.str "", V.str (ch c)] = true then _ else _
    rw [inV_core]
    refine ite2 (fun hc => ?_) (fun hc => ?_)
    · have hc := of_decide_eq_true hc
      have t7 := U7.tk ht.nt
      refine ⟨_, rfl, t.x, C, t.dx, _, _, rfl, ht7.ins, T.cl, T.n_forms, rfl, _, rfl, _, _, _, _, rfl, rfl, SqL.of ht7.forms, atI_nat (mget hmz), rfl, _, rfl, ?_⟩
      cases z with
      | p cc => exact absurd ⟨cc, rfl⟩ hp
      | b x y =>
        refine ifP ?_
        refine ⟨_, rfl, t.x, t.dx, _, rfl, ht7.ins, rfl, _, rfl, _, rfl, _, rfl, t, M, fs, fg, wt, met, kn5, rt, js, g, r, c, B, i, x, y, rfl, ht7, hK5, t7 _ _ hrt, hrow, hg, hz1, hz, hst, hB, hm, fun v kn8 H8 ht8 hK8 hv8 hr8 U8 => ?_⟩
        have U78 := U7.trans U8
        refine ⟨_, rfl, t.x, C, t.dx, _, _, rfl, ht8.ins, T.cl, T.n_forms, rfl, _, rfl, _, _, _, _, rfl, rfl, SqL.of ht8.forms, atI_nat (mget hmz), rfl, _, rfl, ifN nba ?_⟩
        rcases hr8 with rfl | ⟨a8, rfl⟩
        · refine ⟨_, rfl, rfl, _, rfl, ifNP ?_⟩
          refine next kn8 H8 _ ht8 hK8 U78 fun _ hh => ?_
          rcases hh with h | ⟨cut, x', y', e, _⟩
          · exact hv8.mp rfl h
          · rw [hz1] at e; cases e
        · refine ⟨_, rfl, rfl, _, rfl, ifNN (fun h => nomatch h) ?_⟩
          have ex : ∃ cut, TakeB r (.p c) i cut := Classical.byContradiction fun h => (nomatch (hv8.mpr h))
          exact ⟨_, rfl, q _ kn8 H8 ht8 hK8 ⟨fun h => (nomatch h), fun h => absurd (L.plain_iff.mpr (.inr (.inl ⟨i, ex⟩))) h⟩ (.inr ⟨_, rfl⟩) U78⟩
      | a y x =>
        refine ifN nab ?_
        refine ⟨_, rfl, t.x, C, t.dx, _, _, rfl, ht7.ins, T.cl, T.n_forms, rfl, _, rfl, _, _, _, _, rfl, rfl, SqL.of ht7.forms, atI_nat (mget hmz), rfl, _, rfl, ifP ?_⟩
        refine ⟨_, rfl, t.x, t.dx, _, rfl, ht7.ins, rfl, _, rfl, _, rfl, _, rfl, t, M, fs, fg, wt, met, kn5, rt, js, g, r, c, B, i, x, y, rfl, ht7, hK5, t7 _ _ hrt, hrow, hg, hz1, hz, hst, hB, hm, fun v kn8 H8 ht8 hK8 hv8 hr8 U8 => ?_⟩
        have U78 := U7.trans U8
        rcases hr8 with rfl | ⟨a8, rfl⟩
        · refine ⟨_, rfl, rfl, _, rfl, ifNP ?_⟩
          refine next kn8 H8 _ ht8 hK8 U78 fun _ hh => ?_
          rcases hh with ⟨cut, x', y', e, _⟩ | h
          · rw [hz1] at e; cases e
          · exact hv8.mp rfl h
        · refine ⟨_, rfl, rfl, _, rfl, ifNN (fun h => nomatch h) ?_⟩
          have ex : ∃ cut, TakeA r (.p c) i cut := Classical.byContradiction fun h => (nomatch (hv8.mpr h))
          exact ⟨_, rfl, q _ kn8 H8 ht8 hK8 ⟨fun h => (nomatch h), fun h => absurd (L.plain_iff.mpr (.inr (.inr ⟨i, ex⟩))) h⟩ (.inr ⟨_, rfl⟩) U78⟩
    · have hc : ¬ z.core = c := of_decide_eq_false (Bool.eq_false_iff.mpr hc)
      refine next kn5 _ x5 ht7 hK5 U7 fun e => ?_
      rw [hz1] at e
      injection e with e
      exact absurd e hc
  · rintro σ H5 ⟨x3, x4, x5, kn5, rfl, ht5, hK5, U5, hno⟩
    refine q .non kn5 H5 ht5 hK5 ⟨fun _ hL => ?_, fun _ => rfl⟩ (.inl rfl) U5
    rcases L.core_iff.mp hL with e | ⟨sp, cut, h1, h2⟩ | ⟨sp, cut, h1, h2⟩
    · exact hne e
    · have hsp : sp < r.length := by
        obtain ⟨x, y, e, _⟩ := h2
        exact (List.getElem?_eq_some_iff.mp e).1
      exact hno sp (by omega) h1 (.inl ⟨cut, h2⟩)
    · have hsp : sp < r.length := by
        obtain ⟨x, y, e, _⟩ := h2
        exact (List.getElem?_eq_some_iff.mp e).1
      exact hno sp (by omega) h1 (.inr ⟨cut, h2⟩)
theorem m_anew1 (T : Txt w K mg C) {m j : Nat} (C_paper : GMet P w K mg base j C "paper" (spPaper P w C m)) (C_waiting_paper : GMet P w K mg base (j + 2) C "waiting_paper" (spWait P w C (m + 1))) : GMet P w K mg base (j + 3) C "paper_anew" (spPaper P w C (m + 1)) := by
  have C_joined_paper : GMet P w K mg base 0 C "joined_paper" (fun _ _ _ => False) := met_none T.dT_joined_paper fun _ _ _ h => h
  refine met_of T.dT_paper_anew scT_paper_anew (fun vs H Q ⟨_, _, _, _, _, _, _, _, _, _, _, _, _, e, _⟩ => by rw [e]; rfl) fun f cdv A outer s H vs Q hr ⟨t, M, fs, fg, wt, met, kn, rt, js, g, r, k, B, e, ht, hK, hrt, hrow, hg, hz, hst, hB, hm, q⟩ => ?_
  subst e
  refine ⟨_, (pss_cons (ps_if (pt_cmpR (op_eqD hr.r.units) (pv 1) (pe_tup (pa_cons (pv 2) pa_nil)) (nomark _))
      (pss_one (ps_ret (pe_tup (pa_cons pe_str (pa_cons (pe_ix ix_list (pe_fld (pv 0) rfl) (pv 2) (fun _ _ => rfl)) pa_nil)))))
      pss_nil)
    (pss_cons (ps_set (i := 3) scT_paper_anew.nd rfl (by first | exact Or.inl rfl | exact Or.inr rfl) (pe_ix ix_list (pe_fld (pv 0) rfl) (pv 2) (fun _ _ => rfl)))
    (pss_cons (ps_asg (pe_ix ix_list (pe_fld (pv 0) rfl) (pv 2) (fun _ _ => rfl)) (pg_tup rfl (pgs_cons (pg_name (i := 4) scT_paper_anew.nd rfl (by first | exact Or.inl rfl | exact Or.inr rfl)) (pgs_cons (pg_name (i := 5) scT_paper_anew.nd rfl (by first | exact Or.inl rfl | exact Or.inr rfl)) pgs_nil))))
    (pss_cons (ps_if (pt_cmpR op_eq (pv 3) pe_str (nomark _))
      (pss_cons (ps_set (i := 6) scT_paper_anew.nd rfl (by first | exact Or.inl rfl | exact Or.inr rfl) (pe_gm C_paper hr (by omega) (pv 0) (pa_cons (pe_op op_catA (pv 1) (pe_tup (pa_cons (pv 5) pa_nil))) (pa_cons (pv 4) pa_nil))))
      (pss_one (ps_ret (pe_ifExp (pt_cmpR op_isN (pv 6) pe_non (nomark _)) pe_non (pe_tup (pa_cons pe_str (pa_cons (pv 6) pa_nil)))))))
      pss_nil)
    (pss_cons (ps_if (pt_cmpR op_eq (pv 3) pe_str (nomark _))
      (pss_cons (ps_set (i := 6) scT_paper_anew.nd rfl (by first | exact Or.inl rfl | exact Or.inr rfl) (pe_gm C_paper hr (by omega) (pv 0) (pa_cons (pe_op op_catA (pe_tup (pa_cons (pv 4) pa_nil)) (pv 1)) (pa_cons (pv 5) pa_nil))))
      (pss_one (ps_ret (pe_ifExp (pt_cmpR op_isN (pv 6) pe_non (nomark _)) pe_non (pe_tup (pa_cons pe_str (pa_cons (pv 6) pa_nil)))))))
      pss_nil)
    (pss_cons (ps_for PassesOwn.never rfl (pi_enumT rfl T.m_enumerate (pa_cons (pv 1) pa_nil)) (pg_tup rfl (pgs_cons (pg_name (i := 7) scT_paper_anew.nd rfl (by first | exact Or.inl rfl | exact Or.inr rfl)) (pgs_cons (pg_name (i := 8) scT_paper_anew.nd rfl (by first | exact Or.inl rfl | exact Or.inr rfl)) pgs_nil)))
      (pss_one (ps_if (pt_cmpR op_eq (pe_ix ix_list (pe_fld (pv 0) rfl) (pv 8) (fun _ _ => rfl)) pe_str (nomark _))
        (pss_cons ps_never (pss_one ps_never))
        pss_nil)))
    (pss_cons (ps_set (i := 6) scT_paper_anew.nd rfl (by first | exact Or.inl rfl | exact Or.inr rfl) (pe_ifExp (pt_cmpR op_eq (pv 3) pe_str (nomark _)) (pe_gm C_joined_paper hr (by omega) (pv 0) (pa_cons (pv 1) (pa_cons (pv 4) (pa_cons (pv 5) pa_nil)))) pe_non))
    (pss_one (ps_ret (pe_ifExp (pt_cmpR op_isN (pv 6) pe_non (nomark _)) (pe_gm C_waiting_paper hr (by omega) (pv 0) (pa_cons (pv 1) (pa_cons (pv 2) pa_nil))) (pv 6))))))))))), ?_⟩
  have zl : sizeLine = 16777216 := sizeLine_eq
  have hlen := Paired.length hrow
  have hil : ((ixs js).map V.int).length = r.length := by rw [List.length_map, List.length_map]; exact hlen
  have hrl := len_le_rsize r
  refine ⟨_, rfl, _, rfl, by show 1 ≤ sizeLine; decide, fun p np => ?_⟩
  have S1 := same_new np (.tup [.int (g : Nat)])
  have ht1 := ht.same S1
  refine ⟨_, _, .tup (SqT.of (S1 _ _ hrt)) (dp_ints _), .tup (SqT.of (show _ = some (.tup (([((g : Nat) : Int)] : List Int).map V.int)) from upd_same)) (dp_ints _), ints_shaped _, ints_shaped _, _, rfl, ?_⟩
  rw [eqv_ints]
  have U1 : Upto t.ls H (upd H p (.tup [.int (g : Nat)])) := Upto.of_same S1
  have hrt1 := S1 _ _ hrt
  generalize upd H p (.tup [.int (g : Nat)]) = H1 at *
  refine ite2 (fun c => ?_) (fun c => ?_)
  · have c := of_decide_eq_true c
    have er : r = [k] := by
      rw [ixs_idx ht.tnd hrow] at c
      cases r with
      | nil => simp at c
      | cons z r' =>
        cases r' with
        | nil =>
          cases hrow with
          | cons a _ =>
            have hz1 := List.mem_of_getElem? a
            have hk1 := List.mem_of_getElem? hg
            have e2 : idx M z = idx M k := by
              rw [idx_get ht.tnd hg, idx_get ht.tnd a]
              simp at c
              omega
            rw [idx_inj ht.tnd hz1 hk1 e2]
        | cons z2 r2 => simp at c
    obtain ⟨shs, hshapes, hsh⟩ := ht1.shapes
    obtain ⟨sv, hsv, _⟩ := KsAt.get hsh hg
    refine ⟨_, rfl, t.x, C, t.dx, _, _, rfl, ht1.ins, T.cl, T.n_shapes, rfl, _, rfl, _, _, _, _, rfl, rfl, SqL.of hshapes, atI_nat hsv, by show 2 ≤ sizeLine; decide, fun p2 np2 => ?_⟩
    have S2 := same_new np2 (.tup [.str "same", sv])
    exact q _ kn _ (ht1.same S2) hK ⟨fun h => (nomatch h), fun h => absurd (by rw [er]; exact .ax k) h⟩ (.inr ⟨_, rfl⟩) (U1.trans (Upto.of_same S2))
  have c := of_decide_eq_false (Bool.eq_false_iff.mpr c)
  have hne : r ≠ [k] := fun e => c (by
    rw [ixs_idx ht.tnd hrow, e]
    show [idx M k] = _
    rw [idx_get ht.tnd hg])
  refine ⟨_, rfl, t.x, C, t.dx, _, _, rfl, ht1.ins, T.cl, T.n_forms, rfl, _, rfl, _, _, _, _, rfl, rfl, SqL.of ht1.forms, atI_nat (mget hg), ?_⟩
  obtain ⟨prs, hpairs, hpr⟩ := ht1.pairs
  obtain ⟨pv1, hpv, hpo⟩ := pget hpr hg
  cases k with
  | b x y =>
    obtain ⟨pa, i1, i2, rfl, hpa, hi1, hi2⟩ : ∃ (a : Addr) (i j : Nat), pv1 = .ref a ∧ H1 a = some (.tup [.int (i : Nat), .int (j : Nat)]) ∧ M[i]? = some x ∧ M[j]? = some y := hpo
    refine ⟨_, rfl, t.x, C, t.dx, _, _, rfl, ht1.ins, T.cl, T.n_pairs, rfl, _, rfl, _, _, _, _, rfl, rfl, SqL.of hpairs, atI_nat hpv, _, _, rfl, SqT.of hpa, rfl, _, _, rfl, _, _, rfl, rfl, ?_⟩
    refine ⟨_, rfl, rfl, _, rfl, ifP ?_⟩
    refine ⟨_, rfl, t.x, t.dx, _, rfl, ht1.ins, rfl, _, rfl, _, rfl, by show 1 ≤ sizeLine; decide, fun p2 np2 => ?_⟩
    have S2 := same_new np2 (.tup [.int (i2 : Nat)])
    refine catT (S2 _ _ hrt1) upd_same (by rw [hil]; show _ + 1 ≤ _; omega) fun p3 H3 S3 h3 => ?_
    have S23 := S2.trans S3
    have ht3 := ht1.same S23
    have e3 : (ixs js).map V.int ++ [V.int (i2 : Nat)] = (ixs (js ++ [i2])).map V.int := by simp [ixs]
    rw [e3] at h3
    refine ⟨_, rfl, t, M, fs, fg, wt, met, kn, p3, _, i1, r ++ [y], x, B, rfl, ht3, hK, h3, hrow.append (.cons hi2 .nil), hi1, by rw [rsize_append, rsize_cons]; simp only [Kd.size] at hz; show rsize r + (y.size + 0) + x.size ≤ _; omega, hst.rb, hB, by rw [rops_append, rops_cons]; simp only [Kd.ops] at hm; show rops r + (y.ops + 0) + x.ops < _; omega, fun v kn4 H4 ht4 hK4 hv4 hr4 U4 => ?_⟩
    have U14 := (U1.trans (Upto.of_same S23)).trans U4
    rcases hr4 with rfl | ⟨a4, rfl⟩
    · refine ⟨_, rfl, rfl, _, rfl, ifP ?_⟩
      exact q .non kn4 H4 ht4 hK4 ⟨fun h hL => hv4.mp h (L.at_b_iff.mp hL), fun _ => rfl⟩ (.inl rfl) U14
    · refine ⟨_, rfl, rfl, _, rfl, ifN (fun h => nomatch h) ?_⟩
      refine ⟨_, rfl, by show 2 ≤ sizeLine; decide, fun p5 np5 => ?_⟩
      have S5 := same_new np5 (.tup [.str "givebehind", .ref a4])
      have hL : L (r ++ [y]) x := Classical.byContradiction fun h => (nomatch (hv4.mpr h))
      exact q _ kn4 _ (ht4.same S5) hK4 ⟨fun h => (nomatch h), fun h => absurd (L.at_b_iff.mpr hL) h⟩ (.inr ⟨_, rfl⟩) (U14.trans (Upto.of_same S5))
  | a y x =>
    obtain ⟨pa, i1, i2, rfl, hpa, hi1, hi2⟩ : ∃ (a : Addr) (i j : Nat), pv1 = .ref a ∧ H1 a = some (.tup [.int (i : Nat), .int (j : Nat)]) ∧ M[i]? = some y ∧ M[j]? = some x := hpo
    refine ⟨_, rfl, t.x, C, t.dx, _, _, rfl, ht1.ins, T.cl, T.n_pairs, rfl, _, rfl, _, _, _, _, rfl, rfl, SqL.of hpairs, atI_nat hpv, _, _, rfl, SqT.of hpa, rfl, _, _, rfl, _, _, rfl, rfl, ?_⟩
    refine ⟨_, rfl, rfl, _, rfl, ifN nab ?_⟩
    refine ⟨_, rfl, rfl, _, rfl, ifP ?_⟩
    refine ⟨_, rfl, t.x, t.dx, _, rfl, ht1.ins, rfl, _, rfl, by show 1 ≤ sizeLine; decide, fun p2 np2 => ?_⟩
    have S2 := same_new np2 (.tup [.int (i1 : Nat)])
    refine ⟨_, rfl, ?_⟩
    refine catT (show _ = some (.tup [V.int (i1 : Nat)]) from upd_same) (S2 _ _ hrt1) (by rw [hil]; show 1 + _ ≤ _; omega) fun p3 H3 S3 h3 => ?_
    have S23 := S2.trans S3
    have ht3 := ht1.same S23
    have e3 : [V.int (i1 : Nat)] ++ (ixs js).map V.int = (ixs (i1 :: js)).map V.int := by simp [ixs]
    rw [e3] at h3
    refine ⟨_, rfl, t, M, fs, fg, wt, met, kn, p3, _, i2, y :: r, x, B, rfl, ht3, hK, h3, .cons hi1 hrow, hi2, by rw [rsize_cons]; simp only [Kd.size] at hz; omega, hst.ra, hB, by rw [rops_cons]; simp only [Kd.ops] at hm; omega, fun v kn4 H4 ht4 hK4 hv4 hr4 U4 => ?_⟩
    have U14 := (U1.trans (Upto.of_same S23)).trans U4
    rcases hr4 with rfl | ⟨a4, rfl⟩
    · refine ⟨_, rfl, rfl, _, rfl, ifP ?_⟩
      exact q .non kn4 H4 ht4 hK4 ⟨fun h hL => hv4.mp h (L.at_a_iff.mp hL), fun _ => rfl⟩ (.inl rfl) U14
    · refine ⟨_, rfl, rfl, _, rfl, ifN (fun h => nomatch h) ?_⟩
      refine ⟨_, rfl, by show 2 ≤ sizeLine; decide, fun p5 np5 => ?_⟩
      have S5 := same_new np5 (.tup [.str "giveahead", .ref a4])
      have hL : L (y :: r) x := Classical.byContradiction fun h => (nomatch (hv4.mpr h))
      exact q _ kn4 _ (ht4.same S5) hK4 ⟨fun h => (nomatch h), fun h => absurd (L.at_a_iff.mpr hL) h⟩ (.inr ⟨_, rfl⟩) (U14.trans (Upto.of_same S5))
  | p c0 =>
    obtain ⟨pa, rfl, hpa⟩ : ∃ a, pv1 = .ref a ∧ H1 a = some (.tup [.int 0, .int 0]) := hpo
    refine ⟨_, rfl, t.x, C, t.dx, _, _, rfl, ht1.ins, T.cl, T.n_pairs, rfl, _, rfl, _, _, _, _, rfl, rfl, SqL.of hpairs, atI_nat hpv, _, _, rfl, SqT.of hpa, rfl, _, _, rfl, _, _, rfl, rfl, ?_⟩
    refine ⟨_, rfl, rfl, _, rfl, ifN npb ?_⟩
    refine ⟨_, rfl, rfl, _, rfl, ifN npa ?_⟩
    refine ⟨_, rfl, rt, _, rfl, SqT.of hrt1, ?_⟩
    refine for_it walk_enumT (fun i σ H5 => ∃ (x7 x8 : Option V), σ = [some (.ref t.x), some (.ref rt), some (.int (g : Nat)), some (.str "plain"), some (.int 0), some (.int 0), none, x7, x8] ∧ Same H1 H5)
      ⟨none, none, rfl, Same.refl _⟩ (fun i σ H5 _ ⟨_, _, _, S5⟩ => SqT.of (S5 _ _ hrt1)) ?_ ?_
    · rintro i xx σ H5 H6 hi ⟨x7, x8, rfl, S5⟩ ⟨Tp, y1, y2, rfl, nT, rfl, hy1, hy2⟩
      have S6 := S5.trans (same_new nT (.tup [y1, y2]))
      obtain ⟨j, z, rfl, hz1, hmz⟩ := row_item hrow hy2
      have ht6 := ht1.same S6
      refine ⟨_, _, rfl, SqT.of upd_same, rfl, _, _, rfl, _, _, rfl, rfl, ?_⟩
      refine ⟨_, rfl, t.x, C, t.dx, _, _, rfl, ht6.ins, T.cl, T.n_forms, rfl, _, rfl, _, _, _, _, rfl, rfl, SqL.of ht6.forms, atI_nat (mget hmz), rfl, _, rfl, ifN ?_ ⟨_, _, rfl, S6⟩⟩
      cases z with
      | p cc => exact npw
      | b x y => exact nbw
      | a x y => exact naw
    · rintro σ H5 ⟨x7, x8, rfl, S5⟩
      refine ⟨_, rfl, rfl, _, rfl, ifN npw ?_⟩
      refine ⟨_, rfl, rfl, _, rfl, ifP ?_⟩
      have ht5 := ht1.same S5
      refine ⟨_, rfl, t.x, t.dx, _, rfl, ht5.ins, rfl, _, rfl, _, rfl, t, M, fs, fg, wt, met, kn, rt, js, g, r, c0, B, rfl, ht5, hK, S5 _ _ hrt1, hrow, hg, hne, by simp only [Kd.size] at hz; omega, hst, hB, by simp only [Kd.ops] at hm; omega, fun v kn6 H6 ht6 hK6 hv6 hr6 U6 => ?_⟩
      exact q v kn6 H6 ht6 hK6 hv6 hr6 ((U1.trans (Upto.of_same S5)).trans U6)
theorem m_paper (T : Txt w K mg C) : ∀ m, GMet P w K mg base (4 * m + 4) C "paper" (spPaper P w C m)
  | 0 => met_none T.dT_paper fun vs H Q ⟨_, _, _, _, _, _, _, _, _, _, _, _, _, _, _, _, _, _, _, _, _, _, h, _⟩ => absurd h (Nat.not_lt_zero _)
  | m + 1 => by
    have h1 := m_paper T m
    have hb := m_behind1 (P := P) (base := base) T h1 (by omega)
    have ha := m_ahead1 (P := P) (base := base) T h1 (by omega)
    have hw := m_waiting1 (P := P) (base := base) T hb ha
    have hn := m_anew1 (P := P) (base := base) T h1 hw
    exact m_paper1 T hn (by omega)
end
end L2.G
set_option Elab.async false
set_option linter.all false
set_option maxRecDepth 100000
set_option maxHeartbeats 8000000
/-! A new table; prove; row_comes. Printed by mk_d.py. -/
namespace L2.G
open PySem PySem.Spec PyProof.Rows WW
def spInit (P : Program) (w : World) (C : Addr) : SpG := fun vs H Q => ∃ (x dx : Addr), vs = [.ref x] ∧ H x = some (.ins C dx []) ∧
  ∀ (t : Adr) (H' : Hp), t.x = x → TabAt P w C H' t [] (fun _ => 0) (fun _ => 1) 1 0 [] → Upto [x] H H' → (∀ a ∈ t.ls, a ≠ x → H a = none) → Q .non H'
section
variable {P : Program} {w : World} {K : PySem.W.Frag} {mg : Str → Option Value} {base : Heap} {C : Addr}
theorem m_init (T : Txt w K mg C) : GMet P w K mg base 1 C "__init__" (spInit P w C) := by
  refine met_of T.dT_init scT_init (fun vs H Q ⟨_, _, e, _⟩ => by rw [e]; rfl) fun f cdv A outer s H vs Q hr ⟨x, dx, e, hx, q⟩ => ?_
  subst e
  refine ⟨_, (pss_cons (ps_fld (pv 0) pe_dnewT rfl)
    (pss_cons (ps_fld (pv 0) (pe_lst pa_nil) rfl)
    (pss_cons (ps_fld (pv 0) (pe_lst pa_nil) rfl)
    (pss_cons (ps_fld (pv 0) (pe_lst pa_nil) rfl)
    (pss_cons (ps_fld (pv 0) (pe_lst pa_nil) rfl)
    (pss_cons (ps_fld (pv 0) (pe_lst pa_nil) rfl)
    (pss_cons (ps_fld (pv 0) (pe_lst pa_nil) rfl)
    (pss_cons (ps_fld (pv 0) pe_int rfl)
    (pss_cons (ps_fld (pv 0) pe_int rfl)
    (pss_one (ps_fld (pv 0) pe_dnewK rfl))))))))))), ?_⟩
  refine fun am n_am => ?_
  have S1 := same_new n_am (.dT [])
  have x1 := S1 _ _ hx
  refine ⟨_, rfl, x, C, dx, [], rfl, x1, T.cl, T.n_marks, by show 0 < 1000; decide, ?_⟩
  generalize hH1 : upd (upd H am (.dT [])) x (.ins C dx (putF "marks" (V.ref am) [])) = H1
  have d_am : am ≠ x := (ne_of_none hx n_am).symm
  have am_1 : H1 am = some (.dT []) := by rw [← hH1, upd_ne d_am, upd_same]
  have y1 : H1 x = some (.ins C dx [("marks", V.ref am)]) := by rw [← hH1]; exact upd_same
  have U1 : Upto [x] H H1 := by rw [← hH1]; exact (Upto.of_same S1).trans (upto_upd (by simp) _)
  have z_am : H am = none := n_am
  refine ⟨Nat.zero_le _, fun ash n_ash => ?_⟩
  have S2 := same_new n_ash (.lst [])
  have x2 := S2 _ _ y1
  refine ⟨_, rfl, x, C, dx, [("marks", V.ref am)], rfl, x2, T.cl, T.n_shapes, by show 1 < 1000; decide, ?_⟩
  generalize hH2 : upd (upd H1 ash (.lst [])) x (.ins C dx (putF "shapes" (V.ref ash) [("marks", V.ref am)])) = H2
  have am_2 : H2 am = some (.dT []) := by rw [← hH2, upd_ne d_am]; exact S2 _ _ am_1
  have d_ash : ash ≠ x := (ne_of_none y1 n_ash).symm
  have e_am_ash : am ≠ ash := ne_of_none am_1 n_ash
  have ash_2 : H2 ash = some (.lst []) := by rw [← hH2, upd_ne d_ash, upd_same]
  have y2 : H2 x = some (.ins C dx [("marks", V.ref am), ("shapes", V.ref ash)]) := by rw [← hH2]; exact upd_same
  have U2 : Upto [x] H H2 := by rw [← hH2]; exact (U1.trans (Upto.of_same S2)).trans (upto_upd (by simp) _)
  have z_ash : H ash = none := by
    cases e : H ash with
    | none => rfl
    | some o => rw [U1 _ _ (by simp; exact d_ash) e] at n_ash; cases n_ash
  refine ⟨Nat.zero_le _, fun af n_af => ?_⟩
  have S3 := same_new n_af (.lst [])
  have x3 := S3 _ _ y2
  refine ⟨_, rfl, x, C, dx, [("marks", V.ref am), ("shapes", V.ref ash)], rfl, x3, T.cl, T.n_forms, by show 2 < 1000; decide, ?_⟩
  generalize hH3 : upd (upd H2 af (.lst [])) x (.ins C dx (putF "forms" (V.ref af) [("marks", V.ref am), ("shapes", V.ref ash)])) = H3
  have am_3 : H3 am = some (.dT []) := by rw [← hH3, upd_ne d_am]; exact S3 _ _ am_2
  have ash_3 : H3 ash = some (.lst []) := by rw [← hH3, upd_ne d_ash]; exact S3 _ _ ash_2
  have d_af : af ≠ x := (ne_of_none y2 n_af).symm
  have e_am_af : am ≠ af := ne_of_none am_2 n_af
  have e_ash_af : ash ≠ af := ne_of_none ash_2 n_af
  have af_3 : H3 af = some (.lst []) := by rw [← hH3, upd_ne d_af, upd_same]
  have y3 : H3 x = some (.ins C dx [("marks", V.ref am), ("shapes", V.ref ash), ("forms", V.ref af)]) := by rw [← hH3]; exact upd_same
  have U3 : Upto [x] H H3 := by rw [← hH3]; exact (U2.trans (Upto.of_same S3)).trans (upto_upd (by simp) _)
  have z_af : H af = none := by
    cases e : H af with
    | none => rfl
    | some o => rw [U2 _ _ (by simp; exact d_af) e] at n_af; cases n_af
  refine ⟨Nat.zero_le _, fun ap n_ap => ?_⟩
  have S4 := same_new n_ap (.lst [])
  have x4 := S4 _ _ y3
  refine ⟨_, rfl, x, C, dx, [("marks", V.ref am), ("shapes", V.ref ash), ("forms", V.ref af)], rfl, x4, T.cl, T.n_pairs, by show 3 < 1000; decide, ?_⟩
  generalize hH4 : upd (upd H3 ap (.lst [])) x (.ins C dx (putF "pairs" (V.ref ap) [("marks", V.ref am), ("shapes", V.ref ash), ("forms", V.ref af)])) = H4
  have am_4 : H4 am = some (.dT []) := by rw [← hH4, upd_ne d_am]; exact S4 _ _ am_3
  have ash_4 : H4 ash = some (.lst []) := by rw [← hH4, upd_ne d_ash]; exact S4 _ _ ash_3
  have af_4 : H4 af = some (.lst []) := by rw [← hH4, upd_ne d_af]; exact S4 _ _ af_3
  have d_ap : ap ≠ x := (ne_of_none y3 n_ap).symm
  have e_am_ap : am ≠ ap := ne_of_none am_3 n_ap
  have e_ash_ap : ash ≠ ap := ne_of_none ash_3 n_ap
  have e_af_ap : af ≠ ap := ne_of_none af_3 n_ap
  have ap_4 : H4 ap = some (.lst []) := by rw [← hH4, upd_ne d_ap, upd_same]
  have y4 : H4 x = some (.ins C dx [("marks", V.ref am), ("shapes", V.ref ash), ("forms", V.ref af), ("pairs", V.ref ap)]) := by rw [← hH4]; exact upd_same
  have U4 : Upto [x] H H4 := by rw [← hH4]; exact (U3.trans (Upto.of_same S4)).trans (upto_upd (by simp) _)
  have z_ap : H ap = none := by
    cases e : H ap with
    | none => rfl
    | some o => rw [U3 _ _ (by simp; exact d_ap) e] at n_ap; cases n_ap
  refine ⟨Nat.zero_le _, fun asu n_asu => ?_⟩
  have S5 := same_new n_asu (.lst [])
  have x5 := S5 _ _ y4
  refine ⟨_, rfl, x, C, dx, [("marks", V.ref am), ("shapes", V.ref ash), ("forms", V.ref af), ("pairs", V.ref ap)], rfl, x5, T.cl, T.n_sums, by show 4 < 1000; decide, ?_⟩
  generalize hH5 : upd (upd H4 asu (.lst [])) x (.ins C dx (putF "sums" (V.ref asu) [("marks", V.ref am), ("shapes", V.ref ash), ("forms", V.ref af), ("pairs", V.ref ap)])) = H5
  have am_5 : H5 am = some (.dT []) := by rw [← hH5, upd_ne d_am]; exact S5 _ _ am_4
  have ash_5 : H5 ash = some (.lst []) := by rw [← hH5, upd_ne d_ash]; exact S5 _ _ ash_4
  have af_5 : H5 af = some (.lst []) := by rw [← hH5, upd_ne d_af]; exact S5 _ _ af_4
  have ap_5 : H5 ap = some (.lst []) := by rw [← hH5, upd_ne d_ap]; exact S5 _ _ ap_4
  have d_asu : asu ≠ x := (ne_of_none y4 n_asu).symm
  have e_am_asu : am ≠ asu := ne_of_none am_4 n_asu
  have e_ash_asu : ash ≠ asu := ne_of_none ash_4 n_asu
  have e_af_asu : af ≠ asu := ne_of_none af_4 n_asu
  have e_ap_asu : ap ≠ asu := ne_of_none ap_4 n_asu
  have asu_5 : H5 asu = some (.lst []) := by rw [← hH5, upd_ne d_asu, upd_same]
  have y5 : H5 x = some (.ins C dx [("marks", V.ref am), ("shapes", V.ref ash), ("forms", V.ref af), ("pairs", V.ref ap), ("sums", V.ref asu)]) := by rw [← hH5]; exact upd_same
  have U5 : Upto [x] H H5 := by rw [← hH5]; exact (U4.trans (Upto.of_same S5)).trans (upto_upd (by simp) _)
  have z_asu : H asu = none := by
    cases e : H asu with
    | none => rfl
    | some o => rw [U4 _ _ (by simp; exact d_asu) e] at n_asu; cases n_asu
  refine ⟨Nat.zero_le _, fun asp n_asp => ?_⟩
  have S6 := same_new n_asp (.lst [])
  have x6 := S6 _ _ y5
  refine ⟨_, rfl, x, C, dx, [("marks", V.ref am), ("shapes", V.ref ash), ("forms", V.ref af), ("pairs", V.ref ap), ("sums", V.ref asu)], rfl, x6, T.cl, T.n_spelled, by show 5 < 1000; decide, ?_⟩
  generalize hH6 : upd (upd H5 asp (.lst [])) x (.ins C dx (putF "spelled" (V.ref asp) [("marks", V.ref am), ("shapes", V.ref ash), ("forms", V.ref af), ("pairs", V.ref ap), ("sums", V.ref asu)])) = H6
  have am_6 : H6 am = some (.dT []) := by rw [← hH6, upd_ne d_am]; exact S6 _ _ am_5
  have ash_6 : H6 ash = some (.lst []) := by rw [← hH6, upd_ne d_ash]; exact S6 _ _ ash_5
  have af_6 : H6 af = some (.lst []) := by rw [← hH6, upd_ne d_af]; exact S6 _ _ af_5
  have ap_6 : H6 ap = some (.lst []) := by rw [← hH6, upd_ne d_ap]; exact S6 _ _ ap_5
  have asu_6 : H6 asu = some (.lst []) := by rw [← hH6, upd_ne d_asu]; exact S6 _ _ asu_5
  have d_asp : asp ≠ x := (ne_of_none y5 n_asp).symm
  have e_am_asp : am ≠ asp := ne_of_none am_5 n_asp
  have e_ash_asp : ash ≠ asp := ne_of_none ash_5 n_asp
  have e_af_asp : af ≠ asp := ne_of_none af_5 n_asp
  have e_ap_asp : ap ≠ asp := ne_of_none ap_5 n_asp
  have e_asu_asp : asu ≠ asp := ne_of_none asu_5 n_asp
  have asp_6 : H6 asp = some (.lst []) := by rw [← hH6, upd_ne d_asp, upd_same]
  have y6 : H6 x = some (.ins C dx [("marks", V.ref am), ("shapes", V.ref ash), ("forms", V.ref af), ("pairs", V.ref ap), ("sums", V.ref asu), ("spelled", V.ref asp)]) := by rw [← hH6]; exact upd_same
  have U6 : Upto [x] H H6 := by rw [← hH6]; exact (U5.trans (Upto.of_same S6)).trans (upto_upd (by simp) _)
  have z_asp : H asp = none := by
    cases e : H asp with
    | none => rfl
    | some o => rw [U5 _ _ (by simp; exact d_asp) e] at n_asp; cases n_asp
  refine ⟨Nat.zero_le _, fun ac n_ac => ?_⟩
  have S7 := same_new n_ac (.lst [])
  have x7 := S7 _ _ y6
  refine ⟨_, rfl, x, C, dx, [("marks", V.ref am), ("shapes", V.ref ash), ("forms", V.ref af), ("pairs", V.ref ap), ("sums", V.ref asu), ("spelled", V.ref asp)], rfl, x7, T.cl, T.n_cores, by show 6 < 1000; decide, ?_⟩
  generalize hH7 : upd (upd H6 ac (.lst [])) x (.ins C dx (putF "cores" (V.ref ac) [("marks", V.ref am), ("shapes", V.ref ash), ("forms", V.ref af), ("pairs", V.ref ap), ("sums", V.ref asu), ("spelled", V.ref asp)])) = H7
  have am_7 : H7 am = some (.dT []) := by rw [← hH7, upd_ne d_am]; exact S7 _ _ am_6
  have ash_7 : H7 ash = some (.lst []) := by rw [← hH7, upd_ne d_ash]; exact S7 _ _ ash_6
  have af_7 : H7 af = some (.lst []) := by rw [← hH7, upd_ne d_af]; exact S7 _ _ af_6
  have ap_7 : H7 ap = some (.lst []) := by rw [← hH7, upd_ne d_ap]; exact S7 _ _ ap_6
  have asu_7 : H7 asu = some (.lst []) := by rw [← hH7, upd_ne d_asu]; exact S7 _ _ asu_6
  have asp_7 : H7 asp = some (.lst []) := by rw [← hH7, upd_ne d_asp]; exact S7 _ _ asp_6
  have d_ac : ac ≠ x := (ne_of_none y6 n_ac).symm
  have e_am_ac : am ≠ ac := ne_of_none am_6 n_ac
  have e_ash_ac : ash ≠ ac := ne_of_none ash_6 n_ac
  have e_af_ac : af ≠ ac := ne_of_none af_6 n_ac
  have e_ap_ac : ap ≠ ac := ne_of_none ap_6 n_ac
  have e_asu_ac : asu ≠ ac := ne_of_none asu_6 n_ac
  have e_asp_ac : asp ≠ ac := ne_of_none asp_6 n_ac
  have ac_7 : H7 ac = some (.lst []) := by rw [← hH7, upd_ne d_ac, upd_same]
  have y7 : H7 x = some (.ins C dx [("marks", V.ref am), ("shapes", V.ref ash), ("forms", V.ref af), ("pairs", V.ref ap), ("sums", V.ref asu), ("spelled", V.ref asp), ("cores", V.ref ac)]) := by rw [← hH7]; exact upd_same
  have U7 : Upto [x] H H7 := by rw [← hH7]; exact (U6.trans (Upto.of_same S7)).trans (upto_upd (by simp) _)
  have z_ac : H ac = none := by
    cases e : H ac with
    | none => rfl
    | some o => rw [U6 _ _ (by simp; exact d_ac) e] at n_ac; cases n_ac
  refine ⟨_, rfl, x, C, dx, [("marks", V.ref am), ("shapes", V.ref ash), ("forms", V.ref af), ("pairs", V.ref ap), ("sums", V.ref asu), ("spelled", V.ref asp), ("cores", V.ref ac)], rfl, y7, T.cl, T.n_weight, by show 7 < 1000; decide, ?_⟩
  generalize hH8 : upd (H7) x (.ins C dx (putF "weight" (V.int 1) [("marks", V.ref am), ("shapes", V.ref ash), ("forms", V.ref af), ("pairs", V.ref ap), ("sums", V.ref asu), ("spelled", V.ref asp), ("cores", V.ref ac)])) = H8
  have am_8 : H8 am = some (.dT []) := by rw [← hH8, upd_ne d_am]; exact am_7
  have ash_8 : H8 ash = some (.lst []) := by rw [← hH8, upd_ne d_ash]; exact ash_7
  have af_8 : H8 af = some (.lst []) := by rw [← hH8, upd_ne d_af]; exact af_7
  have ap_8 : H8 ap = some (.lst []) := by rw [← hH8, upd_ne d_ap]; exact ap_7
  have asu_8 : H8 asu = some (.lst []) := by rw [← hH8, upd_ne d_asu]; exact asu_7
  have asp_8 : H8 asp = some (.lst []) := by rw [← hH8, upd_ne d_asp]; exact asp_7
  have ac_8 : H8 ac = some (.lst []) := by rw [← hH8, upd_ne d_ac]; exact ac_7
  have y8 : H8 x = some (.ins C dx [("marks", V.ref am), ("shapes", V.ref ash), ("forms", V.ref af), ("pairs", V.ref ap), ("sums", V.ref asu), ("spelled", V.ref asp), ("cores", V.ref ac), ("weight", V.int 1)]) := by rw [← hH8]; exact upd_same
  have U8 : Upto [x] H H8 := by rw [← hH8]; exact U7.trans (upto_upd (by simp) _)
  refine ⟨_, rfl, x, C, dx, [("marks", V.ref am), ("shapes", V.ref ash), ("forms", V.ref af), ("pairs", V.ref ap), ("sums", V.ref asu), ("spelled", V.ref asp), ("cores", V.ref ac), ("weight", V.int 1)], rfl, y8, T.cl, T.n_met, by show 8 < 1000; decide, ?_⟩
  generalize hH9 : upd (H8) x (.ins C dx (putF "met" (V.int 0) [("marks", V.ref am), ("shapes", V.ref ash), ("forms", V.ref af), ("pairs", V.ref ap), ("sums", V.ref asu), ("spelled", V.ref asp), ("cores", V.ref ac), ("weight", V.int 1)])) = H9
  have am_9 : H9 am = some (.dT []) := by rw [← hH9, upd_ne d_am]; exact am_8
  have ash_9 : H9 ash = some (.lst []) := by rw [← hH9, upd_ne d_ash]; exact ash_8
  have af_9 : H9 af = some (.lst []) := by rw [← hH9, upd_ne d_af]; exact af_8
  have ap_9 : H9 ap = some (.lst []) := by rw [← hH9, upd_ne d_ap]; exact ap_8
  have asu_9 : H9 asu = some (.lst []) := by rw [← hH9, upd_ne d_asu]; exact asu_8
  have asp_9 : H9 asp = some (.lst []) := by rw [← hH9, upd_ne d_asp]; exact asp_8
  have ac_9 : H9 ac = some (.lst []) := by rw [← hH9, upd_ne d_ac]; exact ac_8
  have y9 : H9 x = some (.ins C dx [("marks", V.ref am), ("shapes", V.ref ash), ("forms", V.ref af), ("pairs", V.ref ap), ("sums", V.ref asu), ("spelled", V.ref asp), ("cores", V.ref ac), ("weight", V.int 1), ("met", V.int 0)]) := by rw [← hH9]; exact upd_same
  have U9 : Upto [x] H H9 := by rw [← hH9]; exact U8.trans (upto_upd (by simp) _)
  refine fun ak n_ak => ?_
  have S10 := same_new n_ak (.dK [])
  have x10 := S10 _ _ y9
  refine ⟨_, rfl, x, C, dx, [("marks", V.ref am), ("shapes", V.ref ash), ("forms", V.ref af), ("pairs", V.ref ap), ("sums", V.ref asu), ("spelled", V.ref asp), ("cores", V.ref ac), ("weight", V.int 1), ("met", V.int 0)], rfl, x10, T.cl, T.n_known, by show 9 < 1000; decide, ?_⟩
  generalize hH10 : upd (upd H9 ak (.dK [])) x (.ins C dx (putF "known" (V.ref ak) [("marks", V.ref am), ("shapes", V.ref ash), ("forms", V.ref af), ("pairs", V.ref ap), ("sums", V.ref asu), ("spelled", V.ref asp), ("cores", V.ref ac), ("weight", V.int 1), ("met", V.int 0)])) = H10
  have am_10 : H10 am = some (.dT []) := by rw [← hH10, upd_ne d_am]; exact S10 _ _ am_9
  have ash_10 : H10 ash = some (.lst []) := by rw [← hH10, upd_ne d_ash]; exact S10 _ _ ash_9
  have af_10 : H10 af = some (.lst []) := by rw [← hH10, upd_ne d_af]; exact S10 _ _ af_9
  have ap_10 : H10 ap = some (.lst []) := by rw [← hH10, upd_ne d_ap]; exact S10 _ _ ap_9
  have asu_10 : H10 asu = some (.lst []) := by rw [← hH10, upd_ne d_asu]; exact S10 _ _ asu_9
  have asp_10 : H10 asp = some (.lst []) := by rw [← hH10, upd_ne d_asp]; exact S10 _ _ asp_9
  have ac_10 : H10 ac = some (.lst []) := by rw [← hH10, upd_ne d_ac]; exact S10 _ _ ac_9
  have d_ak : ak ≠ x := (ne_of_none y9 n_ak).symm
  have e_am_ak : am ≠ ak := ne_of_none am_9 n_ak
  have e_ash_ak : ash ≠ ak := ne_of_none ash_9 n_ak
  have e_af_ak : af ≠ ak := ne_of_none af_9 n_ak
  have e_ap_ak : ap ≠ ak := ne_of_none ap_9 n_ak
  have e_asu_ak : asu ≠ ak := ne_of_none asu_9 n_ak
  have e_asp_ak : asp ≠ ak := ne_of_none asp_9 n_ak
  have e_ac_ak : ac ≠ ak := ne_of_none ac_9 n_ak
  have ak_10 : H10 ak = some (.dK []) := by rw [← hH10, upd_ne d_ak, upd_same]
  have y10 : H10 x = some (.ins C dx [("marks", V.ref am), ("shapes", V.ref ash), ("forms", V.ref af), ("pairs", V.ref ap), ("sums", V.ref asu), ("spelled", V.ref asp), ("cores", V.ref ac), ("weight", V.int 1), ("met", V.int 0), ("known", V.ref ak)]) := by rw [← hH10]; exact upd_same
  have U10 : Upto [x] H H10 := by rw [← hH10]; exact (U9.trans (Upto.of_same S10)).trans (upto_upd (by simp) _)
  have z_ak : H ak = none := by
    cases e : H ak with
    | none => rfl
    | some o => rw [U9 _ _ (by simp; exact d_ak) e] at n_ak; cases n_ak
  refine q ⟨x, dx, am, ash, af, ap, asu, asp, ac, ak⟩ H10 rfl ⟨?_, y10, ⟨[], am_10, Nat.le_refl _, fun key v => ⟨fun h => (nomatch h), fun ⟨i, k, h, _⟩ => by simp at h⟩⟩, ⟨[], ash_10, .nil⟩, af_10, ⟨[], ap_10, .nil⟩, asu_10, ⟨[], asp_10, .nil⟩, ac_10, .inl ⟨rfl, ak_10⟩, fun k h => (nomatch h), List.nodup_nil, fun c => by decide, Int.le_refl 0, fun k h => (nomatch h)⟩ U10 fun a ha hn => ?_
  · simp only [Adr.ls, List.nodup_cons, List.mem_cons, List.not_mem_nil, or_false, not_or, not_false_eq_true, List.nodup_nil, and_true]
    exact ⟨⟨d_am.symm, d_ash.symm, d_af.symm, d_ap.symm, d_asu.symm, d_asp.symm, d_ac.symm, d_ak.symm⟩, ⟨e_am_ash, e_am_af, e_am_ap, e_am_asu, e_am_asp, e_am_ac, e_am_ak⟩, ⟨e_ash_af, e_ash_ap, e_ash_asu, e_ash_asp, e_ash_ac, e_ash_ak⟩, ⟨e_af_ap, e_af_asu, e_af_asp, e_af_ac, e_af_ak⟩, ⟨e_ap_asu, e_ap_asp, e_ap_ac, e_ap_ak⟩, ⟨e_asu_asp, e_asu_ac, e_asu_ak⟩, ⟨e_asp_ac, e_asp_ak⟩, e_ac_ak⟩
  · simp only [Adr.ls, List.mem_cons, List.not_mem_nil, or_false] at ha
    rcases ha with rfl | rfl | rfl | rfl | rfl | rfl | rfl | rfl | rfl
    · exact absurd rfl hn
    all_goals assumption
end
section
variable {P : Program} {w : World} {C : Addr} {H H' : Hp} {t : Adr} {T : List (Kd Nat)} {fs fg : Nat → Int} {wt met : Int} {kn : List (NKy × V)}
theorem TabAt.keep (h : TabAt P w C H t T fs fg wt met kn) (k : TK H H') (s : ∀ b ∈ t.ls, ∀ o, H b = some o → H' b = some o) : TabAt P w C H' t T fs fg wt met kn := by
  obtain ⟨h1, h2, ⟨kvs, h3, h3'⟩, ⟨vs, h4, h4'⟩, h5, ⟨ps, h6, h6'⟩, h7, ⟨ws, h8, h8'⟩, h9, h10, h11, h12, h13, h14, h15⟩ := h
  have m : ∀ {a : Addr}, a ∈ t.ls → ∀ o, H a = some o → H' a = some o := fun h o e => s _ h o e
  exact ⟨h1, m (by simp [Adr.ls]) _ h2, ⟨kvs, m (by simp [Adr.ls]) _ h3, h3'⟩, ⟨vs, m (by simp [Adr.ls]) _ h4, h4'.mono k⟩, m (by simp [Adr.ls]) _ h5, ⟨ps, m (by simp [Adr.ls]) _ h6, Paired.mapP h6' fun _ _ => PrOk.mono k⟩, m (by simp [Adr.ls]) _ h7, ⟨ws, m (by simp [Adr.ls]) _ h8, Paired.mapP h8' fun _ _ => SpOk.mono k⟩, m (by simp [Adr.ls]) _ h9, h10.keep k fun o e => m (by simp [Adr.ls]) _ e, h11, h12, h13, h14, h15⟩
theorem TabAt.there (h : TabAt P w C H t T fs fg wt met kn) {a : Addr} (ha : a ∈ t.ls) : ∃ o, H a = some o := by
  simp only [Adr.ls, List.mem_cons, List.not_mem_nil, or_false] at ha
  obtain ⟨h1, h2, ⟨kvs, h3, h3'⟩, ⟨vs, h4, h4'⟩, h5, ⟨ps, h6, h6'⟩, h7, ⟨ws, h8, h8'⟩, h9, h10, _⟩ := h
  obtain ⟨o, ho, _⟩ := h10.some
  rcases ha with rfl | rfl | rfl | rfl | rfl | rfl | rfl | rfl | rfl
  · exact ⟨_, h2⟩
  · exact ⟨_, h3⟩
  · exact ⟨_, h4⟩
  · exact ⟨_, h5⟩
  · exact ⟨_, h6⟩
  · exact ⟨_, h7⟩
  · exact ⟨_, h8⟩
  · exact ⟨_, h9⟩
  · exact ⟨_, ho⟩
theorem RowIx.more {M S : List (Kd Nat)} : ∀ {js : List Nat} {r : List (Kd Nat)}, RowIx M js r → RowIx (M ++ S) js r
  | _, _, .nil => .nil
  | _, _, .cons a r => .cons (by rw [List.getElem?_append_left (List.getElem?_eq_some_iff.mp a).1]; exact a) (RowIx.more r)
end
def spProve : SpG := fun vs H Q => ∃ (l : Addr) (g : V) (us : List V) (r : List (Kd Nat)) (k : Kd Nat), vs = [.ref l, g] ∧ H l = some (.lst us) ∧ KsAt H us r ∧ KAt H g k ∧ rsize r + k.size ≤ 20 ∧
  ∀ (v : V) (H' : Hp), Same H H' → (v = .non ↔ ¬ L r k) → (v = .non ∨ ∃ a, v = .ref a) → Q v H'
def spRowComes : SpG := fun vs H Q => ∃ (l : Addr) (g : V) (us : List V) (r : List (Kd Nat)) (k : Kd Nat), vs = [.ref l, g] ∧ H l = some (.lst us) ∧ KsAt H us r ∧ KAt H g k ∧ rsize r + k.size ≤ 20 ∧
  ∀ (b : Bool) (H' : Hp), Same H H' → (b = true ↔ L r k) → Q (.bl b) H'
section
variable {P : Program} {w : World} {K : PySem.W.Frag} {mg : Str → Option Value} {base : Heap} {C : Addr}
theorem c_prove (T : Txt w K mg C) : GCal P w K mg base 86 "prove" spProve := by
  have C_paper := m_paper (P := P) (base := base) T 20
  have C_number := m_number (P := P) (base := base) T 20
  obtain ⟨f0, fd0, ps0, hc0, hm0, F0, b0⟩ := (m_init (P := P) (base := base) T).ex
  refine cal_of T.dP_prove scP_prove (fun vs H Q ⟨_, _, _, _, _, e, _⟩ => by rw [e]; rfl) fun f cdv A outer s H vs Q hr ⟨l, g, us, r, k, e, hus, hks, hk, hz, q⟩ => ?_
  subst e
  refine ⟨_, (pss_cons (ps_set (i := 2) scP_prove.nd rfl (by first | exact Or.inl rfl | exact Or.inr rfl) (pe_gmake0 ⟨T.makes, hm0.at_, hm0.fn, T.kpC⟩ F0 hr (by omega) rfl T.mgC b0))
    (pss_one (ps_ret (pe_gm C_paper hr (by omega) (pv 2) (pa_cons (pe_callTy call_tuple_of rfl T.m_tuple (by decide +kernel) (pa_cons (pe_lc (own := [("one", 3)]) (g := gName 3) (tt := tYes) rfl scP_prove.nd (pi_list (pv 0)) (blkOk_by (own := [("one", 3)]) (N := ["row", "kind", "table", "one"]) (sc := defScope sP_prove) (by decide +kernel)) (fun _ _ _ _ _ => (pg_name (i := 3) scP_prove.nd rfl (by first | exact Or.inl rfl | exact Or.inr rfl))) (fun _ _ _ _ _ => pts_nil) (fun _ _ _ _ _ => (pe_gm C_number hr (by omega) (pv 2) (pa_cons (pv 3) pa_nil)))) pa_nil)) (pa_cons (pe_gm C_number hr (by omega) (pv 2) (pa_cons (pv 1) pa_nil)) pa_nil)))))), ?_⟩
  have zl : sizeLine = 16777216 := sizeLine_eq
  have hkl := hks.len
  have hrl := len_le_rsize r
  refine fun x dx nx ndx hne => ⟨x, dx, rfl, upd_same, fun t H1 htx ht1 U1 hfr => ⟨rfl, ?_⟩⟩
  subst htx
  have Sa : Same H (upd (upd H dx (.own t.x)) t.x (.ins C dx [])) := fun b o e => by
    rw [upd_ne (ne_of_none e nx), upd_ne (ne_of_none e ndx)]; exact e
  have S1 : Same H H1 := fun b o e => U1 _ _ (by simp; exact ne_of_none e nx) (Sa _ _ e)
  have lfree : ∀ a ∈ t.ls, H a = none := fun a ha => by
    by_cases h : a = t.x
    · rw [h]; exact nx
    · have h2 := hfr a ha h
      cases e : H a with
      | none => rfl
      | some o => rw [Sa _ _ e] at h2; cases h2
  have hus1 := S1 _ _ hus
  have hl : l ∉ t.ls := fun h => by rw [lfree l h] at hus; cases hus
  have hks1 := hks.mono (Same.tk S1)
  refine ⟨_, rfl, t.x, t.dx, _, rfl, ht1.ins, rfl, ?_⟩
  refine ⟨_, rfl, l, rfl, ⟨_, SqL.of hus1⟩, fun D nD => ?_⟩
  have nDl : D ∉ t.ls := fun h => by
    have := ht1.there h
    obtain ⟨o, ho⟩ := this
    rw [ho] at nD; cases nD
  have nl : l ≠ D := ne_of_none hus1 nD
  have nt1 : NoTup H1 (D :: t.ls) := fun b hb xs e => by
    rcases List.mem_cons.mp hb with h | h
    · rw [h, nD] at e; cases e
    · exact ht1.nt b h xs e
  refine lc_it (walk_list (xs := us)) (fun i H5 => ∃ (S : List (Kd Nat)) (fs fg : Nat → Int) (wt met : Int) (js : List Nat), TabAt P w C H5 t S fs fg wt met [] ∧ H5 D = some (.lst ((ixs js).map V.int)) ∧ RowIx S js (r.take i) ∧ S.length ≤ 2 * rsize (r.take i) ∧ Upto (D :: t.ls) H1 H5)
    ⟨[], _, _, _, _, [], ht1.same (same_new nD _), upd_same, by rw [List.take_zero]; exact .nil, Nat.zero_le _, Upto.of_same (same_new nD _)⟩ (fun i H5 _ ⟨_, _, _, _, _, _, _, _, _, _, U5⟩ => SqL.of (U5 _ _ (by simp; exact ⟨nl, hl⟩) hus1)) ?_ ?_
  · rintro i x H5 H6 hi ⟨S, fs, fg, wt, met, js, ht5, hD5, hrow, hS, U5⟩ ⟨rfl, hx⟩
    refine ⟨rfl, ?_⟩
    have t5 := U5.tk nt1
    obtain ⟨z, hz1, hzv⟩ := KsAt.get' (hks1.mono t5) hx
    have hzs := size_le_rsize (mem_of_get hz1)
    have hzo := z.ops_size
    have etk : r.take (i + 1) = r.take i ++ [z] := by
      obtain ⟨hl, e⟩ := List.getElem?_eq_some_iff.mp hz1
      rw [List.take_succ_eq_append_getElem hl, e]
    have ers : rsize (r.take (i + 1)) = rsize (r.take i) + z.size := by rw [etk, rsize_append]; rfl
    have hrt2 : rsize (r.take i) ≤ rsize r := by
      have := rsize_append (r.take i) (r.drop i)
      rw [List.take_append_drop] at this
      omega
    refine ⟨_, rfl, t.x, t.dx, _, rfl, ht5.ins, rfl, _, rfl, t, S, fs, fg, wt, met, [], x, z, rfl, ht5, hzv, by omega, by omega, by omega, fun S' fs' fg' wt' met' j H7 ht7 hj hS' U7 => ?_⟩
    have hD7 := U7 _ _ nDl hD5
    have hjl := Paired.length hrow
    rw [List.length_take] at hjl
    refine ⟨_, hD7, by rw [List.length_map, List.length_map]; omega, S ++ S', fs', fg', wt', met', js ++ [j], ?_, ?_, ?_, ?_, ?_⟩
    · refine ht7.keep ((upto_upd (l := [D]) (by simp) _).tk (noTup1 hD7 (fun xs q => nomatch q))) fun b hb o e => ?_
      rw [upd_ne (fun e' => nDl (by rw [← e']; exact hb))]; exact e
    · rw [upd_same]; simp [ixs]
    · rw [etk]; exact hrow.more.append (.cons hj .nil)
    · rw [List.length_append]; omega
    · exact (U5.trans U7.weak).trans (upto_upd (by simp) _)
  · rintro H5 ⟨S, fs, fg, wt, met, js, ht5, hD5, hrow, hS, U5⟩
    have hlen : us.length = r.length := hkl
    rw [hlen, List.take_length] at hrow hS
    have hrl2 := Paired.length hrow
    refine ⟨D, _, rfl, .inl ⟨SqL.of hD5, fun rt nrt => ?_⟩⟩
    have S6 := same_new nrt (.tup ((ixs js).map V.int))
    have ht6 := ht5.same S6
    have hk5 := (hk.mono (Same.tk S1)).mono (U5.tk nt1)
    have hko := k.ops_size
    refine ⟨_, rfl, t.x, t.dx, _, rfl, ht6.ins, rfl, _, rfl, t, S, fs, fg, wt, met, [], g, k, rfl, ht6, hk5.mono (Same.tk S6), by omega, by omega, by omega, fun S' fs' fg' wt' met' gi H7 ht7 hgi hS' U7 => ?_⟩
    have t67 := U7.tk ht6.nt
    have hro : rops r + k.ops < 20 := by
      have h1 : ∀ r : List (Kd Nat), rops r + r.length = rsize r := fun r => by
        induction r with
        | nil => rfl
        | cons z r ih => rw [rops_cons, rsize_cons, List.length_cons]; have := z.ops_size; omega
      have := h1 r
      omega
    have hB := states_le r k
    have h2 : 2 ^ (rsize r + k.size) ≤ 2 ^ 20 := Nat.pow_le_pow_right (by decide) hz
    have h3 : (2 : Nat) ^ 20 = 1048576 := by decide
    have hBs : (states r k).length < sizeLine := by omega
    refine ⟨t, S ++ S', fs', fg', wt', met', [], rt, js, gi, r, k, states r k, rfl, ht7, ⟨List.nodup_nil, fun p hp => (nomatch hp)⟩, t67 _ _ upd_same, hrow.more, hgi, by omega, ⟨r, k, InSt.self r k, fun s h => h⟩, hBs, hro, fun v kn' H8 ht8 hK8 hv hvr U8 => ?_⟩
    refine q v H8 (fun b o e => ?_) hv hvr
    have nb : b ∉ t.ls := fun h => by rw [lfree b h] at e; cases e
    have e1 := S1 _ _ e
    have nb2 : b ≠ D := ne_of_none e1 nD
    exact U8 _ _ nb (U7 _ _ nb (S6 _ _ (U5 _ _ (by simp; exact ⟨nb2, nb⟩) e1)))
theorem c_row_comes (T : Txt w K mg C) : GCal P w K mg base 87 "row_comes" spRowComes := by
  have C_prove := c_prove (P := P) (base := base) T
  refine cal_of T.dP_row_comes scP_row_comes (fun vs H Q ⟨_, _, _, _, _, e, _⟩ => by rw [e]; rfl) fun f cdv A outer s H vs Q hr ⟨l, g, us, r, k, e, hus, hks, hk, hz, q⟩ => ?_
  subst e
  refine ⟨_, (pss_one (ps_ret (pe_cmpR op_notN (pe_g C_prove hr (by omega) rfl (pa_cons (pv 0) (pa_cons (pv 1) pa_nil))) pe_non (nomark _)))), ?_⟩
  refine ⟨_, rfl, _, rfl, l, g, us, r, k, rfl, hus, hks, hk, hz, fun v H1 S1 hv hvr => ⟨rfl, ?_⟩⟩
  rcases hvr with rfl | ⟨a, rfl⟩
  · exact q false H1 S1 ⟨fun h => (nomatch h), fun h => absurd h (hv.mp rfl)⟩
  · exact q true H1 S1 ⟨fun _ => Classical.byContradiction fun h => (nomatch (hv.mpr h)), fun _ => rfl⟩
end
end L2.G
set_option Elab.async false
set_option linter.all false
set_option maxRecDepth 100000
set_option maxHeartbeats 4000000
/-! sorted([(text, thing), ..]), the texts unlike. -/
namespace L2.G
open PySem PySem.Spec PyProof.Rows WW
/-- a tuple (x, another object) -/
def IsTP (h : Heap) (v : Value) (x : Str) : Prop := ∃ (a : Addr) (o : Obj) (t : Tok) (b : Addr) (n : Nat), v = .ref a ∧ h.get? a = some o ∧ o.cls = .type "tuple" ∧ o.data = .seq #[.str x t, .ref b] n
theorem IsTP.keeps {h h' : Heap} {v : Value} {x : Str} (p : IsTP h v x) (k : ∀ b o, h.get? b = some o → o.cls = .type "tuple" → h'.get? b = some o) : IsTP h' v x := by
  obtain ⟨a, o, t, b, n, e, ho, hc, hd⟩ := p
  exact ⟨a, o, t, b, n, e, k _ _ ho hc, hc, hd⟩
abbrev ltX (x y : Str) : Bool := decide (x.cps.toList < y.cps.toList)
theorem ltX_no {x y : Str} : ltX x y = false ↔ y.cps.toList ≤ x.cps.toList := by
  unfold ltX
  rw [decide_eq_false_iff_not]
  exact List.not_lt
theorem ltX_swo {α : Type} (k : α → Str) : SrtO.Swo (fun v u => ltX (k v) (k u)) := by
  refine ⟨fun x y h => ?_, fun x y z h1 h2 => ?_⟩
  · refine ltX_no.mpr (List.le_of_lt (of_decide_eq_true h))
  · have a := ltX_no.mp h1
    have b := ltX_no.mp h2
    exact ltX_no.mpr (List.le_trans a b)
section
variable {prog : Program} {w : World} {A : Around} {E : Value → Shared → Prop} {s : Shared}
theorem tp_cmp {vs : List Value} {k : Value → Str} (hp : ∀ v ∈ vs, IsTP s.heap v (k v)) (hu : ∀ v ∈ vs, ∀ u ∈ vs, k v = k u → v = u) : SrtO.Cmp prog w A s (tuples' true) (fun p => p.1 ∈ vs) (SrtO.lt2 fun v u => ltX (k v) (k u)) := by
  intro p q hm hm'
  have h1 := hp _ hm
  have h2 := hp _ hm'
  have hi := hu _ hm _ hm'
  show wpAny (model prog w) A (keyLt' (tuples' true) p.1 q.1) (fun r s' => s' = s ∧ r = ltX (k p.1) (k q.1)) (fun _ _ => False) s
  generalize k p.1 = x at h1 hi ⊢
  generalize k q.1 = x' at h2 hi ⊢
  obtain ⟨a, o, t, b, n, e, ho, hc, hd⟩ := h1
  obtain ⟨a', o', t', b', n', e', ho', hc', hd'⟩ := h2
  rw [e, e'] at hi ⊢
  refine PySem.W.kat_lt ho hd ho' hd' ?_
  show PySem.W.KatLex prog w A true (decide (2 < 2)) _ [(.str x t, .str x' t'), (.ref b, .ref b')] 0 s
  refine PySem.W.kat_cons (SeqAt.EqAt.str_str x t x' t' prog w _ _ ?_)
  refine PySem.W.kat_go (fun e1 => ?_) (fun e1 => ?_)
  · have ex : x = x' := by simpa using e1
    have ev := hi ex
    injection ev with ev
    subst ev
    rw [ho] at ho'
    injection ho' with ho'
    subst ho'
    rw [hd] at hd'
    injection hd' with hd' _
    have hb : b = b' := by
      have := congrArg (fun z : Array Value => z.toList) hd'
      simp at this
      exact this.2
    subst hb
    refine PySem.W.kat_yes (PySem.W.kat_cons (SeqAt.EqAt.same (.ref b) prog w _ _ ?_))
    refine PySem.W.kat_yes (PySem.W.kat_nil ⟨rfl, ?_⟩)
    rw [ex]
    exact (decide_eq_false (List.lt_irrefl _)).symm
  · exact PySem.W.kat_no (oneLt_str ⟨rfl, rfl⟩)
theorem tp_firsts {h : Heap} : ∀ {vs : List Value}, (∀ v ∈ vs, ∃ x, IsTP h v x) → ∃ fs : List Value, PySem.W.KatTups h vs fs ∧ fs.length = vs.length ∧ ∀ f ∈ fs, ∃ x t, f = Value.str x t
  | [], _ => ⟨[], PySem.W.KatTups.nil, rfl, fun _ hm => by simp at hm⟩
  | v :: vs, hp => by
    obtain ⟨fs, h1, h2, h3⟩ := tp_firsts (vs := vs) fun v' hm => hp v' (List.mem_cons_of_mem _ hm)
    obtain ⟨x, a, o, t, b, n, e, ho, hc, hd⟩ := hp v (List.mem_cons_self ..)
    subst e
    refine ⟨.str x t :: fs, PySem.W.KatTups.cons ho hc hd rfl h1, by rw [List.length_cons, List.length_cons, h2], fun f hm => ?_⟩
    rcases List.mem_cons.mp hm with rfl | hm
    · exact ⟨x, t, rfl⟩
    · exact h3 f hm
theorem tp_sortable {a : Addr} {vs : List Value} {k : Value → Str} (h0 : 0 < vs.length) (hp : ∀ v ∈ vs, IsTP s.heap v (k v)) (hu : ∀ v ∈ vs, ∀ u ∈ vs, k v = k u → v = u) (ha : ∀ o, s.heap.get? a = some o → o.cls ≠ .type "tuple") : SrtO.SortableO prog w A s a vs fun v u => ltX (k v) (k u) := by
  intro h' keep
  have hp' : ∀ v ∈ vs, IsTP h' v (k v) := fun v hm => (hp v hm).keeps fun b o e c => keep b o (fun z => by subst z; exact ha o e c) e
  obtain ⟨fs, h1, h2, h3⟩ := tp_firsts fun v hm => ⟨_, hp' v hm⟩
  refine ⟨tuples' true, fun Q E hq => ?_, tp_cmp (s := { s with heap := h' }) hp' hu⟩
  refine PySem.W.kat_kind (T := .type "str") h1 (by omega) (fun f hm => ?_) (by rfl) ?_
  · obtain ⟨x, t, rfl⟩ := h3 f hm
    exact PySem.W.Looks.now
  · have e : (Value.type "str" != Value.type "tuple") = true := by first | decide +kernel | rfl | decide
    rw [e]
    exact hq
theorem sorted_tp {l : Addr} {vs : List Value} {k : Value → Str} {Q : Value → Shared → Prop} (hl : s.heap.IsList l vs.toArray) (hz : vs.length ≤ sizeLine) (hp : ∀ v ∈ vs, IsTP s.heap v (k v)) (hu : ∀ v ∈ vs, ∀ u ∈ vs, k v = k u → v = u)
    (h : ∀ (h' : Heap) (d : Addr) (out : List Value), SrtO.Srtd (fun v u => ltX (k v) (k u)) out → SrtO.Stb (fun v u => ltX (k v) (k u)) out vs → (∀ b o, s.heap.get? b = some o → h'.get? b = some o) → s.heap.objs.size ≤ d → (∃ n, h'.get? d = some (seqObj "list" out.toArray n)) → Q (.ref d) { s with heap := h' }) :
    wpAny (model prog w) A (call (.builtin "sorted") [.ref l]) Q E s := by
  refine SrtO.sorted_ord (ltX_swo k) hl hz (fun h2 h₁ a ha kk => ?_) fun out hs hb => ?_
  · refine tp_sortable (s := { s with heap := h₁ }) (by omega) (fun v hm => (hp v hm).keeps fun b o e _ => (kk b o e).2) hu fun o e => ?_
    have e' : some o = some (seqObj "list" vs.toArray 0) := e.symm.trans ha
    cases e'
    intro c
    exact absurd (Value.type.inj c) (by decide)
  · exact h _ _ out hs hb (fun b o e => sortedAll_old e) (Nat.le_succ _) (sortedAll_at s.heap vs out.toArray)
end
/-- sorted(xs), xs a list of pairs (text, object), the texts unlike -/
def rSortedTP (K : PySem.W.Frag) : List V → Hp → VK → Prop := fun vs H Q => ∃ (a : Addr) (xs : List V) (k : V → Str), vs = [V.ref a] ∧ SqL K H a xs ∧ (∀ x ∈ xs, ∃ t b, x = V.ref t ∧ H t = some (.tup [.str (k x), .ref b])) ∧ (∀ x ∈ xs, ∀ y ∈ xs, k x = k y → x = y) ∧
  ∀ ys p, SrtO.Srtd (fun v u => ltX (k v) (k u)) ys → ys.Perm xs → H p = none → Q (.ref p) (upd H p (.lst ys))
section
variable {X : Cx}
theorem cr_sortedTP : CallR X (.builtin "sorted") (rSortedTP X.K) := by
  intro pins s σ H vs us Q I r h
  obtain ⟨a, xs, k, rfl, hs, hx, hun, q⟩ := h
  obtain ⟨its, rv, hl, hz⟩ := I.list hs
  obtain ⟨u, rfl, ru⟩ := vals1 r
  obtain rfl : u = Value.ref a := ru
  obtain ⟨e1, e2⟩ := L2.refs_back rv fun x m => by
    obtain ⟨t, _, e, _⟩ := hx x m
    exact ⟨t, e⟩
  have mem : ∀ v ∈ its, L2.backV v ∈ xs := fun v hv => by rw [e1]; exact List.mem_map.mpr ⟨_, hv, rfl⟩
  refine sorted_tp (k := fun u => k (L2.backV u)) hl.isList (by rw [← rv.length]; exact hz) (fun v hv => ?_) (fun v hv u hu e => ?_) fun h' d out h1 h2 kp hd hn => ?_
  · obtain ⟨t, rfl⟩ := e2 v hv
    obtain ⟨t', b, e, ht⟩ := hx _ (mem _ hv)
    cases e
    obtain ⟨_, its2, r2, o, ho, hc, n, hd⟩ := I.hok _ _ ht
    obtain ⟨u1, u2, rfl, ri, rj⟩ := vals2 r2
    obtain ⟨t1, rfl⟩ := ri
    obtain rfl : u2 = Value.ref b := rj
    exact ⟨t, o, t1, b, n, rfl, ho, hc, hd⟩
  · obtain ⟨t, rfl⟩ := e2 v hv
    obtain ⟨t', rfl⟩ := e2 u hu
    have := hun _ (mem _ hv) _ (mem _ hu) e
    injection this with this
    rw [this]
  · have h3 : ∀ u ∈ out, ∃ a, u = Value.ref a := fun u hu => e2 u (h2.perm.mem_iff.mp hu)
    obtain ⟨n, hn⟩ := hn
    have hb : (out.map L2.backV).Perm xs := by
      rw [e1]
      exact h2.perm.map L2.backV
    refine ⟨.ref d, upd H d (.lst (out.map L2.backV)), I.laid (t' := s.toks) kp hd ⟨?_, out, n, L2.vals_back h3, hn⟩, rfl, q _ d (SrtO.srtd_map (lt := fun v u => ltX (k v) (k u)) h1) hb (I.hok.fresh hd)⟩
    rw [hb.length_eq]
    exact hz
end
end L2.G
set_option Elab.async false
set_option linter.all false
set_option maxRecDepth 100000
set_option maxHeartbeats 4000000
/-! sorted(xs, key=f): f's calls may turn what is known of the state; its keys are texts. -/
namespace PySem.W
open PySem PySem.Calls PyProof.Rows
section
variable {prog : Program} {w : World} {A : Around} {E : Value → Shared → Prop} {s : Shared} {a kS : Addr} {vs : List Value} {keys : Array Value} {e e1 : Nat} {P : PySem.Fin → Shared → Prop} {kz : List PyData}
/-- all but the objects at a and kS stand -/
def KeepsBut2 (a kS : Addr) (h h' : Heap) : Prop := ∀ b o, b ≠ a → b ≠ kS → h.get? b = some o → h'.get? b = some o
theorem keyJ_tail {st : SortSt} {out : List Value} (nk : s.heap.get? kS = some (seqObj "list" keys e)) (na : s.heap.get? a = some (seqObj "list" #[] e1)) (hka : kS ≠ a)
    (hsz : keys.size ≤ sizeLine) (hz : out.length ≤ sizeLine) (hfl : failedOf st = none) (ho : (arrOf st).map (·.2) = out.toArray)
    (h : ∀ h' tk c, KeepsBut2 a kS s.heap h' → (∃ o, h'.get? kS = some o) → h'.get? a = some (seqObj "list" out.toArray c) → P (.done (.ret .none)) { s with heap := h', toks := tk }) :
    wpAny (model prog w) A (ksk_tail a false e1 (.ref kS) st) P E s := by
  have s1 := Heap.SameBut.update s.heap kS (Obj.mapSeq fun _ => (#[] : Array Value))
  have na1 : (s.heap.update kS (Obj.mapSeq fun _ => (#[] : Array Value))).get? a = some (seqObj "list" #[] e1) := (s1.2 a hka.symm).trans na
  have s2 := Heap.SameBut.update (s.heap.update kS (Obj.mapSeq fun _ => (#[] : Array Value))) a (Obj.mapSeq fun _ => out.toArray)
  obtain ⟨c1, hc1⟩ : ∃ c1, (s.heap.update kS (Obj.mapSeq fun _ => (#[] : Array Value))).get? kS = some (seqObj "list" #[] c1) := ⟨_, get?_update_seq nk fun _ => #[]⟩
  obtain ⟨c2, hc2⟩ : ∃ c2, ((s.heap.update kS (Obj.mapSeq fun _ => (#[] : Array Value))).update a (Obj.mapSeq fun _ => out.toArray)).get? a = some (seqObj "list" out.toArray c2) :=
    ⟨_, get?_update_seq na1 fun _ => out.toArray⟩
  have hz2 : out.toArray.size ≤ sizeLine + 1 := by
    rw [List.size_toArray]
    exact Nat.le_succ_of_le hz
  unfold ksk_tail
  try dsimp only
  rw [if_neg Bool.false_ne_true, ho]
  refine wpAny_bind (listUpdate_at nk rfl ?_ hsz (Nat.zero_le _))
  refine wpAny_bind (wpAny_letGo ?_)
  refine wpAny_bind (seqEpoch_at na1 rfl ?_)
  refine wpAny_bind (listUpdate_at na1 rfl ?_ (Nat.zero_le _) hz2)
  rw [hfl]
  simp only [bne_self_eq_false, Bool.false_eq_true, if_false]
  exact wpAny_pure (h _ _ c2 (fun b o h1 h2 q => (s2.2 b h1).trans ((s1.2 b h2).trans q)) ⟨_, (s2.2 kS hka).trans hc1⟩ hc2)
theorem keyJ_end {κ : PyProof.Rows.KeyKind} (nk : s.heap.get? kS = some (seqObj "list" keys e)) (na : s.heap.get? a = some (seqObj "list" #[] e1)) (hka : kS ≠ a)
    (S : SortsAt prog w A s κ keys.toList) (hsz : keys.size = vs.length) (hZ : vs.length ≤ sizeLine)
    (h : ∀ h' tk c, KeepsBut2 a kS s.heap h' → (∃ o, h'.get? kS = some o) → h'.get? a = some (seqObj "list" (sortVals κ false keys.toList vs).toArray c) → P (.done (.ret .none)) { s with heap := h', toks := tk }) :
    wpAny (model prog w) A (ksk_end a false vs.toArray e1 (.ref kS) keys) P E s := by
  obtain ⟨kd, h1, h2⟩ := S.kind
  have hkl : keys.toList.length = vs.length := by
    rw [Array.length_toList]
    exact hsz
  have hK : PyProof.Rows.KeysOf κ (keys.zip vs.toArray) := keysOf_zip S.keys
  have hol : (sortVals κ false keys.toList vs).length = vs.length := sortVals_length false hkl
  have hss : (keys.zip vs.toArray).size = vs.length := by rw [Array.size_zip, hsz, List.size_toArray, Nat.min_self]
  have fin : ∀ st' : SortSt, (arrOf st').Perm (keys.zip vs.toArray) → SortedToK κ (arrOf st') (keys.zip vs.toArray).size →
      Stable κ (arrOf st') (keys.zip vs.toArray) → (arrOf st').map (·.2) = (sortVals κ false keys.toList vs).toArray := by
    intro st' hp hs ht
    have e := sort_out (rev := false) (keys := keys) (items := vs.toArray) (xs := arrOf st') (κ := κ) hK hp hs ht
    have e' := congrArg List.toArray e
    rw [Array.toArray_toList] at e'
    exact e'
  unfold ksk_end
  try dsimp only
  rw [if_neg Bool.false_ne_true]
  by_cases hl2 : vs.toArray.size < 2
  · rw [if_pos hl2, if_pos hl2]
    refine wpAny_bind (wpAny_pure ?_)
    rw [StateT.run_pure]
    refine wpAny_bind (wpAny_pure ?_)
    try dsimp only
    refine keyJ_tail (st := SortSt.mk' general' (keys.zip vs.toArray) #[] 7 none) nk na hka (by rw [hsz]; exact hZ) (by rw [hol]; exact hZ) rfl (fin _ (Array.Perm.refl _) ?_ (Stable.refl _)) h
    intro i j hij hj
    rw [hss] at hj
    rw [List.size_toArray] at hl2
    have : i = j := by omega
    subst this
    exact KeyOrd.kle_refl _
  · rw [if_neg hl2, if_neg hl2]
    rw [List.size_toArray] at hl2
    refine wpAny_bind (h2 (by omega) _ ?_)
    refine wpAny_bind (wpAny_mono (H.wpS_sortRunsSt (κ := κ) (kd := kd) (a₀ := keys.zip vs.toArray)
      (st := SortSt.mk' kd (keys.zip vs.toArray) #[] 7 none)
      (Q := fun _ st' => failedOf st' = none ∧ (arrOf st').map (·.2) = (sortVals κ false keys.toList vs).toArray)
      h1 hK ⟨Array.Perm.refl _, rfl, rfl⟩ rfl (Stable.refl _) (by rw [hss]; omega) fun st' a1 a2 a3 a4 => ⟨a2, fin st' a1 a3 a4⟩) ?_ fun _ _ e => e)
    rintro ⟨⟨⟩, st'⟩ s' ⟨rfl, hf, ho⟩
    try dsimp only at ho ⊢
    exact keyJ_tail nk na hka (by rw [hsz]; exact hZ) (by rw [hol]; exact hZ) hf ho h
theorem keyJ_rest {f : Value} (J : Shared → Prop) (hJ : J s) (nk : s.heap.get? kS = some (seqObj "list" #[] 0)) (na : s.heap.get? a = some (seqObj "list" #[] e1)) (hka : kS ≠ a)
    (hlen : kz.length = vs.length) (hZ : vs.length ≤ sizeLine) (hal : AllAlike kz) (hsk : Sortable kz) (hu : ∀ d, d ∈ kz → A.units + d.depth < cLine)
    (jup : ∀ (s' : Shared) (g : Obj → Obj), J s' → (∃ o, s'.heap.get? kS = some o) → (∃ o, (s'.heap.update kS g).get? kS = some o) → J { s' with heap := s'.heap.update kS g })
    (turn : ∀ (i : Nat) (v : Value) (k : PyData) (s' : Shared), vs[i]? = some v → kz[i]? = some k → J s' →
      wpAny (model prog w) A (call f [v]) (fun u s'' => J s'' ∧ (∀ h : Heap, Reads h u k []) ∧ (∀ o, s'.heap.get? kS = some o → s''.heap.get? kS = some o) ∧ ∀ o, s'.heap.get? a = some o → s''.heap.get? a = some o) (fun _ _ => False) s')
    (h : ∀ s' h' tk out c, J s' → KeepsBut2 a kS s'.heap h' → (∃ o, h'.get? kS = some o) → h'.get? a = some (seqObj "list" (List.toArray out) c) → KeyedOut false kz vs out → P (.done (.ret .none)) { s' with heap := h', toks := tk }) :
    wpAny (model prog w) A (ksk_rest a f false vs.toArray e1 (.ref kS)) P E s := by
  unfold ksk_rest
  refine wpAny_bind (wpAny_rule ?_)
  first
    | rw [List.forIn_toArray]
    | (rw [← Array.forIn_toList]; simp only [List.toList_toArray])
    | rw [← Array.forIn_toList]
  refine wpAny_bind (ksk_fold (fun i s' => ∃ kA e, J s' ∧ s'.heap.get? kS = some (seqObj "list" kA e) ∧ s'.heap.get? a = some (seqObj "list" #[] e1) ∧ EachIs (fun v k => ∀ h : Heap, Reads h v k []) kA.toList (kz.take i)) vs 0 s
    ⟨#[], 0, hJ, nk, na, by rw [List.take_zero]; exact EachIs.nil⟩ ?step ?done)
  case step =>
    rintro j x s' hx ⟨kA, e, j', nk', na', hk⟩
    simp only [Nat.zero_add] at hk ⊢
    have hj : j < vs.length := (List.getElem?_eq_some_iff.mp hx).1
    obtain ⟨k, hkj⟩ : ∃ k, kz[j]? = some k := ⟨_, List.getElem?_eq_getElem (by omega)⟩
    have hz : kA.size ≤ vs.length := by
      have h1 := hk.length
      rw [Array.length_toList, List.length_take] at h1
      omega
    refine wpAny_bind (wpAny_attempt (wpAny_mono (turn j x k s' hx hkj j') (fun v s'' he => ?_) fun _ _ hF => hF.elim))
    obtain ⟨j'', hr, hk2, ha2⟩ := he
    try dsimp only
    have nk2 := hk2 _ nk'
    have na2 := ha2 _ na'
    have s1 := Heap.SameBut.update s''.heap kS (Obj.mapSeq (·.push v))
    obtain ⟨c2, hc2⟩ : ∃ c2, (s''.heap.update kS (Obj.mapSeq (·.push v))).get? kS = some (seqObj "list" (kA.push v) c2) := ⟨_, get?_update_seq nk2 (·.push v)⟩
    have ek : kz.take (j + 1) = kz.take j ++ [k] := by rw [List.take_add_one, hkj]; simp
    have ea : (kA.push v).toList = kA.toList ++ [v] := by simp
    refine wpAny_bind (listUpdate_at nk2 rfl ?_ (Nat.le_trans hz hZ) (Nat.le_trans (Nat.le_of_eq (Array.size_push ..)) (Nat.succ_le_succ (Nat.le_trans hz hZ))))
    refine wpAny_pure ⟨rfl, kA.push v, c2, jup _ _ j'' ⟨_, nk2⟩ ⟨_, hc2⟩, hc2, (s1.2 a hka.symm).trans na2, ?_⟩
    rw [ea, ek]
    exact each_snoc hr hk
  case done =>
    rintro s' ⟨kA, e, j', nk', na', hk⟩
    have hk' : EachIs (fun v k => ∃ as, Reads s'.heap v k as) kA.toList kz := by
      have e3 : kz.take (0 + vs.length) = kz := List.take_of_length_le (by omega)
      rw [e3] at hk
      exact hk.mono fun v k q => ⟨[], q _⟩
    have hsz : kA.size = vs.length := by
      have h1 := hk'.length
      rw [Array.length_toList] at h1
      omega
    try dsimp only
    refine wpAny_bind (listItems_at nk' rfl ?_)
    exact keyJ_end (κ := dataKind s'.heap kz) nk' na' hka (SortsAt.data hk' hal hsk hu) hsz hZ fun h3 tk3 c k3 o3 n3 => h s' h3 tk3 _ c j' k3 o3 n3 ⟨s'.heap, kA.toList, hal, rfl, hk'⟩
end
end PySem.W
set_option Elab.async false
set_option linter.all false
set_option maxRecDepth 100000
set_option maxHeartbeats 4000000
/-! sorted(kinds, key=show_kind). -/
namespace L2.G
open PySem PySem.Spec PyProof.Rows WW
abbrev leK (a b : Kd Nat) : Bool := decide ((kt a).cps.toList ≤ (kt b).cps.toList)
def rSortedText (K : PySem.W.Frag) (mg : Str → Option Value) (n : Nat) : List V → List V → Hp → VK → Prop := fun vs zs H Q => ∃ (a f : Addr) (us : List V) (ks : List (Kd Nat)), vs = [V.ref a] ∧ zs = [V.ref f] ∧ mg "show_kind" = some (.ref f) ∧ SqL K H a us ∧ KsAt H us ks ∧
  (∀ k ∈ ks, k.ops < n ∧ k.size ≤ 1000) ∧ ∀ ys p H', Same H H' → KsAt H' ys (ks.mergeSort leK) → H' p = none → Q (.ref p) (upd H' p (.lst ys))
theorem each_of {H : Hp} : ∀ {us : List V} {ks : List (Kd Nat)} {its : List Value}, KsAt H us ks → Vals us its → PySem.W.EachIs (fun u k => ∃ v, RelV v u ∧ KAt H v k) its ks
  | _, _, _, .nil, .nil => .nil
  | _, _, _, .cons a r, .cons b t => .cons ⟨_, b, a⟩ (each_of r t)
theorem each_back {H : Hp} : ∀ {ks : List (Kd Nat)} {its : List Value}, PySem.W.EachIs (fun u k => ∃ v, RelV v u ∧ KAt H v k) its ks → ∃ us, KsAt H us ks ∧ Vals us its
  | _, _, .nil => ⟨[], .nil, .nil⟩
  | _, _, .cons ⟨v, b, a⟩ t => by
    obtain ⟨us, h1, h2⟩ := each_back t
    exact ⟨v :: us, .cons a h1, .cons b h2⟩
theorem each_get {R : Value → Kd Nat → Prop} : ∀ {ks : List (Kd Nat)} {its : List Value}, PySem.W.EachIs R its ks → ∀ (i : Nat) (u : Value) (d : PyData), its[i]? = some u → (ks.map fun k => PyData.str (kt k))[i]? = some d → ∃ k, k ∈ ks ∧ R u k ∧ d = .str (kt k)
  | _, _, .nil, i, u, d, h, _ => by simp at h
  | _, _, .cons (b := b) a t, 0, u, d, h1, h2 => by
    simp at h1 h2
    subst h1
    exact ⟨_, List.mem_cons_self .., a, h2.symm⟩
  | _, _, .cons a t, i + 1, u, d, h1, h2 => by
    obtain ⟨k, m, r, e⟩ := each_get t i u d (by simpa using h1) (by simpa using h2)
    exact ⟨k, List.mem_cons_of_mem _ m, r, e⟩
section
variable {X : Cx} {k j n : Nat}
/-- what is known while the keys are made -/
def KeyJ (X : Cx) (pins : List (Addr × Obj)) (σ : St) (H : Hp) (a kS : Addr) (s' : Shared) : Prop :=
  ∃ H', Inv X pins σ H' s' ∧ Same H H' ∧ FpOk X pins H' a ∧ FpOk X pins H' kS ∧ (∃ o, s'.heap.get? a = some o) ∧ ∃ o, s'.heap.get? kS = some o
theorem key_turn {pins : List (Addr × Obj)} {σ : St} {H : Hp} {a kS : Addr} {s' : Shared} {u : Value} {v : V} {kk : Kd Nat} {f : Addr} (c : GCal X.prog X.w X.K X.mg X.base k "show_kind" (spText n)) (hr : RoomG j X.A) (hk : k + 2 ≤ j) (hm : X.mg "show_kind" = some (.ref f))
    (hJ : KeyJ X pins σ H a kS s') (rv : RelV v u) (hv : KAt H v kk) (hn : kk.ops < n) (hz : kk.size ≤ 1000) :
    wpAny (model X.prog X.w) X.A.in1.in1 (call (.ref f) [u]) (fun u s'' => KeyJ X pins σ H a kS s'' ∧ (∀ h : Heap, Reads h u (.str (kt kk)) []) ∧ (∀ o, s'.heap.get? kS = some o → s''.heap.get? kS = some o) ∧ ∀ o, s'.heap.get? a = some o → s''.heap.get? a = some o) (fun _ _ => False) s' := by
  obtain ⟨f', fd, ps, F, hm', kp, b⟩ := c.ex
  rw [hm] at hm'
  injection hm' with hm'
  injection hm' with hm'
  subst hm'
  obtain ⟨H', I, S, fa, fk, ⟨oa, ea⟩, ⟨ok, ek⟩⟩ := hJ
  have h : spText n [v] H' (fun v H'' => v = .str (kt kk) ∧ Same H' H'') := ⟨v, kk, rfl, hv.mono (Same.tk S), hn, hz, fun H'' S' => ⟨rfl, S'⟩⟩
  have hl : ([u] ++ ([] : List Value)).length = ps.length := by
    have := F.len _ _ _ h
    simpa using this
  have hb' := b s' [u] I.kIn hl
  rw [List.append_nil] at hb'
  have hr2 : RoomG k X.A.in1.in1 := ⟨((hr.mono hk).r.in1).in1, (hr.mono hk).g⟩
  refine wpAny_call (codeAny_mono (F.run X.A.in1.in1 X.stack s' H' ⟨[u], []⟩ [u] [v] _ hr2 I.env0.in1.in1 hb' (.cons rv .nil) h) fun r s'' hq => ?_)
  cases r with
  | error e => exact False.elim hq
  | ok fl =>
    cases fl with
    | ret u' =>
      obtain ⟨v', H'', os, bare, un, hok, r, rfl, S'⟩ := hq
      obtain ⟨t, rfl⟩ := r
      have ok2 : ∀ b, FpOk X pins H' b → b ∉ frs X.stack := fun b hb z => by
        rcases List.mem_cons.mp (I.stkSub b z) with e | e
        · exact hb.2.1 e
        · exact hb.2.2.1 e
      have kp2 : ∀ b o, FpOk X pins H' b → s'.heap.get? b = some o → s''.heap.get? b = some o := fun b o hb e => un.keep b o e hb.1 (ok2 b hb) (by simp)
      refine ⟨⟨H'', I.call' (ch := []) os un hok bare (fun b z => absurd z (by simp)), S.trans S', ⟨un.free a oa ea fa.1 (by simp), fa.2⟩, ⟨un.free kS ok ek fk.1 (by simp), fk.2⟩, ⟨oa, kp2 a oa fa ea⟩, ⟨ok, kp2 kS ok fk ek⟩⟩, fun h => Reads.str _ _, fun o e => kp2 _ _ fk e, fun o e => kp2 _ _ fa e⟩
    | next => exact False.elim hq
    | brk => exact False.elim hq
    | cont => exact False.elim hq
theorem key_last {pins : List (Addr × Obj)} {σ : St} {H' : Hp} {a kS : Addr} {s' : Shared} {h' : Heap} {tk : Nat} {ys : List V} {its : List Value} {c : Nat} (I : Inv X pins σ H' s') (fa : FpOk X pins H' a) (fk : FpOk X pins H' kS) (rv : Vals ys its) (hz : ys.length ≤ sizeLine)
    (k2 : PySem.W.KeepsBut2 a kS s'.heap h') (hkS : ∃ o, h'.get? kS = some o) (ha : h'.get? a = some (seqObj "list" its.toArray c)) :
    Inv X pins σ (upd H' a (.lst ys)) { s' with heap := h', toks := tk } := by
  have nu : ∀ b o, H' b = some o → b ≠ a ∧ b ≠ kS := fun b o e => ⟨fun z => (by rw [z, fa.1] at e; cases e), fun z => (by rw [z, fk.1] at e; cases e)⟩
  have ne : ∀ {b : Addr}, b ∉ [a, kS] → b ≠ a ∧ b ≠ kS := fun h => ⟨fun z => h (by rw [z]; simp), fun z => h (by rw [z]; simp)⟩
  refine I.call (g' := s'.gens) (d' := s'.drawn) (ch := [a, kS]) ⟨?_, ?_, ?_, ?_, ?_, ?_, ?_⟩ ?_ I.bare ?_
  · exact fun b o e _ _ hx => k2 b o (ne hx).1 (ne hx).2 e
  · exact fun b o e _ _ hx => ⟨o.slots, k2 b o (ne hx).1 (ne hx).2 e⟩
  · exact fun b o e n hx => by rw [upd_ne (ne hx).1]; exact n
  · exact fun b o e hx => ⟨o, k2 b o (ne hx).1 (ne hx).2 e⟩
  · exact fun b xs e => by rw [upd_ne (nu b _ e).1]; exact e
  · exact fun b o xs e => by rw [upd_ne (nu b _ e).1]; exact e
  · exact fun b ps e => ⟨#[], by rw [upd_ne (nu b _ e).1, e]; simp⟩
  · intro b ob e
    by_cases hb : b = a
    · subst hb
      rw [upd_same] at e
      cases e
      exact ⟨hz, its, c, rv, ha⟩
    · rw [upd_ne hb] at e
      refine (I.hok b ob e).stay (fun c v hc q => ?_) (fun c q => by rw [upd_ne (nu c _ q).1]; exact q) fun c xs q => by rw [upd_ne (nu c _ q).1]; exact q
      rcases hc with rfl | hc
      · exact k2 _ _ (nu _ _ e).1 (nu _ _ e).2 q
      · exact k2 _ _ (nu _ _ hc).1 (nu _ _ hc).2 q
  · intro b hb
    have fb : FpOk X pins H' b := by
      rcases List.mem_cons.mp hb with rfl | hb
      · exact fa
      · rw [List.mem_singleton.mp hb]
        exact fk
    exact ⟨fb.2.2.2.1, fb.2.1, fb.2.2.2.2.1, fb.2.2.2.2.2⟩
theorem cr_sortedText (c : GCal X.prog X.w X.K X.mg X.base k "show_kind" (spText n)) (hr : RoomG j X.A) (hk : k + 2 ≤ j) : CallRK X (.builtin "sorted") [Str.ofString "key"] (rSortedText X.K X.mg n) := by
  intro pins s σ H vs zs us ws Q I r rz h
  obtain ⟨a, f, xs, ks, rfl, rfl, hm, hs, hx, hb, q⟩ := h
  obtain rfl := Vals.ref1 r
  obtain rfl := Vals.ref1 rz
  obtain ⟨its, rv, hl, hz⟩ := I.list hs
  have e := each_of hx rv
  have hL : its.length ≤ sizeLine := by rw [← rv.length]; exact hz
  refine PySem.W.sorted_of_sort hl.isList hL (PyProof.Rows.ksk_s1 _ _) (fun _ => PyProof.Rows.ksk_l1 _ _) fun E' => ?_
  show wpAny _ _ (Builtin.«list.sort» ⟨[.ref (s.heap.objs.size + 1)], [(Str.ofString "key", .ref f)]⟩) _ _ _
  rw [PyProof.Rows.ksk_t1]
  have ho : (PySem.W.copyHeap s.heap its).get? (s.heap.objs.size + 1) = some (seqObj "list" its.toArray 0) := PySem.W.copyHeap_at s.heap its
  obtain ⟨e1, ho1⟩ : ∃ e1, ((PySem.W.copyHeap s.heap its).update (s.heap.objs.size + 1) (Obj.mapSeq fun _ => (#[] : Array Value))).get? (s.heap.objs.size + 1) = some (seqObj "list" #[] e1) := ⟨_, get?_update_seq ho fun _ => #[]⟩
  unfold PyProof.Rows.ksk_tree
  refine wpAny_bind (listItems_at ho rfl ?_)
  refine wpAny_bind (listUpdate_at ho rfl ?_ (by rw [List.size_toArray]; exact hL) (Nat.zero_le _))
  refine wpAny_bind (seqEpoch_at ho1 rfl ?_)
  refine wpAny_bind (wpAny_newTuple ?_ (by show its.length ≤ _; exact hL))
  refine wpAny_bind (wpAny_newList ?_ (Nat.zero_le _))
  refine wpAny_holding ?_
  have kpc : ∀ b o, s.heap.get? b = some o → (((PySem.W.copyHeap s.heap its).update (s.heap.objs.size + 1) (Obj.mapSeq fun _ => (#[] : Array Value))).push (seqObj "tuple" its.toArray 0)).get? b = some o := fun b o q => by
    refine Heap.get?_push_of_some _ ?_
    rw [Heap.get?_update_ne _ _ _ _ (Nat.ne_of_lt (Nat.lt_succ_of_lt (Heap.lt_size q)))]
    exact PySem.W.copyHeap_old q
  have hap : (((PySem.W.copyHeap s.heap its).update (s.heap.objs.size + 1) (Obj.mapSeq fun _ => (#[] : Array Value))).push (seqObj "tuple" its.toArray 0)).get? (s.heap.objs.size + 1) = some (seqObj "list" #[] e1) := Heap.get?_push_of_some _ ho1
  have hkS : s.heap.objs.size + 1 < (((PySem.W.copyHeap s.heap its).update (s.heap.objs.size + 1) (Obj.mapSeq fun _ => (#[] : Array Value))).push (seqObj "tuple" its.toArray 0)).objs.size := Heap.lt_size hap
  generalize (((PySem.W.copyHeap s.heap its).update (s.heap.objs.size + 1) (Obj.mapSeq fun _ => (#[] : Array Value))).push (seqObj "tuple" its.toArray 0)) = g at kpc hap hkS ⊢
  have nk : (g.push (seqObj "list" #[] 0)).get? g.objs.size = some (seqObj "list" #[] 0) := Heap.get?_push_size _ rfl
  have na : (g.push (seqObj "list" #[] 0)).get? (s.heap.objs.size + 1) = some (seqObj "list" #[] e1) := Heap.get?_push_of_some _ hap
  have hgs : s.heap.objs.size ≤ g.objs.size := by omega
  have I1 : Inv X pins σ H { s with heap := g.push (seqObj "list" #[] 0) } := I.kept (t' := s.toks) fun b o e => Heap.get?_push_of_some _ (kpc b o e)
  have J0 : KeyJ X pins σ H (s.heap.objs.size + 1) g.objs.size { s with heap := g.push (seqObj "list" #[] 0) } :=
    ⟨H, I1, Same.refl _, I.fpOk (Nat.le_succ _) (I.hok.fresh (Nat.le_succ _)), I.fpOk hgs (I.hok.fresh hgs), ⟨_, na⟩, ⟨_, nk⟩⟩
  have hks : ks.length = its.length := by
    have := e.length
    omega
  refine PySem.W.keyJ_rest (s := { s with heap := g.push (seqObj "list" #[] 0) }) (kz := ks.map fun k => PyData.str (kt k)) (KeyJ X pins σ H (s.heap.objs.size + 1) g.objs.size) J0 nk na (Nat.ne_of_gt hkS) (by rw [List.length_map]; exact hks) hL
    (PySem.W.AllAlike.of fun _ _ => by simp [PySem.W.alike]) (PySem.W.Sortable.others fun _ => ⟨(by intro z; cases z), fun _ z => by cases z⟩) (fun d hd => ?_) (fun s' gg hJ h1 h2 => ?_) (fun i v d s' h1 h2 hJ => ?_) fun s' h' tk out c hJ k2 hk' ha' ko => ?_
  · obtain ⟨k0, _, rfl⟩ := List.mem_map.mp hd
    have hu := hr.r.un
    have : (PyData.str (kt k0)).depth ≤ 1 := by simp [PyData.depth]
    show X.A.units + 1 + 1 + _ < _
    omega
  · obtain ⟨H', I', S, fa, fk, ⟨oa, ea⟩, _⟩ := hJ
    have sb := Heap.SameBut.update s'.heap g.objs.size gg
    refine ⟨H', I'.turned (t' := s'.toks) (fun b o hb e => (sb.2 b hb).trans e) fk.1 fk.2.1 fk.2.2.2.1 fk.2.2.2.2.1 fk.2.2.2.2.2, S, fa, fk, ⟨oa, (sb.2 _ (Nat.ne_of_lt hkS)).trans ea⟩, h2⟩
  · obtain ⟨k0, hm0, ⟨v0, r0, hv0⟩, rfl⟩ := each_get e i v d h1 h2
    exact key_turn c hr hk hm hJ r0 hv0 (hb k0 hm0).1 (hb k0 hm0).2
  · obtain ⟨H', I', S, fa, fk, _, _⟩ := hJ
    have eo := PySem.W.keyedOut_each (fun k => PyData.str (kt k)) ko e
    rw [PySem.W.dataLe_str] at eo
    obtain ⟨ys, hy, ry⟩ := each_back eo
    have hyl : ys.length ≤ sizeLine := by
      have h1 := KsAt.len hy
      rw [List.length_mergeSort] at h1
      omega
    refine ⟨rfl, .ref (s.heap.objs.size + 1), upd H' (s.heap.objs.size + 1) (.lst ys), key_last I' fa fk ry hyl k2 hk' ha', rfl, q ys _ H' S (hy.mono (Same.tk S)) fa.1⟩
end
end L2.G
set_option Elab.async false
set_option linter.all false
set_option maxRecDepth 100000
set_option maxHeartbeats 4000000
/-! list(text), sorted(text), sorted(set(text)). -/
namespace L2
open PySem PySem.Froz PyProof.Rows
theorem addTx_ris {h : Int} {v : Value} {D : SD} (r : Ris D.2.2.place.toList) : Ris (addTx h v D).2.2.place.toList ∧ (addTx h v D).2.2.led = D.2.2.led := by
  obtain ⟨es, ep, t⟩ := D
  have h1 := layNew_ris t es h v r
  have h2 := layNew_led t es h v
  have hp : ∀ t : SetTable, (if t.plain = true then { t with plain := false } else t).place = t.place ∧ (if t.plain = true then { t with plain := false } else t).led = t.led := fun t => by
    split <;> exact ⟨rfl, rfl⟩
  show Ris (tailTx ep (layNew t es h v).1 (if (layNew t es h v).2.1.plain = true then { (layNew t es h v).2.1 with plain := false } else (layNew t es h v).2.1) (layNew t es h v).2.2.1).2.2.place.toList ∧
    (tailTx ep (layNew t es h v).1 (if (layNew t es h v).2.1.plain = true then { (layNew t es h v).2.1 with plain := false } else (layNew t es h v).2.1) (layNew t es h v).2.2.1).2.2.led = t.led
  obtain ⟨p1, p2⟩ := hp (layNew t es h v).2.1
  generalize (if (layNew t es h v).2.1.plain = true then { (layNew t es h v).2.1 with plain := false } else (layNew t es h v).2.1) = t2 at p1 p2 ⊢
  unfold tailTx
  split
  · exact ⟨relayAll_ris _ _ _, (relayAll_led _ _ _).trans (p2.trans h2)⟩
  · exact ⟨by rw [p1]; exact h1, p2.trans h2⟩
theorem runD_ok {P : Program} {w : World} : ∀ (cs : List Nat) (tk : Tok) (D : SD) (l : List Str), TxOk P w D l → Ris D.2.2.place.toList →
    TxOk P w (runD w cs tk D) ((cs.map sing).reverse ++ l) ∧ Ris (runD w cs tk D).2.2.place.toList ∧ (runD w cs tk D).2.2.led = D.2.2.led
  | [], tk, D, l, F, r => ⟨F, r, rfl⟩
  | c :: cs, tk, D, l, F, r => by
    obtain ⟨r1, l1⟩ := addTx_ris (h := hashStr w (sing c)) (v := .str (sing c) tk) r
    obtain ⟨a, b, d⟩ := runD_ok cs (tk + 2) _ (sing c :: l) (add_ok tk F) r1
    refine ⟨?_, b, d.trans l1⟩
    rw [List.map_cons, List.reverse_cons, List.append_assoc]
    exact a
theorem perm_of_sub {α : Type} [DecidableEq α] : ∀ {l xs : List α}, l.Nodup → (∀ k ∈ l, k ∈ xs) → xs.length ≤ l.length → l.Perm xs
  | [], xs, _, _, h => by
    cases xs with
    | nil => exact .nil
    | cons x xs => simp at h
  | x :: l, xs, hn, hs, hl => by
    have hx := hs x (List.mem_cons_self ..)
    have h1 := List.perm_cons_erase hx
    have h2 := List.length_erase_of_mem hx
    have h3 := List.length_pos_of_mem hx
    obtain ⟨n1, n2⟩ := List.nodup_cons.mp hn
    refine .trans (.cons x (perm_of_sub n2 (fun k hk => ?_) ?_)) h1.symm
    · exact (List.mem_erase_of_ne (fun e => n1 (by rw [← e]; exact hk))).mpr (hs k (List.mem_cons_of_mem _ hk))
    · rw [List.length_cons] at hl
      omega
theorem sing_inj {c d : Nat} (h : sing c = sing d) : c = d := by
  have q : [c] = [d] := congrArg (fun y : Str => y.cps.toList) h
  exact (List.cons.inj q).1
section
variable {P : Program} {w : World} {A : Around} {E : Value → Shared → Prop} {s : Shared}
/-- set(x), x a text of unlike ascii signs -/
theorem call_set_txt {x : Str} {u : Tok} {Q : Value → Shared → Prop} (hh : A.handled = none) (ha : x.cps.all (· < 128) = true) (hd : x.cps.toList.Nodup) (hz : x.cps.toList.length < scanBound)
    (h : ∀ (h' : Heap) (tk : Nat) (es : Array (Int × Value)) (ep : Nat) (t : SetTable), (∀ b o, s.heap.get? b = some o → h'.get? b = some o) → h'.get? s.heap.objs.size = some (sObj "set" (es, ep, t)) → TxOk P w (es, ep, t) ((x.cps.toList.map sing).reverse ++ []) → Ris t.place.toList →
      (w.params.followText "set-order" = true ∨ t.led = true) → Q (.ref s.heap.objs.size) { s with heap := h', toks := tk }) :
    wpAny (model P w) A (call (.type "set") [.str x u]) Q E s := by
  obtain ⟨c, tl, hmro⟩ := F.called_set.mro
  have hmade := F.called_set.made
  have hsub := F.called_set.sub
  refine wpAny_call (codeAny_of_tree ?_)
  show wpAny _ _ (callAny (.type "set") _) _ _ _
  refine wpAny_pure ⟨Code.quiet_builtin _ (by decide +kernel), codeAny_builtin F.entry_type_call ?_⟩
  rw [Around.under_plain (weight_type_call_type "set" [.str x u] []) rfl]
  have h1 := F.called_set.notType
  have h2 := F.called_set.canCreate
  have hct := F.typeCall_set_1 (.str x u)
  repeat (any_goals (first | assumption | wp_step))
  refine codeAny_mono (code_set_led1 (.str x u) (E := E) (Q₁ := fun obj s₁ => obj = .ref s.heap.objs.size ∧ s₁ = { s with heap := s.heap.push { cls := .type "set", dict := none, data := .set #[] 0 (.fresh 0 0 (!w.params.followText "set-order")) } }) ⟨rfl, rfl⟩) fun r s₁ hr => ?_
  cases r with
  | error e => exact hr
  | ok fl =>
    cases fl with
    | ret obj =>
      obtain ⟨rfl, rfl⟩ := hr
      have hS : (s.heap.push { cls := .type "set", dict := none, data := .set #[] 0 (.fresh 0 0 (!w.params.followText "set-order")) }).get? s.heap.objs.size = some { cls := .type "set", dict := none, data := .set #[] 0 (.fresh 0 0 (!w.params.followText "set-order")) } := Heap.get?_push_size _ rfl
      have hT : Shared.TypeIs { s with heap := s.heap.push { cls := .type "set", dict := none, data := .set #[] 0 (.fresh 0 0 (!w.params.followText "set-order")) } } (.ref s.heap.objs.size) "set" := ⟨_, hS, rfl⟩
      have hli := F.called_set.init.lookup
      have hbi := F.called_set.init.bind (.ref s.heap.objs.size)
      repeat (any_goals (first | assumption | wp_step))
      refine codeAny_mono (codeAny_call_builtin (R := wants (fun r s₂ => r = .none ∧ ∃ h' tk es ep t, s₂ = { s with heap := h', toks := tk } ∧ (∀ b o, s.heap.get? b = some o → h'.get? b = some o) ∧ h'.get? s.heap.objs.size = some (sObj "set" (es, ep, t)) ∧
          TxOk P w (es, ep, t) ((x.cps.toList.map sing).reverse ++ []) ∧ Ris t.place.toList ∧ (w.params.followText "set-order" = true ∨ t.led = true)) E) F.called_set.init.plain F.entry_set_init (check_set_init_1 hT ?_)) fun r₂ s₂ hr₂ => ?_
      · have hsls := F.sub_str_set
        have hslf := F.sub_str_frozenset
        have hne : (Value.type "str" == Value.type "dict") = false := by decide
        have hTs := typeIs_str { s with heap := s.heap.push { cls := .type "set", dict := none, data := .set #[] 0 (.fresh 0 0 (!w.params.followText "set-order")) } } x u
        unfold Builtin.«set.__init__» noKeywords Builtin.Frozenset.updateFrom
        generalize hPI : pyIter = PI
        wp_walk
        subst hPI
        refine wpAny_pyIter_ascii ha ?_
        refine wpAny_bind (wpAny_runValue ?_)
        have hh3 : A.in1.in1.handled = none := by simp [hh]
        have hz1 : (s.heap.push { cls := .type "set", dict := none, data := .set #[] 0 (.fresh 0 0 (!w.params.followText "set-order")) }).objs.size = s.heap.objs.size + 1 := Heap.size_push ..
        have hneI : s.heap.objs.size ≠ (s.heap.push { cls := .type "set", dict := none, data := .set #[] 0 (.fresh 0 0 (!w.params.followText "set-order")) }).objs.size := by
          rw [hz1]; exact Nat.ne_of_lt (Nat.lt_succ_self _)
        have hfit : (SetTable.fresh 0 0 (!w.params.followText "set-order")).fits 0 = true := by cases w.params.followText "set-order" <;> rfl
        have hit : ((s.heap.push { cls := .type "set", dict := none, data := .set #[] 0 (.fresh 0 0 (!w.params.followText "set-order")) }).push { cls := .type "str_ascii_iterator", data := .fields #[.str x u, .int 0 0] }).get? (s.heap.push { cls := .type "set", dict := none, data := .set #[] 0 (.fresh 0 0 (!w.params.followText "set-order")) }).objs.size = some (itObj x u 0) := Heap.get?_push_size _ rfl
        have F0 : TxOk P w (#[], 0, .fresh 0 0 (!w.params.followText "set-order")) [] := TxOk.nil hfit
        refine code_update (T := "set") (x := x) (u := u) hneI hh3 x.cps.toList 0 (#[], 0, .fresh 0 0 (!w.params.followText "set-order")) [] { s with heap := (s.heap.push { cls := .type "set", dict := none, data := .set #[] 0 (.fresh 0 0 (!w.params.followText "set-order")) }).push { cls := .type "str_ascii_iterator", data := .fields #[.str x u, .int 0 0] } } rfl (Heap.get?_push_of_some _ hS) hit F0 (fun c _ q => by cases q) hd (by show 0 + _ < _; rw [Nat.zero_add]; exact hz) ?_
        obtain ⟨a1, a2, a3⟩ := runD_ok (P := P) x.cps.toList s.toks (#[], 0, .fresh 0 0 (!w.params.followText "set-order")) [] F0 List.Pairwise.nil
        refine wpAny_pure ?_
        show wpAny _ _ (ret Value.none) _ _ _
        refine wpAny_pure ⟨rfl, _, _, (runD w x.cps.toList s.toks (#[], 0, .fresh 0 0 (!w.params.followText "set-order"))).1, (runD w x.cps.toList s.toks (#[], 0, .fresh 0 0 (!w.params.followText "set-order"))).2.1, (runD w x.cps.toList s.toks (#[], 0, .fresh 0 0 (!w.params.followText "set-order"))).2.2, rfl, ?_, ?_, a1, a2, ?_⟩
        · intro b o e
          have hlt := Heap.lt_size e
          refine Heap.get?_push_of_some _ (Heap.get?_push_of_some _ ?_)
          unfold two
          rw [Heap.get?_update_ne _ _ _ _ (by rw [hz1]; exact Nat.ne_of_lt (Nat.lt_succ_of_lt hlt)), Heap.get?_update_ne _ _ _ _ (Nat.ne_of_lt hlt)]
          exact Heap.get?_push_of_some _ (Heap.get?_push_of_some _ e)
        · refine Heap.get?_push_of_some _ (Heap.get?_push_of_some _ ?_)
          unfold two
          rw [Heap.get?_update_ne _ _ _ _ hneI]
          exact get_upd _ (Heap.get?_push_of_some _ hS) rfl
        · rw [a3]
          show _ ∨ (!w.params.followText "set-order") = true
          cases w.params.followText "set-order"
          · exact .inr rfl
          · exact .inl rfl
      · cases r₂ with
        | error e => exact hr₂
        | ok fl₂ =>
          cases fl₂ with
          | ret r =>
            obtain ⟨rfl, h', tk, es, ep, t, rfl, k1, k2, k3, k4, k5⟩ := hr₂
            repeat (any_goals (first | assumption | wp_step))
            exact h _ _ _ _ _ k1 k2 k3 k4 k5
          | _ => exact hr₂.elim
    | _ => exact hr.elim
/-- sorted(set), its members texts of one sign -/
theorem sorted_set_txt {a : Addr} {es : Array (Int × Value)} {ep : Nat} {t : SetTable} {l : List Str} {Q : Value → Shared → Prop} (ho : s.heap.get? a = some (sObj "set" (es, ep, t))) (F : TxOk P w (es, ep, t) l) (hl : l.Nodup) (r : Ris t.place.toList) (hf : w.params.followText "set-order" = true ∨ t.led = true)
    (hh : A.handled = none) (h64 : l.length < 64)
    (hQ : ∀ s' p (out : Array Value) (c : Nat) (ys : List Str), (∀ b o, s.heap.get? b = some o → s'.heap.get? b = some o) → s'.gens = s.gens → s'.os = s.os → s.heap.objs.size ≤ p →
      s'.heap.get? p = some (seqObj "list" out c) → StrsAre out.toList ys → ys.Perm l → sortedS ys = true → Q (.ref p) s') :
    wpAny (model P w) A (call (.builtin "sorted") [.ref a]) Q E s := by
  have hsz : es.size = l.length := F.sz
  refine Calls.call_function_entry kind_sorted plain_sorted entry_sorted (args_sorted1 _) ?_
  unfold Builtin.«sorted»
  refine wpAny_bind (m := checkCount "sorted" 1 1 _) (wpAny_pure ?_)
  refine wpAny_bind (collect_set (A := A.in1) hh ⟨_, ho, rfl, rfl⟩ F.fit (by rw [hsz]; unfold scanBound; omega) r hf fun s1 vs k1 hz g1 o1 pm => ?_)
  have hvl : vs.length = l.length := by rw [pm.length_eq, List.length_map, Array.length_toList]; exact hsz
  obtain ⟨xs, hI, hx⟩ : ∃ xs, StrsAre vs xs ∧ ∀ k ∈ xs, k ∈ l := by
    have hv : ∀ v ∈ vs, ∃ k tk, v = Value.str k tk ∧ k ∈ l := fun v hv => by
      obtain ⟨e, he, q⟩ := List.mem_map.mp (pm.mem_iff.mp hv)
      obtain ⟨⟨k, hk, _⟩, _⟩ := F.el e he
      obtain ⟨tk, ek⟩ := Value.isStrOf_shape hk
      exact ⟨k, tk, by rw [← q]; exact ek, (F.mem k).mpr ⟨e, he, hk⟩⟩
    clear pm hvl
    induction vs with
    | nil => exact ⟨[], .nil, fun k h => by cases h⟩
    | cons v vs ih =>
      obtain ⟨xs, h1, h2⟩ := ih fun u hu => hv u (List.mem_cons_of_mem _ hu)
      obtain ⟨k, tk, rfl, hk⟩ := hv v (List.mem_cons_self ..)
      exact ⟨k :: xs, .cons k tk h1, fun j hj => (List.mem_cons.mp hj).elim (fun e => e ▸ hk) (h2 j)⟩
  have hxl : xs.length = l.length := by
    rw [← hvl]
    clear hx pm hvl
    induction hI with
    | nil => rfl
    | cons y t h ih => simp [ih]
  have hback : ∀ k ∈ l, k ∈ xs := fun k hk => by
    obtain ⟨e, he, z⟩ := (F.mem k).mp hk
    obtain ⟨tk, ek⟩ := Value.isStrOf_shape z
    have hm : Value.str k tk ∈ vs := pm.mem_iff.mpr (List.mem_map.mpr ⟨e, he, ek⟩)
    clear hx pm hvl hxl
    induction hI with
    | nil => cases hm
    | cons y t h ih =>
      rcases List.mem_cons.mp hm with q | q
      · injection q with q _
        rw [q]; exact List.mem_cons_self ..
      · exact List.mem_cons_of_mem _ (ih q)
  have hp : l.Perm xs := perm_of_sub hl hback (by omega)
  refine wpAny_bind (wpAny_newList ?_ (by rw [hvl, sizeLine_eq]; omega))
  have hoL : (s1.heap.push (seqObj "list" vs.toArray 0)).get? s1.heap.objs.size = some (seqObj "list" vs.toArray 0) := Heap.get?_push_size _ rfl
  refine wpAny_bind (wpAny_holding (wpAny_call_entry slot_list_sort ⟨_, hoL, rfl⟩ entry_list_sort (list_sort_treeK strKind_oneLt hoL hI.keysOf (fun v₁ v₂ rest e => keyKind_strs (by rw [← e]; exact hI)) (by rw [hvl]; exact h64) fun st' hp' hs => ⟨_, rfl, ?_⟩) (args_list_sort _)))
  obtain ⟨ys, a1, a2, a3⟩ := sorted_out_str hI hp' hs
  obtain ⟨c, hc⟩ := sortedHeap_at (vs := vs) (out := (arrOf st').map (·.2)) hoL
  refine wpAny_pure ⟨_, rfl, hQ _ s1.heap.objs.size _ c ys (fun b u e => ?_) g1 o1 hz hc a1 (a2.trans hp.symm) a3⟩
  have q := k1 b u e
  have hlt := Heap.lt_size q
  show (sortedHeap (s1.heap.push (seqObj "list" vs.toArray 0)) s1.heap.objs.size vs ((arrOf st').map (·.2))).get? b = some u
  rw [sortedHeap_old (Nat.ne_of_lt hlt) (by rw [size_push']; exact Nat.lt_succ_of_lt hlt)]
  exact Heap.get?_push_of_some _ q
end
end L2
set_option Elab.async false
set_option linter.all false
set_option maxRecDepth 100000
set_option maxHeartbeats 4000000
/-! list(text), sorted(text), sorted(set(text)): the rules. -/
namespace L2.G
open PySem PySem.Spec PyProof.Rows WW
open PySem.Froz (sing)
/-- the signs of a text -/
abbrev signs (x : Str) : List Str := x.cps.toList.map sing
theorem vals_signs {x : Str} {acc : Array Value} (h : ItemsOf (SignAt x) acc x.cps.size) : Vals ((signs x).map V.str) acc.toList := by
  obtain ⟨h1, h2⟩ := h
  have h1 : acc.size = x.cps.size := h1
  have key : ∀ (l : List Value) (cs : List Nat), l.length = cs.length → (∀ (i : Nat) (v : Value), l[i]? = some v → ∃ c u, cs[i]? = some c ∧ v = Value.str ⟨#[c]⟩ u) → Vals ((cs.map sing).map V.str) l := by
    intro l
    induction l with
    | nil =>
      intro cs e _
      cases cs with
      | nil => exact .nil
      | cons c cs => simp at e
    | cons v l ih =>
      intro cs e hh
      cases cs with
      | nil => simp at e
      | cons c cs =>
        obtain ⟨c', u, e1, e2⟩ := hh 0 v rfl
        obtain rfl : c = c' := by simpa using e1
        exact .cons ⟨u, e2⟩ (ih cs (by simpa using e) fun i v hv => hh (i + 1) v (by simpa using hv))
  refine key _ _ (by rw [Array.length_toList, Array.length_toList]; exact h1) fun i v hv => ?_
  obtain ⟨c, u, e1, e2⟩ := h2 i v (by rw [← Array.getElem?_toList]; exact hv)
  exact ⟨c, u, by rw [Array.getElem?_toList]; exact e1, e2⟩
theorem strs_signs {x : Str} {acc : Array Value} (h : ItemsOf (SignAt x) acc x.cps.size) : StrsAre acc.toList (signs x) := (vals_signs h).strs
section
variable {X : Cx}
/-- list(x) of a text -/
theorem cr_listTxt (hc : X.calm = true) : CallR X (.type "list") (fun xs H Q => ∃ x : Str, xs = [.str x] ∧ x.cps.size ≤ sizeLine ∧ ∀ l, H l = none → Q (.ref l) (upd H l (.lst ((signs x).map V.str)))) := by
  intro pins s σ H xs us Q I r h
  obtain ⟨x, rfl, hz, q⟩ := h
  obtain ⟨u, rfl, ru⟩ := vals1 r
  obtain ⟨t, rfl⟩ := ru
  have hn : H s.heap.objs.size = none := I.hok.fresh (Nat.le_refl _)
  have hlen : ((signs x).map V.str).length ≤ sizeLine := by
    rw [List.length_map, List.length_map, Array.length_toList]; exact hz
  refine call_list_str (I.ok.hd hc) x t (fun h' tk acc c k hS hi => ?_) hz
  exact ⟨.ref _, upd H s.heap.objs.size (.lst ((signs x).map V.str)), I.laid (t' := tk) k (Nat.le_refl _) ⟨hlen, acc.toList, c, vals_signs hi, by rw [Array.toArray_toList]; exact hS⟩, rfl, q _ hn⟩
/-- sorted(x) of a text -/
theorem cr_sortedTxt (hc : X.calm = true) : CallR X (.builtin "sorted") (fun xs H Q => ∃ x : Str, xs = [.str x] ∧ x.cps.size < 64 ∧ ∀ (ys : List Str) (l : Addr), ys.Perm (signs x) → sortedS ys = true → H l = none → Q (.ref l) (upd H l (.lst (ys.map V.str)))) := by
  intro pins s σ H xs us Q I r h
  obtain ⟨x, rfl, hz, q⟩ := h
  obtain ⟨u, rfl, ru⟩ := vals1 r
  obtain ⟨t, rfl⟩ := ru
  refine Calls.call_function_entry kind_sorted plain_sorted entry_sorted (args_sorted1 _) ?_
  unfold Builtin.«sorted»
  refine wpAny_bind (m := checkCount "sorted" 1 1 _) (wpAny_pure ?_)
  refine wpAny_bind (wpAny_collect_str (A := X.A.in1) (I.ok.hd hc) x t (fun s1 acc k1 g1 d1 o1 hi => ?_) (by rw [sizeLine_eq]; omega))
  have hI := strs_signs hi
  have hal : acc.toList.length = x.cps.size := by rw [Array.length_toList]; exact hi.1
  refine wpAny_bind (wpAny_newList ?_ (by rw [hal, sizeLine_eq]; omega))
  have hoL : (s1.heap.push (seqObj "list" acc.toList.toArray 0)).get? s1.heap.objs.size = some (seqObj "list" acc.toList.toArray 0) := Heap.get?_push_size _ rfl
  refine wpAny_bind (wpAny_holding (wpAny_call_entry slot_list_sort ⟨_, hoL, rfl⟩ entry_list_sort (list_sort_treeK strKind_oneLt hoL hI.keysOf (fun v₁ v₂ rest e => keyKind_strs (by rw [← e]; exact hI)) (by rw [hal]; exact hz) fun st' hp' hs => ⟨_, rfl, ?_⟩) (args_list_sort _)))
  obtain ⟨ys, a1, a2, a3⟩ := sorted_out_str hI hp' hs
  obtain ⟨c, hc'⟩ := sortedHeap_at (vs := acc.toList) (out := (arrOf st').map (·.2)) hoL
  have I1 : Inv X pins σ H s1 := I.call' (ch := []) o1 (Un.kept k1) (I.hok.kept k1) (by rw [g1]; exact I.bare) (fun _ z => nomatch z)
  have hn : H s1.heap.objs.size = none := I1.hok.fresh (Nat.le_refl _)
  have hlen : (ys.map V.str).length ≤ sizeLine := by
    rw [List.length_map, a2.length_eq, List.length_map, Array.length_toList, sizeLine_eq]; omega
  have kk : ∀ b u, s1.heap.get? b = some u → (sortedHeap (s1.heap.push (seqObj "list" acc.toList.toArray 0)) s1.heap.objs.size acc.toList ((arrOf st').map (·.2))).get? b = some u := fun b u q => by
    have hlt := Heap.lt_size q
    rw [sortedHeap_old (Nat.ne_of_lt hlt) (by rw [size_push']; exact Nat.lt_succ_of_lt hlt)]
    exact Heap.get?_push_of_some _ q
  exact wpAny_pure ⟨_, rfl, .ref s1.heap.objs.size, upd H s1.heap.objs.size (.lst (ys.map V.str)), I1.laid (t' := s1.toks) kk (Nat.le_refl _) ⟨hlen, _, c, vals_of_strs a1, hc'⟩, rfl, q ys _ a2 a3 hn⟩
/-- sorted(set(x)), x a text of few unlike ascii signs -/
theorem pe_sortedSet {e : Expr} {te : TE} {p p2 pos pos2 : Pos} (hc : X.calm = true) (hg : Gl X "sorted") (hm : X.mg "sorted" = none) (hg2 : Gl X "set") (hm2 : X.mg "set" = none) (he : PE X e te)
    (hs : starEach [e] X.env = (false, eval e X.env) :: starEach [] X.env := by rfl)
    (hs2 : starEach [.Call (.Name "set" p2) [e] [] pos2] X.env = (false, eval (.Call (.Name "set" p2) [e] [] pos2) X.env) :: starEach [] X.env := by rfl) :
    PE X (.Call (.Name "sorted" p) [.Call (.Name "set" p2) [e] [] pos2] [] pos) (fun σ H Q => te σ H fun v H1 => ∃ x : Str, v = .str x ∧ x.cps.all (· < 128) = true ∧ x.cps.toList.Nodup ∧ x.cps.toList.length < 64 ∧
      ∀ (ys : List Str) (l : Addr), ys.Perm (signs x) → sortedS ys = true → H1 l = none → Q (.ref l) (upd H1 l (.lst (ys.map V.str)))) := by
  refine ⟨fun pins s σ H Q I h => ?_⟩
  refine wpAny_Call_Name_kw (ld_blt I hg hm (by rfl) ?_ (by decide) (by decide))
  refine PyProof.Rows.callWith_builtin1 (args_cons ?_ hs2) hs2 rfl
  refine wpAny_Call_Name_kw (ld_blt I hg2 hm2 (by rfl) (PyProof.Rows.callWith_type1 (args_cons (thn (he.run pins s σ H _ I h) fun u s1 ⟨v, H1, I1, r1, q1⟩ => args_nil ?_) hs) hs rfl) (by decide) (by decide))
  obtain ⟨x, rfl, ha, hd, hz, q⟩ := q1
  obtain ⟨t, rfl⟩ := r1
  refine call_set_txt (P := X.prog) (w := X.w) (I1.ok.hd hc) ha hd (by unfold scanBound; omega) fun h' tk es ep tb k1 k2 k3 k4 k5 => args_nil ?_
  have hnd : ((x.cps.toList.map sing).reverse ++ []).Nodup := by
    rw [List.append_nil]
    exact (List.reverse_perm _).nodup_iff.mpr (List.Pairwise.map sing (fun a b hne e => hne (sing_inj e)) hd)
  have I2 : Inv X pins σ H1 { s1 with heap := h', toks := tk } := I1.kept k1
  refine sorted_set_txt (s := { s1 with heap := h', toks := tk }) k2 k3 hnd k4 k5 (I1.ok.hd hc) (by simpa using hz) fun s' p out c ys kk g1 o1 hp hS hI hpm hso => ?_
  have hperm : ys.Perm (signs x) := hpm.trans (by rw [List.append_nil]; exact List.reverse_perm _)
  have I3 : Inv X pins σ H1 s' := I2.call' (ch := []) o1 (Un.kept kk) (I2.hok.kept kk) (by rw [g1]; exact I2.bare) (fun _ z => nomatch z)
  have hn : H1 p = none := I2.hok.fresh hp
  have hlen : (ys.map V.str).length ≤ sizeLine := by
    rw [List.length_map, hperm.length_eq, List.length_map, sizeLine_eq]; omega
  exact ⟨.ref p, upd H1 p (.lst (ys.map V.str)), I2.call' (ch := []) o1 (Un.laid kk hp hn) (I2.hok.laid kk hp ⟨hlen, _, c, vals_of_strs hI, hS⟩) (by rw [g1]; exact I2.bare) (fun _ z => nomatch z), rfl, q ys p hperm hso hn⟩
end
end L2.G
set_option Elab.async false
set_option linter.all false
set_option maxRecDepth 100000
set_option maxHeartbeats 4000000
/-! Sorted texts; check_asked, check_single, check_small. -/
namespace L2.G
open PySem PySem.Spec PyProof.Rows WW
open PySem.Froz (sing)
theorem pw_of_rising : ∀ (l : List Str) (p : Str), risingS p l = true → (p :: l).Pairwise (fun a b => a.cps.toList ≤ b.cps.toList)
  | [], p, _ => List.pairwise_singleton _ _
  | x :: r, p, h => by
    have h := Bool.and_eq_true_iff.mp h
    have h1 : p.cps.toList ≤ x.cps.toList := by
      have := h.1
      rw [ltCps_eq] at this
      simpa using this
    have h2 := pw_of_rising r x h.2
    refine List.pairwise_cons.mpr ⟨fun y hy => ?_, h2⟩
    rcases List.mem_cons.mp hy with rfl | hy
    · exact h1
    · exact List.le_trans h1 ((List.pairwise_cons.mp h2).1 y hy)
theorem pw_of_sortedS : ∀ {l : List Str}, sortedS l = true → l.Pairwise (fun a b => a.cps.toList ≤ b.cps.toList)
  | [], _ => .nil
  | x :: r, h => pw_of_rising r x h
theorem str_antisymm {a b : Str} (h1 : a.cps.toList ≤ b.cps.toList) (h2 : b.cps.toList ≤ a.cps.toList) : a = b := by
  have := List.le_antisymm h1 h2
  obtain ⟨⟨a⟩⟩ := a
  obtain ⟨⟨b⟩⟩ := b
  have : a = b := this
  rw [this]
theorem ch_le {c d : Nat} (h : c ≤ d) : (ch c).cps.toList ≤ (ch d).cps.toList := by
  show ([c] : List Nat) ≤ [d]
  refine List.not_lt.mp fun q => ?_
  rcases List.cons_lt_cons_iff.mp q with q | ⟨_, q⟩
  · omega
  · exact absurd q (List.not_lt_nil [])
theorem ch_le_iff {c d : Nat} (h : (ch c).cps.toList ≤ (ch d).cps.toList) : c ≤ d := by
  rcases Nat.lt_or_ge d c with q | q
  · exact absurd (List.cons_lt_cons_iff.mpr (.inl q) : ([d] : List Nat) < [c]) (List.not_lt.mpr h)
  · exact q
theorem sorted_uniq {xs ys : List Str} (h1 : xs.Pairwise (fun a b => a.cps.toList ≤ b.cps.toList)) (h2 : ys.Pairwise (fun a b => a.cps.toList ≤ b.cps.toList)) (p : xs.Perm ys) : xs = ys :=
  List.Perm.eq_of_pairwise (fun a b _ _ h h' => str_antisymm h h') h1 h2 p
theorem chs_sorted {ns : List Nat} (h : ns.Pairwise (· < ·)) : (ns.map ch).Pairwise (fun a b => a.cps.toList ≤ b.cps.toList) :=
  List.Pairwise.map ch (fun a b hne => ch_le (Nat.le_of_lt hne)) h
theorem signs_tx (ns : List Nat) : signs (tx ns) = ns.map ch := rfl
theorem eqvAll_strs : ∀ l : List Str, PyData.eqvAll (l.map PyData.str) (l.map PyData.str) = true
  | [] => by simp [PyData.eqvAll]
  | x :: l => by
    rw [List.map_cons, eqvAll_cons, eqvAll_strs l, eqv_str]
    simp
theorem dp_strs {K : PySem.W.Frag} {H : Hp} : ∀ l : List Str, DpAll K H (l.map V.str) (l.map PyData.str)
  | [] => .nil
  | x :: l => .cons (.str x) (dp_strs l)
theorem strs_canLay : ∀ l : List Str, (∀ x ∈ l, PyData.canLay0 (.str x) = true) → PyData.canLayAll0 (l.map PyData.str) = true
  | [], _ => by simp [PyData.canLayAll0]
  | x :: l, h => by
    rw [List.map_cons, PyData.canLayAll0, strs_canLay l fun y hy => h y (List.mem_cons_of_mem _ hy), h x (List.mem_cons_self ..)]
    rfl
theorem strs_depth : ∀ l : List Str, PyData.depthAll (l.map PyData.str) = 0
  | [] => by simp [PyData.depthAll]
  | x :: l => by rw [List.map_cons, PyData.depthAll, strs_depth l]; simp [PyData.depth]
theorem strs_shaped (l : List Str) (h : ∀ x ∈ l, PyData.canLay0 (.str x) = true) : SeqAt.shaped (.list (l.map PyData.str)) = true :=
  Bool.and_eq_true_iff.mpr ⟨by rw [PyData.canLay0]; exact strs_canLay l h, decide_eq_true (by rw [PyData.depth, strs_depth]; decide)⟩
def spAskd : SpG := fun vs H Q => ∃ (l e : Addr) (us : List V) (r : List (Kd Nat)), vs = [.ref l, .ref e] ∧ H l = some (.lst us) ∧ H e = some (.lst []) ∧ KsAt H us r ∧ (∀ z ∈ r, z.All Az ∧ z.ops < 20) ∧ r ≠ [] ∧ r.length ≤ 100 ∧ ∀ H', Same H H' → Q .non H'
def spOnly : SpG := fun vs H Q => ∃ (l : Addr) (g : V) (us : List V) (r : List (Kd Nat)) (k : Kd Nat), vs = [.ref l, g] ∧ H l = some (.lst us) ∧ KsAt H us r ∧ KAt H g k ∧ (∀ z ∈ r, z.ops < 20) ∧ k.ops < 20 ∧ r.length ≤ 100 ∧ ∀ H', Same H H' → Q .non H'
def Chs (ns : List Nat) : Prop := ns.Pairwise (· < ·) ∧ (∀ c ∈ ns, Az c) ∧ 1 ≤ ns.length ∧ ns.length ≤ 3
def spSmallP : SpG := fun vs H Q => ∃ (ns : List Nat) (m : Nat), vs = [.str (tx ns), .int (m : Nat)] ∧ Chs ns ∧ 1 ≤ m ∧ m ≤ 3 ∧ ∀ H', Same H H' → Q .non H'
section
variable {P : Program} {w : World} {K : PySem.W.Frag} {mg : Str → Option Value} {base : Heap} {C : Addr}
theorem c_check_asked (T : Txt w K mg C) : GCal P w K mg base 23 "check_asked" spAskd := by
  have C_checked_kind := c_checked_kind (P := P) (base := base) T 20
  refine cal_of T.dP_check_asked scP_check_asked (fun vs H Q ⟨_, _, _, _, e, _⟩ => by rw [e]; rfl) fun f cdv A outer s H vs Q hr ⟨l, e, us, r, e0, hl, he, hks, hz, hne, hlen, q⟩ => ?_
  subst e0
  refine ⟨_, (pss_cons (ps_for PassesOwn.never rfl (pi_list (pe_lst (StX.pa_star (pv 0) (StX.pa_star (pv 1) pa_nil)))) (pg_name (i := 2) scP_check_asked.nd rfl (by first | exact Or.inl rfl | exact Or.inr rfl))
      (pss_one (ps_expr (pe_g C_checked_kind hr (by omega) rfl (pa_cons (pv 2) pa_nil)))))
    (pss_one (ps_if (pt_cmpR op_eq (pe_callB call_len_seq rfl T.m_len (by decide +kernel) (pa_cons (pv 0) pa_nil)) pe_int (nomark _))
      (pss_one ps_never)
      pss_nil))), ?_⟩
  have zl : sizeLine = 16777216 := sizeLine_eq
  have hul := hks.len
  refine ⟨_, rfl, l, us, rfl, .inr (SqL.of hl), _, rfl, e, [], rfl, .inr (SqL.of he), ?_⟩
  have eu : us ++ (([] : List V) ++ ([] : List V)) = us := by simp
  show (us ++ (([] : List V) ++ ([] : List V))).length ≤ sizeLine ∧ _
  rw [eu]
  refine ⟨by omega, fun p np => ⟨p, rfl, ⟨_, SqL.of upd_same⟩, ?_⟩⟩
  have S1 := same_new np (.lst us)
  refine for_it (walk_list (xs := us)) (fun i σ H5 => ∃ x2 : Option V, σ = [some (.ref l), some (.ref e), x2] ∧ Same (upd H p (.lst us)) H5) ⟨none, rfl, Same.refl _⟩ (fun i σ H5 _ ⟨_, _, S5⟩ => SqL.of (S5 _ _ upd_same)) ?_ ?_
  · rintro i x σ H5 H6 hi ⟨x2, rfl, S5⟩ ⟨rfl, hx⟩
    obtain ⟨z, hz1, hzv⟩ := KsAt.get' hks hx
    have hm := hz z (mem_of_get hz1)
    exact ⟨_, rfl, _, _, rfl, hzv.mono (Same.tk (S1.trans S5)), hm.2, hm.1, ⟨_, rfl, S5⟩⟩
  · rintro σ H5 ⟨x2, rfl, S5⟩
    have S15 := S1.trans S5
    have hrp : 0 < us.length := by
      cases r with
      | nil => exact absurd rfl hne
      | cons z r => rw [hul]; exact Nat.succ_pos _
    refine ⟨_, rfl, _, _, rfl, .inl (SqL.of (S15 _ _ hl)), rfl, _, rfl, ifN (fun z => ?_) (q _ S15)⟩
    injection z with z
    omega
theorem c_check_single (T : Txt w K mg C) : GCal P w K mg base 21 "check_single" spOnly := by
  have C_single := c_single (P := P) (base := base) T 20
  refine cal_of T.dP_check_single scP_check_single (fun vs H Q ⟨_, _, _, _, _, e, _⟩ => by rw [e]; rfl) fun f cdv A outer s H vs Q hr ⟨l, g, us, r, k, e0, hl, hks, hk, hz, hkz, hlen, q⟩ => ?_
  subst e0
  refine ⟨_, (pss_one (ps_for PassesOwn.never rfl (pi_list (pe_ifExp (pt_cmpR op_isN (pv 1) pe_non (nomark _)) (pv 0) (pe_lst (StX.pa_star (pv 0) (pa_cons (pv 1) pa_nil))))) (pg_name (i := 2) scP_check_single.nd rfl (by first | exact Or.inl rfl | exact Or.inr rfl))
      (pss_one (ps_if (pt_not (pt_val (pe_g C_single hr (by omega) rfl (pa_cons (pv 2) pa_nil))))
        (pss_one ps_never)
        pss_nil)))), ?_⟩
  have zl : sizeLine = 16777216 := sizeLine_eq
  have hul := hks.len
  have hg : g ≠ .non := by cases hk <;> exact fun z => nomatch z
  refine ⟨_, rfl, rfl, _, rfl, ifN hg ?_⟩
  refine ⟨_, rfl, l, us, rfl, .inr (SqL.of hl), _, rfl, ?_⟩
  refine ⟨by rw [List.length_append]; show us.length + 1 ≤ _; omega, fun p np => ⟨p, rfl, ⟨_, SqL.of upd_same⟩, ?_⟩⟩
  have S1 := same_new np (.lst (us ++ [g]))
  have hall : KsAt H (us ++ [g]) (r ++ [k]) := hks.append (.cons hk .nil)
  refine for_it (walk_list (xs := us ++ [g])) (fun i σ H5 => ∃ x2 : Option V, σ = [some (.ref l), some g, x2] ∧ Same (upd H p (.lst (us ++ [g]))) H5) ⟨none, rfl, Same.refl _⟩ (fun i σ H5 _ ⟨_, _, S5⟩ => SqL.of (S5 _ _ upd_same)) ?_ ?_
  · rintro i x σ H5 H6 hi ⟨x2, rfl, S5⟩ ⟨rfl, hx⟩
    obtain ⟨z, hz1, hzv⟩ := KsAt.get' hall hx
    have hm : z.ops < 20 := by
      rcases List.mem_append.mp (mem_of_get hz1) with h | h
      · exact hz z h
      · rw [List.mem_singleton.mp h]; exact hkz
    exact ⟨_, rfl, _, _, rfl, hzv.mono (Same.tk (S1.trans S5)), hm, _, rfl, iteF ⟨_, rfl, S5⟩⟩
  · rintro σ H5 ⟨x2, rfl, S5⟩
    exact q _ (S1.trans S5)
end
end L2.G
set_option Elab.async false
set_option linter.all false
set_option maxRecDepth 100000
set_option maxHeartbeats 4000000
/-! check_small. -/
namespace L2.G
open PySem PySem.Spec PyProof.Rows WW
open PySem.Froz (sing)
theorem ch_canLay {c : Nat} (h : Az c) : PyData.canLay0 (.str (ch c)) = true := by
  have := kdat_canLay (k := .p c) h
  rw [kdat, PyData.canLay0, PyData.canLayAll0, PyData.canLayAll0, PyData.canLayAll0] at this
  simp only [Bool.and_eq_true] at this
  exact this.2.1
section
variable {P : Program} {w : World} {K : PySem.W.Frag} {mg : Str → Option Value} {base : Heap} {C : Addr}
theorem c_check_small (T : Txt w K mg C) : GCal P w K mg base 2 "check_small" spSmallP := by
  refine cal_of T.dP_check_small scP_check_small (fun vs H Q ⟨_, _, e, _⟩ => by rw [e]; rfl) fun f cdv A outer s H vs Q hr ⟨ns, m, e0, hc, hm1, hm3, q⟩ => ?_
  subst e0
  obtain ⟨hpw, haz, hl1, hl3⟩ := hc
  refine ⟨_, (pss_cons (ps_setLc (i := 2) (own := [("sign", 3)]) (g := gName 3) rfl scP_check_small.nd rfl rfl (sw_true rfl rfl rfl (by decide +kernel)) (pi_str (pv 0)) (blkOk_by (own := [("sign", 3)]) (N := ["signs", "most", "strange", "sign"]) (sc := defScope sP_check_small) (by decide +kernel)) (fun _ _ _ _ _ => (pg_name (i := 3) scP_check_small.nd rfl (by first | exact Or.inl rfl | exact Or.inr rfl))) (fun _ _ _ _ _ => (pts_one (pt_cmpR op_notIn_sign (pv 3) (pe_gl T.G_LETTERS_finding) (by with_unfolding_all rfl)))) (fun _ _ _ _ _ => (pv 3)))
    (pss_cons (ps_if (PW.pt (pw_or (pt_not (pt_chain op_le op_le pe_int (pe_callB call_len_str rfl T.m_len (by decide +kernel) (pa_cons (pv 0) pa_nil)) (pe_gl T.G_MOST_SIGNS))) (pw_or (pt_cmpR (op_neD hr.r.units) (pv 2) (pe_lst pa_nil) (nomark _)) (pw_or1 (pt_cmpR (op_neD hr.r.units) (pe_callTy (cr_listTxt rfl) rfl T.m_list (by decide +kernel) (pa_cons (pv 0) pa_nil)) (pe_sortedSet rfl rfl T.m_sorted rfl T.m_set (pv 0)) (nomark _))))))
      (pss_one ps_never)
      pss_nil)
    (pss_one (ps_if (pt_not (pt_chain op_le op_le pe_int (pv 1) (pe_gl T.G_MOST_LETTERS)))
      (pss_one ps_never)
      pss_nil)))), ?_⟩
  have zl : sizeLine = 16777216 := sizeLine_eq
  have hsz : (tx ns).cps.size = ns.length := by simp
  refine ⟨_, rfl, _, rfl, fun D nD => ?_⟩
  refine lc_sieveG (item := fun i v => ∃ c, (tx ns).cps[i]? = some c ∧ v = .str ⟨#[c]⟩) walk_str (ns.map fun c => (V.str (ch c), false)) (by rw [List.length_map, hsz]) (by omega) nD (fun H h => trivial) (fun x => rfl)
    (fun i x y b H1 Q1 hx hy s1 h => ?_) (fun i x y H1 Q1 hx hy s1 h => ?_) (fun H1 S1 hD1 => ?_)
  · obtain ⟨c, hc, rfl⟩ := hx
    have hc' : ns[i]? = some c := by simpa using hc
    rw [List.getElem?_map, hc'] at hy
    cases hy
    have e : (!decide (c ∈ ("abcdefghijklmnopqrstuvwxyz" : Str).cps.toList)) = false := by
      rw [decide_eq_true (az_mem (haz c (List.mem_of_getElem? hc')))]; rfl
    exact ⟨_, rfl, c, _, rfl, rfl, _, rfl, by rw [e]; exact h _ (Same.refl _)⟩
  · obtain ⟨c, hc, rfl⟩ := hx
    have hc' : ns[i]? = some c := by simpa using hc
    rw [List.getElem?_map, hc'] at hy
    cases hy
  have hnil : H1 D = some (.lst []) := by
    rw [hD1]
    congr 2
    rw [List.filter_map]
    simp [Function.comp_def]
  have hlen : ((tx ns).length : Int) = (ns.length : Nat) := by rw [tx_len]
  refine ⟨_, rfl, _, rfl, by rw [tx_len]; omega, _, _, rfl, rfl, _, rfl, ?_⟩
  rw [hlen]
  refine ite2 (fun _ => ?_) (fun c => absurd (decide_eq_true (by omega)) c)
  refine ⟨_, _, rfl, rfl, _, rfl, ?_⟩
  rw [decide_eq_true (show ((ns.length : Nat) : Int) ≤ 3 by omega)]
  refine iteF ?_
  refine ⟨_, rfl, Nat.zero_le _, fun p np => ?_⟩
  have S2 := same_new np (.lst [])
  refine ⟨_, _, dp_nil (S2 _ _ hnil), dp_nil upd_same, by decide +kernel, by decide +kernel, _, rfl, ?_⟩
  rw [show PyData.eqv (.list []) (.list []) = true from by decide +kernel]
  refine iteF ?_
  refine ⟨_, rfl, _, rfl, by rw [hsz]; omega, fun l nl => ?_⟩
  have S3 := same_new nl (.lst ((signs (tx ns)).map V.str))
  refine ⟨_, rfl, _, rfl, ?_, ?_, ?_, fun ys l2 hp hs nl2 => ?_⟩
  · refine Array.all_eq_true.mpr fun i hi => ?_
    have hm : ns[i]'(by simpa using hi) ∈ ns := List.getElem_mem _
    have := (haz _ hm).2
    simp
    omega
  · exact hpw.imp (fun h => Nat.ne_of_lt h)
  · show ns.length < 64
    omega
  have S4 := same_new nl2 (.lst (ys.map V.str))
  have hys : ys = ns.map ch := sorted_uniq (pw_of_sortedS hs) (chs_sorted hpw) hp
  subst hys
  have hsh : SeqAt.shaped (.list ((ns.map ch).map PyData.str)) = true := strs_shaped _ fun x hx => by
    obtain ⟨c, hc, rfl⟩ := List.mem_map.mp hx
    exact ch_canLay (haz c hc)
  refine ⟨.list ((ns.map ch).map PyData.str), .list ((ns.map ch).map PyData.str), .lst (SqL.of (S4 _ _ upd_same)) (dp_strs _), .lst (SqL.of upd_same) (dp_strs _), hsh, hsh, _, rfl, ?_⟩
  rw [eqv_lst, eqvAll_strs]
  refine iteF ?_
  have S14 := ((S1.trans S2).trans S3).trans S4
  refine ⟨_, rfl, _, _, rfl, rfl, _, rfl, ?_⟩
  refine ite2 (fun _ => ?_) (fun c => absurd (decide_eq_true (by omega)) c)
  refine ⟨_, _, rfl, rfl, _, rfl, ?_⟩
  rw [decide_eq_true (show ((m : Nat) : Int) ≤ 3 by omega)]
  exact iteF (q _ S14)
end
end L2.G
set_option Elab.async false
set_option linter.all false
set_option maxRecDepth 100000
set_option maxHeartbeats 8000000
/-! small_kinds. -/
namespace L2.G
open PySem PySem.Spec PyProof.Rows WW
/-- a comprehension's loop, whatever a turn is -/
theorem it_gen {J : It} {n : Nat} {G : Hp → Prop} {Y : Nat → Hp → V → Hp → Prop} (w : Walk J n G Y) {Body : (Hp → Prop) → V → Hp → Prop} {H0 : Hp} {Qd : Hp → Prop} (Pv : Nat → Hp → Prop) (h0 : Pv 0 H0) (hG : ∀ i H, i ≤ n → Pv i H → G H)
    (hs : ∀ i x H H', i < n → Pv i H → Y i H x H' → Body (Pv (i + 1)) x H') (hd : ∀ H, Pv n H → Qd H) :
    ∃ W : Nat → Nat → Hp → Prop, (∃ m, W 0 m H0) ∧ ∀ i m H, W i m H →
      (J.stop i H ∧ Qd H) ∨ (J.go i H ∧ ∃ Nx : Hp → Prop, (∀ H', Nx H' → ∃ m', m' < m ∧ W (i + 1) m' H') ∧ ∀ x H', J.yld i H x H' → Body Nx x H') := by
  refine ⟨fun i m H => m = n - i ∧ i ≤ n ∧ Pv i H, ⟨n, by simp, Nat.zero_le _, h0⟩, ?_⟩
  rintro i m H ⟨rfl, hi, p⟩
  have q := hG i H hi p
  by_cases hlt : i < n
  · exact .inr ⟨w.goes i H hlt q, Pv (i + 1), fun H' p' => ⟨n - (i + 1), by omega, rfl, hlt, p'⟩, fun x H' y => hs i x H H' hlt p (w.yields i H x H' hlt q y)⟩
  · have e : i = n := by omega
    subst e
    exact .inl ⟨w.stops H q, hd H p⟩
/-! ### what small_kinds makes -/
def prs (A B : List (Kd Nat)) : List (Kd Nat × Kd Nat) := A.flatMap fun x => B.map fun y => (x, y)
def pp (A B : List (Kd Nat)) : List (Kd Nat) := (prs A B).flatMap fun p => [.a p.1 p.2, .b p.1 p.2]
def rowP (t : List (List (Kd Nat))) (n j : Nat) : List (Kd Nat) := (List.range j).flatMap fun j => pp (t.getD (1 + j) []) (t.getD (n + 2 - (1 + j)) [])
def tabP (ns : List Nat) : Nat → List (List (Kd Nat))
  | 0 => [[], ns.map .p]
  | n + 1 => tabP ns n ++ [rowP (tabP ns n) n (n + 1)]
theorem tabP_len (ns : List Nat) : ∀ n, (tabP ns n).length = n + 2
  | 0 => rfl
  | n + 1 => by rw [tabP, List.length_append, tabP_len ns n]; rfl
theorem flat_len {α β : Type} {f : α → List β} {c : Nat} : ∀ {l : List α}, (∀ x ∈ l, (f x).length ≤ c) → (l.flatMap f).length ≤ l.length * c
  | [], _ => by simp
  | x :: l, h => by
    rw [List.flatMap_cons, List.length_append, List.length_cons]
    have h1 := h x (List.mem_cons_self ..)
    have h2 := flat_len (l := l) fun y hy => h y (List.mem_cons_of_mem _ hy)
    rw [Nat.succ_mul]
    omega
theorem prs_len (A B : List (Kd Nat)) : (prs A B).length ≤ A.length * B.length := flat_len fun x _ => by rw [List.length_map]; exact Nat.le_refl _
theorem pp_len (A B : List (Kd Nat)) : (pp A B).length ≤ A.length * B.length * 2 := Nat.le_trans (flat_len (c := 2) fun _ _ => Nat.le_refl _) (Nat.mul_le_mul_right _ (prs_len A B))
theorem mem_prs {A B : List (Kd Nat)} {p : Kd Nat × Kd Nat} (h : p ∈ prs A B) : p.1 ∈ A ∧ p.2 ∈ B := by
  obtain ⟨x, hx, hy⟩ := List.mem_flatMap.mp h
  obtain ⟨y, hy, e⟩ := List.mem_map.mp hy
  rw [← e]
  exact ⟨hx, hy⟩
theorem mem_pp {A B : List (Kd Nat)} {k : Kd Nat} (h : k ∈ pp A B) : ∃ x y, x ∈ A ∧ y ∈ B ∧ (k = .a x y ∨ k = .b x y) := by
  obtain ⟨p, hp, hk⟩ := List.mem_flatMap.mp h
  have := mem_prs hp
  refine ⟨p.1, p.2, this.1, this.2, ?_⟩
  simpa using hk
/-- the table's rows: few kinds, small, of these letters -/
def Small (ns : List Nat) (s c : Nat) (l : List (Kd Nat)) : Prop := l.length ≤ c ∧ ∀ k ∈ l, k.size = s ∧ k.All (· ∈ ns)
theorem small_pp {ns : List Nat} {s t c d : Nat} {A B : List (Kd Nat)} (h1 : Small ns s c A) (h2 : Small ns t d B) : Small ns (s + t) (c * d * 2) (pp A B) := by
  refine ⟨Nat.le_trans (pp_len A B) (Nat.mul_le_mul_right _ (Nat.mul_le_mul h1.1 h2.1)), fun k hk => ?_⟩
  obtain ⟨x, y, hx, hy, e⟩ := mem_pp hk
  have a := h1.2 x hx
  have b := h2.2 y hy
  rcases e with rfl | rfl
  · exact ⟨by simp only [Kd.size]; omega, a.2, b.2⟩
  · exact ⟨by simp only [Kd.size]; omega, a.2, b.2⟩
theorem small_p {ns : List Nat} (h : ns.length ≤ 3) : Small ns 1 3 (ns.map .p) := ⟨by rw [List.length_map]; exact h, fun k hk => by
  obtain ⟨c, hc, rfl⟩ := List.mem_map.mp hk
  exact ⟨rfl, hc⟩⟩
theorem small_app {ns : List Nat} {s c d : Nat} {A B : List (Kd Nat)} (h1 : Small ns s c A) (h2 : Small ns s d B) : Small ns s (c + d) (A ++ B) :=
  ⟨by rw [List.length_append]; exact Nat.add_le_add h1.1 h2.1, fun k hk => (List.mem_append.mp hk).elim (h1.2 k) (h2.2 k)⟩
theorem rowP_succ (t : List (List (Kd Nat))) (n j : Nat) : rowP t n (j + 1) = rowP t n j ++ pp (t.getD (1 + j) []) (t.getD (n + 2 - (1 + j)) []) := by
  unfold rowP
  rw [List.range_succ, List.flatMap_append]
  simp
theorem tabP_1 (ns : List Nat) : tabP ns 1 = [[], ns.map .p, pp (ns.map .p) (ns.map .p)] := by
  rw [tabP, rowP_succ]
  simp [tabP, rowP]
theorem tabP_2 (ns : List Nat) : tabP ns 2 = [[], ns.map .p, pp (ns.map .p) (ns.map .p), pp (ns.map .p) (pp (ns.map .p) (ns.map .p)) ++ pp (pp (ns.map .p) (ns.map .p)) (ns.map .p)] := by
  rw [tabP, rowP_succ, rowP_succ, tabP_1]
  simp [rowP]
theorem tabP_small {ns : List Nat} (h : ns.length ≤ 3) : ∀ {n : Nat}, n ≤ 2 → ∀ i l, (tabP ns n)[i]? = some l → Small ns i 216 l := by
  have a := small_p h
  have b : Small ns 2 18 (pp (ns.map .p) (ns.map .p)) := small_pp a a
  have c1 : Small ns 3 108 (pp (ns.map .p) (pp (ns.map .p) (ns.map .p))) := small_pp a b
  have c2 : Small ns 3 108 (pp (pp (ns.map .p) (ns.map .p)) (ns.map .p)) := small_pp b a
  have c := small_app c1 c2
  have up : ∀ {s c d : Nat} {l : List (Kd Nat)}, Small ns s c l → c ≤ d → Small ns s d l := fun x y => ⟨Nat.le_trans x.1 y, x.2⟩
  have z : Small ns 0 216 [] := ⟨Nat.zero_le _, fun k hk => nomatch hk⟩
  have key : ∀ i l, (tabP ns 2)[i]? = some l → Small ns i 216 l := by
    rw [tabP_2]
    intro i l hl
    match i, hl with
    | 0, hl => cases hl; exact z
    | 1, hl => cases hl; exact up a (by decide)
    | 2, hl => cases hl; exact up b (by decide)
    | 3, hl => cases hl; exact up c (by decide)
    | i + 4, hl => simp at hl
  have pre : ∀ n i l, (tabP ns n)[i]? = some l → (tabP ns (n + 1))[i]? = some l := fun n i l e => by
    rw [tabP, List.getElem?_append_left (List.getElem?_eq_some_iff.mp e).1]
    exact e
  intro n hn i l e
  match n, hn, e with
  | 0, _, e => exact key i l (pre _ _ _ (pre _ _ _ e))
  | 1, _, e => exact key i l (pre _ _ _ e)
  | 2, _, e => exact key i l e
/-- all, by size, each size sorted by its texts -/
def outP (ns : List Nat) (m : Nat) : List (Kd Nat) := (tabP ns (m - 1)).flatMap fun l => l.mergeSort leK
end L2.G
set_option Elab.async false
set_option linter.all false
set_option maxRecDepth 100000
set_option maxHeartbeats 8000000
/-! small_kinds: the walk. -/
namespace L2.G
open PySem PySem.Spec PyProof.Rows WW
/-- pairs of kinds, as tuples -/
abbrev PrAt (H : Hp) (v : V) (p : Kd Nat × Kd Nat) : Prop := ∃ (a : Addr) (u1 u2 : V), v = .ref a ∧ H a = some (.tup [u1, u2]) ∧ KAt H u1 p.1 ∧ KAt H u2 p.2
abbrev PrsAt (H : Hp) : List V → List (Kd Nat × Kd Nat) → Prop := Paired (PrAt H)
theorem PrsAt.mono {H H' : Hp} (t : TK H H') {vs : List V} {ps : List (Kd Nat × Kd Nat)} (h : PrsAt H vs ps) : PrsAt H' vs ps :=
  Paired.mapP h fun _ _ ⟨a, u1, u2, e, ha, h1, h2⟩ => ⟨a, u1, u2, e, t _ _ ha, h1.mono t, h2.mono t⟩
theorem PrsAt.snoc {H : Hp} {v : V} {p : Kd Nat × Kd Nat} (hv : PrAt H v p) : ∀ {vs : List V} {ps : List (Kd Nat × Kd Nat)}, PrsAt H vs ps → PrsAt H (vs ++ [v]) (ps ++ [p])
  | _, _, .nil => .cons hv .nil
  | _, _, .cons a r => .cons a (PrsAt.snoc hv r)
theorem PrsAt.get' {H : Hp} : ∀ {vs : List V} {ps : List (Kd Nat × Kd Nat)} {i : Nat} {v : V}, PrsAt H vs ps → vs[i]? = some v → ∃ p, ps[i]? = some p ∧ PrAt H v p
  | _, _, _, _, .nil, e => by simp at e
  | _, _, 0, _, .cons a r, e => by simp at e; subst e; exact ⟨_, rfl, a⟩
  | _, _, i + 1, _, .cons a r, e => by
    obtain ⟨k, h1, h2⟩ := PrsAt.get' (i := i) r (by simpa using e)
    exact ⟨k, by simpa using h1, h2⟩
theorem KsAt.snoc {H : Hp} {v : V} {k : Kd Nat} {vs : List V} {ks : List (Kd Nat)} (h : KsAt H vs ks) (hv : KAt H v k) : KsAt H (vs ++ [v]) (ks ++ [k]) := h.append (.cons hv .nil)
/-- the table by_size at bs -/
abbrev TbAt (H : Hp) (bs : Addr) (v : V) (l : List (Kd Nat)) : Prop := ∃ (a : Addr) (us : List V), v = .ref a ∧ a ≠ bs ∧ H a = some (.lst us) ∧ KsAt H us l
abbrev TbsAt (H : Hp) (bs : Addr) : List V → List (List (Kd Nat)) → Prop := Paired (TbAt H bs)
theorem TbsAt.same {H H' : Hp} {bs : Addr} (s : Same H H') {vs : List V} {t : List (List (Kd Nat))} (h : TbsAt H bs vs t) : TbsAt H' bs vs t :=
  Paired.mapP h fun _ _ ⟨a, us, e, n, ha, hk⟩ => ⟨a, us, e, n, s _ _ ha, hk.mono (Same.tk s)⟩
theorem TbsAt.put {H : Hp} {bs : Addr} {o : HO} (tk : TK H (upd H bs o)) {vs : List V} {t : List (List (Kd Nat))} (h : TbsAt H bs vs t) : TbsAt (upd H bs o) bs vs t :=
  Paired.mapP h fun _ _ ⟨a, us, e, n, ha, hk⟩ => ⟨a, us, e, n, by rw [upd_ne n]; exact ha, hk.mono tk⟩
theorem TbsAt.snoc {H : Hp} {bs : Addr} {v : V} {l : List (Kd Nat)} (hv : TbAt H bs v l) : ∀ {vs : List V} {t : List (List (Kd Nat))}, TbsAt H bs vs t → TbsAt H bs (vs ++ [v]) (t ++ [l])
  | _, _, .nil => .cons hv .nil
  | _, _, .cons a r => .cons a (TbsAt.snoc hv r)
theorem TbsAt.get {H : Hp} {bs : Addr} : ∀ {vs : List V} {t : List (List (Kd Nat))} {i : Nat}, TbsAt H bs vs t → i < t.length → ∃ v l, vs[i]? = some v ∧ t[i]? = some l ∧ TbAt H bs v l
  | _, _, _, .nil, e => by simp at e
  | _, _, 0, .cons a r, e => ⟨_, _, rfl, rfl, a⟩
  | _, _, i + 1, .cons a r, e => by
    obtain ⟨v, l, h1, h2, h3⟩ := TbsAt.get (i := i) r (by simpa using e)
    exact ⟨v, l, by simpa using h1, by simpa using h2, h3⟩
theorem take_succ' {α : Type} {l : List α} {i : Nat} {x : α} (h : l[i]? = some x) : l.take (i + 1) = l.take i ++ [x] := by
  obtain ⟨hl, e⟩ := List.getElem?_eq_some_iff.mp h
  rw [List.take_succ_eq_append_getElem hl, e]
theorem getD_of {α : Type} {l : List α} {i : Nat} {x d : α} (h : l[i]? = some x) : l.getD i d = x := by
  rw [List.getD_eq_getElem?_getD, h]; rfl
theorem flat_take {α β : Type} {l : List α} {i : Nat} {x : α} {f : α → List β} (h : l[i]? = some x) : (l.take (i + 1)).flatMap f = (l.take i).flatMap f ++ f x := by
  rw [take_succ' h, List.flatMap_append]
  simp
theorem flat_take_len {α β : Type} {l : List α} {f : α → List β} {c : Nat} (i : Nat) (h : ∀ x ∈ l, (f x).length ≤ c) : ((l.take i).flatMap f).length ≤ l.length * c := by
  refine Nat.le_trans (flat_len fun x hx => h x (List.mem_of_mem_take hx)) (Nat.mul_le_mul_right _ ?_)
  rw [List.length_take]
  omega
def spSmK : SpG := fun vs H Q => ∃ (ns : List Nat) (m : Nat), vs = [.str (tx ns), .int (m : Nat)] ∧ Chs ns ∧ 1 ≤ m ∧ m ≤ 3 ∧ ∀ (a : Addr) (us : List V) (H' : Hp), Same H H' → H' a = some (.lst us) → KsAt H' us (outP ns m) → Q (.ref a) H'
section
variable {P : Program} {w : World} {K : PySem.W.Frag} {mg : Str → Option Value} {base : Heap} {C : Addr}
theorem c_small_kinds (T : Txt w K mg C) : GCal P w K mg base 23 "small_kinds" spSmK := by
  have C_show := c_show_kind (P := P) (base := base) T 20
  obtain ⟨fsk, _, _, _, hsk, _⟩ := T.dP_show_kind.ex
  have gsk : ∃ u, mg "show_kind" = some u ∧ RelV (.ref fsk) u := ⟨_, hsk, rfl⟩
  refine cal_of T.dP_small_kinds scP_small_kinds (fun vs H Q ⟨_, _, e, _⟩ => by rw [e]; rfl) fun f cdv A outer s H vs Q hr ⟨ns, m, e0, hc, hm1, hm3, q⟩ => ?_
  subst e0
  obtain ⟨hpw, haz, hl1, hl3⟩ := hc
  refine ⟨_, (pss_cons (ps_set (i := 2) scP_small_kinds.nd rfl (by first | exact Or.inl rfl | exact Or.inr rfl) (pe_lst (pa_cons (pe_lst pa_nil) (pa_cons (pe_lc (own := [("sign", 3)]) (g := gName 3) (tt := tYes) rfl scP_small_kinds.nd (pi_str (pv 0)) (blkOk_by (own := [("sign", 3)]) (N := ["signs", "most", "by_size", "sign", "many", "found", "less", "pairs", "one", "other", "name", "kinds", "kind"]) (sc := defScope sP_small_kinds) (by decide +kernel)) (fun _ _ _ _ _ => (pg_name (i := 3) scP_small_kinds.nd rfl (by first | exact Or.inl rfl | exact Or.inr rfl))) (fun _ _ _ _ _ => pts_nil) (fun _ _ _ _ _ => (pe_tup (pa_cons pe_str (pa_cons (pv 3) pa_nil))))) pa_nil))))
    (pss_cons (ps_for PassesOwn.never rfl (pi_range2 rfl T.m_range (pa_cons pe_int (pa_cons (pe_op op_add (pv 1) pe_int) pa_nil))) (pg_name (i := 4) scP_small_kinds.nd rfl (by first | exact Or.inl rfl | exact Or.inr rfl))
      (pss_cons (ps_set (i := 5) scP_small_kinds.nd rfl (by first | exact Or.inl rfl | exact Or.inr rfl) (pe_lst pa_nil))
      (pss_cons (ps_for PassesOwn.never rfl (pi_range2 rfl T.m_range (pa_cons pe_int (pa_cons (pv 4) pa_nil))) (pg_name (i := 6) scP_small_kinds.nd rfl (by first | exact Or.inl rfl | exact Or.inr rfl))
        (pss_cons (ps_setLc2 (wi := iList K (tOp (rIxL K) (tVar 2) (tVar 6))) (wi1 := iList K (tOp (rIxL K) (tVar 2) (tOp _ (tVar 4) (tVar 6)))) (i := 7) (own := [("one", 8), ("other", 9)]) (g := gName 8) (g1 := gName 9) (tt := tYes) (tt1 := tYes) rfl scP_small_kinds.nd rfl rfl (sw_true rfl rfl rfl (by decide +kernel)) (pi_list (pe_ix ix_list (pv 2) (pv 6) (fun _ _ => rfl))) (blkOk_by (own := [("one", 8), ("other", 9)]) (N := ["signs", "most", "by_size", "sign", "many", "found", "less", "pairs", "one", "other", "name", "kinds", "kind"]) (sc := defScope sP_small_kinds) (by decide +kernel)) (vs1 := [9]) (by decide) (fun _ _ _ _ _ => (pg_name (i := 8) scP_small_kinds.nd rfl (by first | exact Or.inl rfl | exact Or.inr rfl))) (fun _ _ _ _ _ => pts_nil) (fun _ _ _ _ _ => (pi_list (pe_ix ix_list (pv 2) (pe_op op_sub (pv 4) (pv 6)) (fun _ _ => rfl)))) (fun _ _ _ _ _ => (pg_name (i := 9) scP_small_kinds.nd rfl (by first | exact Or.inl rfl | exact Or.inr rfl))) (fun _ _ _ _ _ => pts_nil) (fun _ _ _ _ _ => (pe_tup (pa_cons (pv 8) (pa_cons (pv 9) pa_nil)))))
        (pss_one (ps_expr (pe_bm PySem.F.plainAttrs_list PySem.F.slot_list_extend PySem.F.type_list_extend mt_extend (pv 5) (pa_cons (pe_lc2 (wi := iList K (tVar 7)) (wi1 := iTup K _) (own := [("one", 8), ("other", 9), ("name", 10)]) (g := gTup K 2 _) (g1 := gName 10) (tt := tYes) (tt1 := tYes) rfl scP_small_kinds.nd (pi_list (pv 7)) (blkOk_by (own := [("one", 8), ("other", 9), ("name", 10)]) (N := ["signs", "most", "by_size", "sign", "many", "found", "less", "pairs", "one", "other", "name", "kinds", "kind"]) (sc := defScope sP_small_kinds) (by decide +kernel)) (vs1 := [10]) (by decide) (fun _ _ _ _ _ => (pg_tup rfl (pgs_cons (pg_name (i := 8) scP_small_kinds.nd rfl (by first | exact Or.inl rfl | exact Or.inr rfl)) (pgs_cons (pg_name (i := 9) scP_small_kinds.nd rfl (by first | exact Or.inl rfl | exact Or.inr rfl)) pgs_nil)))) (fun _ _ _ _ _ => pts_nil) (fun _ _ _ _ _ => (pi_tup (pe_tup (pa_cons pe_str (pa_cons pe_str pa_nil))))) (fun _ _ _ _ _ => (pg_name (i := 10) scP_small_kinds.nd rfl (by first | exact Or.inl rfl | exact Or.inr rfl))) (fun _ _ _ _ _ => pts_nil) (fun _ _ _ _ _ => (pe_tup (pa_cons (pv 10) (pa_cons (pv 8) (pa_cons (pv 9) pa_nil)))))) pa_nil))))))
      (pss_one (ps_expr (pe_bm PySem.F.plainAttrs_list PySem.F.slot_list_append PySem.F.type_list_append mt_append (pv 2) (pa_cons (pv 5) pa_nil)))))))
    (pss_one (ps_ret (pe_lc2 (wi := iList K (tVar 2)) (wi1 := iList K (tCKw (rSortedText K mg 20) _ _)) (own := [("kinds", 11), ("kind", 12)]) (g := gName 11) (g1 := gName 12) (tt := tYes) (tt1 := tYes) rfl scP_small_kinds.nd (pi_list (pv 2)) (blkOk_by (own := [("kinds", 11), ("kind", 12)]) (N := ["signs", "most", "by_size", "sign", "many", "found", "less", "pairs", "one", "other", "name", "kinds", "kind"]) (sc := defScope sP_small_kinds) (by decide +kernel)) (vs1 := [12]) (by decide) (fun _ _ _ _ _ => (pg_name (i := 11) scP_small_kinds.nd rfl (by first | exact Or.inl rfl | exact Or.inr rfl))) (fun _ _ _ _ _ => pts_nil) (fun _ _ _ _ _ => (pi_list (pe_callBK (cr_sortedText C_show hr (by omega)) rfl T.m_sorted (by decide +kernel) (pa_cons (pv 11) pa_nil) (pk_cons (pe_gl gsk) pk_nil)))) (fun _ _ _ _ _ => (pg_name (i := 12) scP_small_kinds.nd rfl (by first | exact Or.inl rfl | exact Or.inr rfl))) (fun _ _ _ _ _ => pts_nil) (fun _ _ _ _ _ => (pv 12))))))), ?_⟩
  have zl : sizeLine = 16777216 := sizeLine_eq
  have hsz : (tx ns).cps.size = ns.length := by simp
  refine ⟨Nat.zero_le _, fun p0 np0 => ?_⟩
  have S1 := same_new np0 (.lst [])
  refine ⟨_, rfl, _, rfl, fun D nD => ?_⟩
  refine lc_it walk_str (fun i H5 => Same (upd H p0 (.lst [])) H5 ∧ ∃ us, H5 D = some (.lst us) ∧ KsAt H5 us ((ns.take i).map .p)) ⟨same_new nD _, [], upd_same, by rw [List.take_zero]; exact .nil⟩ (fun i H5 _ _ => trivial) ?_ ?_
  · rintro i x H5 H6 hi ⟨S5, us, hD5, hk5⟩ ⟨rfl, c, hc, rfl⟩
    have hc' : ns[i]? = some c := by simpa using hc
    refine ⟨rfl, ?_⟩
    refine ⟨_, rfl, by show 2 ≤ sizeLine; decide, fun p np => ?_⟩
    have S := same_new np (.tup [.str "plain", .str ⟨#[c]⟩])
    have hD6 := S _ _ hD5
    have tk := (upto_upd (l := [D]) (H := upd H6 p (.tup [.str "plain", .str ⟨#[c]⟩])) (List.mem_singleton.mpr rfl) (.lst (us ++ [V.ref p]))).tk (noTup1 hD6 (fun xs q => nomatch q))
    have hul := hk5.len
    rw [List.length_map, List.length_take] at hul
    refine ⟨us, hD6, by omega, same_over nD (S5.trans S), _, upd_same, ?_⟩
    rw [take_succ' hc', List.map_append]
    exact ((hk5.mono (Same.tk S)).mono tk).snoc (.p (tk _ _ upd_same))
  rintro H5 ⟨S5, us0, hD5, hk5⟩
  rw [hsz, List.take_length] at hk5
  refine ⟨by show 2 ≤ sizeLine; decide, fun bs nbs => ?_⟩
  have S6 := same_new nbs (.lst [V.ref p0, V.ref D])
  have S05 := S1.trans S5
  have hp05 := S5 _ _ (upd_same (H := H) (a := p0) (o := .lst []))
  have nb1 : p0 ≠ bs := ne_of_none hp05 nbs
  have nb2 : D ≠ bs := ne_of_none hD5 nbs
  refine ⟨_, rfl, _, _, rfl, rfl, _, _, rfl, ⟨by decide, by decide, by omega, by omega⟩, ?_⟩
  rw [show (((m : Nat) : Int) + 1 - 2).toNat = m - 1 by omega]
  refine for_range (lo := 2) (n := m - 1) (fun i σ H7 => ∃ x4 x5 x6 x7 : Option V, σ = [some (.str (tx ns)), some (.int (m : Nat)), some (.ref bs), none, x4, x5, x6, x7, none, none, none, none, none] ∧ Same H5 H7 ∧ ∃ us, H7 bs = some (.lst us) ∧ TbsAt H7 bs us (tabP ns i))
    ⟨none, none, none, none, rfl, S6, _, upd_same, .cons ⟨p0, [], rfl, nb1, S6 _ _ hp05, .nil⟩ (.cons ⟨D, us0, rfl, nb2, S6 _ _ hD5, hk5.mono (Same.tk S6)⟩ .nil)⟩ ?_ ?_
  · rintro i σ H7 hi ⟨x4, x5, x6, x7, rfl, S7, us, hbs, htb⟩
    have htl : us.length = i + 2 := by rw [Paired.length htb, tabP_len]
    have hsm := tabP_small hl3 (n := i) (by omega)
    refine ⟨Nat.zero_le _, fun fd nfd => ?_⟩
    have S8 := same_new nfd (.lst [])
    refine ⟨_, rfl, _, _, rfl, ⟨by decide, by decide, by omega, by omega⟩, ?_⟩
    rw [show ((2 : Int) + ((i : Nat) : Int) - 1).toNat = i + 1 by omega]
    have nbf : bs ≠ fd := ne_of_none hbs nfd
    refine for_range (lo := 1) (n := i + 1) (fun j σ H9 => ∃ x6 x7 : Option V, σ = [some (.str (tx ns)), some (.int (m : Nat)), some (.ref bs), none, some (.int ((2 : Int) + ((i : Nat) : Int))), some (.ref fd), x6, x7, none, none, none, none, none] ∧ Same H7 H9 ∧ ∃ vf, H9 fd = some (.lst vf) ∧ KsAt H9 vf (rowP (tabP ns i) i j))
      ⟨_, _, rfl, S8, [], upd_same, .nil⟩ ?_ ?_
    · rintro j σ H9 hj ⟨y6, y7, rfl, S9, vf, hfd, hkf⟩
      obtain ⟨vA, A0, hvA, hA, ⟨aA, usA, rfl, nA, haA, hkA⟩⟩ := TbsAt.get (i := 1 + j) htb (by rw [tabP_len]; omega)
      obtain ⟨vB, B0, hvB, hB, ⟨aB, usB, rfl, nB, haB, hkB⟩⟩ := TbsAt.get (i := i + 2 - (1 + j)) htb (by rw [tabP_len]; omega)
      have mA := (hsm _ _ hA).1
      have mB := (hsm _ _ hB).1
      have mAB : A0.length * B0.length ≤ 216 * 216 := Nat.mul_le_mul mA mB
      have hbs9 := S9 _ _ hbs
      have hA9 := S9 _ _ haA
      have hB9 := S9 _ _ haB
      have kA9 := hkA.mono (Same.tk S9)
      have kB9 := hkB.mono (Same.tk S9)
      have lA := hkA.len
      have lB := hkB.len
      refine ⟨_, rfl, _, rfl, bs, us, _, _, rfl, rfl, SqL.of hbs9, ?_, aA, rfl, ⟨_, SqL.of hA9⟩, fun D1 nD1 => ?_⟩
      · rw [show (1 : Int) + ((j : Nat) : Int) = ((1 + j : Nat) : Int) by omega]
        exact atI_nat hvA
      refine it_gen (walk_list (xs := usA)) (fun ii Ha => Same H9 Ha ∧ ∃ acc, Ha D1 = some (.lst acc) ∧ PrsAt Ha acc (prs (A0.take ii) B0)) ⟨same_new nD1 _, [], upd_same, by rw [List.take_zero]; exact .nil⟩ (fun ii Ha _ ⟨Sa, _⟩ => SqL.of (Sa _ _ hA9)) ?_ ?_
      · rintro ii x Ha Hb hii ⟨Sa, acc, hDa, hpa⟩ ⟨rfl, hx⟩
        obtain ⟨kx, hkx, hvx⟩ := KsAt.get' kA9 hx
        refine ⟨rfl, ?_⟩
        refine ⟨_, rfl, _, rfl, _, rfl, _, _, rfl, rfl, bs, us, _, _, rfl, rfl, SqL.of (Sa _ _ hbs9), ?_, aB, rfl, ⟨_, SqL.of (Sa _ _ hB9)⟩, ?_⟩
        · rw [show (2 : Int) + ((i : Nat) : Int) - (1 + ((j : Nat) : Int)) = ((i + 2 - (1 + j) : Nat) : Int) by omega]
          exact atI_nat hvB
        have hpl : (prs (A0.take ii) B0).length ≤ A0.length * B0.length := flat_take_len ii fun x _ => by rw [List.length_map]; exact Nat.le_refl _
        refine it_gen (walk_list (xs := usB)) (fun jj Hc => Same H9 Hc ∧ ∃ acc, Hc D1 = some (.lst acc) ∧ PrsAt Hc acc (prs (A0.take ii) B0 ++ (B0.take jj).map fun y => (kx, y))) ⟨Sa, acc, hDa, by rw [List.take_zero, List.map_nil, List.append_nil]; exact hpa⟩ (fun jj Hc _ ⟨Sc, _⟩ => SqL.of (Sc _ _ hB9)) ?_ ?_
        · rintro jj y Hc Hd hjj ⟨Sc, acc', hDc, hpc⟩ ⟨rfl, hy⟩
          obtain ⟨ky, hky, hvy⟩ := KsAt.get' kB9 hy
          refine ⟨rfl, ?_⟩
          refine ⟨_, rfl, _, rfl, by show 2 ≤ sizeLine; decide, fun p np => ?_⟩
          have S := same_new np (.tup [x, y])
          have hDd := S _ _ hDc
          have tk := (upto_upd (l := [D1]) (H := upd Hd p (.tup [x, y])) (List.mem_singleton.mpr rfl) (.lst (acc' ++ [V.ref p]))).tk (noTup1 hDd (fun xs q => nomatch q))
          have hal := Paired.length hpc
          rw [List.length_append, List.length_map, List.length_take] at hal
          refine ⟨acc', hDd, by omega, same_over nD1 (Sc.trans S), _, upd_same, ?_⟩
          rw [take_succ' hky, List.map_append, ← List.append_assoc]
          have t9 := (Same.tk (Sc.trans S))
          exact ((hpc.mono (Same.tk S)).mono tk).snoc ⟨p, x, y, rfl, tk _ _ upd_same, (hvx.mono t9).mono tk, (hvy.mono t9).mono tk⟩
        · rintro Hc ⟨Sc, acc', hDc, hpc⟩
          refine ⟨Sc, acc', hDc, ?_⟩
          rw [lB, List.take_length] at hpc
          unfold prs
          rw [flat_take hkx]
          exact hpc
      rintro Ha ⟨Sa, accP, hDa, hpa⟩
      rw [lA, List.take_length] at hpa
      have hpl : accP.length ≤ 46656 := by rw [Paired.length hpa]; have := prs_len A0 B0; omega
      have hfa := Sa _ _ hfd
      refine ⟨_, rfl, .inl ⟨rfl, _, SqL.of hfa⟩, _, rfl, D1, rfl, ⟨_, SqL.of hDa⟩, fun D2 nD2 => ?_⟩
      refine it_gen (walk_list (xs := accP)) (fun ii Hb => Same Ha Hb ∧ ∃ acc, Hb D2 = some (.lst acc) ∧ KsAt Hb acc (((prs A0 B0).take ii).flatMap fun p => [.a p.1 p.2, .b p.1 p.2])) ⟨same_new nD2 _, [], upd_same, by rw [List.take_zero]; exact .nil⟩ (fun ii Hb _ ⟨Sb, _⟩ => SqL.of (Sb _ _ hDa)) ?_ ?_
      · rintro ii x Hb Hc hii ⟨Sb, acc, hDb, hkb⟩ ⟨rfl, hx⟩
        obtain ⟨⟨k1, k2⟩, hp, ⟨ap, u1, u2, rfl, hap, hu1, hu2⟩⟩ := PrsAt.get' hpa hx
        have tb := Same.tk Sb
        refine ⟨_, _, rfl, SqT.of (Sb _ _ hap), rfl, _, _, rfl, _, _, rfl, rfl, rfl, ?_⟩
        refine ⟨by show 2 ≤ sizeLine; decide, fun tp ntp => ⟨tp, rfl, ⟨_, SqT.of upd_same⟩, ?_⟩⟩
        have St := same_new ntp (.tup [.str "ahead", .str "behind"])
        have hal : (((prs A0 B0).take ii).flatMap fun p : Kd Nat × Kd Nat => [Kd.a p.1 p.2, .b p.1 p.2]).length ≤ (prs A0 B0).length * 2 := flat_take_len ii fun x _ => Nat.le_refl _
        have hpp := prs_len A0 B0
        refine it_gen (walk_tup (xs := [V.str "ahead", V.str "behind"])) (fun jj Hd => Same Ha Hd ∧ Hd tp = some (.tup [.str "ahead", .str "behind"]) ∧ ∃ acc, Hd D2 = some (.lst acc) ∧ KsAt Hd acc ((((prs A0 B0).take ii).flatMap fun p => [.a p.1 p.2, .b p.1 p.2]) ++ ([.a k1 k2, .b k1 k2] : List (Kd Nat)).take jj))
          ⟨Sb.trans St, upd_same, acc, St _ _ hDb, by rw [List.take_zero, List.append_nil]; exact hkb.mono (Same.tk St)⟩ (fun jj Hd _ ⟨_, htp, _⟩ => SqT.of htp) ?_ ?_
        · rintro jj y Hd He hjj ⟨Sd, htp, acc', hDd, hkd⟩ ⟨rfl, hy⟩
          refine ⟨rfl, ?_⟩
          refine ⟨_, rfl, _, rfl, _, rfl, by show 3 ≤ sizeLine; decide, fun p np => ?_⟩
          have S := same_new np (.tup [y, u1, u2])
          have hDe := S _ _ hDd
          have tk := (upto_upd (l := [D2]) (H := upd He p (.tup [y, u1, u2])) (List.mem_singleton.mpr rfl) (.lst (acc' ++ [V.ref p]))).tk (noTup1 hDe (fun xs q => nomatch q))
          have hac := hkd.len
          rw [List.length_append, List.length_take] at hac
          have hj2 : jj < 2 := hjj
          have SDd : Same Ha (upd He p (.tup [y, u1, u2])) := Sd.trans S
          refine ⟨acc', hDe, by omega, same_over nD2 SDd, ?_, _, upd_same, ?_⟩
          · rw [upd_ne (ne_of_none hDb ntp).symm]
            exact S _ _ htp
          · have t9 := Same.tk SDd
            have w1 := (hu1.mono t9).mono tk
            have w2 := (hu2.mono t9).mono tk
            have base := (hkd.mono (Same.tk S)).mono tk
            have hp2 := tk _ _ (upd_same (H := He) (a := p) (o := .tup [y, u1, u2]))
            match jj, hj2, hy with
            | 0, _, hy =>
              cases hy
              have := base.snoc (.a hp2 w1 w2)
              rw [List.append_assoc] at this
              exact this
            | 1, _, hy =>
              cases hy
              have := base.snoc (.b hp2 w1 w2)
              rw [List.append_assoc] at this
              exact this
        · rintro Hd ⟨Sd, _, acc', hDd, hkd⟩
          refine ⟨Sd, acc', hDd, ?_⟩
          rw [flat_take hp]
          exact hkd
      rintro Hb ⟨Sb, accK, hDb, hkb⟩
      rw [Paired.length hpa, List.take_length] at hkb
      have hkb : KsAt Hb accK (pp A0 B0) := hkb
      have hkl : accK.length ≤ 93312 := by rw [hkb.len]; have := pp_len A0 B0; omega
      have hfb := Sb _ _ hfa
      have hfl : vf.length ≤ j * 93312 := by
        rw [hkf.len]
        refine Nat.le_trans (flat_len (c := 93312) fun x hx => ?_) (by rw [List.length_range]; exact Nat.le_refl _)
        have hx := List.mem_range.mp hx
        obtain ⟨_, A1, _, e1, _⟩ := TbsAt.get (i := 1 + x) htb (by rw [tabP_len]; omega)
        obtain ⟨_, B1, _, e2, _⟩ := TbsAt.get (i := i + 2 - (1 + x)) htb (by rw [tabP_len]; omega)
        rw [getD_of e1, getD_of e2]
        have := pp_len A1 B1
        have := Nat.mul_le_mul (hsm _ _ e1).1 (hsm _ _ e2).1
        omega
      have S79 := (S9.trans Sa).trans Sb
      have tk := (upto_upd (l := [fd]) (H := Hb) (List.mem_singleton.mpr rfl) (.lst (vf ++ accK))).tk (noTup1 hfb (fun xs q => nomatch q))
      refine ⟨fd, D2, vf, accK, rfl, rfl, hfb, hDb, by omega, ?_⟩
      refine ⟨_, _, rfl, same_over nfd S79, _, upd_same, ?_⟩
      rw [rowP_succ, getD_of hA, getD_of hB]
      exact ((hkf.mono (Same.tk (Sa.trans Sb))).mono tk).append (hkb.mono tk)
    · rintro σ H9 ⟨y6, y7, rfl, S9, vf, hfd, hkf⟩
      have hbs9 := S9 _ _ hbs
      refine ⟨_, rfl, .inl ⟨rfl, _, SqL.of hbs9⟩, _, rfl, bs, us, .ref fd, rfl, rfl, hbs9, by omega, ?_⟩
      have tk := (upto_upd (l := [bs]) (H := H9) (List.mem_singleton.mpr rfl) (.lst (us ++ [V.ref fd]))).tk (noTup1 hbs9 (fun xs q => nomatch q))
      refine ⟨_, _, _, _, rfl, same_over nbs (S7.trans S9), _, upd_same, ?_⟩
      exact ((htb.same S9).put tk).snoc ⟨fd, vf, rfl, nbf.symm, by rw [upd_ne nbf.symm]; exact hfd, hkf.mono tk⟩
  · rintro σ H7 ⟨x4, x5, x6, x7, rfl, S7, us, hbs, htb⟩
    have hsm := tabP_small hl3 (n := m - 1) (by omega)
    have htl : us.length = m - 1 + 2 := by rw [Paired.length htb, tabP_len]
    refine ⟨_, rfl, bs, rfl, ⟨_, SqL.of hbs⟩, fun DD nDD => ?_⟩
    refine it_gen (walk_list (xs := us)) (fun ii Ha => Same H7 Ha ∧ ∃ acc, Ha DD = some (.lst acc) ∧ KsAt Ha acc (((tabP ns (m - 1)).take ii).flatMap fun l => l.mergeSort leK)) ⟨same_new nDD _, [], upd_same, by rw [List.take_zero]; exact .nil⟩ (fun ii Ha _ ⟨Sa, _⟩ => SqL.of (Sa _ _ hbs)) ?_ ?_
    · rintro ii x Ha Hb hii ⟨Sa, acc, hDa, hka⟩ ⟨rfl, hx⟩
      obtain ⟨vA, A0, hvA, hA, ⟨aA, usA, rfl, nA, haA, hkA⟩⟩ := TbsAt.get (i := ii) htb (by rw [tabP_len]; omega)
      obtain rfl : x = V.ref aA := by rw [hvA] at hx; exact (Option.some.inj hx).symm
      have hs := hsm _ _ hA
      refine ⟨rfl, ?_⟩
      refine ⟨_, rfl, aA, fsk, usA, A0, rfl, rfl, hsk, SqL.of (Sa _ _ haA), hkA.mono (Same.tk Sa), fun k hk => ?_, fun ys p H' S' hys np' => ?_⟩
      · have h1 := (hs.2 k hk).1
        have := k.ops_size
        omega
      have hDa' := S' _ _ hDa
      have Sp := same_new np' (.lst ys)
      have hDp := Sp _ _ hDa'
      have hyl := hys.len
      rw [List.length_mergeSort] at hyl
      refine ⟨p, rfl, ⟨_, SqL.of upd_same⟩, ?_⟩
      have hal : (((tabP ns (m - 1)).take ii).flatMap fun l => l.mergeSort leK).length ≤ (m - 1 + 2) * 216 := by
        rw [← tabP_len ns (m - 1)]
        refine flat_take_len ii fun x hx => ?_
        obtain ⟨i, hi⟩ := List.getElem?_of_mem hx
        rw [List.length_mergeSort]
        exact (hsm _ _ hi).1
      refine it_gen (walk_list (xs := ys)) (fun jj Hc => Same H7 Hc ∧ Hc p = some (.lst ys) ∧ KsAt Hc ys (A0.mergeSort leK) ∧ ∃ acc, Hc DD = some (.lst acc) ∧ KsAt Hc acc ((((tabP ns (m - 1)).take ii).flatMap fun l => l.mergeSort leK) ++ (A0.mergeSort leK).take jj))
        ⟨(Sa.trans S').trans Sp, upd_same, hys.mono (Same.tk Sp), acc, hDp, by rw [List.take_zero, List.append_nil]; exact hka.mono (Same.tk (S'.trans Sp))⟩ (fun jj Hc _ ⟨_, hp, _⟩ => SqL.of hp) ?_ ?_
      · rintro jj y Hc Hd hjj ⟨Sc, hp, hys', acc', hDc, hkc⟩ ⟨rfl, hy⟩
        refine ⟨rfl, ?_⟩
        obtain ⟨ky, hky, hvy⟩ := KsAt.get' hys' hy
        have tk := (upto_upd (l := [DD]) (H := Hd) (List.mem_singleton.mpr rfl) (.lst (acc' ++ [y]))).tk (noTup1 hDc (fun xs q => nomatch q))
        have hac := hkc.len
        rw [List.length_append, List.length_take] at hac
        have h0 := hs.1
        refine ⟨_, rfl, acc', hDc, by omega, same_over nDD Sc, ?_, hys'.mono tk, _, upd_same, ?_⟩
        · rw [upd_ne (ne_of_none hDa' np').symm]
          exact hp
        · rw [take_succ' hky, ← List.append_assoc]
          exact (hkc.mono tk).snoc (hvy.mono tk)
      · rintro Hc ⟨Sc, hp, _, acc', hDc, hkc⟩
        refine ⟨Sc, acc', hDc, ?_⟩
        rw [hyl, ← List.length_mergeSort (le := leK), List.take_length] at hkc
        rw [flat_take hA]
        exact hkc
    · rintro Ha ⟨Sa, acc, hDa, hka⟩
      rw [htl, ← tabP_len ns (m - 1), List.take_length] at hka
      exact q _ acc _ (((S05.trans S7).trans Sa)) hDa hka
end
end L2.G
set_option Elab.async false
set_option linter.all false
set_option maxRecDepth 100000
set_option maxHeartbeats 8000000
/-! kinds_of. -/
namespace L2.G
open PySem PySem.Spec PyProof.Rows WW
theorem outP_small {ns : List Nat} (h : ns.length ≤ 3) {m : Nat} (hm1 : 1 ≤ m) (hm3 : m ≤ 3) : (outP ns m).length ≤ 864 ∧ ∀ k ∈ outP ns m, k.size ≤ 3 ∧ k.All (· ∈ ns) := by
  have hsm := tabP_small h (n := m - 1) (by omega)
  constructor
  · refine Nat.le_trans (flat_len (c := 216) fun x hx => ?_) ?_
    · obtain ⟨i, hi⟩ := List.getElem?_of_mem hx
      rw [List.length_mergeSort]
      exact (hsm _ _ hi).1
    · rw [tabP_len]
      omega
  · intro k hk
    obtain ⟨l, hl, hk⟩ := List.mem_flatMap.mp hk
    obtain ⟨i, hi⟩ := List.getElem?_of_mem hl
    have hk := (List.mem_mergeSort).mp hk
    have h1 := (hsm _ _ hi).2 k hk
    have h2 := (List.getElem?_eq_some_iff.mp hi).1
    rw [tabP_len] at h2
    exact ⟨by omega, h1.2⟩
/-- does the row make the kind -/
noncomputable def Lb (r : List (Kd Nat)) (k : Kd Nat) : Bool := @decide (L r k) (Classical.propDecidable _)
theorem Lb_iff {r : List (Kd Nat)} {k : Kd Nat} : Lb r k = true ↔ L r k := by
  unfold Lb
  exact @decide_eq_true_iff (L r k) (Classical.propDecidable _)
theorem Lb_of {r : List (Kd Nat)} {k : Kd Nat} {b : Bool} (h : b = true ↔ L r k) : b = Lb r k := by
  rcases Bool.eq_false_or_eq_true b with e | e
  · rw [e, Lb_iff.mpr (h.mp e)]
  · rcases Bool.eq_false_or_eq_true (Lb r k) with e2 | e2
    · rw [h.mpr (Lb_iff.mp e2)] at e; cases e
    · rw [e, e2]
def spKindsOf : SpG := fun vs H Q => ∃ (l : Addr) (us : List V) (r : List (Kd Nat)) (ns : List Nat) (m : Nat), vs = [.ref l, .str (tx ns), .int (m : Nat)] ∧ H l = some (.lst us) ∧ KsAt H us r ∧ r ≠ [] ∧ (∀ z ∈ r, z.All Az) ∧ rsize r ≤ 17 ∧ Chs ns ∧ 1 ≤ m ∧ m ≤ 3 ∧
  ∀ (a : Addr) (us' : List V) (H' : Hp), Same H H' → H' a = some (.lst us') → H a = none → KsAt H' us' ((outP ns m).filter (Lb r)) → Q (.ref a) H'
section
variable {P : Program} {w : World} {K : PySem.W.Frag} {mg : Str → Option Value} {base : Heap} {C : Addr}
theorem b_kinds_of (T : Txt w K mg C) (f : Addr) (cdv : Value) (A : Around) (outer : List Env) (s : Shared) (H : Hp) (vs : List V) (Q : VK) (hr : RoomG 87 (A.deeper (envOfC "kinds_of" (defScope sP_kinds_of) s.heap.objs.size f cdv))) (hsp : spKindsOf vs H Q) :
    ∃ t, PSs (cxOf CX0 P w K mg base ["row", "signs", "most", "kind"] "kinds_of" (defScope sP_kinds_of) f cdv A outer s H E0).nox (defBody sP_kinds_of) t ∧ t { nx := fun _ H' => Q .non H', rt := Q } (start ["row", "signs", "most", "kind"] vs) H := by
  have C_check_asked := c_check_asked (P := P) (base := base) T
  have C_check_single := c_check_single (P := P) (base := base) T
  have C_check_small := c_check_small (P := P) (base := base) T
  have C_small_kinds := c_small_kinds (P := P) (base := base) T
  have C_row_comes := c_row_comes (P := P) (base := base) T
  obtain ⟨l, us, r, ns, m, e0, hl, hks, hne, haz, hz, hc, hm1, hm3, q⟩ := hsp
  subst e0
  refine ⟨_, (pss_cons (ps_expr (pe_g C_check_asked hr (by omega) rfl (pa_cons (pv 0) (pa_cons (pe_lst pa_nil) pa_nil))))
    (pss_cons (ps_expr (pe_g C_check_single hr (by omega) rfl (pa_cons (pv 0) (pa_cons (pe_ix ix_seq (pv 0) pe_int (fun _ _ => rfl)) pa_nil))))
    (pss_cons (ps_expr (pe_g C_check_small hr (by omega) rfl (pa_cons (pv 1) (pa_cons (pv 2) pa_nil))))
    (pss_one (ps_ret (pe_lc (own := [("kind", 3)]) (g := gName 3) rfl scP_kinds_of.nd (pi_list (pe_g C_small_kinds hr (by omega) rfl (pa_cons (pv 1) (pa_cons (pv 2) pa_nil)))) (blkOk_by (own := [("kind", 3)]) (N := ["row", "signs", "most", "kind"]) (sc := defScope sP_kinds_of) (by decide +kernel)) (fun _ _ _ _ _ => (pg_name (i := 3) scP_kinds_of.nd rfl (by first | exact Or.inl rfl | exact Or.inr rfl))) (fun _ _ _ _ _ => (pts_one (pt_val (pe_g C_row_comes hr (by omega) rfl (pa_cons (pv 0) (pa_cons (pv 3) pa_nil)))))) (fun _ _ _ _ _ => (pv 3)))))))), ?_⟩
  have zl : sizeLine = 16777216 := sizeLine_eq
  have hul := hks.len
  have hrl := len_le_rsize r
  have hops : ∀ z ∈ r, z.ops < 20 := fun z hz' => by have := ops_lt_rsize hz'; omega
  refine ⟨_, rfl, Nat.zero_le _, fun e ne => ?_⟩
  have S1 := same_new ne (.lst [])
  refine ⟨l, e, us, r, rfl, S1 _ _ hl, upd_same, hks.mono (Same.tk S1), fun z hz' => ⟨haz z hz', hops z hz'⟩, hne, by omega, fun H2 S2 => ?_⟩
  have S12 := S1.trans S2
  obtain ⟨k0, r0, rfl⟩ : ∃ k0 r0, r = k0 :: r0 := by
    cases r with
    | nil => exact absurd rfl hne
    | cons a b => exact ⟨a, b, rfl⟩
  obtain ⟨v0, us0, rfl, hv0⟩ : ∃ v0 us0, us = v0 :: us0 ∧ KAt H v0 k0 := by
    cases hks with
    | cons a b => exact ⟨_, _, rfl, a⟩
  have hl2 := S12 _ _ hl
  refine ⟨_, rfl, _, rfl, .inl ⟨_, _, _, _, rfl, rfl, SqL.of hl2, (show atI (v0 :: us0) ((0 : Nat) : Int) = some v0 from atI_nat rfl), l, v0, _, _, k0, rfl, hl2, hks.mono (Same.tk S12), hv0.mono (Same.tk S12), hops, hops k0 (List.mem_cons_self ..), by omega, fun H3 S3 => ?_⟩⟩
  refine ⟨_, rfl, _, rfl, ns, m, rfl, hc, hm1, hm3, fun H4 S4 => ?_⟩
  refine ⟨_, rfl, _, rfl, ns, m, rfl, hc, hm1, hm3, fun a us2 H5 S5 ha hk2 => ?_⟩
  have S05 := ((S12.trans S3).trans S4).trans S5
  refine ⟨a, rfl, ⟨_, SqL.of ha⟩, fun D nD => ?_⟩
  obtain ⟨hol, hos⟩ := outP_small hc.2.2.2 hm1 hm3
  have hl2' := hk2.len
  refine lc_it (walk_list (xs := us2)) (fun i H6 => Same H5 H6 ∧ ∃ acc, H6 D = some (.lst acc) ∧ KsAt H6 acc (((outP ns m).take i).filter (Lb (k0 :: r0)))) ⟨same_new nD _, [], upd_same, by rw [List.take_zero]; exact .nil⟩ (fun i H6 _ ⟨S6, _⟩ => SqL.of (S6 _ _ ha)) ?_ ?_
  · rintro i x H6 H7 hi ⟨S6, acc, hD6, hka⟩ ⟨rfl, hx⟩
    refine ⟨rfl, ?_⟩
    obtain ⟨k, hk, hv⟩ := KsAt.get' hk2 hx
    have hsk := hos k (mem_of_get hk)
    have t6 := Same.tk S6
    have hl7 := (S05.trans S6) _ _ hl
    have hal := hka.len
    have hal2 := List.length_filter_le (Lb (k0 :: r0)) ((outP ns m).take i)
    rw [List.length_take] at hal2
    refine ⟨_, rfl, _, rfl, l, x, _, _, k, rfl, hl7, hks.mono (Same.tk (S05.trans S6)), hv.mono t6, by omega, fun b H8 S8 hb => ⟨_, rfl, ?_⟩⟩
    have eb := Lb_of hb
    have hD8 := S8 _ _ hD6
    have efl : ((outP ns m).take (i + 1)).filter (Lb (k0 :: r0)) = ((outP ns m).take i).filter (Lb (k0 :: r0)) ++ [k].filter (Lb (k0 :: r0)) := by
      rw [take_succ' hk, List.filter_append]
    cases b with
    | true =>
      refine iteT ?_
      have tk := (upto_upd (l := [D]) (H := H8) (List.mem_singleton.mpr rfl) (.lst (acc ++ [x]))).tk (noTup1 hD8 (fun xs q => nomatch q))
      refine ⟨_, rfl, acc, hD8, by omega, same_over nD (S6.trans S8), _, upd_same, ?_⟩
      rw [efl, List.filter_cons, ← eb]
      exact ((hka.mono (Same.tk S8)).mono tk).snoc ((hv.mono (Same.tk (S6.trans S8))).mono tk)
    | false =>
      refine iteF ⟨S6.trans S8, acc, hD8, ?_⟩
      rw [efl, List.filter_cons, ← eb]
      simp only [Bool.false_eq_true, if_false, List.filter_nil, List.append_nil]
      exact hka.mono (Same.tk S8)
  · rintro H6 ⟨S6, acc, hD6, hka⟩
    rw [hl2', List.take_length] at hka
    have hDn : H D = none := by
      cases e : H D with
      | none => rfl
      | some o => rw [S05 _ _ e] at nD; cases nD
    exact q D acc H6 (S05.trans S6) hD6 hDn hka
theorem len_kinds_of : ∀ vs H Q, spKindsOf vs H Q → vs.length = (["row", "signs", "most"] : List Str).length := fun vs H Q ⟨_, _, _, _, _, e, _⟩ => by rw [e]; rfl
theorem c_kinds_of (T : Txt w K mg C) : GCal P w K mg base 88 "kinds_of" spKindsOf := cal_of T.dP_kinds_of scP_kinds_of len_kinds_of (b_kinds_of T)
end
end L2.G
set_option Elab.async false
set_option linter.all false
set_option maxRecDepth 100000
set_option maxHeartbeats 8000000
/-! The law's small kinds. -/
namespace L2.G
open PySem PySem.Spec PyProof.Rows WW
def q1 (x : Kd Nat) (B : List (Kd Nat)) : List (Kd Nat) := B.flatMap fun y => [.b x y, .a x y]
def qq (A B : List (Kd Nat)) : List (Kd Nat) := A.flatMap fun x => q1 x B
theorem q1_len (x : Kd Nat) (B : List (Kd Nat)) : (q1 x B).length ≤ B.length * 2 := flat_len fun _ _ => Nat.le_refl _
theorem qq_len (A B : List (Kd Nat)) : (qq A B).length ≤ A.length * (B.length * 2) := flat_len fun x _ => q1_len x B
def lwS (ns : List Nat) : Nat → List (Kd Nat)
  | 1 => ns.map .p
  | 2 => qq (ns.map .p) (ns.map .p)
  | 3 => qq (ns.map .p) (qq (ns.map .p) (ns.map .p)) ++ qq (qq (ns.map .p) (ns.map .p)) (ns.map .p)
  | _ => []
def rowL (ns : List Nat) (n j : Nat) : List (Kd Nat) := (List.range j).flatMap fun j => qq (lwS ns (1 + j)) (lwS ns (n - (1 + j)))
theorem rowL_succ (ns : List Nat) (n j : Nat) : rowL ns n (j + 1) = rowL ns n j ++ qq (lwS ns (1 + j)) (lwS ns (n - (1 + j))) := by
  unfold rowL
  rw [List.range_succ, List.flatMap_append]
  simp
theorem lwS_row (ns : List Nat) {n : Nat} (h2 : 2 ≤ n) (h3 : n ≤ 3) : lwS ns n = rowL ns n (n - 1) := by
  match n, h2, h3 with
  | 2, _, _ => rw [show 2 - 1 = 0 + 1 from rfl, rowL_succ]; simp [rowL, lwS]
  | 3, _, _ => rw [show 3 - 1 = 1 + 1 from rfl, rowL_succ, rowL_succ]; simp [rowL, lwS]
theorem mem_qq {A B : List (Kd Nat)} {k : Kd Nat} (h : k ∈ qq A B) : ∃ x y, x ∈ A ∧ y ∈ B ∧ (k = .b x y ∨ k = .a x y) := by
  obtain ⟨x, hx, hk⟩ := List.mem_flatMap.mp h
  obtain ⟨y, hy, hk⟩ := List.mem_flatMap.mp hk
  refine ⟨x, y, hx, hy, ?_⟩
  simpa using hk
theorem small_qq {ns : List Nat} {s t c d : Nat} {A B : List (Kd Nat)} (h1 : Small ns s c A) (h2 : Small ns t d B) : Small ns (s + t) (c * d * 2) (qq A B) := by
  refine ⟨Nat.le_trans (qq_len A B) ?_, fun k hk => ?_⟩
  · rw [← Nat.mul_assoc]
    exact Nat.mul_le_mul_right _ (Nat.mul_le_mul h1.1 h2.1)
  · obtain ⟨x, y, hx, hy, e⟩ := mem_qq hk
    have a := h1.2 x hx
    have b := h2.2 y hy
    rcases e with rfl | rfl
    · exact ⟨by simp only [Kd.size]; omega, a.2, b.2⟩
    · exact ⟨by simp only [Kd.size]; omega, a.2, b.2⟩
theorem lwS_small {ns : List Nat} (h : ns.length ≤ 3) {n : Nat} (h1 : 1 ≤ n) (h3 : n ≤ 3) : Small ns n 216 (lwS ns n) := by
  have a := small_p h
  have b : Small ns 2 18 (qq (ns.map .p) (ns.map .p)) := small_qq a a
  have c1 : Small ns 3 108 (qq (ns.map .p) (qq (ns.map .p) (ns.map .p))) := small_qq a b
  have c2 : Small ns 3 108 (qq (qq (ns.map .p) (ns.map .p)) (ns.map .p)) := small_qq b a
  have c := small_app c1 c2
  have up : ∀ {s c d : Nat} {l : List (Kd Nat)}, Small ns s c l → c ≤ d → Small ns s d l := fun x y => ⟨Nat.le_trans x.1 y, x.2⟩
  match n, h1, h3 with
  | 1, _, _ => exact up a (by decide)
  | 2, _, _ => exact up b (by decide)
  | 3, _, _ => exact up c (by decide)
def spLS (n : Nat) : SpG := fun vs H Q => ∃ (ns : List Nat) (m : Nat), vs = [.str (tx ns), .int (m : Nat)] ∧ ns.length ≤ 3 ∧ 1 ≤ m ∧ m ≤ 3 ∧ m < n ∧ ∀ (a : Addr) (us : List V) (H' : Hp), Same H H' → H' a = some (.lst us) → H a = none → KsAt H' us (lwS ns m) → Q (.ref a) H'
section
variable {P : Program} {w : World} {K : PySem.W.Frag} {mg : Str → Option Value} {base : Heap} {C : Addr}
theorem c_small (T : Txt w K mg C) : ∀ n, GCal P w K mg base n "_law_small" (spLS n)
  | 0 => cal_none T.dL_small fun vs H Q ⟨_, _, _, _, _, _, h, _⟩ => absurd h (Nat.not_lt_zero _)
  | n + 1 => by
    have C_small := c_small T n
    refine cal_of T.dL_small scL_small (fun vs H Q ⟨_, _, e, _⟩ => by rw [e]; rfl) fun f cdv A outer s H vs Q hr ⟨ns, m, e0, hl3, hm1, hm3, hmn, q⟩ => ?_
    subst e0
    refine ⟨_, (pss_cons (ps_if (pt_cmpR op_eq (pv 1) pe_int (nomark _))
      (pss_one (ps_ret (pe_lc (own := [("_law_letter", 2)]) (g := gName 2) (tt := tYes) rfl scL_small.nd (pi_str (pv 0)) (blkOk_by (own := [("_law_letter", 2)]) (N := ["_law_choice_here", "_law_many", "_law_letter", "_law_found", "_law_cut", "_law_first", "_law_second"]) (sc := defScope sL_small) (by decide +kernel)) (fun _ _ _ _ _ => (pg_name (i := 2) scL_small.nd rfl (by first | exact Or.inl rfl | exact Or.inr rfl))) (fun _ _ _ _ _ => pts_nil) (fun _ _ _ _ _ => (pe_tup (pa_cons pe_str (pa_cons (pv 2) pa_nil)))))))
      pss_nil)
    (pss_cons (ps_set (i := 3) scL_small.nd rfl (by first | exact Or.inl rfl | exact Or.inr rfl) (pe_lst pa_nil))
    (pss_cons (ps_for PassesOwn.never rfl (pi_range2 rfl T.m_range (pa_cons pe_int (pa_cons (pv 1) pa_nil))) (pg_name (i := 4) scL_small.nd rfl (by first | exact Or.inl rfl | exact Or.inr rfl))
      (pss_one (ps_for PassesOwn.never rfl (pi_list (pe_g C_small hr (by omega) rfl (pa_cons (pv 0) (pa_cons (pv 4) pa_nil)))) (pg_name (i := 5) scL_small.nd rfl (by first | exact Or.inl rfl | exact Or.inr rfl))
        (pss_one (ps_for PassesOwn.never rfl (pi_list (pe_g C_small hr (by omega) rfl (pa_cons (pv 0) (pa_cons (pe_op op_sub (pv 1) (pv 4)) pa_nil)))) (pg_name (i := 6) scL_small.nd rfl (by first | exact Or.inl rfl | exact Or.inr rfl))
          (pss_one (ps_expr (pe_bm PySem.F.plainAttrs_list PySem.F.slot_list_extend PySem.F.type_list_extend mt_extend (pv 3) (pa_cons (pe_lst (pa_cons (pe_tup (pa_cons pe_str (pa_cons (pv 5) (pa_cons (pv 6) pa_nil)))) (pa_cons (pe_tup (pa_cons pe_str (pa_cons (pv 5) (pa_cons (pv 6) pa_nil)))) pa_nil))) pa_nil)))))))))
    (pss_one (ps_ret (pv 3)))))), ?_⟩
    have zl : sizeLine = 16777216 := sizeLine_eq
    have hsz : (tx ns).cps.size = ns.length := by simp
    refine ⟨_, rfl, rfl, _, rfl, ite2 (fun c => ?_) (fun c => ?_)⟩
    · have c := of_decide_eq_true c
      injection c with c
      obtain rfl : m = 1 := by omega
      refine ⟨_, rfl, _, rfl, fun D nD => ?_⟩
      refine lc_it walk_str (fun i H5 => Same H H5 ∧ ∃ us, H5 D = some (.lst us) ∧ KsAt H5 us ((ns.take i).map .p)) ⟨same_new nD _, [], upd_same, by rw [List.take_zero]; exact .nil⟩ (fun i H5 _ _ => trivial) ?_ ?_
      · rintro i x H5 H6 hi ⟨S5, us, hD5, hk5⟩ ⟨rfl, c, hc, rfl⟩
        have hc' : ns[i]? = some c := by simpa using hc
        refine ⟨rfl, ?_⟩
        refine ⟨_, rfl, by show 2 ≤ sizeLine; decide, fun p np => ?_⟩
        have S := same_new np (.tup [.str "plain", .str ⟨#[c]⟩])
        have hD6 := S _ _ hD5
        have tk := (upto_upd (l := [D]) (H := upd H6 p (.tup [.str "plain", .str ⟨#[c]⟩])) (List.mem_singleton.mpr rfl) (.lst (us ++ [V.ref p]))).tk (noTup1 hD6 (fun xs q => nomatch q))
        have hul := hk5.len
        rw [List.length_map, List.length_take] at hul
        refine ⟨us, hD6, by omega, same_over nD (S5.trans S), _, upd_same, ?_⟩
        rw [take_succ' hc', List.map_append]
        exact ((hk5.mono (Same.tk S)).mono tk).snoc (.p (tk _ _ upd_same))
      rintro H5 ⟨S5, us0, hD5, hk5⟩
      rw [hsz, List.take_length] at hk5
      exact q D us0 H5 S5 hD5 nD hk5
    have hm2 : 2 ≤ m := by
      rcases Nat.lt_or_ge m 2 with h | h
      · obtain rfl : m = 1 := by omega
        exact absurd (decide_eq_true rfl) c
      · exact h
    have hsm := fun {n : Nat} => lwS_small (ns := ns) hl3 (n := n)
    refine ⟨Nat.zero_le _, fun fd nfd => ?_⟩
    have S8 := same_new nfd (.lst [])
    refine ⟨_, rfl, _, _, rfl, ⟨by decide, by decide, by omega, by omega⟩, ?_⟩
    rw [show (((m : Nat) : Int) - 1).toNat = m - 1 by omega]
    refine for_range (lo := 1) (n := m - 1) (fun j σ H9 => ∃ x4 x5 x6 : Option V, σ = [some (.str (tx ns)), some (.int (m : Nat)), none, some (.ref fd), x4, x5, x6] ∧ Same H H9 ∧ ∃ vf, H9 fd = some (.lst vf) ∧ KsAt H9 vf (rowL ns m j))
      ⟨_, _, _, rfl, S8, [], upd_same, .nil⟩ ?_ ?_
    · rintro j σ H9 hj ⟨y4, y5, y6, rfl, S9, vf, hfd, hkf⟩
      have sA := hsm (n := 1 + j) (by omega) (by omega)
      have sB := hsm (n := m - (1 + j)) (by omega) (by omega)
      have hfl : vf.length ≤ j * 93312 := by
        rw [hkf.len]
        refine Nat.le_trans (flat_len (c := 93312) fun x hx => ?_) (by rw [List.length_range]; exact Nat.le_refl _)
        have hx := List.mem_range.mp hx
        have e1 := (hsm (n := 1 + x) (by omega) (by omega)).1
        have e2 := (hsm (n := m - (1 + x)) (by omega) (by omega)).1
        have := qq_len (lwS ns (1 + x)) (lwS ns (m - (1 + x)))
        have := Nat.mul_le_mul e1 (Nat.mul_le_mul_right 2 e2)
        omega
      refine ⟨_, rfl, _, rfl, ns, 1 + j, (by show [V.str (tx ns), V.int ((1 : Int) + ((j : Nat) : Int))] = _; rw [show (1 : Int) + ((j : Nat) : Int) = ((1 + j : Nat) : Int) by omega]), hl3, by omega, by omega, by omega, fun aA usA H10 S10 haA naA hkA => ⟨aA, rfl, ⟨_, SqL.of haA⟩, ?_⟩⟩
      have lA := hkA.len
      have hAB : (lwS ns (1 + j)).length * ((lwS ns (m - (1 + j))).length * 2) ≤ 216 * (216 * 2) := Nat.mul_le_mul sA.1 (Nat.mul_le_mul_right 2 sB.1)
      have nAf : fd ≠ aA := ne_of_none hfd naA
      have hfd10 := S10 _ _ hfd
      refine for_it (walk_list (xs := usA)) (fun ii σ Ha => ∃ x5 x6 : Option V, σ = [some (.str (tx ns)), some (.int (m : Nat)), none, some (.ref fd), some (.int ((1 : Int) + ((j : Nat) : Int))), x5, x6] ∧ Same H Ha ∧ Ha aA = some (.lst usA) ∧ KsAt Ha usA (lwS ns (1 + j)) ∧ ∃ vf, Ha fd = some (.lst vf) ∧ KsAt Ha vf (rowL ns m j ++ qq ((lwS ns (1 + j)).take ii) (lwS ns (m - (1 + j)))))
        ⟨_, _, rfl, S9.trans S10, haA, hkA, vf, hfd10, by rw [List.take_zero]; show KsAt _ _ (_ ++ []); rw [List.append_nil]; exact hkf.mono (Same.tk S10)⟩ (fun ii σ Ha _ ⟨_, _, _, _, h, _⟩ => SqL.of h) ?_ ?_
      · rintro ii x σ Ha Hb hii ⟨x5, x6, rfl, Sa, haa, hka, vg, hfa, hkg⟩ ⟨rfl, hx⟩
        obtain ⟨kx, hkx, hvx⟩ := KsAt.get' hka hx
        have hgl : vg.length ≤ 2 * 93312 + 93312 := by
          rw [hkg.len, List.length_append, ← hkf.len]
          have h1 : (qq ((lwS ns (1 + j)).take ii) (lwS ns (m - (1 + j)))).length ≤ (lwS ns (1 + j)).length * ((lwS ns (m - (1 + j))).length * 2) := flat_take_len ii fun x _ => q1_len x _
          have : j ≤ 2 := by omega
          omega
        refine ⟨_, rfl, _, rfl, _, rfl, _, _, rfl, rfl, ns, m - (1 + j), (by show [V.str (tx ns), V.int (((m : Nat) : Int) - ((1 : Int) + ((j : Nat) : Int)))] = _; rw [show ((m : Nat) : Int) - ((1 : Int) + ((j : Nat) : Int)) = ((m - (1 + j) : Nat) : Int) by omega]), hl3, by omega, by omega, by omega, fun aB usB H11 S11 haB naB hkB => ⟨aB, rfl, ⟨_, SqL.of haB⟩, ?_⟩⟩
        have lB := hkB.len
        have nBf : fd ≠ aB := ne_of_none hfa naB
        refine for_it (walk_list (xs := usB)) (fun jj σ Hc => ∃ x6 : Option V, σ = [some (.str (tx ns)), some (.int (m : Nat)), none, some (.ref fd), some (.int ((1 : Int) + ((j : Nat) : Int))), some x, x6] ∧ Same H Hc ∧ Hc aA = some (.lst usA) ∧ KsAt Hc usA (lwS ns (1 + j)) ∧ Hc aB = some (.lst usB) ∧ KsAt Hc usB (lwS ns (m - (1 + j))) ∧ ∃ vf, Hc fd = some (.lst vf) ∧ KsAt Hc vf (rowL ns m j ++ qq ((lwS ns (1 + j)).take ii) (lwS ns (m - (1 + j))) ++ q1 kx ((lwS ns (m - (1 + j))).take jj)))
          ⟨_, rfl, Sa.trans S11, S11 _ _ haa, hka.mono (Same.tk S11), haB, hkB, vg, S11 _ _ hfa, by rw [List.take_zero]; show KsAt _ _ (_ ++ []); rw [List.append_nil]; exact hkg.mono (Same.tk S11)⟩ (fun jj σ Hc _ ⟨_, _, _, _, _, h, _⟩ => SqL.of h) ?_ ?_
        · rintro jj y σ Hc Hd hjj ⟨x6, rfl, Sc, hac, hkc, hbc, hkbc, vh, hfc, hkh⟩ ⟨rfl, hy⟩
          obtain ⟨ky, hky, hvy⟩ := KsAt.get' hkbc hy
          obtain ⟨kx', hkx', hvx'⟩ := KsAt.get' hkc hx
          obtain rfl : kx' = kx := by rw [hkx'] at hkx; exact Option.some.inj hkx
          have hhl : vh.length ≤ 2 * 93312 + 93312 + 432 := by
            rw [hkh.len, List.length_append, ← hkg.len]
            have h1 := q1_len kx' ((lwS ns (m - (1 + j))).take jj)
            have h2 := sB.1
            rw [List.length_take] at h1
            omega
          refine ⟨_, rfl, .inl ⟨rfl, _, SqL.of hfc⟩, _, rfl, _, rfl, by show 3 ≤ sizeLine; decide, fun p1 np1 => ?_⟩
          have T1 := same_new np1 (.tup [.str "behind", x, y])
          refine ⟨_, rfl, _, rfl, by show 3 ≤ sizeLine; decide, fun p2 np2 => ?_⟩
          have T2 := same_new np2 (.tup [.str "ahead", x, y])
          refine ⟨by show 2 ≤ sizeLine; decide, fun p3 np3 => ?_⟩
          have T3 := same_new np3 (.lst [V.ref p1, V.ref p2])
          have T13 := (T1.trans T2).trans T3
          have hf3 := T13 _ _ hfc
          refine ⟨fd, p3, vh, _, rfl, rfl, hf3, upd_same, by show vh.length + 2 ≤ _; omega, ?_⟩
          have tk := (upto_upd (l := [fd]) (H := upd (upd (upd Hd p1 (.tup [.str "behind", x, y])) p2 (.tup [.str "ahead", x, y])) p3 (.lst [V.ref p1, V.ref p2])) (List.mem_singleton.mpr rfl) (.lst (vh ++ [V.ref p1, V.ref p2]))).tk (noTup1 hf3 (fun xs q => nomatch q))
          have t13 := Same.tk T13
          have g1 : TK Hd _ := t13.trans tk
          refine ⟨_, rfl, same_over nfd (Sc.trans T13), by rw [upd_ne nAf.symm]; exact T13 _ _ hac, hkc.mono g1, by rw [upd_ne nBf.symm]; exact T13 _ _ hbc, hkbc.mono g1, _, upd_same, ?_⟩
          have e : q1 kx' ((lwS ns (m - (1 + j))).take (jj + 1)) = q1 kx' ((lwS ns (m - (1 + j))).take jj) ++ [.b kx' ky, .a kx' ky] := by
            unfold q1
            rw [flat_take hky]
          rw [e, ← List.append_assoc]
          exact (hkh.mono g1).append (.cons (.b (tk _ _ (T3 _ _ (T2 _ _ upd_same))) (hvx'.mono g1) (hvy.mono g1)) (.cons (.a (tk _ _ (T3 _ _ upd_same)) (hvx'.mono g1) (hvy.mono g1)) .nil))
        · rintro σ Hc ⟨x6, rfl, Sc, hac, hkc, hbc, hkbc, vh, hfc, hkh⟩
          rw [lB, List.take_length] at hkh
          refine ⟨_, _, rfl, Sc, hac, hkc, vh, hfc, ?_⟩
          unfold qq
          rw [flat_take hkx, ← List.append_assoc]
          exact hkh
      · rintro σ Ha ⟨x5, x6, rfl, Sa, haa, hka, vg, hfa, hkg⟩
        rw [lA, List.take_length] at hkg
        exact ⟨_, _, _, rfl, Sa, vg, hfa, by rw [rowL_succ]; exact hkg⟩
    · rintro σ H9 ⟨y4, y5, y6, rfl, S9, vf, hfd, hkf⟩
      rw [← lwS_row ns hm2 hm3] at hkf
      exact ⟨_, rfl, q fd vf H9 S9 hfd nfd hkf⟩
end
end L2.G
set_option Elab.async false
set_option linter.all false
set_option maxRecDepth 100000
set_option maxHeartbeats 8000000
/-! The kinds' texts tell them apart; the law's and the program's sorted lists are one. -/
namespace L2.G
open PySem PySem.Spec PyProof.Rows WW
def kc : Kd Nat → List Nat
  | .p c => [c]
  | .b x y => 40 :: (kc x ++ 47 :: (kc y ++ [41]))
  | .a y x => 40 :: (kc y ++ 92 :: (kc x ++ [41]))
theorem kt_kc : ∀ k : Kd Nat, (kt k).cps.toList = kc k
  | .p c => rfl
  | .b x y => by
    show (((((("(" : Str).cps ++ (kt x).cps) ++ ("/" : Str).cps) ++ (kt y).cps) ++ (")" : Str).cps)).toList = _
    rw [Array.toList_append, Array.toList_append, Array.toList_append, Array.toList_append, kt_kc x, kt_kc y]
    show ((([40] ++ kc x) ++ [47]) ++ kc y) ++ [41] = _
    simp [kc]
  | .a y x => by
    show (((((("(" : Str).cps ++ (kt y).cps) ++ ("\\" : Str).cps) ++ (kt x).cps) ++ (")" : Str).cps)).toList = _
    rw [Array.toList_append, Array.toList_append, Array.toList_append, Array.toList_append, kt_kc x, kt_kc y]
    show ((([40] ++ kc y) ++ [92]) ++ kc x) ++ [41] = _
    simp [kc]
theorem kc_inj : ∀ (k l : Kd Nat) (r t : List Nat), k.All Az → l.All Az → kc k ++ r = kc l ++ t → k = l ∧ r = t
  | .p c, .p d, r, t, _, _, h => by
    simp only [kc, List.cons_append, List.nil_append, List.cons.injEq] at h
    exact ⟨by rw [h.1], h.2⟩
  | .p c, .b x y, r, t, hc, _, h => by
    simp only [kc, List.cons_append, List.nil_append, List.cons.injEq] at h
    have := hc.1
    omega
  | .p c, .a x y, r, t, hc, _, h => by
    simp only [kc, List.cons_append, List.nil_append, List.cons.injEq] at h
    have := hc.1
    omega
  | .b x y, .p c, r, t, _, hc, h => by
    simp only [kc, List.cons_append, List.nil_append, List.cons.injEq] at h
    have := hc.1
    omega
  | .a x y, .p c, r, t, _, hc, h => by
    simp only [kc, List.cons_append, List.nil_append, List.cons.injEq] at h
    have := hc.1
    omega
  | .b x y, .b u v, r, t, h1, h2, h => by
    simp only [kc, List.cons_append, List.append_assoc, List.cons.injEq, true_and] at h
    obtain ⟨e1, h⟩ := kc_inj x u _ _ h1.1 h2.1 h
    simp only [List.cons.injEq, true_and] at h
    obtain ⟨e2, h⟩ := kc_inj y v _ _ h1.2 h2.2 h
    simp only [List.nil_append, List.cons.injEq, true_and] at h
    exact ⟨by rw [e1, e2], h⟩
  | .a x y, .a u v, r, t, h1, h2, h => by
    simp only [kc, List.cons_append, List.append_assoc, List.cons.injEq, true_and] at h
    obtain ⟨e1, h⟩ := kc_inj x u _ _ h1.1 h2.1 h
    simp only [List.cons.injEq, true_and] at h
    obtain ⟨e2, h⟩ := kc_inj y v _ _ h1.2 h2.2 h
    simp only [List.nil_append, List.cons.injEq, true_and] at h
    exact ⟨by rw [e1, e2], h⟩
  | .b x y, .a u v, r, t, h1, h2, h => by
    simp only [kc, List.cons_append, List.append_assoc, List.cons.injEq, true_and] at h
    obtain ⟨e1, h⟩ := kc_inj x u _ _ h1.1 h2.1 h
    simp at h
  | .a x y, .b u v, r, t, h1, h2, h => by
    simp only [kc, List.cons_append, List.append_assoc, List.cons.injEq, true_and] at h
    obtain ⟨e1, h⟩ := kc_inj x u _ _ h1.1 h2.1 h
    simp at h
theorem kt_inj {k l : Kd Nat} (h1 : k.All Az) (h2 : l.All Az) (h : kt k = kt l) : k = l := by
  have e := kt_kc k
  rw [h, kt_kc l] at e
  exact (kc_inj k l [] [] h1 h2 (by rw [List.append_nil, List.append_nil]; exact e.symm)).1
/-! ### the lists of one size -/
theorem flat_perm {α β : Type} {f g : α → List β} : ∀ {l : List α}, (∀ x ∈ l, (f x).Perm (g x)) → (l.flatMap f).Perm (l.flatMap g)
  | [], _ => .nil
  | x :: l, h => by
    rw [List.flatMap_cons, List.flatMap_cons]
    exact (h x (List.mem_cons_self ..)).append (flat_perm fun y hy => h y (List.mem_cons_of_mem _ hy))
theorem q1_perm {x : Kd Nat} {B B' : List (Kd Nat)} (h : B.Perm B') : (q1 x B).Perm (q1 x B') := h.flatMap_right _
theorem qq_perm {A A' B B' : List (Kd Nat)} (h1 : A.Perm A') (h2 : B.Perm B') : (qq A B).Perm (qq A' B') :=
  (flat_perm fun x _ => q1_perm h2).trans (h1.flatMap_right _)
theorem pp_qq (A B : List (Kd Nat)) : (pp A B).Perm (qq A B) := by
  unfold pp prs qq q1
  rw [List.flatMap_assoc]
  refine flat_perm fun x _ => ?_
  rw [List.flatMap_map]
  exact flat_perm fun y _ => List.Perm.swap _ _ _
theorem size_perm (ns : List Nat) : (tabP ns 0).length = 2 ∧ ∀ (m i : Nat) (l : List (Kd Nat)), m ≤ 3 → 1 ≤ m → (tabP ns (m - 1))[i]? = some l → l.Perm (lwS ns i) := by
  refine ⟨rfl, fun m i l hm h1 hl => ?_⟩
  have a2 : (pp (ns.map .p) (ns.map .p)).Perm (lwS ns 2) := pp_qq _ _
  have a3 : (pp (ns.map .p) (pp (ns.map .p) (ns.map .p)) ++ pp (pp (ns.map .p) (ns.map .p)) (ns.map .p)).Perm (lwS ns 3) :=
    ((pp_qq _ _).trans (qq_perm (.refl _) a2)).append ((pp_qq _ _).trans (qq_perm a2 (.refl _)))
  have key : ∀ (i : Nat) (l : List (Kd Nat)), (tabP ns 2)[i]? = some l → l.Perm (lwS ns i) := by
    rw [tabP_2]
    intro i l hl
    match i, hl with
    | 0, hl => cases hl; exact .nil
    | 1, hl => cases hl; exact .refl _
    | 2, hl => cases hl; exact a2
    | 3, hl => cases hl; exact a3
    | i + 4, hl => simp at hl
  have pre : ∀ (n i : Nat) (l : List (Kd Nat)), (tabP ns n)[i]? = some l → (tabP ns (n + 1))[i]? = some l := fun n i l e => by
    rw [tabP, List.getElem?_append_left (List.getElem?_eq_some_iff.mp e).1]
    exact e
  match m, hm, h1, hl with
  | 1, _, _, e => exact key i l (pre _ _ _ (pre _ _ _ e))
  | 2, _, _, e => exact key i l (pre _ _ _ e)
  | 3, _, _, e => exact key i l e
theorem leK_trans (a b c : Kd Nat) (h1 : leK a b = true) (h2 : leK b c = true) : leK a c = true :=
  decide_eq_true (List.le_trans (of_decide_eq_true h1) (of_decide_eq_true h2))
theorem leK_total (a b : Kd Nat) : (leK a b || leK b a) = true := by
  rcases List.le_total (kt a).cps.toList (kt b).cps.toList with h | h
  · rw [show leK a b = true from decide_eq_true h]; rfl
  · rw [show leK b a = true from decide_eq_true h, Bool.or_true]
theorem leK_anti {a b : Kd Nat} (h1 : a.All Az) (h2 : b.All Az) (h : leK a b = true) (h' : leK b a = true) : a = b :=
  kt_inj h1 h2 (str_antisymm (of_decide_eq_true h) (of_decide_eq_true h'))
theorem sortK_eq {l l' : List (Kd Nat)} (hl : ∀ k ∈ l, k.All Az) (hp : l.Perm l') (h : l'.Pairwise fun a b => leK a b = true) : l.mergeSort leK = l' := by
  refine List.Perm.eq_of_pairwise (le := fun a b => leK a b = true) (fun a b ha hb => ?_) (List.pairwise_mergeSort leK_trans leK_total l) h ((List.mergeSort_perm l leK).trans hp)
  exact leK_anti (hl a (List.mem_mergeSort.mp ha)) (hl b (hp.mem_iff.mpr hb))
theorem sortK_perm {l l' : List (Kd Nat)} (hl : ∀ k ∈ l, k.All Az) (hp : l.Perm l') : l.mergeSort leK = l'.mergeSort leK :=
  sortK_eq hl (hp.trans (List.mergeSort_perm l' leK).symm) (List.pairwise_mergeSort leK_trans leK_total l')
/-- what the law orders -/
def outL (ns : List Nat) (m : Nat) : List (Kd Nat) := (List.range m).flatMap fun j => (lwS ns (1 + j)).mergeSort leK
theorem outP_outL {ns : List Nat} (hn : ns.length ≤ 3) (haz : ∀ c ∈ ns, Az c) {m : Nat} (h1 : 1 ≤ m) (h3 : m ≤ 3) : outP ns m = outL ns m := by
  have hsm := tabP_small hn (n := m - 1) (by omega)
  have hp := (size_perm ns).2 m
  have hlen := tabP_len ns (m - 1)
  have e : ∀ (i : Nat) (l : List (Kd Nat)), (tabP ns (m - 1))[i]? = some l → l.mergeSort leK = (lwS ns i).mergeSort leK := fun i l hl =>
    sortK_perm (fun k hk => ((hsm i l hl).2 k hk).2.imp haz) (hp i l h3 h1 hl)
  unfold outP outL
  match m, h1, h3, hlen, e with
  | 1, _, _, hlen, e =>
    have e1 := e 1 _ rfl
    show ([[], ns.map Kd.p] : List (List (Kd Nat))).flatMap _ = _
    simp [List.range_succ, lwS]
  | 2, _, _, hlen, e =>
    have e2 := e 2 (pp (ns.map .p) (ns.map .p)) (by show (tabP ns 1)[2]? = _; rw [tabP_1]; rfl)
    show (tabP ns 1).flatMap _ = _
    rw [tabP_1]
    simp [List.range_succ, e2, lwS]
  | 3, _, _, hlen, e =>
    have e2 := e 2 (pp (ns.map .p) (ns.map .p)) (by show (tabP ns 2)[2]? = _; rw [tabP_2]; rfl)
    have e3 := e 3 (pp (ns.map .p) (pp (ns.map .p) (ns.map .p)) ++ pp (pp (ns.map .p) (ns.map .p)) (ns.map .p)) (by show (tabP ns 2)[3]? = _; rw [tabP_2]; rfl)
    show (tabP ns 2).flatMap _ = _
    rw [tabP_2]
    simp [List.range_succ, e2, e3, lwS]
theorem nodup_qq {A B : List (Kd Nat)} (h1 : A.Nodup) (h2 : B.Nodup) : (qq A B).Nodup := by
  refine List.pairwise_flatMap.mpr ⟨fun x _ => ?_, h1.imp fun {x x'} hne u hu v hv => ?_⟩
  · refine List.pairwise_flatMap.mpr ⟨fun y _ => ?_, h2.imp fun {y y'} hne u hu v hv => ?_⟩
    · simp
    · intro e
      subst e
      simp only [List.mem_cons, List.not_mem_nil, or_false] at hu hv
      rcases hu with rfl | rfl <;> rcases hv with h | h <;> cases h <;> exact hne rfl
  · intro e
    subst e
    obtain ⟨y, _, hu⟩ := List.mem_flatMap.mp hu
    obtain ⟨y', _, hv⟩ := List.mem_flatMap.mp hv
    simp only [List.mem_cons, List.not_mem_nil, or_false] at hu hv
    rcases hu with rfl | rfl <;> rcases hv with h | h <;> cases h <;> exact hne rfl
theorem lwS_nodup {ns : List Nat} (h : ns.Nodup) : ∀ n, (lwS ns n).Nodup := by
  have a : (ns.map Kd.p).Nodup := List.Pairwise.map _ (fun a b hne e => hne (by cases e; rfl)) h
  intro n
  match n with
  | 0 => exact .nil
  | 1 => exact a
  | 2 => exact nodup_qq a a
  | 3 =>
    refine List.pairwise_append.mpr ⟨nodup_qq a (nodup_qq a a), nodup_qq (nodup_qq a a) a, fun x hx y hy e => ?_⟩
    subst e
    obtain ⟨x1, y1, hx1, _, e1⟩ := mem_qq hx
    obtain ⟨x2, y2, hx2, _, e2⟩ := mem_qq hy
    obtain ⟨c, _, rfl⟩ := List.mem_map.mp hx1
    obtain ⟨x3, y3, _, _, e3⟩ := mem_qq hx2
    rcases e1 with rfl | rfl <;> rcases e2 with h | h <;> cases h <;> rcases e3 with h | h <;> cases h
  | n + 4 => exact .nil
end L2.G
set_option Elab.async false
set_option linter.all false
set_option maxRecDepth 100000
set_option maxHeartbeats 8000000
/-! _law_ordered. -/
namespace L2.G
open PySem PySem.Spec PyProof.Rows WW
theorem Paired.permL {α β : Type} {R : α → β → Prop} {a a' : List α} (h : a'.Perm a) : ∀ {b : List β}, Paired R a b → ∃ b', b'.Perm b ∧ Paired R a' b' := by
  induction h with
  | nil => exact fun {b} p => ⟨b, .refl _, p⟩
  | cons x _ ih =>
    intro b p
    cases p with
    | cons r t =>
      obtain ⟨b', h1, h2⟩ := ih t
      exact ⟨_ :: b', h1.cons _, .cons r h2⟩
  | swap x y l =>
    intro b p
    cases p with
    | cons r t =>
      cases t with
      | cons r2 t2 => exact ⟨_ :: _ :: _, List.Perm.swap _ _ _, .cons r2 (.cons r t2)⟩
  | trans _ _ ih1 ih2 =>
    intro b p
    obtain ⟨b1, h1, h2⟩ := ih2 p
    obtain ⟨b2, h3, h4⟩ := ih1 h2
    exact ⟨b2, h3.trans h1, h4⟩
theorem Paired.at' {α β : Type} {R : α → β → Prop} : ∀ {a : List α} {b : List β} {i : Nat} {x : α}, Paired R a b → a[i]? = some x → ∃ y, b[i]? = some y ∧ R x y
  | _, _, _, _, .nil, e => by simp at e
  | _, _, 0, _, .cons a r, e => by simp at e; subst e; exact ⟨_, rfl, a⟩
  | _, _, i + 1, _, .cons a r, e => by
    obtain ⟨k, h1, h2⟩ := Paired.at' (i := i) r (by simpa using e)
    exact ⟨k, by simpa using h1, h2⟩
/-- a pair (text of a kind, the kind) -/
abbrev TxAt (H : Hp) (v : V) (k : Kd Nat) : Prop := ∃ (t b : Addr), v = .ref t ∧ H t = some (.tup [.str (kt k), .ref b]) ∧ KAt H (.ref b) k
def kf (H : Hp) (v : V) : Str := match v with
  | .ref t => (match H t with
    | some (.tup [.str z, _]) => z
    | _ => ⟨#[]⟩)
  | _ => ⟨#[]⟩
theorem kf_tx {H : Hp} {v : V} {k : Kd Nat} (h : TxAt H v k) : kf H v = kt k := by
  obtain ⟨t, b, rfl, ht, _⟩ := h
  unfold kf
  simp only [ht]
theorem TxAt.mono {H H' : Hp} (t : TK H H') {v : V} {k : Kd Nat} (h : TxAt H v k) : TxAt H' v k := by
  obtain ⟨a, b, e, ha, hk⟩ := h
  exact ⟨a, b, e, t _ _ ha, hk.mono t⟩
theorem TxsAt.mono {H H' : Hp} (t : TK H H') {vs : List V} {ks : List (Kd Nat)} (h : Paired (TxAt H) vs ks) : Paired (TxAt H') vs ks := Paired.mapP h fun _ _ => TxAt.mono t
theorem Paired.snoc' {α β : Type} {R : α → β → Prop} {x : α} {y : β} (hv : R x y) : ∀ {a : List α} {b : List β}, Paired R a b → Paired R (a ++ [x]) (b ++ [y])
  | _, _, .nil => .cons hv .nil
  | _, _, .cons a r => .cons a (Paired.snoc' hv r)
theorem txs_sorted {H : Hp} : ∀ {ys : List V} {ks : List (Kd Nat)}, Paired (TxAt H) ys ks → ys.Pairwise (fun a b => ltX (kf H b) (kf H a) = false) → ks.Pairwise fun a b => leK a b = true
  | _, _, .nil, _ => .nil
  | _, _, .cons (l₁ := ys) (l₂ := ks) a r, h => by
    obtain ⟨h1, h2⟩ := List.pairwise_cons.mp h
    refine List.pairwise_cons.mpr ⟨fun k hk => ?_, txs_sorted r h2⟩
    obtain ⟨i, hi⟩ := List.getElem?_of_mem hk
    have hl := Paired.length r
    have hil := (List.getElem?_eq_some_iff.mp hi).1
    have hiy : i < ys.length := by omega
    obtain ⟨k', hk', hx⟩ := Paired.at' (i := i) (x := ys[i]'hiy) r (List.getElem?_eq_getElem hiy)
    rw [hi] at hk'
    cases hk'
    have := h1 _ (List.getElem_mem hiy)
    rw [kf_tx a, kf_tx hx] at this
    exact decide_eq_true (ltX_no.mp this)
def rowO (ns : List Nat) (j : Nat) : List (Kd Nat) := (List.range j).flatMap fun j => (lwS ns (1 + j)).mergeSort leK
theorem rowO_succ (ns : List Nat) (j : Nat) : rowO ns (j + 1) = rowO ns j ++ (lwS ns (1 + j)).mergeSort leK := by
  unfold rowO
  rw [List.range_succ, List.flatMap_append]
  simp
def spLO : SpG := fun vs H Q => ∃ (ns : List Nat) (m : Nat), vs = [.str (tx ns), .int (m : Nat)] ∧ ns.Nodup ∧ (∀ c ∈ ns, Az c) ∧ ns.length ≤ 3 ∧ 1 ≤ m ∧ m ≤ 3 ∧ ∀ (a : Addr) (us : List V) (H' : Hp), Same H H' → H' a = some (.lst us) → H a = none → KsAt H' us (outL ns m) → Q (.ref a) H'
section
variable {P : Program} {w : World} {K : PySem.W.Frag} {mg : Str → Option Value} {base : Heap} {C : Addr}
theorem c_ordered (T : Txt w K mg C) : GCal P w K mg base 21 "_law_ordered" spLO := by
  have C_small := c_small (P := P) (base := base) T 20
  have C_text := c_text (P := P) (base := base) T 20
  refine cal_of T.dL_ordered scL_ordered (fun vs H Q ⟨_, _, e, _⟩ => by rw [e]; rfl) fun f cdv A outer s H vs Q hr ⟨ns, m, e0, hnd, haz, hl3, hm1, hm3, q⟩ => ?_
  subst e0
  refine ⟨_, (pss_cons (ps_set (i := 2) scL_ordered.nd rfl (by first | exact Or.inl rfl | exact Or.inr rfl) (pe_lst pa_nil))
    (pss_cons (ps_for PassesOwn.never rfl (pi_range2 rfl T.m_range (pa_cons pe_int (pa_cons (pe_op op_add (pv 1) pe_int) pa_nil))) (pg_name (i := 3) scL_ordered.nd rfl (by first | exact Or.inl rfl | exact Or.inr rfl))
      (pss_cons (ps_set (i := 4) scL_ordered.nd rfl (by first | exact Or.inl rfl | exact Or.inr rfl) (pe_callB cr_sortedTP rfl T.m_sorted (by decide +kernel) (pa_cons (pe_lc (own := [("_law_thing", 5)]) (g := gName 5) (tt := tYes) rfl scL_ordered.nd (pi_list (pe_g C_small hr (by omega) rfl (pa_cons (pv 0) (pa_cons (pv 3) pa_nil)))) (blkOk_by (own := [("_law_thing", 5)]) (N := ["_law_choice_here", "_law_many", "_law_found", "_law_size_here", "_law_pairs", "_law_thing", "_law_pair"]) (sc := defScope sL_ordered) (by decide +kernel)) (fun _ _ _ _ _ => (pg_name (i := 5) scL_ordered.nd rfl (by first | exact Or.inl rfl | exact Or.inr rfl))) (fun _ _ _ _ _ => pts_nil) (fun _ _ _ _ _ => (pe_tup (pa_cons (pe_g C_text hr (by omega) rfl (pa_cons (pv 5) pa_nil)) (pa_cons (pv 5) pa_nil))))) pa_nil)))
      (pss_one (ps_expr (pe_bm PySem.F.plainAttrs_list PySem.F.slot_list_extend PySem.F.type_list_extend mt_extend (pv 2) (pa_cons (pe_lc (te := tOp (rIxT K) (tVar 6) _) (own := [("_law_pair", 6)]) (g := gName 6) (tt := tYes) rfl scL_ordered.nd (pi_list (pv 4)) (blkOk_by (own := [("_law_pair", 6)]) (N := ["_law_choice_here", "_law_many", "_law_found", "_law_size_here", "_law_pairs", "_law_thing", "_law_pair"]) (sc := defScope sL_ordered) (by decide +kernel)) (fun _ _ _ _ _ => (pg_name (i := 6) scL_ordered.nd rfl (by first | exact Or.inl rfl | exact Or.inr rfl))) (fun _ _ _ _ _ => pts_nil) (fun _ _ _ _ _ => (pe_ix ix_tup (pv 6) pe_int (fun _ _ => rfl)))) pa_nil))))))
    (pss_one (ps_ret (pv 2))))), ?_⟩
  have zl : sizeLine = 16777216 := sizeLine_eq
  refine ⟨Nat.zero_le _, fun fd nfd => ?_⟩
  have S8 := same_new nfd (.lst [])
  refine ⟨_, rfl, _, _, rfl, rfl, _, _, rfl, ⟨by decide, by decide, by omega, by omega⟩, ?_⟩
  rw [show (((m : Nat) : Int) + 1 - 1).toNat = m by omega]
  refine for_range (lo := 1) (n := m) (fun j σ H9 => ∃ x3 x4 : Option V, σ = [some (.str (tx ns)), some (.int (m : Nat)), some (.ref fd), x3, x4, none, none] ∧ Same H H9 ∧ ∃ vf, H9 fd = some (.lst vf) ∧ KsAt H9 vf (rowO ns j))
    ⟨_, _, rfl, S8, [], upd_same, .nil⟩ ?_ ?_
  · rintro j σ H9 hj ⟨y3, y4, rfl, S9, vf, hfd, hkf⟩
    have sA := lwS_small hl3 (n := 1 + j) (by omega) (by omega)
    have hfl : vf.length ≤ j * 216 := by
      rw [hkf.len]
      refine Nat.le_trans (flat_len (c := 216) fun x hx => ?_) (by rw [List.length_range]; exact Nat.le_refl _)
      have hx := List.mem_range.mp hx
      rw [List.length_mergeSort]
      exact (lwS_small hl3 (n := 1 + x) (by omega) (by omega)).1
    refine ⟨_, rfl, _, rfl, ns, 1 + j, (by show [V.str (tx ns), V.int ((1 : Int) + ((j : Nat) : Int))] = _; rw [show (1 : Int) + ((j : Nat) : Int) = ((1 + j : Nat) : Int) by omega]), hl3, by omega, by omega, by omega, fun aA usA H10 S10 haA naA hkA => ⟨aA, rfl, ⟨_, SqL.of haA⟩, fun D nD => ?_⟩⟩
    have lA := hkA.len
    refine lc_it (walk_list (xs := usA)) (fun i H5 => Same H10 H5 ∧ ∃ acc, H5 D = some (.lst acc) ∧ Paired (TxAt H5) acc ((lwS ns (1 + j)).take i)) ⟨same_new nD _, [], upd_same, by rw [List.take_zero]; exact .nil⟩ (fun i H5 _ ⟨S5, _⟩ => SqL.of (S5 _ _ haA)) ?_ ?_
    · rintro i x H5 H6 hi ⟨S5, acc, hD5, hta⟩ ⟨rfl, hx⟩
      obtain ⟨k, hk, hv⟩ := KsAt.get' hkA hx
      have hks := (sA.2 k (mem_of_get hk)).1
      have hko := k.ops_size
      obtain ⟨b, rfl⟩ : ∃ b, x = .ref b := by cases hv <;> exact ⟨_, rfl⟩
      refine ⟨rfl, ?_⟩
      refine ⟨_, rfl, _, k, rfl, hv.mono (Same.tk S5), by omega, by omega, fun H7 S7 => ⟨_, rfl, by show 2 ≤ sizeLine; decide, fun p np => ?_⟩⟩
      have S := same_new np (.tup [.str (kt k), .ref b])
      have hD7 := (S7.trans S) _ _ hD5
      have tk := (upto_upd (l := [D]) (H := upd H7 p (.tup [.str (kt k), .ref b])) (List.mem_singleton.mpr rfl) (.lst (acc ++ [V.ref p]))).tk (noTup1 hD7 (fun xs q => nomatch q))
      have hal := Paired.length hta
      rw [List.length_take] at hal
      have h216 := sA.1
      refine ⟨acc, hD7, by omega, same_over nD ((S5.trans S7).trans S), _, upd_same, ?_⟩
      rw [take_succ' hk]
      exact Paired.snoc' ⟨p, b, rfl, tk _ _ upd_same, (hv.mono (Same.tk ((S5.trans S7).trans S))).mono tk⟩ (TxsAt.mono ((Same.tk (S7.trans S)).trans tk) hta)
    rintro H5 ⟨S5, acc, hD5, hta⟩
    rw [lA, List.take_length] at hta
    have hAz : ∀ k ∈ lwS ns (1 + j), k.All Az := fun k hk => (sA.2 k hk).2.imp haz
    refine ⟨D, acc, kf H5, rfl, SqL.of hD5, fun x hx => ?_, fun x hx y hy e => ?_, fun ys p hs hp np => ?_⟩
    · obtain ⟨i, hi⟩ := List.getElem?_of_mem hx
      obtain ⟨k, _, h⟩ := Paired.at' hta hi
      rw [kf_tx h]
      obtain ⟨t, b, e, ht, _⟩ := h
      exact ⟨t, b, e, ht⟩
    · obtain ⟨i, hi⟩ := List.getElem?_of_mem hx
      obtain ⟨i', hi'⟩ := List.getElem?_of_mem hy
      obtain ⟨k, hk, h⟩ := Paired.at' hta hi
      obtain ⟨k', hk', h'⟩ := Paired.at' hta hi'
      rw [kf_tx h, kf_tx h'] at e
      have ek : k = k' := kt_inj (hAz k (mem_of_get hk)) (hAz k' (mem_of_get hk')) e
      subst ek
      obtain ⟨l1, e1⟩ := List.getElem?_eq_some_iff.mp hk
      obtain ⟨l2, e2⟩ := List.getElem?_eq_some_iff.mp hk'
      have : i = i' := (List.getElem_inj (lwS_nodup hnd (1 + j))).mp (e1.trans e2.symm)
      subst this
      rw [hi] at hi'
      exact Option.some.inj hi'
    obtain ⟨ks', hpk, hpy⟩ := Paired.permL hp hta
    have hso : ks'.Pairwise fun a b => leK a b = true := txs_sorted hpy hs
    have ems : (lwS ns (1 + j)).mergeSort leK = ks' := sortK_eq hAz hpk.symm hso
    have Sp := same_new np (.lst ys)
    have SH := ((S10.trans S5).trans Sp)
    have hfd6 := SH _ _ hfd
    have hty := TxsAt.mono (Same.tk Sp) hpy
    have hyl : ys.length = ks'.length := Paired.length hpy
    have hkl : ks'.length ≤ 216 := by rw [hpk.length_eq]; exact sA.1
    refine ⟨_, rfl, .inl ⟨rfl, _, SqL.of hfd6⟩, _, rfl, p, rfl, ⟨_, SqL.of upd_same⟩, fun D2 nD2 => ?_⟩
    refine lc_it (walk_list (xs := ys)) (fun i H7 => Same (upd H5 p (.lst ys)) H7 ∧ ∃ acc, H7 D2 = some (.lst acc) ∧ KsAt H7 acc (ks'.take i)) ⟨same_new nD2 _, [], upd_same, by rw [List.take_zero]; exact .nil⟩ (fun i H7 _ ⟨S7, _⟩ => SqL.of (S7 _ _ upd_same)) ?_ ?_
    · rintro i x H7 H8 hi ⟨S7, acc2, hD7, hk7⟩ ⟨rfl, hx⟩
      obtain ⟨k, hk, t, b, rfl, ht, hv⟩ := Paired.at' hty hx
      refine ⟨rfl, ?_⟩
      have tk := (upto_upd (l := [D2]) (H := H8) (List.mem_singleton.mpr rfl) (.lst (acc2 ++ [V.ref b]))).tk (noTup1 hD7 (fun xs q => nomatch q))
      have hal := hk7.len
      rw [List.length_take] at hal
      refine ⟨_, rfl, _, _, _, _, rfl, rfl, SqT.of (S7 _ _ ht), rfl, acc2, hD7, by omega, same_over nD2 S7, _, upd_same, ?_⟩
      rw [take_succ' hk]
      exact (hk7.mono tk).snoc ((hv.mono (Same.tk S7)).mono tk)
    · rintro H7 ⟨S7, acc2, hD7, hk7⟩
      rw [hyl, List.take_length] at hk7
      have hfd7 := S7 _ _ hfd6
      have hal := hk7.len
      have tk := (upto_upd (l := [fd]) (H := H7) (List.mem_singleton.mpr rfl) (.lst (vf ++ acc2))).tk (noTup1 hfd7 (fun xs q => nomatch q))
      refine ⟨fd, D2, vf, acc2, rfl, rfl, hfd7, hD7, by omega, ?_⟩
      refine ⟨_, _, rfl, same_over nfd ((S9.trans SH).trans S7), _, upd_same, ?_⟩
      rw [rowO_succ, ems]
      exact ((hkf.mono (Same.tk (SH.trans S7))).mono tk).append (hk7.mono tk)
  · rintro σ H9 ⟨y3, y4, rfl, S9, vf, hfd, hkf⟩
    exact ⟨_, rfl, q fd vf H9 S9 hfd nfd hkf⟩
end
end L2.G
set_option Elab.async false
set_option linter.all false
set_option maxRecDepth 100000
set_option maxHeartbeats 8000000
/-! _law_choice. -/
namespace L2.G
open PySem PySem.Spec PyProof.Rows WW
open PySem.Froz (sing)
theorem upto_over {l : List Addr} {H H' : Hp} {f : Addr} {o : HO} (hf : H f = none) (u : Upto l H H') : Upto l H (upd H' f o) := fun b ob hn e => by
  rw [upd_ne (ne_of_none e hf)]
  exact u b ob hn e
/-- a sorted part of names -/
structure Part (ns cs : List Nat) : Prop where
  pw : cs.Pairwise (· < ·)
  sub : ∀ c ∈ cs, c ∈ ns
theorem Part.cut {ns cs : List Nat} (h : Part ns cs) (k : Nat) : Part ns (cs.eraseIdx k) :=
  ⟨h.pw.sublist (List.eraseIdx_sublist ..), fun c hc => h.sub c ((List.eraseIdx_sublist cs k).subset hc)⟩
theorem erase_map {α β : Type} (f : α → β) : ∀ (l : List α) (k : Nat), (l.map f).eraseIdx k = (l.eraseIdx k).map f
  | [], _ => rfl
  | _ :: _, 0 => rfl
  | x :: l, k + 1 => by
    show f x :: (l.map f).eraseIdx k = f x :: (l.eraseIdx k).map f
    rw [erase_map f l k]
/-- a perm of signs that is sorted: strictly, where they are unlike -/
theorem chs_of {ys : List Str} {ns : List Nat} (hp : ys.Perm (ns.map ch)) (hs : sortedS ys = true) (hn : ns.Nodup) : ∃ cs : List Nat, ys = cs.map ch ∧ cs.Pairwise (· < ·) ∧ cs.Perm ns := by
  have hd : ∀ y ∈ ys, ∃ c, y = ch c := fun y hy => by
    obtain ⟨c, _, e⟩ := List.mem_map.mp (hp.mem_iff.mp hy)
    exact ⟨c, e.symm⟩
  have e : ys = (ys.map fun y => y.cps.toList.headD 0).map ch := by
    clear hp hs
    induction ys with
    | nil => rfl
    | cons y ys ih =>
      obtain ⟨c, rfl⟩ := hd y (List.mem_cons_self ..)
      rw [List.map_cons, List.map_cons, ← ih fun z hz => hd z (List.mem_cons_of_mem _ hz)]
      rfl
  have hp2 := hp.map fun y : Str => y.cps.toList.headD 0
  rw [List.map_map] at hp2
  have hid : ns.map ((fun y : Str => y.cps.toList.headD 0) ∘ ch) = ns := by
    conv => rhs; rw [← List.map_id ns]
    rfl
  rw [hid] at hp2
  refine ⟨_, e, ?_, hp2⟩
  have hnd := hp2.nodup_iff.mpr hn
  have hpw := pw_of_sortedS hs
  generalize (ys.map fun y => y.cps.toList.headD 0) = cs at e hnd
  rw [e] at hpw
  have h2 : cs.Pairwise (· ≤ ·) := (List.pairwise_map.mp hpw).imp ch_le_iff
  exact (List.pairwise_and_iff.mpr ⟨h2, hnd⟩).imp fun h => by omega
theorem chs_append {cs : List Nat} {c : Nat} : (cs.map ch).map V.str ++ [V.str (ch c)] = ((cs ++ [c]).map ch).map V.str := by simp
theorem while_by {c : TT} {tb : TS} {D : Ends} {σ : St} {H : Hp} (Post : St → Hp → Prop) (hx : ∀ σ H, Post σ H → D.nx σ H) (go : (∀ σ H, Post σ H → D.nx σ H) → tWhile c tb D σ H) : tWhile c tb D σ H := go hx
theorem abc_nodup : (("abcdefghijklmnopqrstuvwxyz" : Str).cps.toList).Nodup := by decide +kernel
theorem join_tx : ∀ cs : List Nat, cs.length ≤ 3 → Txt.join ("" : Str) (cs.map ch) = tx cs
  | [], _ => rfl
  | [c], _ => rfl
  | [c, d], _ => rfl
  | [c, d, e], _ => rfl
  | _ :: _ :: _ :: _ :: _, h => by simp at h
theorem Part.chs {ns cs : List Nat} (h : Part ns cs) (hN : Names ns) (h1 : 1 ≤ cs.length) (h3 : cs.length ≤ 3) : Chs cs ∧ (cs.filter fun c => !decide (c ∈ ns)).length ≤ 1 := by
  refine ⟨⟨h.pw, fun c hc => hN.az c (h.sub c hc), h1, h3⟩, ?_⟩
  rw [List.filter_eq_nil_iff.mpr fun c hc => by simp [h.sub c hc]]
  exact Nat.zero_le _
def spChoice : SpG := fun vs H Q => ∃ (a : Addr) (ns : List Nat) (b : Nat), vs = [.ref a, .str (tx ns)] ∧ Names ns ∧ SprAt H a (b + 30) ∧
  ∀ (cs : List Nat) (H' : Hp), Chs cs → (cs.filter fun c => !decide (c ∈ ns)).length ≤ 1 → Upto [a] H H' → SprAt H' a b → Q (.str (tx cs)) H'
section
variable {P : Program} {w : World} {K : PySem.W.Frag} {mg : Str → Option Value} {base : Heap} {C : Addr}
theorem c_choice (T : Txt w K mg C) : GCal P w K mg base 2 "_law_choice" spChoice := by
  have C_sip := c_sip (P := P) (base := base) T
  refine cal_of T.dL_choice scL_choice (fun vs H Q ⟨_, _, _, e, _⟩ => by rw [e]; rfl) fun f cdv A outer s H vs Q hr ⟨a, ns, b, e0, hN, hs, q⟩ => ?_
  subst e0
  refine ⟨_, (pss_cons (ps_set (i := 2) scL_choice.nd rfl (by first | exact Or.inl rfl | exact Or.inr rfl) (pe_callB (cr_sortedTxt rfl) rfl T.m_sorted (by decide +kernel) (pa_cons (pv 1) pa_nil)))
    (pss_cons (ps_while PassesOwn.never (pt_cmpR op_gt (pe_callB call_len_seq rfl T.m_len (by decide +kernel) (pa_cons (pv 2) pa_nil)) pe_int (nomark _))
      (pss_one (ps_expr (pe_bm PySem.F.plainAttrs_list PySem.F.slot_list_pop PySem.F.type_list_pop mt_popAt (pv 2) (pa_cons (pe_g C_sip hr (by omega) rfl (pa_cons (pv 0) (pa_cons (pe_callB call_len_seq rfl T.m_len (by decide +kernel) (pa_cons (pv 2) pa_nil)) pa_nil))) pa_nil)))))
    (pss_cons (ps_while PassesOwn.never (PW.pt (pw_and (pt_cmpR op_gt (pe_callB call_len_seq rfl T.m_len (by decide +kernel) (pa_cons (pv 2) pa_nil)) pe_int (nomark _)) (pw_and1 (pt_cmpR op_eq (pe_g C_sip hr (by omega) rfl (pa_cons (pv 0) (pa_cons pe_int pa_nil))) pe_int (nomark _)))))
      (pss_one (ps_expr (pe_bm PySem.F.plainAttrs_list PySem.F.slot_list_pop PySem.F.type_list_pop mt_popAt (pv 2) (pa_cons (pe_g C_sip hr (by omega) rfl (pa_cons (pv 0) (pa_cons (pe_callB call_len_seq rfl T.m_len (by decide +kernel) (pa_cons (pv 2) pa_nil)) pa_nil))) pa_nil)))))
    (pss_cons (ps_setLc (i := 3) (own := [("_law_letter", 4)]) (g := gName 4) rfl scL_choice.nd rfl rfl (sw_true rfl rfl rfl (by decide +kernel)) (pi_str pe_str) (blkOk_by (own := [("_law_letter", 4)]) (N := ["_law_spring_here", "_law_names", "_law_found", "_law_others", "_law_letter"]) (sc := defScope sL_choice) (by decide +kernel)) (fun _ _ _ _ _ => (pg_name (i := 4) scL_choice.nd rfl (by first | exact Or.inl rfl | exact Or.inr rfl))) (fun _ _ _ _ _ => (pts_one (pt_cmpR op_notIn_sign (pv 4) (pv 1) (by with_unfolding_all rfl)))) (fun _ _ _ _ _ => (pv 4)))
    (pss_cons (ps_if (PW.pt (pw_and (pt_cmpR op_lt (pe_callB call_len_seq rfl T.m_len (by decide +kernel) (pa_cons (pv 2) pa_nil)) pe_int (nomark _)) (pw_and1 (pt_cmpR op_eq (pe_g C_sip hr (by omega) rfl (pa_cons (pv 0) (pa_cons pe_int pa_nil))) pe_int (nomark _)))))
      (pss_one (ps_set (i := 2) scL_choice.nd rfl (by first | exact Or.inl rfl | exact Or.inr rfl) (pe_callB cr_sortedS rfl T.m_sorted (by decide +kernel) (pa_cons (pe_op op_cat (pv 2) (pe_lst (pa_cons (pe_ix ix_list (pv 3) (pe_g C_sip hr (by omega) rfl (pa_cons (pv 0) (pa_cons (pe_callB call_len_seq rfl T.m_len (by decide +kernel) (pa_cons (pv 3) pa_nil)) pa_nil))) (fun _ _ => rfl)) pa_nil))) pa_nil))))
      pss_nil)
    (pss_one (ps_ret (pe_bm PySem.F.plainAttrs_str PySem.F.slot_str_join PySem.F.type_str_join mt_join pe_str (pa_cons (pv 2) pa_nil))))))))), ?_⟩
  have zl : sizeLine = 16777216 := sizeLine_eq
  have hne := hN.ne
  have hle := hN.le
  have hsz : (tx ns).cps.size = ns.length := by simp
  refine ⟨_, rfl, _, rfl, by rw [hsz]; omega, fun ys fo hp hso nfo => ?_⟩
  obtain ⟨cs, rfl, hpw, hpc⟩ := chs_of hp hso hN.nd
  have S1 := same_new nfo (.lst ((cs.map ch).map V.str))
  have haf : fo ≠ a := fun e => by
    obtain ⟨_, _, _, e2, _⟩ := hs
    rw [← e, nfo] at e2; cases e2
  have hcl : cs.length = ns.length := hpc.length_eq
  have hpos : 1 ≤ ns.length := List.length_pos_iff.mpr hne
  -- the first while
  refine ⟨fun m σ H1 => ∃ cs : List Nat, σ = [some (.ref a), some (.str (tx ns)), some (.ref fo), none, none] ∧ cs.length = m ∧ H1 fo = some (.lst ((cs.map ch).map V.str)) ∧ Part ns cs ∧ 1 ≤ cs.length ∧ Upto [a] H H1 ∧ SprAt H1 a (b + 20 + cs.length),
    ⟨_, cs, rfl, rfl, upd_same, ⟨hpw, fun c hc => hpc.mem_iff.mp hc⟩, by omega, Upto.of_same S1, (hs.same S1).le (by omega)⟩, ?_⟩
  rintro m σ H1 ⟨cs, rfl, rfl, hf, hP, hc1, U1, s1⟩
  have hfa : fo ∉ [a] := by simpa using haf
  have hlm : ∀ l : List Nat, ((l.map ch).map V.str).length = l.length := fun l => by rw [List.length_map, List.length_map]
  have hget : ∀ (l : List Nat) (k : Nat) (h : k < l.length), ((l.map ch).map V.str)[k]? = some (V.str (ch l[k])) := fun l k h => by simp [h]
  have hcut : ∀ (l : List Nat) (k : Nat), ((l.map ch).map V.str).eraseIdx k = ((l.eraseIdx k).map ch).map V.str := fun l k => by rw [erase_map, erase_map]
  have hlen7 : cs.length ≤ 26 := by
    have h1 := hP.pw
    have h2 : cs.Nodup := h1.imp fun h => Nat.ne_of_lt h
    have := nodup_len cs ns h2 hP.sub
    omega
  refine ⟨_, rfl, _, _, rfl, .inl (SqL.of hf), _, _, rfl, rfl, _, rfl, ite2 (fun c => ?_) (fun c => ?_)⟩
  · have c := of_decide_eq_true c
    rw [hlm] at c
    refine ⟨fun σ H2 => ∃ m', m' < cs.length ∧ ∃ cs' : List Nat, σ = [some (.ref a), some (.str (tx ns)), some (.ref fo), none, none] ∧ cs'.length = m' ∧ H2 fo = some (.lst ((cs'.map ch).map V.str)) ∧ Part ns cs' ∧ 1 ≤ cs'.length ∧ Upto [a] H H2 ∧ SprAt H2 a (b + 20 + cs'.length), fun σ' H' h => h, ?_⟩
    refine ⟨_, rfl, .inl ⟨rfl, _, SqL.of hf⟩, _, rfl, _, rfl, _, _, rfl, .inl (SqL.of hf), a, _, b + 20 + (cs.length - 1), rfl, by rw [hlm]; omega, by rw [hlm]; omega, s1.le (by omega), fun r H2 r0 r1 U2 s2 => ?_⟩
    rw [hlm] at r1
    obtain ⟨k, rfl⟩ : ∃ k : Nat, r = ((k : Nat) : Int) := ⟨r.toNat, by omega⟩
    have hk : k < cs.length := by omega
    have hf2 := U2 _ _ hfa hf
    refine ⟨fo, _, _, k, _, rfl, rfl, hf2, by omega, by omega, (ixN_seq (ixN_at (by rw [hlm]; omega))).1, hget cs k hk, ?_⟩
    have hel : (cs.eraseIdx k).length = cs.length - 1 := List.length_eraseIdx_of_lt hk
    refine ⟨_, ?_, cs.eraseIdx k, rfl, rfl, by rw [upd_same, hcut], hP.cut k, by omega, upto_over nfo (U1.trans U2), ?_⟩
    · omega
    · rw [hel]
      obtain ⟨x, y, z, e, h0, h1⟩ := s2
      exact ⟨x, y, z, by rw [upd_ne haf.symm]; exact e, h0, h1⟩
  have c3 : cs.length ≤ 3 := by
    have := of_decide_eq_false (Bool.eq_false_iff.mpr c)
    rw [hlm] at this
    omega
  -- the second while
  refine while_by (fun σ H2 => ∃ cs : List Nat, σ = [some (.ref a), some (.str (tx ns)), some (.ref fo), none, none] ∧ H2 fo = some (.lst ((cs.map ch).map V.str)) ∧ Part ns cs ∧ 1 ≤ cs.length ∧ cs.length ≤ 3 ∧ Upto [a] H H2 ∧ SprAt H2 a (b + 5)) ?_ (fun ex => ⟨fun m σ H2 => ∃ cs : List Nat, σ = [some (.ref a), some (.str (tx ns)), some (.ref fo), none, none] ∧ cs.length = m ∧ H2 fo = some (.lst ((cs.map ch).map V.str)) ∧ Part ns cs ∧ 1 ≤ cs.length ∧ cs.length ≤ 3 ∧ Upto [a] H H2 ∧ SprAt H2 a (b + 5 + 2 * cs.length),
    ⟨_, cs, rfl, rfl, hf, hP, hc1, c3, U1, s1.le (by omega)⟩, ?_⟩)
  rotate_left
  · clear hf hP hc1 U1 s1 hlen7 c c3
    rintro m σ H2 ⟨cs, rfl, rfl, hf, hP, hc1, c3, U1, s1⟩
    refine ⟨_, rfl, _, _, rfl, .inl (SqL.of hf), _, _, rfl, rfl, _, rfl, ite2 (fun c => ?_) (fun c => ex _ _ ⟨cs, rfl, hf, hP, hc1, c3, U1, s1.le (by omega)⟩)⟩
    have c := of_decide_eq_true c
    rw [hlm] at c
    refine ⟨_, rfl, a, 3, b + 5 + 2 * cs.length - 1, rfl, by decide, by decide, s1.le (by omega), fun r H3 r0 r1 U3 s3 => ⟨rfl, _, rfl, ite2 (fun c2 => ?_) (fun c2 => ex _ _ ⟨cs, rfl, U3 _ _ hfa hf, hP, hc1, c3, U1.trans U3, s3.le (by omega)⟩)⟩⟩
    have hf3 := U3 _ _ hfa hf
    refine ⟨fun σ H2 => ∃ m', m' < cs.length ∧ ∃ cs' : List Nat, σ = [some (.ref a), some (.str (tx ns)), some (.ref fo), none, none] ∧ cs'.length = m' ∧ H2 fo = some (.lst ((cs'.map ch).map V.str)) ∧ Part ns cs' ∧ 1 ≤ cs'.length ∧ cs'.length ≤ 3 ∧ Upto [a] H H2 ∧ SprAt H2 a (b + 5 + 2 * cs'.length), fun σ' H' h => h, ?_⟩
    refine ⟨_, rfl, .inl ⟨rfl, _, SqL.of hf3⟩, _, rfl, _, rfl, _, _, rfl, .inl (SqL.of hf3), a, _, b + 5 + 2 * (cs.length - 1), rfl, by rw [hlm]; omega, by rw [hlm]; omega, s3.le (by omega), fun r H4 r0 r1 U4 s4 => ?_⟩
    rw [hlm] at r1
    obtain ⟨k, rfl⟩ : ∃ k : Nat, r = ((k : Nat) : Int) := ⟨r.toNat, by omega⟩
    have hk : k < cs.length := by omega
    have hf4 := U4 _ _ hfa hf3
    refine ⟨fo, _, _, k, _, rfl, rfl, hf4, by omega, by omega, (ixN_seq (ixN_at (by rw [hlm]; omega))).1, hget cs k hk, ?_⟩
    have hel : (cs.eraseIdx k).length = cs.length - 1 := List.length_eraseIdx_of_lt hk
    refine ⟨_, ?_, cs.eraseIdx k, rfl, rfl, by rw [upd_same, hcut], hP.cut k, by omega, by omega, upto_over nfo ((U1.trans U3).trans U4), ?_⟩
    · omega
    · rw [hel]
      obtain ⟨x, y, z, e, h0, h1⟩ := s4
      exact ⟨x, y, z, by rw [upd_ne haf.symm]; exact e, h0, h1⟩
  clear hf hP hc1 U1 s1 hlen7 c c3
  rintro σ H2 ⟨cs, rfl, hf, hP, hc1, c3, U1, s1⟩
  -- the others
  have habc : ("abcdefghijklmnopqrstuvwxyz" : Str).cps.size = 26 := by decide +kernel
  refine ⟨_, rfl, fun D nD => ?_⟩
  refine lc_sieveG (item := fun i v => ∃ c, ("abcdefghijklmnopqrstuvwxyz" : Str).cps[i]? = some c ∧ v = .str ⟨#[c]⟩) walk_str (("abcdefghijklmnopqrstuvwxyz" : Str).cps.toList.map fun c => (V.str (ch c), !decide (c ∈ ns))) (by rw [List.length_map, Array.length_toList]) (by rw [habc]; omega) nD (fun H h => trivial) (fun x => rfl)
    (fun i x y bb H1 Q1 hx hy s1 h => ?_) (fun i x y H1 Q1 hx hy s1 h => ?_) (fun H3 S3 hD3 => ?_)
  · obtain ⟨c, hc, rfl⟩ := hx
    rw [List.getElem?_map, Array.getElem?_toList, hc] at hy
    cases hy
    exact ⟨_, rfl, _, rfl, c, _, rfl, rfl, _, rfl, h _ (Same.refl _)⟩
  · obtain ⟨c, hc, rfl⟩ := hx
    rw [List.getElem?_map, Array.getElem?_toList, hc] at hy
    have hy := Option.some.inj hy
    have e1 : V.str (ch c) = y := congrArg Prod.fst hy
    exact ⟨_, rfl, by rw [← e1] at h; exact h _ (Same.refl _)⟩
  have hos : H3 D = some (.lst (((("abcdefghijklmnopqrstuvwxyz" : Str).cps.toList.filter fun c => !decide (c ∈ ns)).map ch).map V.str)) := by
    rw [hD3]
    congr 2
    rw [List.filter_map, List.map_map, List.map_map]
    rfl
  generalize hoe : ("abcdefghijklmnopqrstuvwxyz" : Str).cps.toList.filter (fun c => !decide (c ∈ ns)) = os at hos
  have hosm : ∀ o ∈ os, Az o ∧ o ∉ ns := fun o ho => by
    rw [← hoe] at ho
    obtain ⟨h1, h2⟩ := List.mem_filter.mp ho
    exact ⟨mem_az h1, by simpa using h2⟩
  have hosl : 1 ≤ os.length ∧ os.length ≤ 26 := by
    constructor
    · rcases Nat.eq_zero_or_pos os.length with h | h
      · exfalso
        rw [← hoe] at h
        have hnil := List.eq_nil_of_length_eq_zero h
        have hall : ∀ c ∈ ("abcdefghijklmnopqrstuvwxyz" : Str).cps.toList, c ∈ ns := fun c hc => by
          have := List.filter_eq_nil_iff.mp hnil c hc
          simpa using this
        have := nodup_len _ ns abc_nodup hall
        rw [Array.length_toList, habc] at this
        omega
      · exact h
    · have := List.length_filter_le (fun c => !decide (c ∈ ns)) ("abcdefghijklmnopqrstuvwxyz" : Str).cps.toList
      have h26 : ("abcdefghijklmnopqrstuvwxyz" : Str).cps.toList.length = 26 := by rw [Array.length_toList]; exact habc
      rw [hoe, h26] at this
      exact this
  have hf3 := S3 _ _ hf
  have U3 : Upto [a] H H3 := U1.trans (Upto.of_same S3)
  have s3 := s1.same S3
  obtain ⟨hch, hflt⟩ := hP.chs hN hc1 c3
  have hbnd : ∀ cs : List Nat, cs.length ≤ 3 → ((cs.map ch).map (·.length)).sum + (cs.map ch).length * ("" : Str).length ≤ 16777216 := fun cs h => by
    match cs, h with
    | [], _ => decide
    | [c], _ => show 1 + 0 + 1 * 0 ≤ _; decide
    | [c, d], _ => show 1 + (1 + 0) + 2 * 0 ≤ _; decide
    | [c, d, e], _ => show 1 + (1 + (1 + 0)) + 3 * 0 ≤ _; decide
    | _ :: _ :: _ :: _ :: _, h => simp at h
  refine ⟨_, rfl, _, _, rfl, .inl (SqL.of hf3), _, _, rfl, rfl, _, rfl, ite2 (fun c => ?_) (fun c => ?_)⟩
  rotate_left
  · exact ⟨rfl, _, rfl, _, fo, cs.map ch, rfl, rfl, .inl (SqL.of hf3), hbnd cs c3, by rw [join_tx cs c3]; exact q cs H3 hch hflt U3 (s3.le (by omega))⟩
  have c := of_decide_eq_true c
  rw [hlm] at c
  refine ⟨_, rfl, a, 3, b + 4, rfl, by decide, by decide, s3.le (by omega), fun r H4 r0 r1 U4 s4 => ⟨rfl, _, rfl, ite2 (fun c2 => ?_) (fun c2 => ?_)⟩⟩
  rotate_left
  · exact ⟨rfl, _, rfl, _, fo, cs.map ch, rfl, rfl, .inl (SqL.of (U4 _ _ hfa hf3)), hbnd cs c3, by rw [join_tx cs c3]; exact q cs H4 hch hflt (U3.trans U4) (s4.le (by omega))⟩
  have hDa : D ∉ [a] := fun h => by
    obtain ⟨_, _, _, e, _⟩ := s1
    rw [← List.mem_singleton.mp h, nD] at e; cases e
  have hf4 := U4 _ _ hfa hf3
  have ho4 := U4 _ _ hDa hos
  refine ⟨_, rfl, _, rfl, _, rfl, _, rfl, _, _, rfl, .inl (SqL.of ho4), a, _, b, rfl, by rw [hlm]; omega, by rw [hlm]; omega, s4.le (by omega), fun r H5 r0 r1 U5 s5 => ?_⟩
  rw [hlm] at r1
  obtain ⟨k, rfl⟩ : ∃ k : Nat, r = ((k : Nat) : Int) := ⟨r.toNat, by omega⟩
  have hk : k < os.length := by omega
  have ho5 := U5 _ _ hDa ho4
  have hf5 := U5 _ _ hfa hf4
  refine ⟨_, _, _, _, rfl, rfl, SqL.of ho5, atI_nat (hget os k hk), by show 1 ≤ sizeLine; decide, fun p np => ?_⟩
  have S6 := same_new np (.lst [V.str (ch os[k])])
  refine ⟨_, _, _, _, rfl, rfl, S6 _ _ hf5, upd_same, by rw [hlm]; show cs.length + 1 ≤ _; omega, fun t nt => ?_⟩
  have S7 := same_new nt (.lst ((cs.map ch).map V.str ++ [V.str (ch os[k])]))
  have hok := hosm os[k] (List.getElem_mem hk)
  have hnd : (cs ++ [os[k]]).Nodup := by
    refine List.nodup_append.mpr ⟨hP.pw.imp fun h => Nat.ne_of_lt h, by simp, fun x hx y hy e => ?_⟩
    rw [List.mem_singleton.mp hy] at e
    exact hok.2 (e ▸ hP.sub x hx)
  refine ⟨t, (cs ++ [os[k]]).map ch, rfl, SqL.of (by rw [upd_same, chs_append]), by rw [List.length_map, List.length_append]; show cs.length + 1 < 64; omega, fun ys p2 hp2 hs2 np2 => ?_⟩
  obtain ⟨cs2, rfl, hpw2, hpc2⟩ := chs_of hp2 hs2 hnd
  have hl2 : cs2.length = cs.length + 1 := by rw [hpc2.length_eq, List.length_append]; rfl
  have hch2 : Chs cs2 := ⟨hpw2, fun c hc => by
    rcases List.mem_append.mp (hpc2.mem_iff.mp hc) with h | h
    · exact hN.az c (hP.sub c h)
    · rw [List.mem_singleton.mp h]; exact hok.1, by omega, by omega⟩
  have hfl2 : (cs2.filter fun c => !decide (c ∈ ns)).length ≤ 1 := by
    rw [(hpc2.filter _).length_eq, List.filter_append, List.filter_eq_nil_iff.mpr fun c hc => by simp [hP.sub c hc]]
    rw [List.nil_append]
    exact List.length_filter_le _ [os[k]]
  have S8 := same_new np2 (.lst ((cs2.map ch).map V.str))
  have S68 := (S6.trans S7).trans S8
  exact ⟨rfl, _, rfl, _, p2, cs2.map ch, rfl, rfl, .inl (SqL.of upd_same), hbnd cs2 (by omega), by rw [join_tx cs2 (by omega)]; exact q cs2 _ hch2 hfl2 (((U3.trans U4).trans U5).trans (Upto.of_same S68)) (s5.same S68)⟩
end
end L2.G
set_option Elab.async false
set_option linter.all false
set_option maxRecDepth 100000
set_option maxHeartbeats 8000000
/-! _law_spring. -/
namespace L2.G
open PySem PySem.Spec PyProof.Rows WW
def Script (xs : List Int) : Prop := xs.length ≤ 63 ∧ ∀ x ∈ xs, Builtin.Int.intBits x ≤ 1048576
def spSpring (K : PySem.W.Frag) : SpG := fun vs H Q => ∃ (l : Addr) (xs : List Int) (i : Nat), vs = [.ref l, .int (i : Nat)] ∧ SqL K H l (xs.map V.int) ∧ Script xs ∧ i ≤ 1 ∧ ∀ (a : Addr) (H' : Hp), Same H H' → H a = none → SprAt H' a 1000 → Q (.ref a) H'
section
variable {P : Program} {w : World} {K : PySem.W.Frag} {mg : Str → Option Value} {base : Heap} {C : Addr}
theorem c_spring (T : Txt w K mg C) : GCal P w K mg base 1 "_law_spring" (spSpring K) := by
  refine cal_of T.dL_spring scL_spring (fun vs H Q ⟨_, _, _, e, _⟩ => by rw [e]; rfl) fun f cdv A outer s H vs Q hr ⟨l, xs, i, e0, hl, hx, hi, q⟩ => ?_
  subst e0
  refine ⟨_, (pss_cons (ps_set (i := 2) scL_spring.nd rfl (by first | exact Or.inl rfl | exact Or.inr rfl) (pe_op op_add (pe_op op_add pe_int (pe_op op_mul pe_int (pe_callB call_len_seq rfl T.m_len (by decide +kernel) (pa_cons (pv 0) pa_nil)))) (pe_op op_mod (pe_callTy call_int1 rfl T.m_int (by decide +kernel) (pa_cons (pe_callB (cr_sum rfl) rfl T.m_sum (by decide +kernel) (pa_cons (pv 0) pa_nil)) pa_nil)) (pe_op op_add (pe_op op_pow pe_int pe_int) pe_int))))
    (pss_cons (ps_if (pt_cmpR op_lt (pv 1) (pe_callB call_len_seq rfl T.m_len (by decide +kernel) (pa_cons (pv 0) pa_nil)) (nomark _))
      (pss_one (ps_set (i := 2) scL_spring.nd rfl (by first | exact Or.inl rfl | exact Or.inr rfl) (pe_ix ix_seq (pv 0) (pv 1) (fun _ _ => rfl))))
      pss_nil)
    (pss_cons (ps_set (i := 3) scL_spring.nd rfl (by first | exact Or.inl rfl | exact Or.inr rfl) (pe_op op_mod (pe_callTy call_int1 rfl T.m_int (by decide +kernel) (pa_cons (pe_op op_add (pe_op op_add (pe_op op_powW (pv 2) pe_int) (pe_op op_mul pe_int (pv 2))) (pe_op op_mul pe_int (pv 1))) pa_nil)) (pe_op op_add (pe_op op_pow pe_int pe_int) pe_int)))
    (pss_one (ps_ret (pe_lst (pa_cons (pe_callB (call_max2 rfl) rfl T.m_max (by decide +kernel) (pa_cons pe_int (pa_cons (pe_op op_sub (pe_callB call_abs rfl T.m_abs (by decide +kernel) (pa_cons (pv 2) pa_nil)) (pe_op op_pow pe_int pe_int)) pa_nil))) (pa_cons (pv 3) (pa_cons pe_int pa_nil))))))))), ?_⟩
  have zl : sizeLine = 16777216 := sizeLine_eq
  obtain ⟨hx1, hx2⟩ := hx
  have fin : ∀ (n : Int) (x y : Int) (p : Addr), H p = none → Q (.ref p) (upd H p (.lst [.int x, .int y, .int 0])) := fun n x y p np => q p _ (same_new np _) np ⟨x, y, 0, upd_same, by decide, by decide⟩
  refine ⟨_, rfl, _, _, rfl, .inl hl, _, _, rfl, rfl, .inl ⟨by decide, by decide⟩, _, _, rfl, rfl, ?_⟩
  refine ⟨_, rfl, l, xs, rfl, hl, .inl ⟨_, rfl, ?_⟩⟩
  refine ⟨_, _, rfl, rfl, ⟨by decide, by decide, by decide⟩, _, _, rfl, rfl, _, _, rfl, rfl, (show (0 : Int) < 10 ^ Int.toNat 17 + 3 by decide), _, _, rfl, rfl, ?_⟩
  have hlm : (xs.map V.int).length = xs.length := List.length_map ..
  have hcb : Builtin.Int.intBits ((612589 : Int) + 15485863 * (((xs.map V.int).length : Nat) : Int) + xs.sum % (10 ^ Int.toNat 17 + 3)) ≤ 1048576 := by
    generalize hcell : ((612589 : Int) + 15485863 * (((xs.map V.int).length : Nat) : Int) + xs.sum % (10 ^ Int.toNat 17 + 3)) = cell
    have h1 := Int.emod_nonneg xs.sum (show (10 ^ Int.toNat 17 + 3 : Int) ≠ 0 by decide)
    have h2 := Int.emod_lt_of_pos xs.sum (show (0 : Int) < 10 ^ Int.toNat 17 + 3 by decide)
    have h3 : (10 ^ Int.toNat 17 + 3 : Int) = 100000000000000003 := by decide
    rw [h3] at h1 h2 hcell
    have h60 : (2 : Nat) ^ 60 = 1152921504606846976 := by decide
    have : cell.natAbs < 2 ^ 60 := by rw [h60, ← hcell, hlm]; omega
    have := bits_le this
    omega
  refine ⟨_, rfl, _, rfl, _, _, rfl, .inl hl, _, _, rfl, rfl, _, rfl, ite2 (fun c => ?_) (fun c => ?_)⟩
  · have c := of_decide_eq_true c
    rw [hlm] at c
    have hix : i < xs.length := by omega
    have hxb := hx2 _ (List.getElem_mem hix)
    refine ⟨_, rfl, _, rfl, .inl ⟨_, _, _, _, rfl, rfl, hl, atI_nat (show (xs.map V.int)[i]? = some (V.int xs[i]) by simp [hix]), ?_⟩⟩
    refine ⟨_, rfl, _, _, rfl, rfl, ⟨by decide, by show ((Builtin.Int.intBits xs[i] : Nat) : Int) * 2 ≤ 2 ^ 27; omega⟩, _, rfl, _, _, rfl, rfl, .inl ⟨by decide, by decide⟩, _, _, rfl, rfl, _, rfl, _, _, rfl, rfl, .inl ⟨by decide, by decide⟩, _, _, rfl, rfl, .inl ⟨_, rfl, ?_⟩⟩
    refine ⟨_, _, rfl, rfl, ⟨by decide, by decide, by decide⟩, _, _, rfl, rfl, _, _, rfl, rfl, (show (0 : Int) < 10 ^ Int.toNat 31 + 33 by decide), ?_⟩
    refine ⟨_, rfl, _, rfl, _, _, rfl, rfl, ⟨by decide, by decide, by decide⟩, _, _, rfl, rfl, _, _, rfl, _, rfl, by show 3 ≤ sizeLine; decide, fun p np => fin 0 _ _ p np⟩
  · refine ⟨_, rfl, _, _, rfl, rfl, ⟨by decide, by show ((Builtin.Int.intBits ((612589 : Int) + 15485863 * (((xs.map V.int).length : Nat) : Int) + xs.sum % (10 ^ Int.toNat 17 + 3)) : Nat) : Int) * 2 ≤ 2 ^ 27; omega⟩, _, rfl, _, _, rfl, rfl, .inl ⟨by decide, by decide⟩, _, _, rfl, rfl, _, rfl, _, _, rfl, rfl, .inl ⟨by decide, by decide⟩, _, _, rfl, rfl, .inl ⟨_, rfl, ?_⟩⟩
    refine ⟨_, _, rfl, rfl, ⟨by decide, by decide, by decide⟩, _, _, rfl, rfl, _, _, rfl, rfl, (show (0 : Int) < 10 ^ Int.toNat 31 + 33 by decide), ?_⟩
    refine ⟨_, rfl, _, rfl, _, _, rfl, rfl, ⟨by decide, by decide, by decide⟩, _, _, rfl, rfl, _, _, rfl, _, rfl, by show 3 ≤ sizeLine; decide, fun p np => fin 0 _ _ p np⟩
end
end L2.G
set_option Elab.async false
set_option linter.all false
set_option maxRecDepth 100000
set_option maxHeartbeats 8000000
/-! kinds_of by names; _law_told_right. -/
namespace L2.G
open PySem PySem.Spec PyProof.Rows WW
/-- kinds_of, its own def known -/
structure KNm (P : Program) (w : World) (K : PySem.W.Frag) (mg : Str → Option Value) (base : Heap) (k : Nat) (sp : SpG) : Prop where
  ex : ∃ (f : Addr) (fd : FuncData), FunD K "kinds_of" "kinds_of" (defArgs sP_kinds_of) (defBody sP_kinds_of) (defScope sP_kinds_of) [] [] f fd ∧ mg "kinds_of" = some (.ref f) ∧ FnG P w K mg base k f fd ["row", "signs", "most"] sp
theorem kn_binds {K : PySem.W.Frag} {f : Addr} {fd : FuncData} (F : FunD K "kinds_of" "kinds_of" (defArgs sP_kinds_of) (defBody sP_kinds_of) (defScope sP_kinds_of) [] [] f fd) (s : Shared) (a b c : Value) :
    BindsTo s fd ⟨[], (["most", "row", "signs"] : List Str).zip [a, b, c]⟩ ((["row", "signs", "most"] : List Str).zip [b, c, a]) := by
  obtain ⟨oc, od, dV, kV, doc, pm, an, cdv, ct, osl, rfl, lk, hcd, hD, hK⟩ := F.ex
  rcases hD with ⟨_, rfl⟩ | ⟨e, _⟩
  · exact BindsTo.of_eq rfl
  · exact absurd rfl e
def tKN (sp : SpG) (t : TA) : TE := fun σ H Q => t σ H fun zs H1 => ∃ a b c : V, zs = [a, b, c] ∧ sp [b, c, a] H1 Q
section
variable {X : Cx} {k j : Nat} {sp : SpG} {p pos : Pos} {kws : List Keyword} {tk : TA}
theorem pe_kn (c : KNm X.prog X.w X.K X.mg X.base k sp) (hr : RoomG j X.A) (hk : k ≤ j) (hg : Gl X "kinds_of") (hkw : PK X kws tk)
    (hall : (backToKw pos (keywordEach kws X.env)).all (·.1.isSome) = true := by rfl) (hks : (backToKw pos (keywordEach kws X.env)).filterMap (·.1) = (["most", "row", "signs"] : List Str) := by rfl)
    (hpl : ((backTo pos (starEach [] X.env)).any (·.1) || (backToKw pos (keywordEach kws X.env)).any (·.1.isNone)) = false := by rfl) : PE X (.Call (.Name "kinds_of" p) [] kws pos) (tKN sp tk) := by
  obtain ⟨f, fd, D, hm, F⟩ := c.ex
  refine ⟨fun pins s σ H Q I h => ?_⟩
  refine wpAny_Call_Name_kw (ld_glob I hg hm ?_ (by decide))
  refine PySem.W.callWith_KW0 (h₀ := X.base) I.ok.mod.kin D.kp hall (thn (hkw.run pos pins s σ H _ I h) fun ws s2 ⟨zs, H2, I2, rz, a, b, c, e, q2⟩ => ⟨I2.kIn, ?_⟩) hpl
  rw [hks]
  subst e
  cases rz with
  | cons r1 rz => cases rz with
    | cons r2 rz => cases rz with
      | cons r3 rz => cases rz with
        | nil =>
          refine wpAny_call (codeAny_mono ((F.mono hk).run X.A X.stack s2 H2 _ _ [b, c, a] Q hr I2.env0 (kn_binds D s2 _ _ _) (.cons r2 (.cons r3 (.cons r1 .nil))) q2) fun r s' hq => ?_)
          cases r with
          | error e => exact False.elim hq
          | ok fl =>
            cases fl with
            | ret u => exact I2.after hq
            | next => exact False.elim hq
            | brk => exact False.elim hq
            | cont => exact False.elim hq
end
def spTold : SpG := fun vs H Q => ∃ (l : Addr) (us : List V) (r : List (Kd Nat)) (cs : List Nat) (m : Nat) (d : Addr) (ds : List V), vs = [.ref l, .str (tx cs), .int (m : Nat), .ref d] ∧ H l = some (.lst us) ∧ KsAt H us r ∧ r ≠ [] ∧ (∀ z ∈ r, z.All Az) ∧ rsize r ≤ 17 ∧ Chs cs ∧ 1 ≤ m ∧ m ≤ 3 ∧
  H d = some (.lst ds) ∧ KsAt H ds ((outP cs m).filter (Lb r)) ∧ ∀ H', Same H H' → Q (.bl true) H'
section
variable {P : Program} {w : World} {K : PySem.W.Frag} {mg : Str → Option Value} {base : Heap} {C : Addr}
theorem kn_kinds_of (T : Txt w K mg C) : KNm P w K mg base 88 spKindsOf := by
  obtain ⟨f, fd, F, hm, b⟩ := T.kN
  refine ⟨f, fd, F, hm, ?_⟩
  obtain ⟨oc, od, dV, kV, doc, pm, an, cdv, ct, osl, rfl, lk, hcd, _, _⟩ := F.ex
  exact fn_ofG lk hcd scP_kinds_of len_kinds_of fun A outer s H vs Q hr hsp => b_kinds_of T f cdv A outer s H vs Q hr hsp
theorem ksAt_dp2 {H : Hp} {a b : Addr} {us us' : List V} {r : List (Kd Nat)} (h1 : H a = some (.lst us)) (h2 : KsAt H us r) (h3 : H b = some (.lst us')) (h4 : KsAt H us' r) (haz : ∀ k ∈ r, k.All Az) (hs : ∀ k ∈ r, k.size ≤ 63) {Q : V → Hp → Prop} (q : Q (.bl true) H) :
    rEqD K (.ref a) (.ref b) H Q := by
  refine ⟨_, _, KsAt.dp h1 h2, KsAt.dp h3 h4, kdats_shaped haz hs, kdats_shaped haz hs, ?_⟩
  rw [eqv_kdats, decide_eq_true rfl]
  exact q
theorem c_told_right (T : Txt w K mg C) : GCal P w K mg base 89 "_law_told_right" spTold := by
  have C_kinds_of := c_kinds_of (P := P) (base := base) T
  have N_kinds_of := kn_kinds_of (P := P) (base := base) T
  refine cal_of T.dL_told_right scL_told_right (fun vs H Q ⟨_, _, _, _, _, _, _, e, _⟩ => by rw [e]; rfl) fun f cdv A outer s H vs Q hr ⟨l, us, r, cs, m, d, ds, e0, hl, hks, hne, haz, hz, hc, hm1, hm3, hd, hkd, q⟩ => ?_
  subst e0
  refine ⟨_, (pss_cons (ps_set (i := 4) scL_told_right.nd rfl (by first | exact Or.inl rfl | exact Or.inr rfl) (pe_callTy call_list_of rfl T.m_list (by decide +kernel) (pa_cons (pv 0) pa_nil)))
    (pss_cons (ps_set (i := 5) scL_told_right.nd rfl (by first | exact Or.inl rfl | exact Or.inr rfl) (pe_g C_kinds_of hr (by omega) rfl (pa_cons (pv 4) (pa_cons (pv 1) (pa_cons (pv 2) pa_nil)))))
    (pss_cons (ps_if (PW.pt (pw_or (pt_not (pt_val (pe_callB RZ.call_isTy rfl T.m_isinstance (by decide +kernel) (pa_cons (pv 5) (pa_cons (pe_bltn (v := .ty "list") (u := .type "list") rfl T.m_list (by decide +kernel) rfl) pa_nil))))) (pw_or (pt_cmpR (op_neD hr.r.units) (pv 5) (pv 3) (nomark _)) (pw_or1 (pt_cmpR (op_neD hr.r.units) (pv 4) (pv 0) (nomark _))))))
      (pss_one (ps_ret pe_bl))
      pss_nil)
    (pss_cons (ps_expr (pe_bm PySem.F.plainAttrs_list PySem.F.slot_list_append PySem.F.type_list_append mt_append (pv 5) (pa_cons (pe_tup (pa_cons pe_str (pa_cons (pe_ix ix_seq (pv 1) pe_int (fun _ _ => rfl)) pa_nil))) pa_nil)))
    (pss_one (ps_ret (pe_cmpR (op_eqD hr.r.units) (pe_kn N_kinds_of hr (by omega) rfl (pk_cons (pv 2) (pk_cons (pv 4) (pk_cons (pv 1) pk_nil)))) (pv 3) (nomark _)))))))), ?_⟩
  have zl : sizeLine = 16777216 := sizeLine_eq
  obtain ⟨hol, hos⟩ := outP_small hc.2.2.2 hm1 hm3
  have hosf : ∀ k ∈ (outP cs m).filter (Lb r), k.All Az ∧ k.size ≤ 63 := fun k hk => by
    obtain ⟨h1, h2⟩ := hos k (List.mem_filter.mp hk).1
    exact ⟨h2.imp hc.2.1, by omega⟩
  have haf : ∀ k ∈ (outP cs m).filter (Lb r), k.All Az := fun k hk => (hosf k hk).1
  have hsf : ∀ k ∈ (outP cs m).filter (Lb r), k.size ≤ 63 := fun k hk => (hosf k hk).2
  have hsr : ∀ k ∈ r, k.size ≤ 63 := fun k hk => by have := size_le_rsize hk; omega
  refine ⟨_, rfl, l, us, rfl, .inl (SqL.of hl), fun p np => ?_⟩
  have S1 := same_new np (.lst us)
  refine ⟨_, rfl, _, rfl, _, rfl, p, us, r, cs, m, rfl, upd_same, hks.mono (Same.tk S1), hne, haz, hz, hc, hm1, hm3, fun a us2 H2 S2 ha han hk2 => ?_⟩
  have S12 := S1.trans S2
  have hp2 := S2 _ _ (upd_same (H := H) (a := p) (o := .lst us))
  have hl2 := S12 _ _ hl
  have hd2 := S12 _ _ hd
  have hks2 := hks.mono (Same.tk S12)
  have hkd2 := hkd.mono (Same.tk S12)
  refine ⟨_, rfl, _, _, rfl, .lst ha, _, rfl, iteF ?_⟩
  refine ⟨_, rfl, _, rfl, _, _, KsAt.dp ha hk2, KsAt.dp hd2 hkd2, kdats_shaped haf hsf, kdats_shaped haf hsf, _, rfl, ?_⟩
  rw [eqv_kdats, decide_eq_true rfl]
  refine iteF ?_
  refine ⟨_, rfl, _, rfl, _, _, KsAt.dp hp2 hks2, KsAt.dp hl2 hks2, kdats_shaped haz hsr, kdats_shaped haz hsr, _, rfl, ?_⟩
  rw [eqv_kdats, decide_eq_true rfl]
  refine iteF ?_
  obtain ⟨c0, cs0, hcs⟩ : ∃ c0 cs0, cs = c0 :: cs0 := by
    cases cs with
    | nil => exact absurd hc.2.2.1 (by decide)
    | cons a b => exact ⟨a, b, rfl⟩
  have hul2 := hk2.len
  have hfl := List.length_filter_le (Lb r) (outP cs m)
  have hcl := hc.2.2.2
  refine ⟨_, rfl, .inl ⟨rfl, _, SqL.of ha⟩, _, rfl, .inr (.inr ⟨tx cs, _, c0, rfl, rfl, by rw [tx_len]; omega, (show atI (tx cs).cps.toList ((0 : Nat) : Int) = some c0 from atI_nat (by rw [hcs]; rfl)), by show 2 ≤ sizeLine; decide, fun t nt => ?_⟩)⟩
  have S3 := same_new nt (.tup [.str "plain", .str (ch c0)])
  have ha3 := S3 _ _ ha
  refine ⟨a, us2, _, rfl, rfl, ha3, by omega, ?_⟩
  have S3' := S1.trans (same_over (o := .lst (us2 ++ [.ref t])) han (S2.trans S3))
  have hp4 := (same_over (o := .lst (us2 ++ [.ref t])) han (S2.trans S3)) _ _ (upd_same (H := H) (a := p) (o := .lst us))
  have hd4 := S3' _ _ hd
  have hks4 := hks.mono (Same.tk S3')
  have hkd4 := hkd.mono (Same.tk S3')
  refine ⟨_, rfl, _, rfl, _, rfl, _, _, _, rfl, p, us, r, cs, m, rfl, hp4, hks4, hne, haz, hz, hc, hm1, hm3, fun a5 us5 H5 S5 ha5 _ hk5 => ?_⟩
  refine ⟨_, rfl, _, _, KsAt.dp ha5 hk5, KsAt.dp (S5 _ _ hd4) (hkd4.mono (Same.tk S5)), kdats_shaped haf hsf, kdats_shaped haf hsf, ?_⟩
  rw [eqv_kdats, decide_eq_true rfl]
  exact q H5 (S3'.trans S5)
end
end L2.G
set_option Elab.async false
set_option linter.all false
set_option maxRecDepth 100000
set_option maxHeartbeats 8000000
/-! _law_asked_right. -/
namespace L2.G
open PySem PySem.Spec PyProof.Rows WW
def cn : Nat → Nat
  | 1 => 3
  | 2 => 21
  | _ => 237
theorem lwS_cnt {ns : List Nat} (h : ns.length ≤ 3) : Small ns 1 3 (lwS ns 1) ∧ Small ns 2 18 (lwS ns 2) ∧ Small ns 3 216 (lwS ns 3) := by
  have a := small_p h
  have b : Small ns 2 18 (qq (ns.map .p) (ns.map .p)) := small_qq a a
  exact ⟨a, b, lwS_small h (by decide) (by decide)⟩
theorem outL_small {ns : List Nat} (h : ns.length ≤ 3) {m : Nat} (h1 : 1 ≤ m) (h3 : m ≤ 3) : (outL ns m).length ≤ cn m ∧ ∀ k ∈ outL ns m, k.size ≤ m ∧ k.All (· ∈ ns) := by
  obtain ⟨a, b, c⟩ := lwS_cnt h
  constructor
  · have l1 := a.1
    have l2 := b.1
    have l3 := c.1
    unfold outL
    match m, h1, h3 with
    | 1, _, _ => simp [List.range_succ, cn]; omega
    | 2, _, _ => simp [List.range_succ, cn]; omega
    | 3, _, _ => simp [List.range_succ, cn]; omega
  · intro k hk
    obtain ⟨j, hj, hk⟩ := List.mem_flatMap.mp hk
    have hj := List.mem_range.mp hj
    have hk := List.mem_mergeSort.mp hk
    have := (lwS_small h (n := 1 + j) (by omega) (by omega)).2 k hk
    exact ⟨by omega, this.2⟩
/-- all states of all searches of a row -/
def allB (r : List (Kd Nat)) (cs : List Nat) (m : Nat) : List Stt := (outL cs m).flatMap fun k => states r k
theorem allB_len (r : List (Kd Nat)) {cs : List Nat} (h : cs.length ≤ 3) {m : Nat} (h1 : 1 ≤ m) (h3 : m ≤ 3) : (allB r cs m).length ≤ cn m * 2 ^ (rsize r + m) := by
  obtain ⟨hl, hs⟩ := outL_small h h1 h3
  exact Nat.le_trans (flat_len (c := 2 ^ (rsize r + m)) fun k hk => Nat.le_trans (states_le r k) (Nat.pow_le_pow_right (by decide) (by have := (hs k hk).1; omega))) (Nat.mul_le_mul_right _ hl)
theorem rops_lt : ∀ {r : List (Kd Nat)}, r ≠ [] → rops r + 1 ≤ rsize r
  | [k], _ => by
    have := k.ops_size
    rw [rops_cons, rsize_cons]
    show k.ops + 0 + 1 ≤ k.size + 0
    omega
  | k :: k2 :: r, _ => by
    have h1 := k.ops_size
    have h2 := rops_lt (r := k2 :: r) (by simp)
    rw [rops_cons, rsize_cons]
    omega
theorem tx_app (a b : List Nat) : tx a ++ tx b = tx (a ++ b) := by
  show Str.mk (a.toArray ++ b.toArray) = Str.mk (a ++ b).toArray
  simp
def spAsked : SpG := fun vs H Q => ∃ (a l : Addr) (us : List V) (r : List (Kd Nat)) (ns : List Nat) (m : Nat) (d : Addr) (B : List Stt) (b : Nat), vs = [.ref a, .ref l, .int (m : Nat), .str (tx ns), .ref d] ∧ H l = some (.lst us) ∧ KsAt H us r ∧ r ≠ [] ∧ (∀ z ∈ r, z.All (· ∈ ns)) ∧ Names ns ∧ rsize r ≤ 13 ∧ 1 ≤ m ∧ m ≤ 3 ∧
  SprAt H a (b + 30) ∧ Memo B H d ∧ B.length + cn m * 2 ^ (rsize r + m) < sizeLine ∧ ∀ (B' : List Stt) (H' : Hp), B'.length ≤ B.length + cn m * 2 ^ (rsize r + m) → Upto [a, d] H H' → SprAt H' a b → Memo B' H' d → Q (.bl true) H'
section
variable {P : Program} {w : World} {K : PySem.W.Frag} {mg : Str → Option Value} {base : Heap} {C : Addr}
theorem c_asked_right (T : Txt w K mg C) : GCal P w K mg base 90 "_law_asked_right" spAsked := by
  have C_choice := c_choice (P := P) (base := base) T
  have C_ordered := c_ordered (P := P) (base := base) T
  have C_comes := c_comes (P := P) (base := base) T 15
  have C_told_right := c_told_right (P := P) (base := base) T
  refine cal_of T.dL_asked_right scL_asked_right (fun vs H Q ⟨_, _, _, _, _, _, _, _, _, e, _⟩ => by rw [e]; rfl) fun f cdv A outer s H vs Q hr ⟨a, l, us, r, ns, m, d, B, b, e0, hl, hks, hne, hal, hN, hz, hm1, hm3, hs, hM, hB, q⟩ => ?_
  subst e0
  refine ⟨_, (pss_cons (ps_set (i := 5) scL_asked_right.nd rfl (by first | exact Or.inl rfl | exact Or.inr rfl) (pe_g C_choice hr (by omega) rfl (pa_cons (pv 0) (pa_cons (pv 3) pa_nil))))
    (pss_cons (ps_set (i := 6) scL_asked_right.nd rfl (by first | exact Or.inl rfl | exact Or.inr rfl) (pe_op op_add_str (pv 3) (pe_bm PySem.F.plainAttrs_str PySem.F.slot_str_join PySem.F.type_str_join mt_join pe_str (pa_cons (pe_lc (own := [("_law_letter", 7)]) (g := gName 7) rfl scL_asked_right.nd (pi_str (pv 5)) (blkOk_by (own := [("_law_letter", 7)]) (N := ["_law_spring_here", "_law_line", "_law_many", "_law_names", "_law_known", "_law_choice_here", "_law_every", "_law_letter", "_law_due", "_law_thing"]) (sc := defScope sL_asked_right) (by decide +kernel)) (fun _ _ _ _ _ => (pg_name (i := 7) scL_asked_right.nd rfl (by first | exact Or.inl rfl | exact Or.inr rfl))) (fun _ _ _ _ _ => (pts_one (pt_cmpR op_notIn_sign (pv 7) (pv 3) (by with_unfolding_all rfl)))) (fun _ _ _ _ _ => (pv 7))) pa_nil))))
    (pss_cons (ps_setLc (i := 8) (own := [("_law_thing", 9)]) (g := gName 9) rfl scL_asked_right.nd rfl rfl (sw_true rfl rfl rfl (by decide +kernel)) (pi_list (pe_g C_ordered hr (by omega) rfl (pa_cons (pv 5) (pa_cons (pv 2) pa_nil)))) (blkOk_by (own := [("_law_thing", 9)]) (N := ["_law_spring_here", "_law_line", "_law_many", "_law_names", "_law_known", "_law_choice_here", "_law_every", "_law_letter", "_law_due", "_law_thing"]) (sc := defScope sL_asked_right) (by decide +kernel)) (fun _ _ _ _ _ => (pg_name (i := 9) scL_asked_right.nd rfl (by first | exact Or.inl rfl | exact Or.inr rfl))) (fun _ _ _ _ _ => (pts_one (pt_val (pe_g C_comes hr (by omega) rfl (pa_cons (pv 1) (pa_cons (pv 9) (pa_cons (pv 6) (pa_cons (pv 4) pa_nil)))))))) (fun _ _ _ _ _ => (pv 9)))
    (pss_one (ps_ret (pe_g C_told_right hr (by omega) rfl (pa_cons (pv 1) (pa_cons (pv 5) (pa_cons (pv 2) (pa_cons (pv 8) pa_nil)))))))))), ?_⟩
  have zl : sizeLine = 16777216 := sizeLine_eq
  have hul := hks.len
  have hrl := len_le_rsize r
  have hN7 := hN.le
  obtain ⟨kvs0, hd0, hkv0⟩ := hM.ex
  have had : a ≠ d := fun e => by
    obtain ⟨_, _, _, e2, _⟩ := hs
    rw [e, hd0] at e2; cases e2
  have hld : l ∉ [d] := fun e => by
    rw [List.mem_singleton.mp e, hd0] at hl; cases hl
  have hda : d ∉ [a] := fun e => had (List.mem_singleton.mp e).symm
  have hada : a ∉ [d] := fun e => had (List.mem_singleton.mp e)
  have hnta : NoTup H [a] := by
    obtain ⟨_, _, _, e2, _⟩ := hs
    exact noTup1 e2 (fun xs q => nomatch q)
  have hla : l ≠ a := fun e => by
    obtain ⟨x, y, z, e2, _⟩ := hs
    rw [e, e2] at hl
    cases hl
    cases hks with
    | cons h _ => cases h
  refine ⟨_, rfl, _, rfl, a, ns, b, rfl, hN, hs, fun cs H1 hch hfl U1 s1 => ?_⟩
  obtain ⟨hpw, hcaz, hc1, hc3⟩ := id hch
  have hl1 := U1 _ _ (by simpa using hla) hl
  have hks1 := hks.mono (U1.tk hnta)
  have hd1 := U1 _ _ hda hd0
  have hM1 : Memo B H1 d := ⟨kvs0, hd1, hkv0⟩
  have hM1' := hM1
  have hsz : (tx cs).cps.size = cs.length := by simp
  refine ⟨_, rfl, rfl, _, rfl, _, rfl, fun D nD => ?_⟩
  refine lc_sieveG (item := fun i v => ∃ c, (tx cs).cps[i]? = some c ∧ v = .str ⟨#[c]⟩) walk_str (cs.map fun c => (V.str (ch c), !decide (c ∈ ns))) (by rw [List.length_map, hsz]) (by omega) nD (fun H h => trivial) (fun x => rfl)
    (fun i x y bb H1 Q1 hx hy s1 h => ?_) (fun i x y H1 Q1 hx hy s1 h => ?_) (fun H2 S2 hD2 => ?_)
  · obtain ⟨c, hc, rfl⟩ := hx
    have hc' : cs[i]? = some c := by simpa using hc
    rw [List.getElem?_map, hc'] at hy
    cases hy
    exact ⟨_, rfl, _, rfl, c, _, rfl, rfl, _, rfl, h _ (Same.refl _)⟩
  · obtain ⟨c, hc, rfl⟩ := hx
    have hc' : cs[i]? = some c := by simpa using hc
    rw [List.getElem?_map, hc'] at hy
    have hy := Option.some.inj hy
    have e1 : V.str (ch c) = y := congrArg Prod.fst hy
    exact ⟨_, rfl, by rw [← e1] at h; exact h _ (Same.refl _)⟩
  have hos : H2 D = some (.lst (((cs.filter fun c => !decide (c ∈ ns)).map ch).map V.str)) := by
    rw [hD2]
    congr 2
    rw [List.filter_map, List.map_map, List.map_map]
    rfl
  have hin : ∀ c, c ∈ cs → c ∈ ns ++ cs.filter fun c => !decide (c ∈ ns) := fun c hc => by
    by_cases h : c ∈ ns
    · exact List.mem_append_left _ h
    · exact List.mem_append_right _ (List.mem_filter.mpr ⟨hc, by simp [h]⟩)
  have hflz : ∀ c ∈ cs.filter (fun c => !decide (c ∈ ns)), Az c := fun c hc => hcaz c (List.mem_filter.mp hc).1
  generalize cs.filter (fun c => !decide (c ∈ ns)) = fl at hos hin hfl hflz
  have hN8 : Names8 (ns ++ fl) := ⟨fun c hc => by
    rcases List.mem_append.mp hc with h | h
    · exact hN.az c h
    · exact hflz c h, by rw [List.length_append]; omega⟩
  refine ⟨_, D, fl.map ch, rfl, rfl, .inl (SqL.of hos), ?_, ?_⟩
  · match fl, hfl with
    | [], _ => decide
    | [c], _ => show 1 + 0 + 1 * 0 ≤ _; decide
    | _ :: _ :: _, h => simp at h
  rw [join_tx fl (by omega)]
  refine ⟨_, _, rfl, rfl, by rw [tx_len, tx_len]; omega, ?_⟩
  rw [tx_app]
  refine ⟨_, rfl, _, rfl, cs, m, rfl, hpw.imp (fun h => Nat.ne_of_lt h), hcaz, hc3, hm1, hm3, fun o us2 H3 S3 ho hno hk2 => ?_⟩
  refine ⟨o, rfl, ⟨_, SqL.of ho⟩, fun D2 nD2 => ?_⟩
  have S13 := S2.trans S3
  have hl3 := S13 _ _ hl1
  have hks3 := hks1.mono (Same.tk S13)
  have hd3 := S13 _ _ hd1
  have M3 : Memo (B ++ allB r cs m) H3 d := (hM1.same S13).more fun s h => List.mem_append_left _ h
  have hod : o ∉ [d] := fun e => by
    rw [List.mem_singleton.mp e, S2 _ _ hd1] at hno; cases hno
  have hDd : D2 ≠ d := fun e => by rw [e, hd3] at nD2; cases nD2
  have hDd' : D2 ∉ [d] := fun e => hDd (List.mem_singleton.mp e)
  obtain ⟨hol, hoS⟩ := outL_small hc3 hm1 hm3
  have hcn : cn m ≤ 237 := by
    match m, hm1, hm3 with
    | 1, _, _ => decide
    | 2, _, _ => decide
    | 3, _, _ => decide
  have hBl := allB_len r hc3 hm1 hm3
  have hBs : (B ++ allB r cs m).length < sizeLine := by rw [List.length_append]; omega
  have hro := rops_lt hne
  have hl2' := hk2.len
  refine lc_it (walk_list (xs := us2)) (fun i H6 => Upto [d] H3 H6 ∧ Memo (B ++ allB r cs m) H6 d ∧ ∃ acc, H6 D2 = some (.lst acc) ∧ KsAt H6 acc (((outL cs m).take i).filter (Lb r)))
    ⟨Upto.of_same (same_new nD2 _), M3.same (same_new nD2 _), [], upd_same, by rw [List.take_zero]; exact .nil⟩ (fun i H6 _ ⟨U6, _⟩ => SqL.of (U6 _ _ hod ho)) ?_ ?_
  · rintro i x H6 H7 hi ⟨U6, M6, acc, hD6, hka⟩ ⟨rfl, hx⟩
    refine ⟨rfl, ?_⟩
    obtain ⟨k, hk, hv⟩ := KsAt.get' hk2 hx
    have hsk := hoS k (mem_of_get hk)
    have hok := k.ops_size
    have t6 := U6.tk M3.nt
    have O6 : Outc (ns ++ fl) H7 l x r k := ⟨⟨us, U6 _ _ hld hl3, hks3.mono t6⟩, hne, fun z hz => (hal z hz).imp fun c hc => List.mem_append_left _ hc, hv.mono t6, hsk.2.imp hin⟩
    have hst : Sts (B ++ allB r cs m) r k := ⟨r, k, InSt.self r k, fun s hs => List.mem_append_right _ (List.mem_flatMap.mpr ⟨k, mem_of_get hk, hs⟩)⟩
    have hal1 := hka.len
    have hal2 := List.length_filter_le (Lb r) ((outL cs m).take i)
    rw [List.length_take] at hal2
    refine ⟨_, rfl, _, rfl, _, rfl, _, rfl, l, x, ns ++ fl, d, r, k, _, rfl, O6, hN8, by omega, hst, M6, hBs, by omega, fun b H8 hb U8 M8 => ⟨_, rfl, ?_⟩⟩
    have eb := Lb_of hb
    have hD8 := U8 _ _ hDd' hD6
    have t8 := U8.tk M6.nt
    have efl : ((outL cs m).take (i + 1)).filter (Lb r) = ((outL cs m).take i).filter (Lb r) ++ [k].filter (Lb r) := by
      rw [take_succ' hk, List.filter_append]
    cases b with
    | true =>
      refine iteT ?_
      have tk := (upto_upd (l := [D2]) (H := H8) (List.mem_singleton.mpr rfl) (.lst (acc ++ [x]))).tk (noTup1 hD8 (fun xs q => nomatch q))
      refine ⟨_, rfl, acc, hD8, by omega, upto_over nD2 (U6.trans U8), ?_, _, upd_same, ?_⟩
      · obtain ⟨kvs, h, r⟩ := M8.ex
        exact ⟨kvs, by rw [upd_ne hDd.symm]; exact h, r⟩
      rw [efl, List.filter_cons, ← eb]
      exact ((hka.mono t8).mono tk).snoc (((hv.mono t6).mono t8).mono tk)
    | false =>
      refine iteF ⟨U6.trans U8, M8, acc, hD8, ?_⟩
      rw [efl, List.filter_cons, ← eb]
      simp only [Bool.false_eq_true, if_false, List.filter_nil, List.append_nil]
      exact hka.mono t8
  · rintro H6 ⟨U6, M6, acc, hD6, hka⟩
    rw [hl2', List.take_length] at hka
    have t6 := U6.tk M3.nt
    refine ⟨_, rfl, _, rfl, _, rfl, _, rfl, l, us, r, cs, m, D2, acc, rfl, U6 _ _ hld hl3, hks3.mono t6, hne, fun z hz => (hal z hz).imp hN.az, by omega, hch, hm1, hm3, hD6, by rw [outP_outL hc3 hcaz hm1 hm3]; exact hka, fun H' S' => ?_⟩
    refine q (B ++ allB r cs m) H' (by rw [List.length_append]; omega) ?_ ?_ (M6.same S')
    · refine (((U1.mono ?_).trans (Upto.of_same S13)).trans (U6.mono ?_)).trans (Upto.of_same S')
      · intro b hb
        rw [List.mem_singleton.mp hb]
        exact List.mem_cons_self ..
      · intro b hb
        exact List.mem_cons_of_mem _ hb
    · obtain ⟨x, y, z, e, h0, h1⟩ := s1.same S13
      exact ⟨x, y, z, S' _ _ (U6 _ _ hada e), h0, h1⟩
end
end L2.G
set_option Elab.async false
set_option linter.all false
set_option maxRecDepth 100000
set_option maxHeartbeats 8000000
/-! _law_right. -/
namespace L2.G
open PySem PySem.Spec PyProof.Rows WW
theorem SprAt.ned {B : List Stt} {H : Hp} {a d : Addr} {n : Nat} (s : SprAt H a n) (m : Memo B H d) : a ≠ d := fun e => by
  obtain ⟨_, _, _, e2, _⟩ := s
  obtain ⟨_, h, _⟩ := m.ex
  rw [e, h] at e2; cases e2
theorem Memo.upA {B : List Stt} {H H' : Hp} {a d : Addr} {n : Nat} (m : Memo B H d) (s : SprAt H a n) (u : Upto [a] H H') : Memo B H' d := by
  have hn := s.ned m
  obtain ⟨kvs, h, r⟩ := m.ex
  exact ⟨kvs, u _ _ (fun e => hn (List.mem_singleton.mp e).symm) h, r⟩
theorem Outc.up2 {ns : List Nat} {B : List Stt} {H H' : Hp} {l a d : Addr} {g : V} {ks : List (Kd Nat)} {k : Kd Nat} {n : Nat} (o : Outc ns H l g ks k) (s : SprAt H a n) (m : Memo B H d) (u : Upto [a, d] H H') : Outc ns H' l g ks k := by
  have hn := o.notin s
  have hd : l ∉ [d] := fun e => by
    obtain ⟨us, h1, _⟩ := o.ex
    obtain ⟨_, h2, _⟩ := m.ex
    rw [List.mem_singleton.mp e, h2] at h1; cases h1
  have hnt : NoTup H [a, d] := fun b hb xs e => by
    rcases List.mem_cons.mp hb with rfl | hb
    · exact s.nt _ (List.mem_singleton.mpr rfl) xs e
    · exact m.nt _ hb xs e
  obtain ⟨⟨us, h1, h2⟩, h3, h4, h5, h6⟩ := o
  refine ⟨⟨us, u _ _ (fun e => ?_) h1, h2.mono (u.tk hnt)⟩, h3, h4, h5.mono (u.tk hnt), h6⟩
  rcases List.mem_cons.mp e with e | e
  · exact hn (List.mem_singleton.mpr e)
  · exact hd e
theorem upto_cut {H H1 H2 : Hp} {a d : Addr} (hd : H d = none) (u : Upto [a] H H1) (v : Upto [a, d] H1 H2) : Upto [a] H H2 := fun b o hn e => by
  refine v _ _ (fun m => ?_) (u _ _ hn e)
  rcases List.mem_cons.mp m with m | m
  · exact hn (List.mem_singleton.mpr m)
  · rw [List.mem_singleton.mp m, hd] at e; cases e
theorem cn_le {m n : Nat} (h1 : 1 ≤ m) (h : m ≤ n) (hn : n ≤ 3) : cn m ≤ cn n := by
  have e : (m = 1 ∨ m = 2 ∨ m = 3) ∧ (n = 1 ∨ n = 2 ∨ n = 3) := by omega
  rcases e with ⟨rfl | rfl | rfl, rfl | rfl | rfl⟩ <;> first | decide | omega
theorem cost_le {m n s t : Nat} (h1 : 1 ≤ m) (h : m ≤ n) (hn : n ≤ 3) (hs : s + m ≤ t) : cn m * 2 ^ (s + m) ≤ cn n * 2 ^ t := Nat.mul_le_mul (cn_le h1 h hn) (Nat.pow_le_pow_right (by decide) hs)
def spRight : SpG := fun vs H Q => ∃ a : Addr, vs = [.ref a] ∧ SprAt H a 1000 ∧ ∀ H', Upto [a] H H' → Q (.bl true) H'
section
variable {P : Program} {w : World} {K : PySem.W.Frag} {mg : Str → Option Value} {base : Heap} {C : Addr}
theorem c_right (T : Txt w K mg C) : GCal P w K mg base 91 "_law_right" spRight := by
  have C_letters := c_letters (P := P) (base := base) T
  have C_row := c_row (P := P) (base := base) T
  have C_sip := c_sip (P := P) (base := base) T
  have C_bent := c_bent (P := P) (base := base) T
  have C_size := c_size (P := P) (base := base) T 31
  have C_asked_right := c_asked_right (P := P) (base := base) T
  refine cal_of T.dL_right scL_right (fun vs H Q ⟨_, e, _⟩ => by rw [e]; rfl) fun f cdv A outer s H vs Q hr ⟨a, e0, hs, q⟩ => ?_
  subst e0
  refine ⟨_, (pss_cons (ps_par (i := 1) (j := 2) rfl scL_right.nd rfl rfl (by decide) rfl rfl (pa_cons (pe_g C_letters hr (by omega) rfl (pa_cons (pv 0) pa_nil)) (pa_cons pe_dnewK pa_nil)) rfl)
    (pss_cons (ps_asg (pe_g C_row hr (by omega) rfl (pa_cons (pv 0) (pa_cons (pv 1) (pa_cons pe_int pa_nil)))) (pg_tup rfl (pgs_cons (pg_name (i := 3) scL_right.nd rfl (by first | exact Or.inl rfl | exact Or.inr rfl)) (pgs_cons (pg_name (i := 4) scL_right.nd rfl (by first | exact Or.inl rfl | exact Or.inr rfl)) pgs_nil))))
    (pss_cons (ps_if (pt_not (pt_val (pe_g C_asked_right hr (by omega) rfl (pa_cons (pv 0) (pa_cons (pv 3) (pa_cons (pe_op op_add pe_int (pe_g C_sip hr (by omega) rfl (pa_cons (pv 0) (pa_cons pe_int pa_nil)))) (pa_cons (pv 1) (pa_cons (pv 2) pa_nil))))))))
      (pss_one (ps_ret pe_bl))
      pss_nil)
    (pss_cons (ps_for PassesOwn.never rfl (pi_range1 rfl T.m_range (pa_cons (pe_op op_add pe_int (pe_g C_sip hr (by omega) rfl (pa_cons (pv 0) (pa_cons pe_int pa_nil)))) pa_nil)) (pg_name (i := 5) scL_right.nd rfl (by first | exact Or.inl rfl | exact Or.inr rfl))
      (pss_one (ps_asg (pe_g C_bent hr (by omega) rfl (pa_cons (pv 0) (pa_cons (pv 1) (pa_cons pe_int (pa_cons (pv 3) (pa_cons (pv 4) pa_nil)))))) (pg_tup rfl (pgs_cons (pg_name (i := 3) scL_right.nd rfl (by first | exact Or.inl rfl | exact Or.inr rfl)) (pgs_cons (pg_name (i := 4) scL_right.nd rfl (by first | exact Or.inl rfl | exact Or.inr rfl)) pgs_nil))))))
    (pss_cons (ps_if (pt_not (pt_val (pe_g C_asked_right hr (by omega) rfl (pa_cons (pv 0) (pa_cons (pv 3) (pa_cons (pe_op op_add pe_int (pe_g C_sip hr (by omega) rfl (pa_cons (pv 0) (pa_cons pe_int pa_nil)))) (pa_cons (pv 1) (pa_cons (pv 2) pa_nil))))))))
      (pss_one (ps_ret pe_bl))
      pss_nil)
    (pss_cons (ps_set (i := 3) scL_right.nd rfl (by first | exact Or.inl rfl | exact Or.inr rfl) (pe_ix ix_tup (pe_g C_row hr (by omega) rfl (pa_cons (pv 0) (pa_cons (pv 1) (pa_cons pe_int pa_nil)))) pe_int (fun _ _ => rfl)))
    (pss_cons (ps_set (i := 6) scL_right.nd rfl (by first | exact Or.inl rfl | exact Or.inr rfl) (pe_op op_sub pe_int (pe_callB (cr_sum rfl) rfl T.m_sum (by decide +kernel) (pa_cons (pe_lc (own := [("_law_thing", 7)]) (g := gName 7) (tt := tYes) rfl scL_right.nd (pi_list (pv 3)) (blkOk_by (own := [("_law_thing", 7)]) (N := ["_law_spring_here", "_law_names", "_law_known", "_law_line", "_law_goal", "_law_change", "_law_left", "_law_thing"]) (sc := defScope sL_right) (by decide +kernel)) (fun _ _ _ _ _ => (pg_name (i := 7) scL_right.nd rfl (by first | exact Or.inl rfl | exact Or.inr rfl))) (fun _ _ _ _ _ => pts_nil) (fun _ _ _ _ _ => (pe_g C_size hr (by omega) rfl (pa_cons (pv 7) pa_nil)))) pa_nil))))
    (pss_one (ps_ret (pe_g C_asked_right hr (by omega) rfl (pa_cons (pv 0) (pa_cons (pv 3) (pa_cons (pe_op op_add pe_int (pe_g C_sip hr (by omega) rfl (pa_cons (pv 0) (pa_cons (pe_callB (call_min2 rfl) rfl T.m_min (by decide +kernel) (pa_cons pe_int (pa_cons (pv 6) pa_nil))) pa_nil)))) (pa_cons (pv 1) (pa_cons (pv 2) pa_nil))))))))))))))), ?_⟩
  have zl : sizeLine = 16777216 := sizeLine_eq
  have c1 : cn 3 * 2 ^ 12 = 970752 := by decide
  have c2 : cn 2 * 2 ^ 15 = 688128 := by decide
  have c3 : cn 3 * 2 ^ 14 = 3883008 := by decide
  refine ⟨_, rfl, a, 990, rfl, hs, fun ns H1 hN U1 s1 => fun d nd => ⟨_, _, rfl, ?_⟩⟩
  have hN7 := hN.le
  have hNe := hN.ne
  have had : d ≠ a := fun e => by
    obtain ⟨_, _, _, e2, _⟩ := s1
    rw [← e, nd] at e2; cases e2
  have hdn : H d = none := by
    cases e : H d with
    | none => rfl
    | some o => rw [U1 _ _ (fun m => had (List.mem_singleton.mp m)) e] at nd; cases nd
  have S2 := same_new nd (.dK [])
  have s2 := s1.same S2
  have U2 := U1.trans (Upto.of_same S2)
  have M2 : Memo [] (upd H1 d (.dK [])) d := ⟨[], upd_same, .nil, fun p hp => nomatch hp⟩
  generalize upd H1 d (.dK []) = H2 at S2 s2 U2 M2
  clear S2
  refine ⟨_, rfl, _, rfl, a, ns, 9, 873, rfl, hNe, by omega, hN.az, by decide, by decide, s2.le (by decide), fun t l g ks k H3 ht hO h6 hz hk U3 s3 => ?_⟩
  have M3 := M2.upA s2 U3
  have U03 := U2.trans U3
  refine ⟨_, _, rfl, SqT.of ht, rfl, _, _, rfl, _, _, rfl, rfl, ?_⟩
  refine ⟨_, rfl, _, rfl, _, rfl, a, 3, 872, rfl, by decide, by decide, s3.le (by decide), fun r4 H4 r40 r41 U4 s4 => ?_⟩
  obtain ⟨m4, hm4⟩ : ∃ m : Nat, (1 : Int) + r4 = ((m : Nat) : Int) := ⟨(1 + r4).toNat, by omega⟩
  have O4 := hO.upto s3 U4
  have M4 := M3.upA s3 U4
  obtain ⟨us4, hus4, hks4⟩ := O4.ex
  have k4 := cost_le (m := m4) (n := 3) (s := rsize ks) (t := 12) (by omega) (by omega) (by omega) (by omega)
  rw [c1] at k4
  refine ⟨_, _, rfl, rfl, _, rfl, _, rfl, a, l, us4, ks, ns, m4, d, [], 842, congrArg (fun z : Int => [V.ref a, V.ref l, V.int z, V.str (tx ns), V.ref d]) hm4, hus4, hks4, O4.ne, O4.al, hN, by omega, by omega, by omega, s4.le (by decide), M4, by show 0 + _ < _; omega, fun B5 H5 hB5 U5 s5 M5 => ⟨_, rfl, iteF ?_⟩⟩
  have hB5 : B5.length ≤ 970752 := Nat.le_trans hB5 (by show 0 + _ ≤ _; omega)
  have O5 := O4.up2 s4 M4 U5
  have U05 := upto_cut hdn (U03.trans U4) U5
  refine ⟨_, rfl, a, 3, 841, rfl, by decide, by decide, s5.le (by decide), fun r6 H6 r60 r61 U6 s6 => ?_⟩
  obtain ⟨n, rfl⟩ : ∃ n : Nat, r6 = ((n : Nat) : Int) := ⟨r6.toNat, by omega⟩
  refine ⟨_, _, rfl, rfl, _, rfl, by omega, by omega, ?_⟩
  rw [show ((1 : Int) + ((n : Nat) : Int)).toNat = 1 + n by omega]
  refine for_range (lo := 0) (n := 1 + n) (fun i σ H' => ∃ (l : Addr) (g : V) (ks : List (Kd Nat)) (k : Kd Nat) (x5 : Option V), σ = [some (.ref a), some (.str (tx ns)), some (.ref d), some (.ref l), some g, x5, none, none] ∧ Outc ns H' l g ks k ∧ Fits ks k ∧ Upto [a] H H' ∧ SprAt H' a (600 + 50 * (1 + n - i)) ∧ Memo B5 H' d)
    ⟨l, g, ks, k, none, rfl, O5.upto s5 U6, ⟨h6, by omega⟩, U05.trans U6, s6.le (by omega), M5.upA s5 U6⟩ ?_ ?_
  · rintro i σ H' hi ⟨l, g, ks, k, x5, rfl, hO', hF, U', s', M'⟩
    refine ⟨_, rfl, _, rfl, _, rfl, _, rfl, a, ns, l, g, ks, k, 600 + 50 * (1 + n - (i + 1)), rfl, hNe, by omega, hO', hF, s'.le (by omega), fun t l2 g2 ks2 k2 H7 ht2 hO2 hF2 U7 s7 => ?_⟩
    refine ⟨_, _, rfl, SqT.of ht2, rfl, _, _, rfl, _, _, rfl, rfl, ?_⟩
    exact ⟨l2, g2, ks2, k2, _, rfl, hO2, hF2, U'.trans U7, s7, M'.upA s' U7⟩
  rintro σ H7 ⟨l7, g7, ks7, k7, x5, rfl, O7, F7, U7, s7, M7⟩
  clear O5 O4 hus4 hks4 hO ht M4 M3 M2
  refine ⟨_, rfl, _, rfl, _, rfl, a, 2, 599, rfl, by decide, by decide, s7.le (by omega), fun r8 H8 r80 r81 U8 s8 => ?_⟩
  obtain ⟨m8, hm8⟩ : ∃ m : Nat, (1 : Int) + r8 = ((m : Nat) : Int) := ⟨(1 + r8).toNat, by omega⟩
  have O8 := O7.upto s7 U8
  have M8 := M7.upA s7 U8
  obtain ⟨us8, hus8, hks8⟩ := O8.ex
  have f2 := F7.2
  have hk7 := k7.size_pos
  have k8 := cost_le (m := m8) (n := 2) (s := rsize ks7) (t := 15) (by omega) (by omega) (by omega) (by omega)
  rw [c2] at k8
  refine ⟨_, _, rfl, rfl, _, rfl, _, rfl, a, l7, us8, ks7, ns, m8, d, B5, 569, congrArg (fun z : Int => [V.ref a, V.ref l7, V.int z, V.str (tx ns), V.ref d]) hm8, hus8, hks8, O8.ne, O8.al, hN, by omega, by omega, by omega, s8.le (by decide), M8, by omega, fun B9 H9 hB9 U9 s9 M9 => ⟨_, rfl, iteF ?_⟩⟩
  have hB9 : B9.length ≤ 1658880 := Nat.le_trans hB9 (by omega)
  have U09 := upto_cut hdn (U7.trans U8) U9
  refine ⟨_, rfl, _, rfl, a, ns, 13, 404, rfl, hNe, by omega, hN.az, by decide, by decide, s9.le (by decide), fun t10 l10 g10 ks10 k10 HA htA hOA hA6 hzA hkA UA sA => ⟨_, _, _, _, rfl, rfl, SqT.of htA, rfl, ?_⟩⟩
  have MA := M9.upA s9 UA
  obtain ⟨usA, husA, hksA⟩ := hOA.ex
  refine ⟨_, rfl, l10, rfl, ⟨_, SqL.of husA⟩, fun D nD => ?_⟩
  refine lc_mapG (walk_list (xs := usA)) (ks10.map fun z => V.int ((z.size : Nat) : Int)) (by rw [List.length_map]; exact (hksA.len).symm) (by have := hksA.len; omega) nD (fun H h => SqL.of (h _ _ husA)) (fun x => rfl)
    (fun i x y H1 Q1 hx hy s1 h => ?_) (fun HB SB hDB => ?_)
  · obtain ⟨z, hz, hv, rfl⟩ := ks_item hksA hx hy
    exact ⟨_, rfl, _, _, rfl, hv.mono (Same.tk s1), (by have := ops_lt_rsize (mem_of_get hz); omega), h _ (Same.refl _)⟩
  refine ⟨_, ks10.map fun z => ((z.size : Nat) : Int), rfl, SqL.of (by rw [hDB, List.map_map]; rfl), ?_⟩
  rw [sum_sizes]
  have hpos : 1 ≤ rsize ks10 := by have := rops_lt hOA.ne; omega
  have hmn : ∀ x : Int, 1 ≤ x → 0 < (if x < 3 then x else 3) ∧ (if x < 3 then x else 3) ≤ 3 ∧ (if x < 3 then x else 3) ≤ x := fun x h => by split <;> omega
  obtain ⟨mn1, mn2, mn3⟩ := hmn (14 - ((rsize ks10 : Nat) : Int)) (by omega)
  refine ⟨_, _, rfl, rfl, _, rfl, _, rfl, _, rfl, _, rfl, _, _, rfl, a, _, 403, rfl, mn1, Int.lt_of_le_of_lt mn2 (by decide), (sA.same SB).le (by decide), fun rC HC rC0 rC1 UC sC => ?_⟩
  generalize hqq : (if 14 - ((rsize ks10 : Nat) : Int) < 3 then 14 - ((rsize ks10 : Nat) : Int) else 3) = qq at mn1 mn2 mn3 rC1
  obtain ⟨mC, hmC⟩ : ∃ m : Nat, (1 : Int) + rC = ((m : Nat) : Int) := ⟨(1 + rC).toNat, by omega⟩
  have MB := MA.same SB
  have OB := hOA.same SB
  have OC := OB.upto (sA.same SB) UC
  have MC := MB.upA (sA.same SB) UC
  obtain ⟨usC, husC, hksC⟩ := OC.ex
  have kC := cost_le (m := mC) (n := 3) (s := rsize ks10) (t := 14) (by omega) (by omega) (by omega) (by omega)
  rw [c3] at kC
  refine ⟨_, _, rfl, rfl, _, rfl, _, rfl, a, l10, usC, ks10, ns, mC, d, B9, 373, congrArg (fun z : Int => [V.ref a, V.ref l10, V.int z, V.str (tx ns), V.ref d]) hmC, husC, hksC, OC.ne, OC.al, hN, by omega, by omega, by omega, sC.le (by decide), MC, by omega, fun BD HD hBD UD sD MD => ?_⟩
  exact q HD (upto_cut hdn (((U09.trans UA).trans (Upto.of_same SB)).trans UC) UD)
end
end L2.G
set_option Elab.async false
set_option linter.all false
set_option maxRecDepth 100000
set_option maxHeartbeats 8000000
/-! law. -/
namespace L2.G
open PySem PySem.Spec PyProof.Rows WW
theorem sql_upto {K : PySem.W.Frag} {H H1 H2 : Hp} {l a : Addr} {xs : List V} (h : SqL K H l xs) (ha : H a = none) (S : Same H H1) (U : Upto [a] H1 H2) : SqL K H2 l xs := by
  have key : ∀ o, H l = some o → H2 l = some o := fun o e => U _ _ (fun m => by rw [List.mem_singleton.mp m, ha] at e; cases e) (S _ _ e)
  rcases h with h | h
  · rcases h with h | ⟨o, h⟩
    · exact .inl (.inl (key _ h))
    · exact .inl (.inr ⟨o, key _ h⟩)
  · exact .inr h
def spLaw (K : PySem.W.Frag) : SpG := fun vs H Q => ∃ (l : Addr) (xs : List Int), vs = [.ref l] ∧ SqL K H l (xs.map V.int) ∧ Script xs ∧ ∀ H', Q (.bl true) H'
section
variable {P : Program} {w : World} {K : PySem.W.Frag} {mg : Str → Option Value} {base : Heap} {C : Addr}
theorem len_law : ∀ vs H Q, spLaw K vs H Q → vs.length = (["_law_script"] : List Str).length := fun vs H Q ⟨_, _, e, _⟩ => by rw [e]; rfl
theorem b_law (T : Txt w K mg C) (f : Addr) (cdv : Value) (A : Around) (outer : List Env) (s : Shared) (H : Hp) (vs : List V) (Q : VK) (hr : RoomG 91 (A.deeper (envOfC "law" (defScope sP_law) s.heap.objs.size f cdv))) (hsp : spLaw K vs H Q) :
    ∃ t, PSs (cxOf CX0 P w K mg base ["_law_script"] "law" (defScope sP_law) f cdv A outer s H E0).nox (defBody sP_law) t ∧ t { nx := fun _ H' => Q .non H', rt := Q } (start ["_law_script"] vs) H := by
  have C_spring := c_spring (P := P) (base := base) T
  have C_right := c_right (P := P) (base := base) T
  obtain ⟨l, xs, e0, hl, hx, q⟩ := hsp
  subst e0
  refine ⟨_, (pss_one (ps_ret (pe_and (pe_g C_right hr (by omega) rfl (pa_cons (pe_g C_spring hr (by omega) rfl (pa_cons (pv 0) (pa_cons pe_int pa_nil))) pa_nil)) (pe_one (pe_g C_right hr (by omega) rfl (pa_cons (pe_g C_spring hr (by omega) rfl (pa_cons (pv 0) (pa_cons pe_int pa_nil))) pa_nil)))))), ?_⟩
  refine ⟨_, rfl, l, xs, 0, rfl, hl, hx, by decide, fun a H1 S1 han s1 => ⟨a, rfl, s1, fun H2 U2 => ⟨_, rfl, iteT ?_⟩⟩⟩
  have hl2 := sql_upto hl han S1 U2
  exact ⟨_, rfl, l, xs, 1, rfl, hl2, hx, by decide, fun a2 H3 S3 han3 s3 => ⟨a2, rfl, s3, fun H4 U4 => q H4⟩⟩
theorem fn_law (T : Txt w K mg C) {f : Addr} {fd : FuncData} (F : FunD K "law" "law" (defArgs sP_law) (defBody sP_law) (defScope sP_law) [] [] f fd) : FnG P w K mg base 92 f fd ["_law_script"] (spLaw K) := by
  obtain ⟨oc, od, dV, kV, doc, pm, an, cdv, ct, osl, rfl, lk, hcd, _, _⟩ := F.ex
  exact fn_ofG lk hcd scP_law len_law fun A outer s H vs Q hr hsp => b_law T f cdv A outer s H vs Q hr hsp
end
end L2.G
set_option Elab.async false
set_option linter.all false
set_option maxRecDepth 100000
set_option maxHeartbeats 8000000
/-! The end: the law's call from the head, where no repr is running. -/
namespace L2.G
open PySem PySem.Spec PyProof.Rows
section
variable {P : Program} {w : World} {K : PySem.W.Frag} {mg mb : Str → Option Value} {k : Nat} {fa a : Addr} {fd : FuncData} {x : Str} {sp : SpG} {s₁ : Shared} {vs : List Value} {ns : List Int}
/-- from an abstract heap that holds nothing but the script, frozen -/
theorem core_g (KX : K.In s₁.heap) (hns : s₁.heap.Ns mainGlobals mg) (hb : s₁.heap.Ns builtinsNs mb) (hbb : ∀ x : Str, x ≠ "__name__" → mb x = bootBuiltins x) (hlim : s₁.heap.NoLimit) (hg : s₁.gens = #[])
    (ha : s₁.heap.get? a = some { cls := .type "list", data := .seq vs.toArray }) (hr : RoomG k callerA)
    (F : ∀ base : Heap, K.In base → base.Ns mainGlobals mg → FnG P w K mg base k fa fd [x] sp) (hbind : ∀ (s : Shared) (u : Value), BindsTo s fd ⟨[u], []⟩ [(x, u)])
    (H : Hp) (hsp : sp [.ref a] H (fun v _ => v = .bl true)) (hO : Only H) (hok : HOk P w H s₁.heap) (hA : ∀ b, H b ≠ none → b = a) (hK : H a ≠ none → K.lookup a = none) :
    codeAny (model P w) callerA (.call (.ref fa) ⟨[.ref a], []⟩) (fun r s' => r = .ok (.ret (.bool true)) ∧ OldK s₁.heap s'.heap ∧ s'.os = s₁.os ∧ AllBare s'.gens) s₁ := by
  have dictOut : ∀ {b : Addr} {o : Obj} {es : Array DictEntry} {ep : Nat}, s₁.heap.get? b = some o → o.data = .dict es ep → H b = none := fun {b o es ep} e d => by
    cases q : H b with
    | none => rfl
    | some u =>
      have eb := hA b (by rw [q]; exact fun z => nomatch z)
      subst eb
      rw [ha] at e
      cases e
      exact nomatch (show Data.seq vs.toArray _ = Data.dict es ep from d)
  have nsOut : ∀ {b : Addr} {m : Str → Option Value}, s₁.heap.Ns b m → (hidT s₁.heap H).Ns b m := fun {b m} n => by
    obtain ⟨o, es, ep, e, d, r⟩ := n
    exact ⟨o, es, ep, hidT_get e (dictOut e d), d, r⟩
  have kb : K.In (hidT s₁.heap H) := fun b o e => by
    refine hidT_get (KX b o e) ?_
    cases q : H b with
    | none => rfl
    | some u =>
      have eb := hA b (by rw [q]; exact fun z => nomatch z)
      subst eb
      rw [hK (by rw [q]; exact fun z => nomatch z)] at e
      cases e
  obtain ⟨mc, l1, l2⟩ := hlim
  have hM : Mod K mg (hidT s₁.heap H) := ⟨kb, nsOut hns, ⟨mb, nsOut hb, hbb⟩, mc, nsOut l1, l2⟩
  have e0 : Env0 P w K mg (hidT s₁.heap H) callerA [] s₁ H :=
    { frames := rfl, mod := hM, bs := fun b o e => of_hidT e, bsz := Nat.le_of_eq (hidT_size _ _), funs := trivial, frf := (fun b hb => nomatch (show b ∈ ([] : List Addr) from hb)), hok := hok, bare := .of_eq hg }
  refine codeAny_mono ((F _ kb (nsOut hns)).run callerA [] s₁ H ⟨[.ref a], []⟩ [.ref a] [.ref a] _ hr e0 (hbind s₁ (.ref a)) (.cons rfl .nil) hsp) fun r s' h => ?_
  cases r with
  | error e => exact False.elim h
  | ok fl =>
    cases fl with
    | next => exact False.elim h
    | brk => exact False.elim h
    | cont => exact False.elim h
    | ret u =>
      obtain ⟨v, H', hos, bare, un, hok', rv, q⟩ := h
      have q' : v = .bl true := q
      subst q'
      have eu : u = Value.bool true := rv
      subst eu
      refine ⟨rfl, OldK.of_keep fun b o e => ?_, hos, bare⟩
      rcases hO b with z | ⟨ob, xs, z⟩
      · exact un.keep b o e z (fun m => nomatch (show b ∈ ([] : List Addr) from m)) (fun m => nomatch m)
      · have e1 := (hok b _ z).1
        have e2 := (hok' b _ (un.frzs b ob _ z)).1
        rw [e] at e1
        cases e1
        exact e2
/-- the promise of the law's def, at the heap behind the top -/
theorem call_g (KX : K.In s₁.heap) (hns : s₁.heap.Ns mainGlobals mg) (hb : s₁.heap.Ns builtinsNs mb) (hbb : ∀ x : Str, x ≠ "__name__" → mb x = bootBuiltins x) (hlim : s₁.heap.NoLimit) (hg : s₁.gens = #[])
    (ha : s₁.heap.get? a = some { cls := .type "list", data := .seq vs.toArray }) (hi : IntsAre vs ns) (hl : ns.length ≤ sizeLine) (hr : RoomG k callerA)
    (F : ∀ base : Heap, K.In base → base.Ns mainGlobals mg → FnG P w K mg base k fa fd [x] sp) (hbind : ∀ (s : Shared) (u : Value), BindsTo s fd ⟨[u], []⟩ [(x, u)])
    (hsp : ∀ H : Hp, SqL K H a (ns.map V.int) → sp [.ref a] H (fun v _ => v = .bl true)) :
    codeAny (model P w) callerA (.call (.ref fa) ⟨[.ref a], []⟩) (fun r s' => r = .ok (.ret (.bool true)) ∧ OldK s₁.heap s'.heap ∧ s'.os = s₁.os ∧ AllBare s'.gens) s₁ := by
  have rv := vals_ints hi
  have lv := hi.length
  cases hk : K.lookup a with
  | some o =>
    have e := KX a o hk
    rw [ha] at e
    cases e
    refine core_g KX hns hb hbb hlim hg ha hr F hbind (fun _ => none) (hsp _ (.inr ⟨_, vs.toArray, _, hk, rfl, rfl, rfl, ?_, ?_⟩)) (fun _ => .inl rfl) (fun b u z => nomatch (show (none : Option HO) = some u from z)) (fun b z => absurd rfl z) (fun z => absurd rfl z)
    · rw [List.size_toArray, lv]
      exact hl
    · simpa using rv
  | none =>
    have at_ : (fun b => if b = a then some (HO.frz { cls := .type "list", data := .seq vs.toArray } (.lst (ns.map V.int))) else none : Hp) a = some (.frz { cls := .type "list", data := .seq vs.toArray } (.lst (ns.map V.int))) := if_pos rfl
    have off : ∀ b, b ≠ a → (fun b => if b = a then some (HO.frz { cls := .type "list", data := .seq vs.toArray } (.lst (ns.map V.int))) else none : Hp) b = none := fun b h => if_neg h
    generalize (fun b => if b = a then some (HO.frz { cls := .type "list", data := .seq vs.toArray } (.lst (ns.map V.int))) else none : Hp) = H at at_ off
    have hA : ∀ b, H b ≠ none → b = a := fun b z => by
      by_cases h : b = a
      · exact h
      · exact absurd (off b h) z
    refine core_g KX hns hb hbb hlim hg ha hr F hbind H (hsp H (.inl (.inr ⟨_, at_⟩))) (fun b => ?_) (fun b u z => ?_) hA (fun _ => hk)
    · by_cases h : b = a
      · exact .inr ⟨_, _, by rw [h]; exact at_⟩
      · exact .inl (off b h)
    · have eb := hA b (by rw [z]; exact fun y => nomatch y)
      subst eb
      rw [at_] at z
      cases z
      exact ⟨ha, by rw [List.length_map]; exact hl, vs, _, rv, ha⟩
end
/-- a law's end over a head by facts, the script's bits told -/
theorem walk_g {l : PySem.W.OpenLaw} {n k : Nat} {q : Program} {loose : List Str} {XP : (Str → Option Value) → Heap → Prop} {YP : World → Heap → Prop} {d : DefRec} {x : Str}
    (hn : l.most = some n) (hn2 : n ≤ sizeLine) (hdf : d.params.defaults = []) (hr : RoomG k callerA)
    (F : ∀ (w : World) (mg : Str → Option Value) (fa : Addr) (h : Heap), YP w h → h.Ns mainGlobals mg → mg d.name = some (.ref fa) →
      ∃ (K : PySem.W.Frag) (fd : FuncData) (sp : SpG), K.In h ∧ (∀ (s : Shared) (u : Value), BindsTo s fd ⟨[u], []⟩ [(x, u)]) ∧
        (∀ (H : Hp) (a : Addr) (ns : List Int), ns.length ≤ n → (∀ z ∈ ns, Builtin.Int.intBits z ≤ 1048576) → SqL K H a (ns.map V.int) → sp [.ref a] H (fun v _ => v = .bl true)) ∧
        ∀ base : Heap, K.In base → base.Ns mainGlobals mg → FnG l.prog w K mg base k fa fd [x] sp) :
    PySem.W.WalkO q loose XP YP l.row.toRowW d [] (fun f vs => PySem.call f vs) := by
  refine Att.attach_callB hn hdf fun w s₀ s₁ mg mb fa o pm cd doc a vs ns G Y ho hd hcd hmg hobj hints hlen hbits hg => ?_
  obtain ⟨K, fd, sp, KX, hb, hsp, hF⟩ := F w mg fa _ Y G.T.g hmg
  exact call_g KX G.T.g G.T.b G.T.builtins G.T.nolimit hg hobj hints (Nat.le_trans hlen hn2) hr hF hb fun H hS => hsp H a ns hlen hbits hS
end L2.G
set_option Elab.async false
set_option linter.all false
set_option maxRecDepth 100000
set_option maxHeartbeats 0
/-! The law. -/
open PySem PySem.W PySem.Calls PyProof.Rows
theorem PySem.Challenge.cw_waitwords_k62_whole_small_kinds_of_rows_holds : PySem.Challenge.rw_waitwords_k62_whole_small_kinds_of_rows.Holds := by
  w_on; o_law
  refine HandSHeadRun.head_any (r := OpenLaw.row PySem.Challenge.rw_waitwords_k62_whole_small_kinds_of_rows) (q := view (OpenLaw.row PySem.Challenge.rw_waitwords_k62_whole_small_kinds_of_rows).prog [61]) (H := L2.G.Hd.hk) (ob := L2.G.Hd.ob) (M := 6000) (loose := L2.G.Hd.names) (d := HandSHeadRun.topDef (OpenLaw.row PySem.Challenge.rw_waitwords_k62_whole_small_kinds_of_rows).prog 61) (kwd := []) L2.G.Hd.ob_eq
    (by kernel_rfl) (fun s => by kernel_rfl) L2.G.Hd.run (by kernel_rfl) (by kernel_rfl) (by kernel_rfl) (by rfl) (by first | assumption | decide +kernel) (by decide +kernel) ⟨rfl, rfl, rfl, rfl, rfl, by decide +kernel⟩ ?hw ?hc
  case hw => w_witness2
  case hc =>
    refine L2.G.walk_g (l := PySem.Challenge.rw_waitwords_k62_whole_small_kinds_of_rows) (n := 63) (k := 92) (x := "_law_script") rfl (by decide) (by kernel_rfl) ⟨⟨rfl, by decide, by decide⟩, rfl⟩ ?F
    intro w mg fa h Y G hmg0
    obtain ⟨K, KX, c⟩ := Y
    have hmg : mg ("law" : PySem.Str) = some (.ref fa) := by
      have e : (HandSHeadRun.topDef (OpenLaw.row PySem.Challenge.rw_waitwords_k62_whole_small_kinds_of_rows).prog 61).name = ("law" : PySem.Str) := by kernel_rfl
      rw [← e]
      exact hmg0
    obtain ⟨fd, hm, F⟩ := L2.G.Hd.law_at KX G c
    have e := hm.symm.trans hmg
    cases e
    have b := L2.FunD.bindsA (ps := ["_law_script"]) F fun _ _ _ _ _ _ us hl => match us, hl with | [_], _ => rfl
    refine ⟨K, fd, L2.G.spLaw K, KX, fun s v => b s [v] rfl, fun H a ns hl hb hS => ⟨a, ns, rfl, hS, ⟨hl, hb⟩, fun _ => rfl⟩, fun base hK hG => ?_⟩
    exact L2.G.fn_law (L2.G.Hd.txt KX G c) F
