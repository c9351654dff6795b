import PyProof.Rows.All
import Wide.All
import OpenK.AllK
import Wide.FinOn
import HandS.ForMost
import HandS.SortKw
import HandS.IsInst
import HandS.Defaults
import HandS.MakeKw
import HandS.ForExc
import HandS.ExcIs
import HandS.MakeKwOnly
import HandS.Style
import KE.KFmtOwn
import KE.KCallOwn
import PyProof.InstNe
import PyProof.FString2
import HandS.FStr
import HandS.RaiseMore
import HandS.Text
import HandS.Dict
import HandS.More
import HandS.TupAny
import HandS.CallLocal
import HandS.NoneIn
import PyProof.ReprDict
import PyProof.ReprReads
import PyProof.ReprRoads
import HandS.DictEq
import HandS.OwnEq
import HandS.SetBool
import PyProof.Rows.SetFrom
import PyProof.SetRoads
import HandS.Sort
import HandS.Conv
import HandS.Zip
import HandS.StrMore
import HandS.ExcInit
import HandS.ExcCtx
import HandS.ExcInitHot
import HandS.ExcField
import HandS.ExcValue
import PyProof.ExcBaseAll.IndexError
import PyProof.ExcBaseAll.LookupError
import PyProof.ExcBaseAll.OverflowError
import PyProof.ExcBaseAll.RuntimeError
import HandS.HotCalls
import KE.KExcIs
import HandS.SetFor
import HandS.Deep
import HandS.Wide
import PySem.Challenge.RW_silencetells_k68_refusals_made
set_option Elab.async false
set_option linter.all false
set_option maxRecDepth 100000
set_option maxHeartbeats 1000000
/-! P1: defs that run where no repr is under way (guards told), repr of data, == by an own __eq__ with any answer, max and min with a default, sum with a start. -/
namespace Sil
open PySem L2 PySem.Spec PyProof.Rows

/-! ### no repr under way -/
def Calm (A : Around) : Prop := A.guards = some []

/-- FnOk, where no repr is under way at the call -/
structure FnG (P : Program) (w : World) (K : PySem.W.Frag) (mg : Str → Option Value) (base : Heap) (CX : CXT)
    (k : Nat) (f : Addr) (fd : FuncData) (ps : List Str) (sp : Sp) : Prop where
  len : ∀ vs H Q E, sp vs H Q E → vs.length = ps.length
  go : ∀ (A : Around) (outer : List Env) (s : Shared) (H : Hp) (args : Args) (us : List Value) (vs : List V) (Q : VK) (E : XK),
    Room k A → Calm A → Env0 P w K mg base A outer s H → BindsTo s fd args (ps.zip us) → Vals vs us → sp vs H Q E →
    codeAny (model P w) A (.call (.ref f) args) (CR CX outer P w H s Q E) s

section
variable {P : Program} {w : World} {K : PySem.W.Frag} {mg : Str → Option Value} {base : Heap} {CX : CXT} {k : Nat}
  {f : Addr} {fd : FuncData} {ps : List Str} {sp : Sp}
theorem FnG.of (F : FnOk P w K mg base CX k f fd ps sp) : FnG P w K mg base CX k f fd ps sp :=
  ⟨F.len, fun A o s H a us vs Q E hr _ => F.run A o s H a us vs Q E hr⟩
theorem FnG.up {j : Nat} (F : FnG P w K mg base CX j f fd ps sp) (h : j ≤ k) : FnG P w K mg base CX k f fd ps sp :=
  ⟨F.len, fun A o s H a us vs Q E hr => F.go A o s H a us vs Q E (hr.mono h)⟩

/-- the rule for a def by its body, where no repr is under way -/
theorem fnG_of {name qual : Str} {params : Arguments} {body : List Stmt} {scope : Scope} {dV kV doc pm cdv ct oc : Value} {an od : Option Addr}
    {osl : Array (Option Value)} {N : List Str}
    (lk : K.lookup f = some ⟨oc, od, .func (PySem.W.fnOf name qual params body scope dV kV doc pm an cdv ct), osl⟩)
    (hcd : PySem.W.codeIn K cdv qual = true) (S : FnScope N ps scope) (len : ∀ vs H Q E, sp vs H Q E → vs.length = ps.length)
    (hb : ∀ (A : Around) (outer : List Env) (s : Shared) (H : Hp) (vs : List V) (Q : VK) (E : XK),
      Room k (A.deeper (envOfC qual scope s.heap.objs.size f cdv)) → Calm (A.deeper (envOfC qual scope s.heap.objs.size f cdv)) → sp vs H Q E →
      ∃ t, PSs (cxOf CX P w K mg base N qual scope f cdv A outer s H E) body t ∧ t { nx := fun _ H' => Q .non H', rt := Q } (start N vs) H) :
    FnG P w K mg base CX (k + 1) f (PySem.W.fnOf name qual params body scope dV kV doc pm an cdv ct) ps sp := by
  refine ⟨len, fun A outer s H args us vs Q E hr hg e0 hbi r hsp => ?_⟩
  have kin : K.In s.heap := e0.mod.kin.keeps fun b o e => (e0.bs b o e).1
  have nolim : s.heap.NoLimit := e0.mod.nolimit.keeps fun b o e => (e0.bs b o e).1
  have kinds : ∀ y ∈ ps.zip us, scope.names.lookup y.1 = some .local ∨
      (scope.names.lookup y.1 = some .cell ∧ ((cellsFrom (s.heap.objs.size + 1) scope.names []).lookup y.1).isSome = true) := by
    rintro ⟨n, v⟩ hy
    exact (S.par n (List.of_mem_zip hy).1).imp id fun q => ⟨q, PySem.W.cellsFrom_some _ _ _ (.inl q)⟩
  refine codeAny_call_function hr.depth (kin _ _ lk) rfl S.co S.gen rfl (PySem.W.codeRec_of kin hcd) (hbi _ _ _ _ ?_)
  refine wpAny_newFunctionEnv_cells S.kind kinds fun env he s1 x => ?_
  cases he
  refine ⟨nolim.keeps x.toInCall.keep, codeAny_func ?_⟩
  obtain ⟨t, ht, hq⟩ := hb A outer s H vs Q E (hr.deeper _) hg hsp
  have I0 := inv_start (CX := CX) (E := E) (vs := vs) S hr.hd e0 (len _ _ _ _ hsp) r x
  refine wpAny_mono (ht.run [] s1 (start N vs) H _ I0 hq) (fun fl s' hs => ?_) fun e s' hs => hs
  cases fl with
  | ret u => obtain ⟨v, σ', H', J, rv, q⟩ := hs; exact ⟨v, H', J.os, J.bare, J.base, J.hok, rv, q⟩
  | next => obtain ⟨σ', H', J, q⟩ := hs; exact ⟨.non, H', J.os, J.bare, J.base, J.hok, rfl, q⟩
  | brk => obtain ⟨_, _, _, q⟩ := hs; exact q.elim
  | cont => obtain ⟨_, _, _, q⟩ := hs; exact q.elim
/-- .. of a def of the text from which no error comes -/
theorem funG_ok {x qual : Str} {st : Stmt} {N : List Str} (F : Fun K x qual st f fd) (S : FnScope N ps (defScope st))
    (len : ∀ vs H Q E, sp vs H Q E → vs.length = ps.length)
    (hb : ∀ (cdv : Value) (A : Around) (outer : List Env) (s : Shared) (H : Hp) (vs : List V) (Q : VK) (E : XK),
      Room k (A.deeper (envOfC qual (defScope st) s.heap.objs.size f cdv)) → Calm (A.deeper (envOfC qual (defScope st) s.heap.objs.size f cdv)) → sp vs H Q E →
      ∃ t, PSs (cxOf CX0 P w K mg base N qual (defScope st) f cdv A outer s H E).nox (defBody st) t ∧ t { nx := fun _ H' => Q .non H', rt := Q } (start N vs) H) :
    FnG P w K mg base CX0 (k + 1) f fd ps sp := by
  obtain ⟨oc, od, kV, doc, pm, an, cdv, ct, osl, rfl, lk, hcd⟩ := F.ex
  refine fnG_of lk hcd S len fun A outer s H vs Q E hr hg hsp => ?_
  obtain ⟨t, h, q⟩ := hb cdv A outer s H vs Q E hr hg hsp
  exact ⟨t, h.nox, q⟩
end

section
variable {X : Cx} {CX : CXT} {k : Nat} {f : Addr} {fd : FuncData} {ps : List Str} {sp : Sp} {dvs : List V} {ds : List Value} {E : XK}
  {x : Str} {p pos : Pos} {e : Expr} {es : List Expr} {t : TA}
theorem run_fnG {pins : List (Addr × Obj)} {σ : L2.St} {H : Hp} {s : Shared} {Q : VK} {us : List Value} {vs : List V}
    (F : FnG X.prog X.w X.K X.mg X.base CX k f fd ps sp) (hr : Room k X.A) (hg : Calm X.A) (hb : Binds X.K fd ps ds) (hd : Vals dvs ds) (hx : Passes CX X E)
    (I : Inv X pins σ H s) (r : Vals vs us) (h : sp (vs ++ dvs) H Q E) : wpAny (model X.prog X.w) X.A (call (.ref f) us) (EP X pins σ Q) X.xe s := by
  have r2 : Vals (vs ++ dvs) (us ++ ds) := r.append hd
  have hl : (us ++ ds).length = ps.length := r2.length ▸ F.len _ _ _ _ h
  refine wpAny_call (codeAny_mono (F.go X.A X.stack s H ⟨us, []⟩ (us ++ ds) (vs ++ dvs) Q E hr hg I.env0 (hb s us I.kIn hl) r2 h) ?_)
  rintro (e | fl) s' hq
  · exact hx pins σ H s e s' I hq
  · cases fl with
    | ret u => exact I.after hq
    | next => exact hq.elim
    | brk => exact hq.elim
    | cont => exact hq.elim
/-- f(e, ..), where no repr is under way -/
theorem pe_callG (F : FnG X.prog X.w X.K X.mg X.base CX k f fd ps sp) (hr : Room k X.A) (hc : Calm X.A) (hg : Gl X x) (hm : X.mg x = some (.ref f))
    (hk : PySem.W.keepIn X.K (.ref f) = true) (hb : Binds X.K fd ps ds) (hd : Vals dvs ds) (hx : Passes CX X E) (ha : PA X (e :: es) t)
    (hdb : (x == ("__debug__" : Str)) = false := by decide) (he : starEach (e :: es) X.env = (false, eval e X.env) :: starEach es X.env := by rfl)
    (hpl : (backTo pos (starEach es X.env)).any (·.1) = false := by rfl) : PE X (.Call (.Name x p) (e :: es) [] pos) (tCall sp dvs E t) := by
  refine ⟨fun pins s σ H Q I h => wpAny_Call_Name_kw (ld_glob I hg hm ?_ hdb)⟩
  refine PySem.W.callWith_K (h₀ := X.base) I.ok.mod.kin hk (thn (ha.run pos pins s σ H _ I h) ?_) he hpl
  rintro us s1 ⟨vs, H1, I1, r, q⟩
  exact ⟨I1.kIn, run_fnG F hr hc hb hd hx I1 r q⟩
end

/-! ### repr -/
def rRepr (K : PySem.W.Frag) : List V → Hp → VK → Prop := fun xs H Q => ∃ v d, xs = [v] ∧ Dp K H v d ∧ d.showable = true ∧ d.hasDict = false ∧
  d.depth ≤ 40 ∧ d.shown.length ≤ sizeLine ∧ Q (.str d.shown) H
theorem cr_repr {X : Cx} {k : Nat} (hr : Room k X.A) (hg : Calm X.A) : CallR X (.builtin "repr") (rRepr X.K) := by
  intro pins s σ H xs us Q I r h
  obtain ⟨v, d, rfl, hd, hs, hn, hdp, hz, q⟩ := h
  obtain ⟨u, rfl, ru⟩ := vals1 r
  obtain ⟨as, rd⟩ := Dp.reads I d v u hd ru
  have back : ∀ h' tk t, (∀ b o, s.heap.get? b = some o → h'.get? b = some o) → EP X pins σ Q (.str d.shown t) { s with heap := h', toks := tk } :=
    fun h' tk t hk => ⟨.str d.shown, H, I.kept hk, ⟨t, rfl⟩, q⟩
  have hu := hr.units
  cases hd with
  | lst _ _ =>
    cases ru
    exact repr_of_reads' rd hs (PyData.noDict_hsm hn) hg (by omega) (fun _ _ e => e) (fun h' t tk hk => back h' tk t hk) hz
  | tup _ _ =>
    cases ru
    exact repr_of_reads' rd hs (PyData.noDict_hsm hn) hg (by omega) (fun _ _ e => e) (fun h' t tk hk => back h' tk t hk) hz
  | non =>
    cases ru
    exact PySem.P.repr_of_none (back _ _ _ fun _ _ e => e)
  | bl b =>
    cases ru
    exact PySem.P.repr_of_bool (back _ _ _ fun _ _ e => e)
  | int i =>
    obtain ⟨t, rfl⟩ := ru
    exact PySem.P.repr_of_int (of_decide_eq_true hs) (back _ _ _ fun _ _ e => e)
  | str z =>
    obtain ⟨t, rfl⟩ := ru
    exact PySem.P.repr_of_str (back _ _ _ fun _ _ e => e) hz

/-! ### == by an own __eq__ -/
/-- what the compare by an own method asks: the left is an instance of C whose class says == by the def of the promise sp; the right one's type is told -/
def rOwn (K : PySem.W.Frag) (C : Addr) (sp : Sp) (E : XK) : R2 := fun x y H Q => ∃ a dx fs ty, x = .ref a ∧ H a = some (.ins C dx fs) ∧
  TyX K H y ty ∧ PySem.W.notFirst K C ty = true ∧ sp [x, y] H (fun v H' => (∃ b, v = .bl b) ∧ Q v H') E
theorem op_own {X : Cx} {CX : CXT} {k : Nat} {C f : Addr} {fd : FuncData} {ps : List Str} {sp : Sp} {E : XK} {op : CmpOp} {nm : Str} (hop : (cmpInfo op).2.1 = nm)
    (F : FnOk X.prog X.w X.K X.mg X.base CX k f fd ps sp)
    (hs : PySem.W.findIn X.K (.ref C) nm = some (some (.ref f))) (hf : PySem.W.isFn X.K (.ref f) = true) (hb : Binds X.K fd ps []) (hr : Room k X.A)
    (hx : Passes CX X E) (hcmp : ∀ u v, compareOp op u v = richCompare op u v) : OpR X (compareOp op) (rOwn X.K C sp E) := by
  intro pins s σ H x y v u Q I rx ry h
  obtain ⟨a, dx, fs, ty, rfl, ha, hty, hn, hsp⟩ := h
  cases rx
  obtain ⟨mA, J, _⟩ := ins_get I.hok ha
  obtain ⟨od, J, _⟩ := J.look
  obtain ⟨m, hF⟩ := I.fr
  obtain ⟨Pz, Z, pz, _⟩ := kit_of I ry hty
  rw [hcmp]
  refine PySem.W.cmp_K (op := op) (tb := ty) hr.units0 hF I.ok.mod.kin J (Z.ty _ _ I.kIn pz) hn (hop ▸ hs) hf ?_
  have r2 : Vals [V.ref a, y] [Value.ref a, u] := .cons rfl (.cons ry .nil)
  refine wpAny_mono (run_fn (dvs := []) (ds := []) (vs := [V.ref a, y]) F hr hb .nil hx I r2 hsp) ?_ fun _ _ z => z
  intro w s' hw
  obtain ⟨z, H', I', rz, hz, q⟩ := hw
  cases z with
  | bl b => cases rz; exact ⟨.bl b, H', I', rfl, q⟩
  | _ => exact hz.elim fun b hb => by cases hb

section
variable {prog : Program} {w : World} {A : Around} {E : Value → Shared → Prop} {s : Shared}
/-- a built-in called with keywords, that goes on by a loop of its own -/
theorem callTree_kw {id : String} {b : Builtin} {args : List Value} {kw : List (Str × Value)} {Q : Value → Shared → Prop} (hk : builtinKind id = none)
    (hp : plainId id = true) (hb : entryFor table id = some b) (ha : argsOk id ⟨args, kw⟩)
    (hc : wpAny (model prog w) A.in1 (b ⟨args, kw⟩) (fun fin s' => match fin with
      | .done f => (match (Except.ok f : Result) with | .ok (.ret v) => Q v s' | .ok _ => False | .error e => E e s')
      | .again c' => c'.quiet = true ∧
          codeAny (model prog w) A c' (fun r s' => match r with | .ok (.ret v) => Q v s' | .ok _ => False | .error e => E e s') s') E s) :
    wpAny (model prog w) A (call (.builtin id) args kw) Q E s := by
  refine wpAny_call (codeAny_call_builtin hp hb ?_)
  simp only [checkBuiltinCall, hk]
  cases hs : Manifest.signature? id with
  | none => exact wpAny_pure hc
  | some sg =>
    simp only [argsOk, hs] at ha
    have ok : Bind.checkArgs id sg ⟨args, kw⟩ = pure () := ha
    show wpAny _ A.in1 (Bind.checkArgs id sg ⟨args, kw⟩) _ _ s
    rw [ok]
    exact wpAny_pure hc
end

section
variable {prog : Program} {w : World} {A : Around} {R : Result → Shared → Prop} {I : Addr} {fp wr : List Addr} {n : Nat}
  {P : Nat → Value → Prop} {Sx : Nat → Heap → Prop}
/-- max's loop, whatever keywords go with it -/
theorem max_goes (W : Walks prog w A.in1 I fp wr n P Sx) (bt : Nat → Nat → Bool) (hc : CmpOf prog w A.in1 .Gt P bt) (S : Addr) (hS0 : S ∉ fp)
    (kw : List (Str × Value)) : ∀ (k j : Nat) (s : Shared) (best : Value) (c : Nat), n - (j + 1) = k → j + 1 ≤ n → Sx (j + 1) s.heap →
    P (argBest bt j) best → s.heap.get? S = some { cls := .type "list", dict := none, data := .seq #[best, best] c, slots := #[] } →
    (∀ v h' tk, P (argBest bt (n - 1)) v → (∀ b o, b ∉ wr → b ≠ S → s.heap.get? b = some o → h'.get? b = some o) →
      R (.ok (.ret v)) { s with heap := h', toks := tk }) →
    codeAny (model prog w) A (.builtin "max.loop" ⟨[.ref I, .none, .ref S], kw⟩) R s := by
  have nw : S ∉ wr := fun h => hS0 (W.sub _ h)
  have nm : (toString "max" ++ toString ".loop" : String) = "max.loop" := by decide
  intro k
  induction k with
  | zero =>
    intro j s best c hk hj st pb hS hR
    have en : j + 1 = n := by omega
    refine codeAny_builtin F.entry_max_loop ?_
    rw [Around.under_plainId F.plain_max_loop _]
    show wpAny _ A.in1 (seqItems? (.ref S) >>= _) _ _ s
    refine wpAny_bind (wpAny_seqItems hS rfl ?_)
    show wpAny _ A.in1 (tryCatch (pyNext (.ref I)) _ >>= _) _ _ s
    refine wpAny_bind (wpAny_tryCatch (W.done s _ _ (en ▸ st) fun h' tk kp => ?_))
    have hS2 := kp S _ nw hS
    show wpAny _ A.in1 (updateSeq S (fun _ => #[]) >>= _) _ _ _
    refine wpAny_bind (wpAny_updateSeq hS2 rfl (wpAny_bind (wpAny_letGo (wpAny_pure ?_))))
    exact hR best _ tk (en ▸ pb) fun b o b1 b2 e => (Heap.get?_update_other _ _ (Ne.symm b2)).trans (kp b o b1 e)
  | succ k ih =>
    intro j s best c hk hj st pb hS hR
    have lt : j + 1 < n := by omega
    refine codeAny_builtin F.entry_max_loop ?_
    rw [Around.under_plainId F.plain_max_loop _]
    show wpAny _ A.in1 (seqItems? (.ref S) >>= _) _ _ s
    refine wpAny_bind (wpAny_seqItems hS rfl ?_)
    show wpAny _ A.in1 (tryCatch (pyNext (.ref I)) _ >>= _) _ _ s
    refine wpAny_bind (wpAny_tryCatch (W.item (j + 1) s _ _ lt st fun v h' tk pv st2 kp => ?_))
    have hS2 := kp S _ nw hS
    show wpAny _ A.in1 (tryCatch (holding [v, v] (richCompare .Gt v best >>= _)) _ >>= _) _ _ _
    refine wpAny_bind (wpAny_tryCatch (wpAny_holding (wpAny_bind (hc (j + 1) (argBest bt j) v best _ _ _ pv pb ?_))))
    refine wpAny_bind (wpAny_holding (wpAny_truthy_bool (wpAny_bind (wpAny_letGo (wpAny_pure ?_)))))
    cases hb : bt (j + 1) (argBest bt j) with
    | true =>
      simp only [if_true]
      refine wpAny_bind (wpAny_updateSeq hS2 rfl (wpAny_bind (wpAny_letGo ?_)))
      rw [nm]
      have e1 : P (argBest bt (j + 1)) v := by simp only [argBest, hb, if_true]; exact pv
      have st3 : Sx (j + 1 + 1) (h'.update S (Obj.mapSeq fun _ => #[v, v])) :=
        W.frame _ _ _ st2 fun b hbf o e => (Heap.get?_update_other _ _ (fun h : S = b => hS0 (h ▸ hbf))).trans e
      refine wpAny_pure ⟨plainId_quiet F.plain_max_loop _, ih (j + 1) _ v _ (by omega) lt st3 e1 (Heap.get?_update_self _ hS2 rfl) ?_⟩
      intro v' h'' tk'' p' kp'
      exact hR v' h'' tk'' p' fun b o b1 b2 e => kp' b o b1 b2 ((Heap.get?_update_other _ _ (Ne.symm b2)).trans (kp b o b1 e))
    | false =>
      simp only [Bool.false_eq_true, if_false]
      refine wpAny_bind (wpAny_letGo ?_)
      rw [nm]
      have e1 : P (argBest bt (j + 1)) best := by simp only [argBest, hb, Bool.false_eq_true, if_false]; exact pb
      refine wpAny_pure ⟨plainId_quiet F.plain_max_loop _, ih (j + 1) _ best c (by omega) lt st2 e1 hS2 ?_⟩
      intro v' h'' tk'' p' kp'
      exact hR v' h'' tk'' p' fun b o b1 b2 e => kp' b o b1 b2 (kp b o b1 e)
end
section
variable {prog : Program} {w : World} {A : Around} {E : Value → Shared → Prop} {s : Shared}
theorem args_maxD (a d : Value) : argsOk "max" ⟨[a], [(Str.ofString "default", d)]⟩ := by unfold argsOk; kernel_rfl
/-- max(xs, default=d) of a list of ints -/
theorem max_dflt {l : Addr} {its : List Value} {ns : List Int} {d : Value} {Q : Value → Shared → Prop} (hh : A.handled = none)
    (hl : s.heap.IsList l its.toArray) (hi : IntsAre its ns)
    (h0 : ns = [] → ∀ h' tk, (∀ b o, s.heap.get? b = some o → h'.get? b = some o) → Q d { s with heap := h', toks := tk })
    (h1 : ∀ h' tk m t, (∀ b o, s.heap.get? b = some o → h'.get? b = some o) → m ∈ ns → (∀ y ∈ ns, y ≤ m) → Q (.int m t) { s with heap := h', toks := tk }) :
    wpAny (model prog w) A (call (.builtin "max") [.ref l] [(Str.ofString "default", d)]) Q E s := by
  have nm : (toString "max" ++ toString ".loop" : String) = "max.loop" := by decide
  obtain ⟨xs, e⟩ := hi.allInts.items
  have hn : numsOf (intItems xs).toList = ns := e ▸ hi.numsOf
  rw [nums_intItems] at hn
  subst hn
  rw [e] at hl
  refine callTree_kw F.kind_max F.plain_max F.entry_max (args_maxD _ _) ?_
  have eb : Builtin.Builtins.bindParams "max" ["key", "default"] 0 ⟨[], [(Str.ofString "default", d)]⟩ = pure [none, some d] := by kernel_rfl
  show wpAny _ A.in1 (Builtin.Builtins.bindParams "max" ["key", "default"] 0 ⟨[], [(Str.ofString "default", d)]⟩ >>= _) _ _ s
  refine wpAny_bind (wpAny_of_eq eb ?_)
  refine wpAny_bind (wpAny_pure ?_)
  refine wpAny_bind (iter_intList hl fun s₂ e2 st hfp hlI => ?_)
  subst e2
  refine wpAny_bind (wpAny_newObj_type ?_)
  have W := Walks.list (prog := prog) (w := w) (A := A.in1) hh _ l hlI (intItems xs)
  have hf : (s.heap.push { cls := .type "list_iterator", data := .fields #[.ref l, .int 0 0] }).objs.size ∉ [s.heap.objs.size, l] :=
    fun hm => Nat.lt_irrefl _ (hfp _ hm)
  rw [nm]
  generalize hZ : (s.heap.push { cls := .type "list_iterator", data := .fields #[.ref l, .int 0 0] }).objs.size = Z at hf ⊢
  refine wpAny_pure ⟨plainId_quiet F.plain_max_loop _, ?_⟩
  have st0 := W.frame _ _ _ st fun b _ o e => Heap.get?_push_of_some { cls := .type "list", data := .seq #[] } e
  have nw : Z ∉ [s.heap.objs.size] := fun h => hf (W.sub _ h)
  have hS : ((s.heap.push { cls := .type "list_iterator", data := .fields #[.ref l, .int 0 0] }).push { cls := .type "list", data := .seq #[] }).get?
      (s.heap.push { cls := .type "list_iterator", data := .fields #[.ref l, .int 0 0] }).objs.size = some { cls := .type "list", data := .seq #[] } := Heap.get?_push_size _ rfl
  rw [hZ] at hS
  have keep : ∀ b o, s.heap.get? b = some o → b ∉ [s.heap.objs.size] ∧ b ≠ Z := fun b o q => by
    have lb := Heap.lt_size q
    have sz : Z = s.heap.objs.size + 1 := by rw [← hZ, Heap.size_push]
    refine ⟨fun h => Nat.ne_of_lt lb (List.mem_singleton.mp h), ?_⟩
    rw [sz]
    exact Nat.ne_of_lt (Nat.lt_succ_of_lt lb)
  refine codeAny_builtin F.entry_max_loop ?_
  rw [Around.under_plainId F.plain_max_loop _]
  show wpAny _ A.in1 (seqItems? (.ref Z) >>= _) _ _ _
  refine wpAny_bind (wpAny_seqItems hS rfl ?_)
  show wpAny _ A.in1 (tryCatch (pyNext (.ref _)) _ >>= _) _ _ _
  by_cases hz : 0 < (intItems xs).size
  · refine wpAny_bind (wpAny_tryCatch (W.item 0 _ _ _ hz st0 fun v h' tk pv st2 kp => ?_))
    have hS2 := kp Z _ nw hS
    show wpAny _ A.in1 (updateSeq Z (fun _ => #[v, v]) >>= _) _ _ _
    refine wpAny_bind (wpAny_updateSeq hS2 rfl ?_)
    rw [nm]
    have st3 : h'.IsListIter s.heap.objs.size l (0 + 1) ∧ h'.IsList l (intItems xs) := st2
    refine wpAny_pure ⟨plainId_quiet F.plain_max_loop _, max_goes W _ (CmpOf.ints_gt (numAt xs) fun _ _ => intItems_at) Z hf _ _ 0 _ v _ rfl hz
      (W.frame _ _ _ st3 fun b hbf o e => (Heap.get?_update_other _ _ (fun h : Z = b => hf (h ▸ hbf))).trans e) pv (Heap.get?_update_self _ hS2 rfl) ?_⟩
    intro v' h'' tk'' p' kp'
    obtain ⟨t, rfl⟩ := intItems_at p'
    have hsz : 0 < xs.size := by simpa [intItems] using hz
    have hsz2 : (intItems xs).size - 1 = xs.size - 1 := by simp [intItems]
    obtain ⟨b1, b2⟩ := argBest_gt (numAt xs) (xs.size - 1)
    rw [hsz2] at p' ⊢
    refine h1 h'' tk'' _ t (fun b o q => ?_) ?_ ?_
    · obtain ⟨q1, q2⟩ := keep b o q
      exact kp' b o q1 q2 ((Heap.get?_update_other _ _ (Ne.symm q2)).trans (kp b o q1 (Heap.get?_push_of_some _ (Heap.get?_push_of_some _ q))))
    · rw [numAt_eq]
      exact PySem.getD_mem (by rw [List.length_map, Array.length_toList]; omega)
    · intro y hy
      obtain ⟨j, hj, rfl⟩ := mem_getD hy
      rw [List.length_map, Array.length_toList] at hj
      rw [← numAt_eq]
      exact b2 j (by omega)
  · have z0 : (intItems xs).size = 0 := by omega
    have z1 : xs.size = 0 := by simpa [intItems] using z0
    refine wpAny_bind (wpAny_tryCatch (W.done _ _ _ (by rw [z0]; exact st0) fun h' tk kp => ?_))
    show wpAny _ A.in1 (rule _ >>= _) _ _ _
    refine wpAny_bind (wpAny_rule ?_)
    refine wpAny_pure ?_
    refine h0 ?_ h' tk fun b o q => kp b o (keep b o q).1 (Heap.get?_push_of_some _ (Heap.get?_push_of_some _ q))
    have z2 : xs.toList = [] := by
      apply List.eq_nil_of_length_eq_zero
      rw [Array.length_toList]; exact z1
    rw [z2]; rfl
end
def rMaxD (K : PySem.W.Frag) : List V → List V → Hp → VK → Prop := fun vs zs H Q => ∃ (a : Addr) (ns : List Int) (d : V), vs = [V.ref a] ∧ zs = [d] ∧
  SqL K H a (ns.map V.int) ∧ (ns = [] → Q d H) ∧ ∀ m, m ∈ ns → (∀ y ∈ ns, y ≤ m) → Q (.int m) H
theorem cr_maxD {X : Cx} (hc : X.calm = true) : CallRK X (.builtin "max") [Str.ofString "default"] (rMaxD X.K) := by
  intro pins s σ H vs zs us ws Q I r rz h
  obtain ⟨a, ns, d, rfl, rfl, hs, q0, q1⟩ := h
  obtain ⟨its, rv, hl, _⟩ := I.list hs
  obtain ⟨u, rfl, ru⟩ := vals1 rz
  rw [Vals.ref1 r]
  refine max_dflt (I.ok.hd hc) hl.isList rv.ints (fun e h' tk hk => ?_) fun h' tk m t hk h1 h2 => ?_
  · exact ⟨d, H, I.kept hk, ru, q0 e⟩
  · exact ⟨.int m, H, I.kept hk, ⟨t, rfl⟩, q1 m h1 h2⟩

section
variable {prog : Program} {w : World} {A : Around} {R : Result → Shared → Prop} {I : Addr} {fp wr : List Addr} {n : Nat}
  {P : Nat → Value → Prop} {Sx : Nat → Heap → Prop}
/-- min's loop, whatever keywords go with it -/
theorem min_goes (W : Walks prog w A.in1 I fp wr n P Sx) (bt : Nat → Nat → Bool) (hc : CmpOf prog w A.in1 .Lt P bt) (S : Addr) (hS0 : S ∉ fp)
    (kw : List (Str × Value)) : ∀ (k j : Nat) (s : Shared) (best : Value) (c : Nat), n - (j + 1) = k → j + 1 ≤ n → Sx (j + 1) s.heap →
    P (argBest bt j) best → s.heap.get? S = some { cls := .type "list", dict := none, data := .seq #[best, best] c, slots := #[] } →
    (∀ v h' tk, P (argBest bt (n - 1)) v → (∀ b o, b ∉ wr → b ≠ S → s.heap.get? b = some o → h'.get? b = some o) →
      R (.ok (.ret v)) { s with heap := h', toks := tk }) →
    codeAny (model prog w) A (.builtin "min.loop" ⟨[.ref I, .none, .ref S], kw⟩) R s := by
  have nw : S ∉ wr := fun h => hS0 (W.sub _ h)
  have nm : (toString "min" ++ toString ".loop" : String) = "min.loop" := by decide
  intro k
  induction k with
  | zero =>
    intro j s best c hk hj st pb hS hR
    have en : j + 1 = n := by omega
    refine codeAny_builtin F.entry_min_loop ?_
    rw [Around.under_plainId F.plain_min_loop _]
    show wpAny _ A.in1 (seqItems? (.ref S) >>= _) _ _ s
    refine wpAny_bind (wpAny_seqItems hS rfl ?_)
    show wpAny _ A.in1 (tryCatch (pyNext (.ref I)) _ >>= _) _ _ s
    refine wpAny_bind (wpAny_tryCatch (W.done s _ _ (en ▸ st) fun h' tk kp => ?_))
    have hS2 := kp S _ nw hS
    show wpAny _ A.in1 (updateSeq S (fun _ => #[]) >>= _) _ _ _
    refine wpAny_bind (wpAny_updateSeq hS2 rfl (wpAny_bind (wpAny_letGo (wpAny_pure ?_))))
    exact hR best _ tk (en ▸ pb) fun b o b1 b2 e => (Heap.get?_update_other _ _ (Ne.symm b2)).trans (kp b o b1 e)
  | succ k ih =>
    intro j s best c hk hj st pb hS hR
    have lt : j + 1 < n := by omega
    refine codeAny_builtin F.entry_min_loop ?_
    rw [Around.under_plainId F.plain_min_loop _]
    show wpAny _ A.in1 (seqItems? (.ref S) >>= _) _ _ s
    refine wpAny_bind (wpAny_seqItems hS rfl ?_)
    show wpAny _ A.in1 (tryCatch (pyNext (.ref I)) _ >>= _) _ _ s
    refine wpAny_bind (wpAny_tryCatch (W.item (j + 1) s _ _ lt st fun v h' tk pv st2 kp => ?_))
    have hS2 := kp S _ nw hS
    show wpAny _ A.in1 (tryCatch (holding [v, v] (richCompare .Lt v best >>= _)) _ >>= _) _ _ _
    refine wpAny_bind (wpAny_tryCatch (wpAny_holding (wpAny_bind (hc (j + 1) (argBest bt j) v best _ _ _ pv pb ?_))))
    refine wpAny_bind (wpAny_holding (wpAny_truthy_bool (wpAny_bind (wpAny_letGo (wpAny_pure ?_)))))
    cases hb : bt (j + 1) (argBest bt j) with
    | true =>
      simp only [if_true]
      refine wpAny_bind (wpAny_updateSeq hS2 rfl (wpAny_bind (wpAny_letGo ?_)))
      rw [nm]
      have e1 : P (argBest bt (j + 1)) v := by simp only [argBest, hb, if_true]; exact pv
      have st3 : Sx (j + 1 + 1) (h'.update S (Obj.mapSeq fun _ => #[v, v])) :=
        W.frame _ _ _ st2 fun b hbf o e => (Heap.get?_update_other _ _ (fun h : S = b => hS0 (h ▸ hbf))).trans e
      refine wpAny_pure ⟨plainId_quiet F.plain_min_loop _, ih (j + 1) _ v _ (by omega) lt st3 e1 (Heap.get?_update_self _ hS2 rfl) ?_⟩
      intro v' h'' tk'' p' kp'
      exact hR v' h'' tk'' p' fun b o b1 b2 e => kp' b o b1 b2 ((Heap.get?_update_other _ _ (Ne.symm b2)).trans (kp b o b1 e))
    | false =>
      simp only [Bool.false_eq_true, if_false]
      refine wpAny_bind (wpAny_letGo ?_)
      rw [nm]
      have e1 : P (argBest bt (j + 1)) best := by simp only [argBest, hb, Bool.false_eq_true, if_false]; exact pb
      refine wpAny_pure ⟨plainId_quiet F.plain_min_loop _, ih (j + 1) _ best c (by omega) lt st2 e1 hS2 ?_⟩
      intro v' h'' tk'' p' kp'
      exact hR v' h'' tk'' p' fun b o b1 b2 e => kp' b o b1 b2 (kp b o b1 e)
end
section
variable {prog : Program} {w : World} {A : Around} {E : Value → Shared → Prop} {s : Shared}
theorem args_minD (a d : Value) : argsOk "min" ⟨[a], [(Str.ofString "default", d)]⟩ := by unfold argsOk; kernel_rfl
/-- min(xs, default=d) of a list of ints -/
theorem min_dflt {l : Addr} {its : List Value} {ns : List Int} {d : Value} {Q : Value → Shared → Prop} (hh : A.handled = none)
    (hl : s.heap.IsList l its.toArray) (hi : IntsAre its ns)
    (h0 : ns = [] → ∀ h' tk, (∀ b o, s.heap.get? b = some o → h'.get? b = some o) → Q d { s with heap := h', toks := tk })
    (h1 : ∀ h' tk m t, (∀ b o, s.heap.get? b = some o → h'.get? b = some o) → m ∈ ns → (∀ y ∈ ns, m ≤ y) → Q (.int m t) { s with heap := h', toks := tk }) :
    wpAny (model prog w) A (call (.builtin "min") [.ref l] [(Str.ofString "default", d)]) Q E s := by
  have nm : (toString "min" ++ toString ".loop" : String) = "min.loop" := by decide
  obtain ⟨xs, e⟩ := hi.allInts.items
  have hn : numsOf (intItems xs).toList = ns := e ▸ hi.numsOf
  rw [nums_intItems] at hn
  subst hn
  rw [e] at hl
  refine callTree_kw F.kind_min F.plain_min F.entry_min (args_minD _ _) ?_
  have eb : Builtin.Builtins.bindParams "min" ["key", "default"] 0 ⟨[], [(Str.ofString "default", d)]⟩ = pure [none, some d] := by kernel_rfl
  show wpAny _ A.in1 (Builtin.Builtins.bindParams "min" ["key", "default"] 0 ⟨[], [(Str.ofString "default", d)]⟩ >>= _) _ _ s
  refine wpAny_bind (wpAny_of_eq eb ?_)
  refine wpAny_bind (wpAny_pure ?_)
  refine wpAny_bind (iter_intList hl fun s₂ e2 st hfp hlI => ?_)
  subst e2
  refine wpAny_bind (wpAny_newObj_type ?_)
  have W := Walks.list (prog := prog) (w := w) (A := A.in1) hh _ l hlI (intItems xs)
  have hf : (s.heap.push { cls := .type "list_iterator", data := .fields #[.ref l, .int 0 0] }).objs.size ∉ [s.heap.objs.size, l] :=
    fun hm => Nat.lt_irrefl _ (hfp _ hm)
  rw [nm]
  generalize hZ : (s.heap.push { cls := .type "list_iterator", data := .fields #[.ref l, .int 0 0] }).objs.size = Z at hf ⊢
  refine wpAny_pure ⟨plainId_quiet F.plain_min_loop _, ?_⟩
  have st0 := W.frame _ _ _ st fun b _ o e => Heap.get?_push_of_some { cls := .type "list", data := .seq #[] } e
  have nw : Z ∉ [s.heap.objs.size] := fun h => hf (W.sub _ h)
  have hS : ((s.heap.push { cls := .type "list_iterator", data := .fields #[.ref l, .int 0 0] }).push { cls := .type "list", data := .seq #[] }).get?
      (s.heap.push { cls := .type "list_iterator", data := .fields #[.ref l, .int 0 0] }).objs.size = some { cls := .type "list", data := .seq #[] } := Heap.get?_push_size _ rfl
  rw [hZ] at hS
  have keep : ∀ b o, s.heap.get? b = some o → b ∉ [s.heap.objs.size] ∧ b ≠ Z := fun b o q => by
    have lb := Heap.lt_size q
    have sz : Z = s.heap.objs.size + 1 := by rw [← hZ, Heap.size_push]
    refine ⟨fun h => Nat.ne_of_lt lb (List.mem_singleton.mp h), ?_⟩
    rw [sz]
    exact Nat.ne_of_lt (Nat.lt_succ_of_lt lb)
  refine codeAny_builtin F.entry_min_loop ?_
  rw [Around.under_plainId F.plain_min_loop _]
  show wpAny _ A.in1 (seqItems? (.ref Z) >>= _) _ _ _
  refine wpAny_bind (wpAny_seqItems hS rfl ?_)
  show wpAny _ A.in1 (tryCatch (pyNext (.ref _)) _ >>= _) _ _ _
  by_cases hz : 0 < (intItems xs).size
  · refine wpAny_bind (wpAny_tryCatch (W.item 0 _ _ _ hz st0 fun v h' tk pv st2 kp => ?_))
    have hS2 := kp Z _ nw hS
    show wpAny _ A.in1 (updateSeq Z (fun _ => #[v, v]) >>= _) _ _ _
    refine wpAny_bind (wpAny_updateSeq hS2 rfl ?_)
    rw [nm]
    have st3 : h'.IsListIter s.heap.objs.size l (0 + 1) ∧ h'.IsList l (intItems xs) := st2
    refine wpAny_pure ⟨plainId_quiet F.plain_min_loop _, min_goes W _ (CmpOf.ints_lt (numAt xs) fun _ _ => intItems_at) Z hf _ _ 0 _ v _ rfl hz
      (W.frame _ _ _ st3 fun b hbf o e => (Heap.get?_update_other _ _ (fun h : Z = b => hf (h ▸ hbf))).trans e) pv (Heap.get?_update_self _ hS2 rfl) ?_⟩
    intro v' h'' tk'' p' kp'
    obtain ⟨t, rfl⟩ := intItems_at p'
    have hsz : 0 < xs.size := by simpa [intItems] using hz
    have hsz2 : (intItems xs).size - 1 = xs.size - 1 := by simp [intItems]
    obtain ⟨b1, b2⟩ := argBest_lt (numAt xs) (xs.size - 1)
    rw [hsz2] at p' ⊢
    refine h1 h'' tk'' _ t (fun b o q => ?_) ?_ ?_
    · obtain ⟨q1, q2⟩ := keep b o q
      exact kp' b o q1 q2 ((Heap.get?_update_other _ _ (Ne.symm q2)).trans (kp b o q1 (Heap.get?_push_of_some _ (Heap.get?_push_of_some _ q))))
    · rw [numAt_eq]
      exact PySem.getD_mem (by rw [List.length_map, Array.length_toList]; omega)
    · intro y hy
      obtain ⟨j, hj, rfl⟩ := mem_getD hy
      rw [List.length_map, Array.length_toList] at hj
      rw [← numAt_eq]
      exact b2 j (by omega)
  · have z0 : (intItems xs).size = 0 := by omega
    have z1 : xs.size = 0 := by simpa [intItems] using z0
    refine wpAny_bind (wpAny_tryCatch (W.done _ _ _ (by rw [z0]; exact st0) fun h' tk kp => ?_))
    show wpAny _ A.in1 (rule _ >>= _) _ _ _
    refine wpAny_bind (wpAny_rule ?_)
    refine wpAny_pure ?_
    refine h0 ?_ h' tk fun b o q => kp b o (keep b o q).1 (Heap.get?_push_of_some _ (Heap.get?_push_of_some _ q))
    have z2 : xs.toList = [] := by
      apply List.eq_nil_of_length_eq_zero
      rw [Array.length_toList]; exact z1
    rw [z2]; rfl
end
def rMinD (K : PySem.W.Frag) : List V → List V → Hp → VK → Prop := fun vs zs H Q => ∃ (a : Addr) (ns : List Int) (d : V), vs = [V.ref a] ∧ zs = [d] ∧
  SqL K H a (ns.map V.int) ∧ (ns = [] → Q d H) ∧ ∀ m, m ∈ ns → (∀ y ∈ ns, m ≤ y) → Q (.int m) H
theorem cr_minD {X : Cx} (hc : X.calm = true) : CallRK X (.builtin "min") [Str.ofString "default"] (rMinD X.K) := by
  intro pins s σ H vs zs us ws Q I r rz h
  obtain ⟨a, ns, d, rfl, rfl, hs, q0, q1⟩ := h
  obtain ⟨its, rv, hl, _⟩ := I.list hs
  obtain ⟨u, rfl, ru⟩ := vals1 rz
  rw [Vals.ref1 r]
  refine min_dflt (I.ok.hd hc) hl.isList rv.ints (fun e h' tk hk => ?_) fun h' tk m t hk h1 h2 => ?_
  · exact ⟨d, H, I.kept hk, ru, q0 e⟩
  · exact ⟨.int m, H, I.kept hk, ⟨t, rfl⟩, q1 m h1 h2⟩

/-! ### sum(xs, start=0) -/
section
variable {prog : Program} {w : World} {A : Around} {E : Value → Shared → Prop} {s : Shared}
theorem args_sumS (a d : Value) : argsOk "sum" ⟨[a], [(Str.ofString "start", d)]⟩ := by unfold argsOk; kernel_rfl
theorem sum_start {l : Addr} {its : List Value} {ns : List Int} {t0 : Tok} {Q : Value → Shared → Prop} (hh : A.handled = none)
    (hl : s.heap.IsList l its.toArray) (hi : IntsAre its ns)
    (h : ∀ h' tk t', (∀ b o, s.heap.get? b = some o → h'.get? b = some o) → Q (.int ns.sum t') { s with heap := h', toks := tk }) :
    wpAny (model prog w) A (call (.builtin "sum") [.ref l] [(Str.ofString "start", .int 0 t0)]) Q E s := by
  obtain ⟨xs, e⟩ := hi.allInts.items
  have hn : numsOf (intItems xs).toList = ns := e ▸ hi.numsOf
  rw [nums_intItems] at hn
  rw [e] at hl
  refine callTree_kw F.kind_sum F.plain_sum F.entry_sum (args_sumS _ _) ?_
  unfold Builtin.«sum»
  simp only [List.length_cons, List.length_nil]
  rw [if_neg (by decide)]
  have eb : Builtin.Builtins.bindParams "sum" ["start"] 0 ⟨[], [(Str.ofString "start", .int 0 t0)]⟩ = pure [some (.int 0 t0)] := by kernel_rfl
  refine wpAny_bind (wpAny_of_eq eb ?_)
  refine wpAny_bind (iter_intList hl fun s₂ e2 st hfp hlI => ?_)
  subst e2
  have W := Walks.list (prog := prog) (w := w) (A := A.in1) hh _ l hlI (intItems xs)
  refine wpAny_bind (wpAny_rule ?_)
  refine wpAny_bind (wpAny_mkInt (wpAny_bind (wpAny_pure ?_)))
  simp only [List.forIn_cons, List.forIn_nil]
  refine wpAny_bind (wpAny_bind (wpAny_bind (wpAny_isInstance (T := "int") (b := false) (typeIs_int _ _ _) PySem.sub_int_str ?_)))
  simp only [Bool.false_eq_true, if_false]
  refine wpAny_pure (wpAny_bind (wpAny_bind (wpAny_isInstance (T := "int") (b := false) (typeIs_int _ _ _) PySem.sub_int_bytes ?_)))
  simp only [Bool.false_eq_true, if_false]
  refine wpAny_pure (wpAny_bind (wpAny_bind (wpAny_isInstance (T := "int") (b := false) (typeIs_int _ _ _) PySem.sub_int_bytearray ?_)))
  simp only [Bool.false_eq_true, if_false]
  refine wpAny_pure (wpAny_pure ?_)
  refine wpAny_bind (wpAny_newObj_type ?_)
  refine wpAny_pure ⟨plainId_quiet F.plain_sum_loop _, codeAny_sum_loopG W (numAt xs) (fun _ _ => intItems_at) _ (fun hm => Nat.lt_irrefl _ (hfp _ hm)) _ 0 _ _ 0 0
    (Or.inl rfl) rfl (Nat.zero_le _) (W.frame _ _ _ st fun b _ o e => Heap.get?_push_of_some _ e) (Heap.get?_push_size _ rfl) fun h' tk t' hk => ?_⟩
  have q := h h' tk t' fun b o e => hk b o (fun hm => Nat.ne_of_lt (Heap.lt_size e) (List.mem_singleton.mp hm)) (by
      show b ≠ (s.heap.push _).objs.size
      rw [Heap.size_push]
      exact Nat.ne_of_lt (Nat.lt_succ_of_lt (Heap.lt_size e))) (Heap.get?_push_of_some _ (Heap.get?_push_of_some _ e))
  have e3 : (intItems xs).size = xs.size := by simp [intItems]
  rw [e3, preSum_eq, List.take_of_length_le (by simp), hn]
  exact q
end
def rSumS (K : PySem.W.Frag) : List V → List V → Hp → VK → Prop := fun vs zs H Q => ∃ (a : Addr) (ns : List Int), vs = [V.ref a] ∧ zs = [.int 0] ∧
  SqL K H a (ns.map V.int) ∧ Q (.int ns.sum) H
theorem cr_sumS {X : Cx} (hc : X.calm = true) : CallRK X (.builtin "sum") [Str.ofString "start"] (rSumS X.K) := by
  intro pins s σ H vs zs us ws Q I r rz h
  obtain ⟨a, ns, rfl, rfl, hs, q⟩ := h
  obtain ⟨its, rv, hl, _⟩ := I.list hs
  obtain ⟨u, rfl, t0, rfl⟩ := vals1 rz
  rw [Vals.ref1 r]
  exact sum_start (I.ok.hd hc) hl.isList rv.ints fun h' tk t' hk => ⟨.int _, H, I.kept hk, ⟨_, rfl⟩, q⟩
end Sil
set_option Elab.async false
set_option linter.all false
set_option maxRecDepth 100000
set_option maxHeartbeats 1000000
/-! P2: the end of a law whose def runs where no repr is under way. -/
namespace Sil
open PySem L2 PySem.Spec PyProof.Rows
section
variable {P : Program} {w : World} {K : PySem.W.Frag} {mg mb : Str → Option Value} {k : Nat} {fa a : Addr} {fd : FuncData} {x : Str} {sp : Sp}
  {s₁ : Shared} {vs : List Value} {ns : List Int}
/-- the law is called over an abstract heap H in which at most the script is tracked -/
theorem law_overH {H : Hp} (KX : K.In s₁.heap) (hns : s₁.heap.Ns mainGlobals mg) (hb : s₁.heap.Ns builtinsNs mb)
    (hbb : ∀ x : Str, x ≠ "__name__" → mb x = bootBuiltins x) (hlim : s₁.heap.NoLimit) (hg : s₁.gens = #[])
    (ha : s₁.heap.get? a = some { cls := .type "list", data := .seq vs.toArray }) (hr : Room k callerA)
    (F : ∀ base : Heap, K.In base → base.Ns mainGlobals mg → FnG P w K mg base CX0 k fa fd [x] sp)
    (hbind : ∀ (s : Shared) (u : Value), BindsTo s fd ⟨[u], []⟩ [(x, u)])
    (hO : Only H) (hok : HOk P w H s₁.heap) (hA : ∀ b, H b ≠ none → b = a) (hK : H a ≠ none → K.lookup a = none)
    (hsp : sp [.ref a] H (fun v _ => v = .bl true) fun _ _ _ => False) :
    codeAny (model P w) callerA (.call (.ref fa) ⟨[.ref a], []⟩)
      (fun r s' => r = .ok (.ret (.bool true)) ∧ OldK s₁.heap s'.heap ∧ s'.os = s₁.os ∧ AllBare s'.gens) s₁ := by
  have one : ∀ {b : Addr} {u : HO}, H b = some u → b = a := fun {b u} q => hA b (by rw [q]; exact fun z => nomatch z)
  have nod : ∀ {b : Addr} {o : Obj} {es : Array DictEntry} {ep : Nat}, s₁.heap.get? b = some o → o.data = .dict es ep → H b = none := by
    intro b o es ep e d
    rcases q : H b with _ | u
    · rfl
    · cases one q
      rw [ha] at e
      cases e
      exact nomatch d
  have nsK : ∀ {b : Addr} {m : Str → Option Value}, s₁.heap.Ns b m → (hidT s₁.heap H).Ns b m := by
    rintro b m ⟨o, es, ep, e, d, r⟩
    exact ⟨o, es, ep, hidT_get e (nod e d), d, r⟩
  have kin : K.In (hidT s₁.heap H) := by
    intro b o e
    refine hidT_get (KX b o e) ?_
    rcases q : H b with _ | u
    · rfl
    · cases one q
      have z := hK (by rw [q]; exact fun z => nomatch z)
      rw [z] at e
      exact nomatch e
  obtain ⟨mc, l1, l2⟩ := hlim
  have md : Mod K mg (hidT s₁.heap H) := ⟨kin, nsK hns, ⟨mb, nsK hb, hbb⟩, mc, nsK l1, l2⟩
  have e0 : Env0 P w K mg (hidT s₁.heap H) callerA [] s₁ H :=
    { frames := rfl, mod := md, bs := fun b o e => of_hidT e, bsz := Nat.le_of_eq (hidT_size _ _), funs := trivial,
      frf := fun b hb => absurd (show b ∈ ([] : List Addr) from hb) (by simp), hok := hok, bare := .of_eq hg }
  have run := (F _ kin (nsK hns)).go callerA [] s₁ H ⟨[.ref a], []⟩ [.ref a] [.ref a] _ _ hr rfl e0 (hbind s₁ (.ref a)) (.cons rfl .nil) hsp
  refine codeAny_mono run ?_
  rintro (e | fl) s' h
  · exact h.elim
  · cases fl with
    | next => exact h.elim
    | brk => exact h.elim
    | cont => exact h.elim
    | ret u =>
      obtain ⟨v, H', os, bare, un, hok', r', q⟩ := h
      have q2 : v = .bl true := q
      subst q2
      cases r'
      refine ⟨rfl, OldK.of_keep fun b o e => ?_, os, bare⟩
      rcases q : H b with _ | u
      · exact un.keep b o e q (fun z => absurd (show b ∈ ([] : List Addr) from z) (by simp)) (by simp)
      · rcases hO b with z | ⟨ob, xs, z⟩
        · rw [q] at z; exact nomatch z
        · have e1 := (hok b _ z).1
          have e2 := (hok' b _ (un.frzs b ob _ z)).1
          rw [e] at e1
          cases e1
          exact e2
theorem law_callG (KX : K.In s₁.heap) (hns : s₁.heap.Ns mainGlobals mg) (hb : s₁.heap.Ns builtinsNs mb)
    (hbb : ∀ x : Str, x ≠ "__name__" → mb x = bootBuiltins x) (hlim : s₁.heap.NoLimit) (hg : s₁.gens = #[])
    (ha : s₁.heap.get? a = some { cls := .type "list", data := .seq vs.toArray }) (hi : IntsAre vs ns) (hl : ns.length ≤ sizeLine) (hr : Room k callerA)
    (F : ∀ base : Heap, K.In base → base.Ns mainGlobals mg → FnG P w K mg base CX0 k fa fd [x] sp)
    (hbind : ∀ (s : Shared) (u : Value), BindsTo s fd ⟨[u], []⟩ [(x, u)])
    (hsp : ∀ H : Hp, Only H → SqL K H a (ns.map V.int) → sp [.ref a] H (fun v _ => v = .bl true) fun _ _ _ => False) :
    codeAny (model P w) callerA (.call (.ref fa) ⟨[.ref a], []⟩)
      (fun r s' => r = .ok (.ret (.bool true)) ∧ OldK s₁.heap s'.heap ∧ s'.os = s₁.os ∧ AllBare s'.gens) s₁ := by
  have rv := vals_ints hi
  have ln := hi.length
  cases hk : K.lookup a with
  | some o =>
    have e := KX a o hk
    rw [ha] at e
    cases e
    have hO : Only fun _ => none := fun _ => .inl rfl
    refine law_overH KX hns hb hbb hlim hg ha hr F hbind hO (fun b u z => nomatch z) (fun b z => absurd rfl z) (fun z => absurd rfl z) (hsp _ hO ?_)
    exact .inr ⟨_, vs.toArray, _, hk, rfl, rfl, rfl, by rw [List.size_toArray, ln]; exact hl, by simpa using rv⟩
  | none =>
    let ob : Obj := { cls := .type "list", data := .seq vs.toArray }
    let G : Hp := upd (fun _ => none) a (.frz ob (.lst (ns.map V.int)))
    have at_a : G a = some (.frz ob (.lst (ns.map V.int))) := upd_same
    have off_a : ∀ {b : Addr}, b ≠ a → G b = none := fun hb => upd_ne hb
    have hO : Only G := fun b => if h : b = a then .inr ⟨_, _, h ▸ at_a⟩ else .inl (off_a h)
    refine law_overH KX hns hb hbb hlim hg ha hr F hbind hO (fun b u z => ?_) (fun b z => ?_) (fun _ => hk) (hsp _ hO (.inl (.inr ⟨ob, at_a⟩)))
    · by_cases h : b = a
      · subst h
        rw [at_a] at z
        cases z
        exact ⟨ha, by rw [List.length_map]; exact hl, vs, _, rv, ha⟩
      · rw [off_a h] at z
        exact nomatch z
    · by_cases h : b = a
      · exact h
      · exact absurd (off_a h) z
end
/-- the goal that k_head leaves, from the promise of the law's def -/
theorem walkG {l : PySem.W.OpenLaw} {k : Nat} {q : Program} {loose : List Str} {XP : (Str → Option Value) → Heap → Prop} {YP : World → Heap → Prop}
    {d : DefRec} {K : Params → PySem.W.Frag} {sp : PySem.W.Frag → Sp} {x : Str} (hn : l.most = some 63) (hdf : d.params.defaults = []) (hr : Room k callerA)
    (hY : ∀ (w : World) (h : Heap), YP w h → (K w.params).In h)
    (F : ∀ (w : World) (mg : Str → Option Value) (fa : Addr) (h : Heap), (K w.params).In h → h.Ns mainGlobals mg → mg d.name = some (.ref fa) →
      ∃ fd : FuncData, (∀ (s : Shared) (u : Value), BindsTo s fd ⟨[u], []⟩ [(x, u)]) ∧
        ∀ base : Heap, (K w.params).In base → base.Ns mainGlobals mg → FnG l.prog w (K w.params) mg base CX0 k fa fd [x] (sp (K w.params)))
    (hsp : ∀ (K : PySem.W.Frag) (H : Hp) (a : Addr) (ns : List Int), ns.length ≤ 63 → SqL K H a (ns.map V.int) →
      sp K [.ref a] H (fun v _ => v = .bl true) fun _ _ _ => False) :
    PySem.W.WalkO q loose XP YP l.row.toRowW d [] (fun f vs => PySem.call f vs) := by
  refine Att.attach_call hn hdf fun w s₀ s₁ mg mb fa o pm cd doc a vs ns G Y ho hd hcd hmg hobj hints hlen hg => ?_
  have KX := hY w _ Y
  obtain ⟨fd, hb, hF⟩ := F w mg fa _ KX G.T.g hmg
  exact law_callG KX G.T.g G.T.b G.T.builtins G.T.nolimit hg hobj hints (Nat.le_trans hlen (by decide)) hr hF hb fun H _ hS => hsp _ H a ns hlen hS
end Sil
set_option Elab.async false
set_option linter.all false
set_option maxRecDepth 100000
set_option maxHeartbeats 1000000
/-! P3: heaps without some addresses, data that stays, readings one construct at a time. -/
namespace Sil
open PySem L2

/-! ### heaps -/
theorem same_new {H : Hp} {p : Addr} {o : HO} (h : H p = none) : Same H (upd H p o) := fun a u e => by rw [upd_ne (ne_of_none e h)]; exact e
/-- the heap without the addresses of M -/
def off (M : List Addr) (H : Hp) : Hp := fun a => if a ∈ M then none else H a
theorem off_get {M : List Addr} {H : Hp} {a : Addr} {o : HO} (h : off M H a = some o) : H a = some o ∧ a ∉ M := by
  unfold off at h
  by_cases q : a ∈ M
  · rw [if_pos q] at h; cases h
  · rw [if_neg q] at h; exact ⟨h, q⟩
theorem off_sub {M : List Addr} {H : Hp} : Same (off M H) H := fun a o h => (off_get h).1
theorem off_mk {M : List Addr} {H : Hp} {a : Addr} {o : HO} (h : H a = some o) (n : a ∉ M) : off M H a = some o := by unfold off; rw [if_neg n]; exact h
theorem same_off {M : List Addr} {H H' : Hp} (s : Same H H') : Same (off M H) (off M H') := fun a o h => off_mk (s a o (off_get h).1) (off_get h).2
theorem off_nil {H : Hp} : off [] H = H := by funext a; unfold off; rw [if_neg (by simp)]
theorem off_more {M N : List Addr} {H H' : Hp} (s : Same (off M H) (off M H')) (hs : ∀ a ∈ M, a ∈ N) : Same (off N H) (off N H') := fun a o h => by
  obtain ⟨h1, h2⟩ := off_get h
  exact off_mk (off_get (s a o (off_mk h1 fun q => h2 (hs a q)))).1 h2
def Trk (M : List Addr) (H : Hp) : Prop := ∀ a ∈ M, ∃ o, H a = some o
theorem Trk.mono {M : List Addr} {H H' : Hp} (t : Trk M H) (s : Same H H') : Trk M H' := fun a h => let ⟨o, e⟩ := t a h; ⟨o, s a o e⟩
theorem Trk.ne {M : List Addr} {H : Hp} {p : Addr} (t : Trk M H) (h : H p = none) : p ∉ M := fun q => by
  obtain ⟨o, e⟩ := t p q
  rw [h] at e; cases e
theorem Trk.nil {H : Hp} : Trk [] H := fun _ h => nomatch h
theorem same_seqT {K : PySem.W.Frag} {H H' : Hp} {a : Addr} {xs : List V} (e : Same H H') (h : SqT K H a xs) : SqT K H' a xs := by
  rcases h with (h | ⟨o, h⟩) | h
  · exact .inl (.inl (e _ _ h))
  · exact .inl (.inr ⟨o, e _ _ h⟩)
  · exact .inr h
mutual
theorem Dp.mono {K : PySem.W.Frag} {H H' : Hp} (s : Same H H') : ∀ {d : PyData} {v : V}, Dp K H v d → Dp K H' v d
  | _, _, .non => .non
  | _, _, .bl b => .bl b
  | _, _, .int i => .int i
  | _, _, .str x => .str x
  | _, _, .lst h q => .lst (s.seq h) (DpAll.mono s q)
  | _, _, .tup h q => .tup (same_seqT s h) (DpAll.mono s q)
theorem DpAll.mono {K : PySem.W.Frag} {H H' : Hp} (s : Same H H') : ∀ {ds : List PyData} {vs : List V}, DpAll K H vs ds → DpAll K H' vs ds
  | _, _, .nil => .nil
  | _, _, .cons h q => .cons (Dp.mono s h) (DpAll.mono s q)
end

/-! ### readings -/
section
variable {σ : L2.St} {H : Hp} {Q : VK} {v x y : V} {ta tb tc te : TE} {i : Nat} {r r' : R2} {K : PySem.W.Frag}
theorem w_var (h : σ[i]? = some (some v)) (k : Q v H) : tVar i σ H Q := ⟨v, h, k⟩
theorem w_c (k : Q v H) : tC v σ H Q := k
theorem w_op (k : ta σ H fun x H1 => tb σ H1 fun y H2 => r x y H2 Q) : tOp r ta tb σ H Q := k
theorem w_un {r : V → Hp → VK → Prop} (k : ta σ H fun x H1 => r x H1 Q) : tUn r ta σ H Q := k
theorem w_cb {r : List V → Hp → VK → Prop} {t : TA} (k : t σ H fun vs H1 => r vs H1 Q) : tCB r t σ H Q := k
theorem w_ckw {r : List V → List V → Hp → VK → Prop} {t tk : TA} (k : t σ H fun vs H1 => tk σ H1 fun zs H2 => r vs zs H2 Q) : tCKw r t tk σ H Q := k
theorem w_nil {Q : List V → Hp → Prop} (k : Q [] H) : tNil σ H Q := k
theorem w_cons {Q : List V → Hp → Prop} {tr : TA} (k : ta σ H fun x H1 => tr σ H1 fun xs H2 => Q (x :: xs) H2) : tCons ta tr σ H Q := k
def kTup (xs : List V) (H : Hp) (Q : VK) : Prop := xs.length ≤ sizeLine ∧ ∀ p, H p = none → Q (.ref p) (upd H p (.tup xs))
def kLst (xs : List V) (H : Hp) (Q : VK) : Prop := xs.length ≤ sizeLine ∧ ∀ p, H p = none → Q (.ref p) (upd H p (.lst xs))
theorem w_tup {t : TA} (k : t σ H fun xs H1 => kTup xs H1 Q) : tTup t σ H Q := k
theorem w_lst {t : TA} (k : t σ H fun xs H1 => kLst xs H1 Q) : tLst t σ H Q := k
theorem k_tup {xs : List V} (hl : xs.length ≤ sizeLine) (k : ∀ p H2, H p = none → Same H H2 → H2 p = some (.tup xs) → Q (.ref p) H2) : kTup xs H Q :=
  ⟨hl, fun p hp => k p _ hp (same_new hp) upd_same⟩
theorem k_lst {xs : List V} (hl : xs.length ≤ sizeLine) (k : ∀ p H2, H p = none → Same H H2 → H2 p = some (.lst xs) → Q (.ref p) H2) : kLst xs H Q :=
  ⟨hl, fun p hp => k p _ hp (same_new hp) upd_same⟩
theorem w_I0 {g : Int → Int → V} {a b : Int} (k : Q (g a b) H) : rI0 g (.int a) (.int b) H Q := ⟨a, b, rfl, rfl, k⟩
theorem w_I {C : Int → Int → Prop} {g : Int → Int → V} {a b : Int} (c : C a b) (k : Q (g a b) H) : rI C g (.int a) (.int b) H Q := ⟨a, b, rfl, rfl, c, k⟩
theorem w_U {g : Int → V} {a : Int} (k : Q (g a) H) : rU g (.int a) H Q := ⟨a, rfl, k⟩
theorem w_eq (h : scal x y = true) (k : Q (.bl (decide (x = y))) H) : rEq x y H Q := ⟨h, k⟩
theorem w_ne (h : scal x y = true) (k : Q (.bl (!decide (x = y))) H) : rNe x y H Q := ⟨h, k⟩
theorem w_test {Q : Bool → Hp → Prop} (k : te σ H fun x H1 => ∃ c, x = .bl c ∧ Q c H1) : tTest te σ H Q := k
theorem w_B {Q : Bool → Hp → Prop} (k : te σ H fun x H1 => ∃ c, x = .bl c ∧ Q c H1) : tB te σ H Q := k
theorem w_and {t u : TT} {Q : Bool → Hp → Prop} (k : t σ H fun c H1 => if c = true then u σ H1 Q else Q false H1) : tAnd t u σ H Q := k
theorem w_or {t u : TT} {Q : Bool → Hp → Prop} (k : t σ H fun c H1 => if c = true then Q true H1 else u σ H1 Q) : tOr t u σ H Q := k
theorem w_not {t : TT} {Q : Bool → Hp → Prop} (k : t σ H fun c H1 => Q (!c) H1) : tNot t σ H Q := k
theorem w_andV (k : ta σ H fun x H1 => ∃ c, x = .bl c ∧ if c = true then tb σ H1 Q else Q (.bl false) H1) : tAndV ta tb σ H Q := k
theorem w_orV (k : ta σ H fun x H1 => ∃ c, x = .bl c ∧ if c = true then Q (.bl true) H1 else tb σ H1 Q) : tOrV ta tb σ H Q := k
theorem w_notV (k : ta σ H fun x H1 => ∃ c, x = .bl c ∧ Q (.bl (!c)) H1) : tNotV ta σ H Q := k
theorem w_if {t : TT} (k : t σ H fun c H1 => if c = true then ta σ H1 Q else tb σ H1 Q) : tIf t ta tb σ H Q := k
theorem w_chain (k : ta σ H fun x H1 => tb σ H1 fun y H2 => r x y H2 fun z H3 => ∃ c, z = .bl c ∧ (if c = true then tc σ H3 fun w' H4 => r' y w' H4 Q else Q (.bl false) H3)) :
    tChain r r' ta tb tc σ H Q := k
def kFld (K : PySem.W.Frag) (f : Str) (x : V) (H : Hp) (Q : VK) : Prop := ∃ a C dx fs v, x = .ref a ∧ H a = some (.ins C dx fs) ∧ Cls K C ∧ NoAttr K C f ∧ fs.lookup f = some v ∧ Q v H
theorem w_fld {f : Str} (k : ta σ H fun x H1 => kFld K f x H1 Q) : tFld K ta f σ H Q := k
theorem w_call {sp : Sp} {dvs : List V} {E : XK} {t : TA} (k : t σ H fun vs H1 => sp (vs ++ dvs) H1 Q E) : tCall sp dvs E t σ H Q := k
def kMeth (C : Addr) (m : Str) (x : V) (H : Hp) (R : Prop) : Prop := ∃ a dx fs, x = .ref a ∧ H a = some (.ins C dx fs) ∧ fs.lookup m = none ∧ R
theorem w_meth {sp : Sp} {dvs : List V} {E : XK} {t : TA} {C : Addr} {m : Str} (k : ta σ H fun x H1 => kMeth C m x H1 (t σ H1 fun vs H2 => sp (x :: (vs ++ dvs)) H2 Q E)) :
    tMeth C m sp dvs E ta t σ H Q := k
def kMake (C : Addr) (sp : Sp) (vs : List V) (H : Hp) (Q : VK) (E : XK) : Prop := ∀ x dx, H x = none → H dx = none → dx ≠ x →
  sp (.ref x :: vs) (upd (upd H dx (.own x)) x (.ins C dx [])) (fun v H2 => v = .non ∧ Q (.ref x) H2) E
theorem w_make {sp : Sp} {dvs : List V} {E : XK} {t : TA} {C : Addr} (k : t σ H fun vs H1 => kMake C sp (vs ++ dvs) H1 Q E) : tMake C sp dvs E t σ H Q := k
variable {D : Ends} {s1 s2 : TS}
theorem w_seq (k : s1 { D with nx := s2 D } σ H) : tSeq s1 s2 D σ H := k
theorem w_next (k : D.nx σ H) : tNext D σ H := k
theorem w_cont (k : D.ct σ H) : tCont D σ H := k
theorem w_break (k : D.bk σ H) : tBreak D σ H := k
theorem w_asg {g : TG} (k : te σ H fun x H1 => g x σ H1 D.nx) : tAsg te g D σ H := k
theorem w_name {Q : L2.St → Hp → Prop} (k : Q (σ.set i (some v)) H) : gName i v σ H Q := k
theorem w_par {t : TA} {i j : Nat} (k : t σ H fun vs H1 => ∃ v w, vs = [v, w] ∧ D.nx ((σ.set i (some v)).set j (some w)) H1) : tPar i j t D σ H := k
theorem w_ret (k : te σ H D.rt) : tRet te D σ H := k
theorem w_drop (k : te σ H fun _ H1 => D.nx σ H1) : tDrop te D σ H := k
theorem w_ifS {t : TT} (k : t σ H fun b H1 => if b = true then s1 D σ H1 else s2 D σ H1) : tIfS t s1 s2 D σ H := k
theorem w_bl {c : Bool} {P : Bool → Prop} (k : P c) : ∃ b, V.bl c = .bl b ∧ P b := ⟨c, rfl, k⟩
end
/-- an if whose answer is open -/
theorem ite_b {c : Bool} {A B : Prop} (h1 : c = true → A) (h2 : c = false → B) : if c = true then A else B := by
  cases c
  · exact iteF (h2 rfl)
  · exact iteT (h1 rfl)

/-! ### ends -/
def eV : Option Int → V
  | none => .non
  | some i => .int i
def atMost : Option Int → Option Int → Bool
  | some i, some j => decide (i ≤ j)
  | _, _ => true
def maxE : Option Int → Option Int → Option Int
  | none, b => b
  | some a, none => some a
  | some a, some b => some (max a b)
def minE : Option Int → Option Int → Option Int
  | none, b => b
  | some a, none => some a
  | some a, some b => some (min a b)
def Small (e : Option Int) : Prop := ∀ i, e = some i → i.natAbs < 2 ^ 200
def eD : Option Int → PyData
  | none => .none
  | some i => .int i
theorem dp_e {K : PySem.W.Frag} {H : Hp} : ∀ e : Option Int, Dp K H (eV e) (eD e)
  | none => .non
  | some i => .int i
theorem log2_lt {n k : Nat} (h : n < 2 ^ k) (hk : 0 < k) : n.log2 < k := by
  by_cases h0 : n = 0
  · subst h0; simpa using hk
  · exact (Nat.log2_lt h0).mpr h
theorem show_e {e : Option Int} (h : Small e) : (eD e).showable = true := by
  cases e with
  | none => rfl
  | some i =>
    show decide (i.natAbs.log2 < 1920) = true
    exact decide_eq_true (Nat.lt_trans (log2_lt (h i rfl) (by decide)) (by decide))
section
variable {σ : L2.St} {H : Hp} {Q : VK} {v x y : V} {ta tb tc te : TE} {i : Nat} {K : PySem.W.Frag}
theorem w_ixL {p : Addr} {xs : List V} {j : Int} (h : SqL K H p xs) (ha : atI xs j = some v) (k : Q v H) : rIxL K (.ref p) (.int j) H Q := ⟨p, xs, j, v, rfl, rfl, h, ha, k⟩
theorem w_ixT {p : Addr} {xs : List V} {j : Int} (h : SqT K H p xs) (ha : atI xs j = some v) (k : Q v H) : rIxT K (.ref p) (.int j) H Q := ⟨p, xs, j, v, rfl, rfl, h, ha, k⟩
theorem w_sub {to ti : TE} {t : TSet} {Q : L2.St → Hp → Prop} (k : to σ H fun o H1 => ti σ H1 fun i H2 => t o i v H2 fun H3 => Q σ H3) : gSub to ti t v σ H Q := k
theorem w_setL {p : Addr} {xs : List V} {k : Int} {j : Nat} {Q : Hp → Prop} (h : H p = some (.lst xs)) (hj : ixN xs.length k = some j) (q : Q (upd H p (.lst (xs.set j v)))) :
    rSetL (.ref p) (.int k) v H Q := ⟨p, xs, k, j, rfl, rfl, h, hj, q⟩
theorem w_some {P : Bool → Prop} {b : Bool} (k : P b) : ∃ c, V.bl b = V.bl c ∧ P c := ⟨b, rfl, k⟩
theorem SqT.at {p : Addr} {xs : List V} (h : H p = some (.tup xs)) : SqT K H p xs := Or.inl (Or.inl h)
theorem SqL.at {p : Addr} {xs : List V} (h : H p = some (.lst xs)) : SqL K H p xs := Or.inl (Or.inl h)
/-- the answer of a test is told -/
theorem w_iteT {c : Bool} {A B : Prop} (h : c = true) (k : A) : if c = true then A else B := by rw [if_pos h]; exact k
theorem w_iteF {c : Bool} {A B : Prop} (h : c = false) (k : B) : if c = true then A else B := by rw [h]; exact iteF k
end
theorem eV_non {e : Option Int} : (eV e = .non) ↔ e = none := by cases e <;> simp [eV]
theorem atI0 {v : V} {xs : List V} : atI (v :: xs) 0 = some v := atI_nat (j := 0) rfl
/-- a band's fields -/
def bandF (lo hi : Option Int) : List (Str × V) := [("low", eV lo), ("high", eV hi)]
theorem bandF_put (lo hi : Option Int) : putF "high" (eV hi) (putF "low" (eV lo) []) = bandF lo hi := by
  show putF "high" (eV hi) [("low", eV lo)] = _
  have n : ¬ (("low" : Str) = "high") := by decide +kernel
  show (if ("low" : Str) = "high" then [(("low" : Str), eV hi)] else (("low" : Str), eV lo) :: putF "high" (eV hi) []) = bandF lo hi
  rw [if_neg n]
  rfl
theorem bandF_low (lo hi : Option Int) : (bandF lo hi).lookup ("low" : Str) = some (eV lo) := by
  rw [← bandF_put, lookup_putF, if_neg (by decide +kernel), lookup_putF, if_pos rfl]
theorem bandF_high (lo hi : Option Int) : (bandF lo hi).lookup ("high" : Str) = some (eV hi) := by
  rw [← bandF_put, lookup_putF, if_pos rfl]
theorem bandF_no (lo hi : Option Int) {m : Str} (h1 : ¬ m = "low") (h2 : ¬ m = "high") : (bandF lo hi).lookup m = none := by
  rw [← bandF_put, lookup_putF, if_neg h2, lookup_putF, if_neg h1]
  rfl
/-- a band stands at p -/
def BandAt (C : Addr) (H : Hp) (p : Addr) (lo hi : Option Int) : Prop := ∃ dx, H p = some (.ins C dx (bandF lo hi))
theorem BandAt.mono {C : Addr} {H H' : Hp} {p : Addr} {lo hi : Option Int} (s : Same H H') : BandAt C H p lo hi → BandAt C H' p lo hi := fun ⟨dx, h⟩ => ⟨dx, s _ _ h⟩
/-- the two ways of a conditional expression meet again -/
theorem if_join {c : Bool} {σ : L2.St} {H1 : Hp} {ta tb : TE} {Q : VK} (R : V → Hp → Prop) (h1 : c = true → ∀ Q' : VK, (∀ v H', R v H' → Q' v H') → ta σ H1 Q')
    (h2 : c = false → ∀ Q' : VK, (∀ v H', R v H' → Q' v H') → tb σ H1 Q') (rest : ∀ v H', R v H' → Q v H') : if c = true then ta σ H1 Q else tb σ H1 Q :=
  ite_b (fun h => h1 h Q rest) (fun h => h2 h Q rest)
/-! ### kinds of things -/
def tyN : PyData → String
  | .none => "NoneType"
  | .bool _ => "bool"
  | .int _ => "int"
  | .str _ => "str"
  | .list _ => "list"
  | .tuple _ => "tuple"
  | .dict _ => "dict"
theorem ty_dp {K : PySem.W.Frag} {H : Hp} {v : V} {d : PyData} (h : Dp K H v d) : TyX K H v (.type (tyN d)) := by
  cases h with
  | non => exact .base .non
  | bl b => exact .base (.bl b)
  | int i => exact .base (.int i)
  | str x => exact .base (.str x)
  | lst h _ =>
    rcases h with (h | ⟨o, h⟩) | ⟨o, its, n, h1, h2, _⟩
    · exact .base (.lst h)
    · exact .base (.frz h)
    · exact .kList h1 h2
  | tup h _ =>
    rcases h with (h | ⟨o, h⟩) | ⟨o, its, n, h1, h2, _⟩
    · exact .base (.tup h)
    · exact .fTuple h
    · exact .kTuple h1 h2
def isIntD : PyData → Bool
  | .int _ => true
  | .bool _ => true
  | _ => false
def isBoolD : PyData → Bool
  | .bool _ => true
  | _ => false
def isStrD : PyData → Bool
  | .str _ => true
  | _ => false
def isTupD : PyData → Bool
  | .tuple _ => true
  | _ => false
def isListD : PyData → Bool
  | .list _ => true
  | _ => false
/-- a whole number -/
def wholeD : PyData → Bool
  | .int _ => true
  | _ => false
theorem kt_int_NoneType : kitB "NoneType" "int" = some false := by decide +kernel
theorem kt_int_bool : kitB "bool" "int" = some true := by decide +kernel
theorem kt_int_int : kitB "int" "int" = some true := by decide +kernel
theorem kt_int_str : kitB "str" "int" = some false := by decide +kernel
theorem kt_int_list : kitB "list" "int" = some false := by decide +kernel
theorem kt_int_tuple : kitB "tuple" "int" = some false := by decide +kernel
theorem kt_int_dict : kitB "dict" "int" = some false := by decide +kernel
theorem kt_bool_NoneType : kitB "NoneType" "bool" = some false := by decide +kernel
theorem kt_bool_bool : kitB "bool" "bool" = some true := by decide +kernel
theorem kt_bool_int : kitB "int" "bool" = some false := by decide +kernel
theorem kt_bool_str : kitB "str" "bool" = some false := by decide +kernel
theorem kt_bool_list : kitB "list" "bool" = some false := by decide +kernel
theorem kt_bool_tuple : kitB "tuple" "bool" = some false := by decide +kernel
theorem kt_bool_dict : kitB "dict" "bool" = some false := by decide +kernel
theorem kt_str_NoneType : kitB "NoneType" "str" = some false := by decide +kernel
theorem kt_str_bool : kitB "bool" "str" = some false := by decide +kernel
theorem kt_str_int : kitB "int" "str" = some false := by decide +kernel
theorem kt_str_str : kitB "str" "str" = some true := by decide +kernel
theorem kt_str_list : kitB "list" "str" = some false := by decide +kernel
theorem kt_str_tuple : kitB "tuple" "str" = some false := by decide +kernel
theorem kt_str_dict : kitB "dict" "str" = some false := by decide +kernel
theorem kt_tup_NoneType : kitB "NoneType" "tuple" = some false := by decide +kernel
theorem kt_tup_bool : kitB "bool" "tuple" = some false := by decide +kernel
theorem kt_tup_int : kitB "int" "tuple" = some false := by decide +kernel
theorem kt_tup_str : kitB "str" "tuple" = some false := by decide +kernel
theorem kt_tup_list : kitB "list" "tuple" = some false := by decide +kernel
theorem kt_tup_tuple : kitB "tuple" "tuple" = some true := by decide +kernel
theorem kt_tup_dict : kitB "dict" "tuple" = some false := by decide +kernel
theorem kt_list_NoneType : kitB "NoneType" "list" = some false := by decide +kernel
theorem kt_list_bool : kitB "bool" "list" = some false := by decide +kernel
theorem kt_list_int : kitB "int" "list" = some false := by decide +kernel
theorem kt_list_str : kitB "str" "list" = some false := by decide +kernel
theorem kt_list_list : kitB "list" "list" = some true := by decide +kernel
theorem kt_list_tuple : kitB "tuple" "list" = some false := by decide +kernel
theorem kt_list_dict : kitB "dict" "list" = some false := by decide +kernel
theorem kit_int {K : PySem.W.Frag} : ∀ d : PyData, PySem.W.kitOne K (.type (tyN d)) (.type "int") = some (isIntD d)
  | .none => kit_ty kt_int_NoneType
  | .bool _ => kit_ty kt_int_bool
  | .int _ => kit_ty kt_int_int
  | .str _ => kit_ty kt_int_str
  | .list _ => kit_ty kt_int_list
  | .tuple _ => kit_ty kt_int_tuple
  | .dict _ => kit_ty kt_int_dict
theorem kit_bool {K : PySem.W.Frag} : ∀ d : PyData, PySem.W.kitOne K (.type (tyN d)) (.type "bool") = some (isBoolD d)
  | .none => kit_ty kt_bool_NoneType
  | .bool _ => kit_ty kt_bool_bool
  | .int _ => kit_ty kt_bool_int
  | .str _ => kit_ty kt_bool_str
  | .list _ => kit_ty kt_bool_list
  | .tuple _ => kit_ty kt_bool_tuple
  | .dict _ => kit_ty kt_bool_dict
theorem kit_str {K : PySem.W.Frag} : ∀ d : PyData, PySem.W.kitOne K (.type (tyN d)) (.type "str") = some (isStrD d)
  | .none => kit_ty kt_str_NoneType
  | .bool _ => kit_ty kt_str_bool
  | .int _ => kit_ty kt_str_int
  | .str _ => kit_ty kt_str_str
  | .list _ => kit_ty kt_str_list
  | .tuple _ => kit_ty kt_str_tuple
  | .dict _ => kit_ty kt_str_dict
theorem kit_tup {K : PySem.W.Frag} : ∀ d : PyData, PySem.W.kitOne K (.type (tyN d)) (.type "tuple") = some (isTupD d)
  | .none => kit_ty kt_tup_NoneType
  | .bool _ => kit_ty kt_tup_bool
  | .int _ => kit_ty kt_tup_int
  | .str _ => kit_ty kt_tup_str
  | .list _ => kit_ty kt_tup_list
  | .tuple _ => kit_ty kt_tup_tuple
  | .dict _ => kit_ty kt_tup_dict
theorem kit_list {K : PySem.W.Frag} : ∀ d : PyData, PySem.W.kitOne K (.type (tyN d)) (.type "list") = some (isListD d)
  | .none => kit_ty kt_list_NoneType
  | .bool _ => kit_ty kt_list_bool
  | .int _ => kit_ty kt_list_int
  | .str _ => kit_ty kt_list_str
  | .list _ => kit_ty kt_list_list
  | .tuple _ => kit_ty kt_list_tuple
  | .dict _ => kit_ty kt_list_dict
/-- isinstance(v, a built-in class) of data -/
theorem w_isi {K : PySem.W.Frag} {H : Hp} {Q : VK} {v : V} {d : PyData} {n : String} {b : Bool} (h : Dp K H v d) (e : PySem.W.kitOne K (.type (tyN d)) (.type n) = some b) (k : Q (.bl b) H) :
    rIsi K [v, .ty n] H Q := ⟨v, .ty n, _, _, b, rfl, .ty n, ty_dp h, e, k⟩
/-- what isinstance and == ask of an own class -/
structure InstC (K : PySem.W.Frag) (C : Addr) : Prop where
  ha : PySem.W.findIn K (.ref C) "__class__" = some (some (.builtin "object.__class__"))
  hn : PySem.W.specialIn K (.builtin "object.__class__") "__get__" = some (some (.builtin "getset_descriptor.__get__"))
  ht : PySem.W.takesIn K (.builtin "object.__class__") = some true
  hm : PySem.W.mroIn K C (.type "object") = some true
  ic : PySem.W.isClsIn K C = true
  tc : PySem.W.typeIn K (.ref C) = some (.type "type")
  sN : PySem.W.subIn K (.type "NoneType") (.ref C) = some false
  sI : PySem.W.subIn K (.type "int") (.ref C) = some false
  sB : PySem.W.subIn K (.type "bool") (.ref C) = some false
  sS : PySem.W.subIn K (.type "str") (.ref C) = some false
  sL : PySem.W.subIn K (.type "list") (.ref C) = some false
  sT : PySem.W.subIn K (.type "tuple") (.ref C) = some false
  sD : PySem.W.subIn K (.type "dict") (.ref C) = some false
theorem InstC.sub {K : PySem.W.Frag} {C : Addr} (I : InstC K C) : ∀ d : PyData, PySem.W.subIn K (.type (tyN d)) (.ref C) = some false
  | .none => I.sN
  | .bool _ => I.sB
  | .int _ => I.sI
  | .str _ => I.sS
  | .list _ => I.sL
  | .tuple _ => I.sT
  | .dict _ => I.sD
theorem InstC.kit {K : PySem.W.Frag} {C : Addr} (I : InstC K C) {t : Value} {b : Bool} (ne : (t == .ref C) = false) (h : PySem.W.subIn K t (.ref C) = some b) : PySem.W.kitOne K t (.ref C) = some b := by
  have e2 : ((PySem.W.clsIn K C).isSome && PySem.W.typeIn K (.ref C) == some (.type "type")) = true := by
    have e1 : (PySem.W.clsIn K C).isSome = true := I.ic
    rw [e1, I.tc] <;> rfl
  unfold PySem.W.kitOne PySem.W.kitCls
  rw [ne, if_neg Bool.false_ne_true]
  show (if ((PySem.W.clsIn K C).isSome && PySem.W.typeIn K (.ref C) == some (.type "type")) = true then _ else _) = _
  rw [if_pos e2]
  exact h
theorem InstC.self {K : PySem.W.Frag} {C : Addr} : PySem.W.kitOne K (.ref C) (.ref C) = some true := if_pos (by simp)
theorem InstC.first {K : PySem.W.Frag} {C : Addr} (I : InstC K C) (d : PyData) : PySem.W.notFirst K C (.type (tyN d)) = true := by
  unfold PySem.W.notFirst
  rw [I.sub d]
  simp
theorem InstC.firstS {K : PySem.W.Frag} {C : Addr} : PySem.W.notFirst K C (.ref C) = true := by unfold PySem.W.notFirst; simp
theorem InstC.ty {K : PySem.W.Frag} {C : Addr} (I : InstC K C) (cl : Cls K C) {H : Hp} {a dx : Addr} {fs : List (Str × V)} (h : H a = some (.ins C dx fs)) : TyX K H (.ref a) (.ref C) :=
  .base (.ins h cl I.ha I.hn I.ht I.hm)
/-- isinstance(v, C) of data: no -/
theorem w_isiC {K : PySem.W.Frag} {C : Addr} (I : InstC K C) {H : Hp} {Q : VK} {v : V} {d : PyData} (h : Dp K H v d) (k : Q (.bl false) H) : rIsi K [v, .ref C] H Q :=
  ⟨v, .ref C, _, _, false, rfl, .own C, ty_dp h, I.kit (by simp) (I.sub d), k⟩
/-- isinstance(o, C) of an instance of C: yes -/
theorem w_isiS {K : PySem.W.Frag} {C : Addr} (I : InstC K C) (cl : Cls K C) {H : Hp} {Q : VK} {a dx : Addr} {fs : List (Str × V)} (h : H a = some (.ins C dx fs)) (k : Q (.bl true) H) :
    rIsi K [.ref a, .ref C] H Q := ⟨.ref a, .ref C, _, _, true, rfl, .own C, I.ty cl h, InstC.self, k⟩
/-- a def with defaults from which no error comes -/
theorem funD_ok {P : Program} {w : World} {K : PySem.W.Frag} {mg : Str → Option Value} {base : Heap} {x qual : Str} {params : Arguments} {body : List Stmt} {scope : Scope} {dvs : List V}
    {kws : List (Str × V)} {f : Addr} {fd : FuncData} {N ps : List Str} {k : Nat} {sp : Sp} (F : FunD K x qual params body scope dvs kws f fd) (S : FnScope N ps scope)
    (len : ∀ vs H Q E, sp vs H Q E → vs.length = ps.length)
    (hb : ∀ (cdv : Value) (A : Around) (outer : List Env) (s : Shared) (H : Hp) (vs : List V) (Q : VK) (E : XK), Room k (A.deeper (PyProof.Rows.envOfC qual scope s.heap.objs.size f cdv)) → sp vs H Q E →
      ∃ t, PSs (cxOf CX0 P w K mg base N qual scope f cdv A outer s H E).nox body t ∧ t { nx := fun _ H' => Q .non H', rt := Q } (start N vs) H) :
    FnOk P w K mg base CX0 (k + 1) f fd ps sp :=
  F.ok S len fun cdv A outer s H vs Q E hr hsp => let ⟨t, h, q⟩ := hb cdv A outer s H vs Q E hr hsp; ⟨t, h.nox, q⟩
end Sil
set_option Elab.async false
set_option linter.all false
set_option maxRecDepth 100000
set_option maxHeartbeats 1000000
/-! P4: comprehensions by an invariant that does not see the list under way; pure ones; for loops. -/
namespace Sil
open PySem L2
/-- what stands behind a comprehension's source -/
def kLc (J : It) (g : TG) (tt : TT) (te : TE) (vs : List Nat) (σ : L2.St) (H1 : Hp) (Q : VK) : Prop := ∀ D, H1 D = none → ∃ W : Nat → Nat → Hp → Prop, (∃ m, W 0 m (upd H1 D (.lst []))) ∧ ∀ i m H, W i m H →
  (J.stop i H ∧ Q (.ref D) H) ∨ (J.go i H ∧ ∃ Nx : Hp → Prop, (∀ H', Nx H' → ∃ m', m' < m ∧ W (i + 1) m' H') ∧ ∀ x H', J.yld i H x H' → g x (wipe σ vs) H' fun σ2 H2 => wipe σ2 vs = wipe σ vs ∧ tt σ2 H2 fun b H3 =>
    if b = true then te σ2 H3 fun y H4 => ∃ acc, H4 D = some (.lst acc) ∧ acc.length < sizeLine ∧ Nx (upd H4 D (.lst (acc ++ [y]))) else Nx H3)
theorem w_lcT {K : PySem.W.Frag} {tl : TE} {g : TG} {tt : TT} {te : TE} {vs : List Nat} {σ : L2.St} {H : Hp} {Q : VK}
    (k : tl σ H fun x H1 => ∃ a, x = .ref a ∧ (∃ xs, SqT K H1 a xs) ∧ kLc (Itt K a) g tt te vs σ H1 Q) : tLc (iTup K tl) g tt te vs σ H Q := k
theorem w_lcL {K : PySem.W.Frag} {tl : TE} {g : TG} {tt : TT} {te : TE} {vs : List Nat} {σ : L2.St} {H : Hp} {Q : VK}
    (k : tl σ H fun x H1 => ∃ a, x = .ref a ∧ (∃ xs, SqL K H1 a xs) ∧ kLc (Itl K a) g tt te vs σ H1 Q) : tLc (iList K tl) g tt te vs σ H Q := k
theorem w_lcR {ta : TA} {g : TG} {tt : TT} {te : TE} {vs : List Nat} {σ : L2.St} {H : Hp} {Q : VK}
    (k : ta σ H fun zs H1 => ∃ j : Int, zs = [.int j] ∧ -(2 ^ 62) ≤ j ∧ j < 2 ^ 62 ∧ kLc (Itr 0 j.toNat) g tt te vs σ H1 Q) : tLc (iRng1 ta) g tt te vs σ H Q := k
theorem off_upd {D : Addr} {H : Hp} {o : HO} : off [D] (upd H D o) = off [D] H := by
  funext a
  unfold off
  by_cases h : a ∈ [D]
  · rw [if_pos h, if_pos h]
  · rw [if_neg h, if_neg h, upd_ne (by simpa using h)]
theorem off_new {D : Addr} {H : Hp} (h : H D = none) : off [D] H = H := by
  funext a
  unfold off
  by_cases q : a ∈ [D]
  · rw [if_pos q]; rw [List.mem_singleton] at q; rw [q, h]
  · rw [if_neg q]
/-- one turn: the test, then the element; D is the list under way -/
def LcTurn (tt : TT) (te : TE) (vs : List Nat) (σ σ2 : L2.St) (D : Addr) (Pv : Nat → List V → Hp → Prop) (i : Nat) (acc : List V) (H' : Hp) : Prop :=
  wipe σ2 vs = wipe σ vs ∧ tt σ2 H' fun b H3 => if b = true then te σ2 H3 fun y H4 => H4 D = some (.lst acc) ∧ Pv (i + 1) (acc ++ [y]) (off [D] H4)
    else H3 D = some (.lst acc) ∧ Pv (i + 1) acc (off [D] H3)
/-- the monotone part that a turn wants of its test and element: told by the caller for each continuation -/
def LcTurnQ (g : TG) (tt : TT) (te : TE) (vs : List Nat) (σ : L2.St) (D : Addr) (x : V) (Pv : Nat → List V → Hp → Prop) (i : Nat) (acc : List V) (H' : Hp) : Prop :=
  ∀ (Nx Ny : Hp → Prop), (∀ (y : V) (H4 : Hp), H4 D = some (.lst acc) → Pv (i + 1) (acc ++ [y]) (off [D] H4) → Nx (upd H4 D (.lst (acc ++ [y])))) →
    (∀ H3 : Hp, H3 D = some (.lst acc) → Pv (i + 1) acc (off [D] H3) → Ny H3) → acc.length < sizeLine →
    g x (wipe σ vs) H' fun σ2 H2 => wipe σ2 vs = wipe σ vs ∧ tt σ2 H2 fun b H3 =>
      if b = true then te σ2 H3 fun y H4 => ∃ acc, H4 D = some (.lst acc) ∧ acc.length < sizeLine ∧ Nx (upd H4 D (.lst (acc ++ [y]))) else Ny H3
section
variable {K : PySem.W.Frag} {a : Addr} {g : TG} {tt : TT} {te : TE} {vs : List Nat} {σ : L2.St} {H1 : Hp} {Q : VK}
def LcInv (D : Addr) (Pv : Nat → List V → Hp → Prop) (i : Nat) (H : Hp) : Prop := ∃ acc : List V, H D = some (.lst acc) ∧ acc.length ≤ i ∧ Pv i acc (off [D] H)
theorem lcinv_next {D : Addr} {Pv : Nat → List V → Hp → Prop} {i : Nat} {x : V} {acc : List V} {H : Hp} (ha : acc.length ≤ i) (hi : i < 100000)
    (h : LcTurnQ g tt te vs σ D x Pv i acc H) : g x (wipe σ vs) H fun σ2 H2 => wipe σ2 vs = wipe σ vs ∧ tt σ2 H2 fun b H3 =>
      if b = true then te σ2 H3 fun y H4 => ∃ acc, H4 D = some (.lst acc) ∧ acc.length < sizeLine ∧ LcInv D Pv (i + 1) (upd H4 D (.lst (acc ++ [y]))) else LcInv D Pv (i + 1) H3 := by
  refine h _ _ (fun y H4 _ p => ?_) (fun H3 d p => ?_) (Nat.lt_of_le_of_lt ha (Nat.lt_trans hi (by decide)))
  · refine ⟨acc ++ [y], upd_same, by rw [List.length_append, List.length_singleton]; omega, ?_⟩
    rw [off_upd]; exact p
  · exact ⟨acc, d, Nat.le_succ_of_le ha, p⟩
/-- over a tuple, by an invariant over the turn, what is made so far, and the heap without the list under way -/
theorem k_lcT {xs : List V} (hz : xs.length ≤ 100000) (Pv : Nat → List V → Hp → Prop) (h0 : Pv 0 [] H1) (hl : ∀ i acc G, Pv i acc G → SqT K G a xs)
    (hs : ∀ D i x acc H, H1 D = none → xs[i]? = some x → H D = some (.lst acc) → Pv i acc (off [D] H) → LcTurnQ g tt te vs σ D x Pv i acc H)
    (hd : ∀ D acc H, H1 D = none → H D = some (.lst acc) → Pv xs.length acc (off [D] H) → Q (.ref D) H) : kLc (Itt K a) g tt te vs σ H1 Q := by
  intro D nD
  refine lc_tup (xs := xs) (LcInv D Pv) ⟨[], upd_same, Nat.le_refl _, by rw [off_upd, off_new nD]; exact h0⟩ ?_ ?_ ?_
  · rintro i H hi ⟨acc, hD, _, p⟩
    exact same_seqT off_sub (hl _ _ _ p)
  · rintro i x H hx ⟨acc, hD, ha, p⟩
    have hi := (List.getElem?_eq_some_iff.mp hx).1
    exact lcinv_next ha (by omega) (hs D i x acc H nD hx hD p)
  · rintro H ⟨acc, hD, _, p⟩
    exact hd D acc H nD hD p
theorem k_lcL {xs : List V} (hz : xs.length ≤ 100000) (Pv : Nat → List V → Hp → Prop) (h0 : Pv 0 [] H1) (hl : ∀ i acc G, Pv i acc G → SqL K G a xs)
    (hs : ∀ D i x acc H, H1 D = none → xs[i]? = some x → H D = some (.lst acc) → Pv i acc (off [D] H) → LcTurnQ g tt te vs σ D x Pv i acc H)
    (hd : ∀ D acc H, H1 D = none → H D = some (.lst acc) → Pv xs.length acc (off [D] H) → Q (.ref D) H) : kLc (Itl K a) g tt te vs σ H1 Q := by
  intro D nD
  refine lc_list (xs := xs) (LcInv D Pv) ⟨[], upd_same, Nat.le_refl _, by rw [off_upd, off_new nD]; exact h0⟩ ?_ ?_ ?_
  · rintro i H hi ⟨acc, hD, _, p⟩
    exact off_sub.seq (hl _ _ _ p)
  · rintro i x H hx ⟨acc, hD, ha, p⟩
    have hi := (List.getElem?_eq_some_iff.mp hx).1
    exact lcinv_next ha (by omega) (hs D i x acc H nD hx hD p)
  · rintro H ⟨acc, hD, _, p⟩
    exact hd D acc H nD hD p
theorem k_lcR {n : Nat} (hz : n ≤ 100000) (Pv : Nat → List V → Hp → Prop) (h0 : Pv 0 [] H1)
    (hs : ∀ D (i : Nat) acc H, H1 D = none → i < n → H D = some (.lst acc) → Pv i acc (off [D] H) → LcTurnQ g tt te vs σ D (.int (i : Int)) Pv i acc H)
    (hd : ∀ D acc H, H1 D = none → H D = some (.lst acc) → Pv n acc (off [D] H) → Q (.ref D) H) : kLc (Itr 0 n) g tt te vs σ H1 Q := by
  intro D nD
  refine lc_range (lo := 0) (n := n) (LcInv D Pv) ⟨[], upd_same, Nat.le_refl _, by rw [off_upd, off_new nD]; exact h0⟩ ?_ ?_
  · rintro i H hx ⟨acc, hD, ha, p⟩
    rw [Int.zero_add]
    exact lcinv_next ha (by omega) (hs D i acc H nD hx hD p)
  · rintro H ⟨acc, hD, _, p⟩
    exact hd D acc H nD hD p
end
/-! ### pure comprehensions, the target a name -/
/-- a test, an element: told of each heap that has grown -/
def EvT (t : TT) (σ : L2.St) (H : Hp) (b : Bool) : Prop := ∀ H1, Same H H1 → ∀ Q : Bool → Hp → Prop, (∀ H2, Same H1 H2 → Q b H2) → t σ H1 Q
def EvE (t : TE) (σ : L2.St) (H : Hp) (v : V) : Prop := ∀ H1, Same H H1 → ∀ Q : VK, (∀ H2, Same H1 H2 → Q v H2) → t σ H1 Q
theorem evT_yes {σ : L2.St} {H : Hp} : EvT tYes σ H true := fun H1 _ Q q => q H1 (Same.refl _)
def made (f : V → Bool) (v : V → V) (xs : List V) : List V := (xs.filter f).map v
theorem made_take {f : V → Bool} {v : V → V} {xs : List V} {i : Nat} {x : V} (h : xs[i]? = some x) :
    made f v (xs.take (i + 1)) = if f x = true then made f v (xs.take i) ++ [v x] else made f v (xs.take i) := by
  unfold made
  have e : xs.take (i + 1) = xs.take i ++ [x] := by
    rw [List.take_succ, h]; rfl
  rw [e, List.filter_append, List.map_append]
  by_cases c : f x = true
  · rw [if_pos c]; simp [List.filter_cons, c]
  · rw [if_neg c]; simp [List.filter_cons, c]
section
variable {K : PySem.W.Frag} {a : Addr} {j : Nat} {tt : TT} {te : TE} {vs : List Nat} {σ : L2.St} {H1 : Hp} {Q : VK}
theorem pure_turn {f : V → Bool} {v : V → V} {xs : List V} {D : Addr} {i : Nat} {x : V} {acc : List V} {H : Hp} (nD : H1 D = none) (hx : xs[i]? = some x) (hD : H D = some (.lst acc))
    (p : acc = made f v (xs.take i) ∧ Same H1 (off [D] H)) (hw : ∀ x, wipe ((wipe σ vs).set j (some x)) vs = wipe σ vs) (ht : EvT tt ((wipe σ vs).set j (some x)) H1 (f x))
    (he : f x = true → EvE te ((wipe σ vs).set j (some x)) H1 (v x)) :
    LcTurnQ (gName j) tt te vs σ D x (fun i acc G => acc = made f v (xs.take i) ∧ Same H1 G) i acc H := by
  intro Nx Ny n1 n2 hl
  obtain ⟨pa, ps⟩ := p
  have s0 : Same H1 H := ps.trans off_sub
  have up : ∀ {H2}, Same H H2 → Same H1 (off [D] H2) := fun s b o e => off_mk (s b o (s0 b o e)) (by
    intro hm; rw [List.mem_singleton] at hm; rw [hm, nD] at e; cases e)
  refine w_name ⟨hw x, ?_⟩
  refine ht H s0 _ fun H2 s2 => ?_
  have mt := made_take (f := f) (v := v) hx
  cases c : f x with
  | true =>
    refine iteT ?_
    refine he c H2 (s0.trans s2) _ fun H3 s3 => ⟨acc, s3 _ _ (s2 _ _ hD), hl, n1 (v x) H3 (s3 _ _ (s2 _ _ hD)) ⟨?_, up (s2.trans s3)⟩⟩
    rw [mt, if_pos c, pa]
  | false =>
    refine iteF ?_
    refine n2 H2 (s2 _ _ hD) ⟨?_, up s2⟩
    rw [mt, if_neg (by rw [c]; exact Bool.false_ne_true), pa]
theorem p_lcT {xs : List V} (f : V → Bool) (v : V → V) (hz : xs.length ≤ 100000) (hx : SqT K H1 a xs) (hw : ∀ x, wipe ((wipe σ vs).set j (some x)) vs = wipe σ vs)
    (ht : ∀ x ∈ xs, EvT tt ((wipe σ vs).set j (some x)) H1 (f x)) (he : ∀ x ∈ xs, f x = true → EvE te ((wipe σ vs).set j (some x)) H1 (v x))
    (k : ∀ D H2, H1 D = none → Same H1 H2 → H2 D = some (.lst (made f v xs)) → Q (.ref D) H2) : kLc (Itt K a) (gName j) tt te vs σ H1 Q := by
  refine k_lcT (xs := xs) hz (fun i acc G => acc = made f v (xs.take i) ∧ Same H1 G) ⟨rfl, Same.refl _⟩ (fun i acc G p => same_seqT p.2 hx) ?_ ?_
  · intro D i x acc H nD hi hD p
    have hm := List.mem_of_getElem? hi
    exact pure_turn nD hi hD p hw (ht x hm) (he x hm)
  · rintro D acc H nD hD ⟨pa, ps⟩
    rw [List.take_length] at pa
    exact k D H nD (ps.trans off_sub) (pa ▸ hD)
theorem p_lcL {xs : List V} (f : V → Bool) (v : V → V) (hz : xs.length ≤ 100000) (hx : SqL K H1 a xs) (hw : ∀ x, wipe ((wipe σ vs).set j (some x)) vs = wipe σ vs)
    (ht : ∀ x ∈ xs, EvT tt ((wipe σ vs).set j (some x)) H1 (f x)) (he : ∀ x ∈ xs, f x = true → EvE te ((wipe σ vs).set j (some x)) H1 (v x))
    (k : ∀ D H2, H1 D = none → Same H1 H2 → H2 D = some (.lst (made f v xs)) → Q (.ref D) H2) : kLc (Itl K a) (gName j) tt te vs σ H1 Q := by
  refine k_lcL (xs := xs) hz (fun i acc G => acc = made f v (xs.take i) ∧ Same H1 G) ⟨rfl, Same.refl _⟩ (fun i acc G p => p.2.seq hx) ?_ ?_
  · intro D i x acc H nD hi hD p
    have hm := List.mem_of_getElem? hi
    exact pure_turn nD hi hD p hw (ht x hm) (he x hm)
  · rintro D acc H nD hD ⟨pa, ps⟩
    rw [List.take_length] at pa
    exact k D H nD (ps.trans off_sub) (pa ▸ hD)
end
/-! ### least and greatest -/
def maxO : List Int → Option Int
  | [] => none
  | x :: r => maxE (some x) (maxO r)
def minO : List Int → Option Int
  | [] => none
  | x :: r => minE (some x) (minO r)
theorem maxO_in : ∀ {ns : List Int} {m : Int}, maxO ns = some m → m ∈ ns ∧ ∀ y ∈ ns, y ≤ m
  | [], m, h => nomatch h
  | x :: r, m, h => by
    cases e : maxO r with
    | none =>
      simp only [maxO, e, maxE] at h
      cases h
      refine ⟨List.mem_cons_self, fun y hy => ?_⟩
      rcases List.mem_cons.mp hy with rfl | hy
      · exact Int.le_refl _
      · cases r with
        | nil => cases hy
        | cons z t => cases f : maxO t <;> simp [maxO, f, maxE] at e
    | some k =>
      obtain ⟨h1, h2⟩ := maxO_in e
      simp only [maxO, e, maxE] at h
      cases h
      refine ⟨?_, fun y hy => ?_⟩
      · by_cases c : k ≤ x
        · rw [Int.max_eq_left c]; exact List.mem_cons_self
        · rw [Int.max_eq_right (by omega)]; exact List.mem_cons_of_mem _ h1
      · rcases List.mem_cons.mp hy with rfl | hy
        · omega
        · have := h2 y hy; omega
theorem minO_in : ∀ {ns : List Int} {m : Int}, minO ns = some m → m ∈ ns ∧ ∀ y ∈ ns, m ≤ y
  | [], m, h => nomatch h
  | x :: r, m, h => by
    cases e : minO r with
    | none =>
      simp only [minO, e, minE] at h
      cases h
      refine ⟨List.mem_cons_self, fun y hy => ?_⟩
      rcases List.mem_cons.mp hy with rfl | hy
      · exact Int.le_refl _
      · cases r with
        | nil => cases hy
        | cons z t => cases f : minO t <;> simp [minO, f, minE] at e
    | some k =>
      obtain ⟨h1, h2⟩ := minO_in e
      simp only [minO, e, minE] at h
      cases h
      refine ⟨?_, fun y hy => ?_⟩
      · by_cases c : x ≤ k
        · rw [Int.min_eq_left c]; exact List.mem_cons_self
        · rw [Int.min_eq_right (by omega)]; exact List.mem_cons_of_mem _ h1
      · rcases List.mem_cons.mp hy with rfl | hy
        · omega
        · have := h2 y hy; omega
theorem maxO_of {ns : List Int} {m : Int} (h1 : m ∈ ns) (h2 : ∀ y ∈ ns, y ≤ m) : maxO ns = some m := by
  cases e : maxO ns with
  | none => cases ns with
    | nil => cases h1
    | cons z t => cases f : maxO t <;> simp [maxO, f, maxE] at e
  | some k =>
    obtain ⟨k1, k2⟩ := maxO_in e
    have a := k2 m h1
    have b := h2 k k1
    congr 1; omega
theorem minO_of {ns : List Int} {m : Int} (h1 : m ∈ ns) (h2 : ∀ y ∈ ns, m ≤ y) : minO ns = some m := by
  cases e : minO ns with
  | none => cases ns with
    | nil => cases h1
    | cons z t => cases f : minO t <;> simp [minO, f, minE] at e
  | some k =>
    obtain ⟨k1, k2⟩ := minO_in e
    have a := k2 m h1
    have b := h2 k k1
    congr 1; omega
/-- the ends that there are -/
def pres (es : List (Option Int)) : List Int := es.filterMap id
theorem made_pres : ∀ es : List (Option Int), made (fun x => !decide (x = V.non)) (fun x => x) (es.map eV) = (pres es).map V.int
  | [] => rfl
  | none :: r => by
    have ih := made_pres r
    unfold made pres at *
    simpa [eV] using ih
  | some i :: r => by
    have ih := made_pres r
    unfold made pres at *
    simpa [eV] using ih
theorem max_pres2 (a b : Option Int) : maxO (pres [a, b]) = maxE a b := by cases a <;> cases b <;> rfl
theorem min_pres2 (a b : Option Int) : minO (pres [a, b]) = minE a b := by cases a <;> cases b <;> rfl
section
variable {K : PySem.W.Frag} {p : Addr} {H : Hp} {Q : VK} {ns : List Int}
theorem w_maxD (h : SqL K H p (ns.map V.int)) (k : Q (eV (maxO ns)) H) : rMaxD K [.ref p] [.non] H Q :=
  ⟨p, ns, .non, rfl, rfl, h, fun e => by subst e; exact k, fun m h1 h2 => by rw [maxO_of h1 h2] at k; exact k⟩
theorem w_minD (h : SqL K H p (ns.map V.int)) (k : Q (eV (minO ns)) H) : rMinD K [.ref p] [.non] H Q :=
  ⟨p, ns, .non, rfl, rfl, h, fun e => by subst e; exact k, fun m h1 h2 => by rw [minO_of h1 h2] at k; exact k⟩
theorem w_max (h : SqL K H p (ns.map V.int)) (h0 : 0 < ns.length) (k : ∀ m, maxO ns = some m → Q (.int m) H) : rMax K [.ref p] H Q := ⟨p, ns, rfl, h, h0, fun m h1 h2 => k m (maxO_of h1 h2)⟩
theorem w_min (h : SqL K H p (ns.map V.int)) (h0 : 0 < ns.length) (k : ∀ m, minO ns = some m → Q (.int m) H) : rMin K [.ref p] H Q := ⟨p, ns, rfl, h, h0, fun m h1 h2 => k m (minO_of h1 h2)⟩
end
end Sil
set_option Elab.async false
set_option linter.all false
set_option maxRecDepth 100000
set_option maxHeartbeats 1000000
/-! P5: how long a repr is; loops; comprehensions by places. -/
namespace Sil
open PySem L2
/-! ### how long a repr is -/
theorem upto_list (ts : List Str) : (listText ts).length ≤ piled ts + 2 := by
  have gen : ∀ (ts : List Str) (k : Nat) (acc : Str), (textFrom k acc ts).length ≤ acc.length + piled ts := by
    intro ts
    induction ts with
    | nil => intro k acc; exact Nat.le_refl _
    | cons t r ih =>
      intro k acc
      have h := ih (k + 1) (acc ++ (if k > 0 then ", " else "" : String) ++ t)
      have e : (acc ++ (if k > 0 then ", " else "" : String) ++ t).length ≤ acc.length + 2 + t.length := by
        rw [strLen_append, strLen_append]
        have : (((if k > 0 then ", " else "" : String)) : Str).length ≤ 2 := by split <;> decide
        omega
      show (textFrom (k + 1) _ r).length ≤ _
      rw [piled_cons]
      omega
  have h := gen ts 0 "["
  unfold listText
  rw [strLen_append]
  have e1 : ((("[" : String) : Str)).length = 1 := rfl
  have e2 : ((("]" : String) : Str)).length = 1 := rfl
  omega
theorem upto_tuple (ts : List Str) : (tupleText ts).length ≤ piled ts + 3 := by
  unfold tupleText
  rw [strLen_append, strLen_append]
  have e1 : ((("(" : String) : Str)).length = 1 := rfl
  have e3 : (((if ts.length == 1 then ",)" else ")" : String) : Str)).length ≤ 2 := by split <;> decide
  by_cases h : ts = []
  · subst h
    have e4 : (Str.join ", " ([] : List Str)).length = 0 := rfl
    omega
  · have := join_length_add ts h
    omega
mutual
/-- a bound of a repr's length -/
def bnd : PyData → Nat
  | .none => 4
  | .bool _ => 5
  | .int _ => 1921
  | .str x => (reprText x).length
  | .list xs => bndAll xs + 2
  | .tuple xs => bndAll xs + 3
  | .dict _ => 0
def bndAll : List PyData → Nat
  | [] => 0
  | x :: r => bnd x + 2 + bndAll r
end
mutual
theorem shown_le : ∀ d : PyData, d.showable = true → d.hasDict = false → d.shown.length ≤ bnd d
  | .none, _, _ => by decide
  | .bool true, _, _ => by decide
  | .bool false, _, _ => by decide
  | .int i, h, _ => by
    have h : i.natAbs.log2 < 1920 := of_decide_eq_true h
    have q := int_text_length_le (a := i) (k := 1920) (by decide) h
    have e := ofString_length (toString i)
    show (Str.ofString (toString i)).length ≤ 1921
    omega
  | .str x, _, _ => Nat.le_refl _
  | .list xs, h, n => by
    have q := shownAll_le xs h n
    have u := upto_list (PyData.shownAll xs)
    show (listText (PyData.shownAll xs)).length ≤ bndAll xs + 2
    omega
  | .tuple xs, h, n => by
    have q := shownAll_le xs h n
    have u := upto_tuple (PyData.shownAll xs)
    show (tupleText (PyData.shownAll xs)).length ≤ bndAll xs + 3
    omega
  | .dict _, _, n => nomatch n
theorem shownAll_le : ∀ xs : List PyData, PyData.showableAll xs = true → PyData.hasDictAll xs = false → piled (PyData.shownAll xs) ≤ bndAll xs
  | [], _, _ => Nat.le_refl _
  | x :: r, h, n => by
    have h : (x.showable && PyData.showableAll r) = true := h
    have n : (x.hasDict || PyData.hasDictAll r) = false := n
    rw [Bool.and_eq_true] at h
    rw [Bool.or_eq_false_iff] at n
    have a := shown_le x h.1 n.1
    have b := shownAll_le r h.2 n.2
    show piled (x.shown :: PyData.shownAll r) ≤ bnd x + 2 + bndAll r
    rw [piled_cons]
    omega
end
theorem w_repr {K : PySem.W.Frag} {H : Hp} {Q : VK} {v : V} {d : PyData} (h : Dp K H v d) (hs : d.showable = true) (hn : d.hasDict = false) (hd : d.depth ≤ 40) (hb : bnd d ≤ 10000000)
    (k : Q (.str d.shown) H) : rRepr K [v] H Q := ⟨v, d, rfl, h, hs, hn, hd, Nat.le_trans (shown_le d hs hn) (Nat.le_trans hb (by decide)), k⟩
/-! ### loops -/
def kFor (J : It) (g : TG) (tb : TS) (D : Ends) (σ : L2.St) (H1 : Hp) : Prop := ∃ W : Nat → Nat → L2.St → Hp → Prop, (∃ m, W 0 m σ H1) ∧ ∀ i m σ H, W i m σ H →
  (J.stop i H ∧ D.nx σ H) ∨ (J.go i H ∧ ∃ N : L2.St → Hp → Prop, (∀ σ' H', N σ' H' → ∃ m', m' < m ∧ W (i + 1) m' σ' H') ∧
    ∀ x H', J.yld i H x H' → g x σ H' fun σ2 H2 => tb { D with nx := N, ct := N, bk := D.nx } σ2 H2)
section
variable {K : PySem.W.Frag} {tl : TE} {ta : TA} {g : TG} {tb : TS} {D : Ends} {σ : L2.St} {H : Hp} {a : Addr}
theorem w_forT (k : tl σ H fun x H1 => ∃ a, x = .ref a ∧ (∃ xs, SqT K H1 a xs) ∧ kFor (Itt K a) g tb D σ H1) : tFor (iTup K tl) g tb D σ H := k
theorem w_forL (k : tl σ H fun x H1 => ∃ a, x = .ref a ∧ (∃ xs, SqL K H1 a xs) ∧ kFor (Itl K a) g tb D σ H1) : tFor (iList K tl) g tb D σ H := k
theorem w_forR (k : ta σ H fun zs H1 => ∃ j : Int, zs = [.int j] ∧ -(2 ^ 62) ≤ j ∧ j < 2 ^ 62 ∧ kFor (Itr 0 j.toNat) g tb D σ H1) : tFor (iRng1 ta) g tb D σ H := k
theorem k_forR {n : Nat} (Pv : Nat → L2.St → Hp → Prop) (h0 : Pv 0 σ H)
    (hs : ∀ (i : Nat) σ H, i < n → Pv i σ H → g (.int (i : Int)) σ H fun σ2 H2 => tb { D with nx := Pv (i + 1), ct := Pv (i + 1), bk := D.nx } σ2 H2) (hd : ∀ σ H, Pv n σ H → D.nx σ H) :
    kFor (Itr 0 n) g tb D σ H := for_range (lo := 0) Pv h0 (fun i σ H hi p => by rw [Int.zero_add]; exact hs i σ H hi p) hd
theorem k_forL {xs : List V} (Pv : Nat → L2.St → Hp → Prop) (h0 : Pv 0 σ H) (hl : ∀ i σ H, Pv i σ H → SqL K H a xs)
    (hs : ∀ i x σ H, xs[i]? = some x → Pv i σ H → g x σ H fun σ2 H2 => tb { D with nx := Pv (i + 1), ct := Pv (i + 1), bk := D.nx } σ2 H2) (hd : ∀ σ H, Pv xs.length σ H → D.nx σ H) :
    kFor (Itl K a) g tb D σ H := for_list Pv h0 (fun i σ H _ p => hl i σ H p) hs hd
theorem k_forT {xs : List V} (Pv : Nat → L2.St → Hp → Prop) (h0 : Pv 0 σ H) (hl : ∀ i σ H, Pv i σ H → SqT K H a xs)
    (hs : ∀ i x σ H, xs[i]? = some x → Pv i σ H → g x σ H fun σ2 H2 => tb { D with nx := Pv (i + 1), ct := Pv (i + 1), bk := D.nx } σ2 H2) (hd : ∀ σ H, Pv xs.length σ H → D.nx σ H) :
    kFor (Itt K a) g tb D σ H := for_tup Pv h0 (fun i σ H _ p => hl i σ H p) hs hd
end
theorem w_gtup {K : PySem.W.Frag} {n : Nat} {t : TGs} {p : Addr} {xs : List V} {σ : L2.St} {H : Hp} {Q : L2.St → Hp → Prop} (h : SqT K H p xs) (hl : xs.length = n) (k : t xs σ H Q) : gTup K n t (.ref p) σ H Q :=
  ⟨p, xs, rfl, h, hl, k⟩
theorem w_gcons {t : TG} {u : TGs} {v : V} {r : List V} {σ : L2.St} {H : Hp} {Q : L2.St → Hp → Prop} (k : t v σ H fun σ' H' => u r σ' H' Q) : gCons t u (v :: r) σ H Q := ⟨v, r, rfl, k⟩
theorem w_gnil {σ : L2.St} {H : Hp} {Q : L2.St → Hp → Prop} (k : Q σ H) : gNil [] σ H Q := ⟨rfl, k⟩
/-! ### pure comprehensions by places -/
def madeI (f : Nat → Bool) (v : Nat → V) : Nat → List V
  | 0 => []
  | n + 1 => if f n = true then madeI f v n ++ [v n] else madeI f v n
section
variable {K : PySem.W.Frag} {a : Addr} {g : TG} {tt : TT} {te : TE} {vs : List Nat} {σ : L2.St} {H1 : Hp} {Q : VK}
/-- a turn by places: what the target stores is told by S -/
def TurnI (g : TG) (tt : TT) (te : TE) (vs : List Nat) (σ : L2.St) (H1 : Hp) (x : V) (b : Bool) (v : V) : Prop :=
  ∀ H, Same H1 H → ∀ R : L2.St → Hp → Prop, (∀ σ2, wipe σ2 vs = wipe σ vs → EvT tt σ2 H1 b → (b = true → EvE te σ2 H1 v) → R σ2 H) → g x (wipe σ vs) H R
theorem turnI {f : Nat → Bool} {v : Nat → V} {D : Addr} {i : Nat} {x : V} {acc : List V} {H : Hp} (nD : H1 D = none) (hD : H D = some (.lst acc))
    (p : acc = madeI f v i ∧ Same H1 (off [D] H)) (h : TurnI g tt te vs σ H1 x (f i) (v i)) :
    LcTurnQ g tt te vs σ D x (fun i acc G => acc = madeI f v i ∧ Same H1 G) i acc H := by
  intro Nx Ny n1 n2 hl
  obtain ⟨pa, ps⟩ := p
  have s0 : Same H1 H := ps.trans off_sub
  have up : ∀ {H2}, Same H H2 → Same H1 (off [D] H2) := fun s b o e => off_mk (s b o (s0 b o e)) (by
    intro hm; rw [List.mem_singleton] at hm; rw [hm, nD] at e; cases e)
  refine h H s0 _ fun σ2 hw ht he => ⟨hw, ht H s0 _ fun H2 s2 => ?_⟩
  cases c : f i with
  | true =>
    refine iteT (he c H2 (s0.trans s2) _ fun H3 s3 => ⟨acc, s3 _ _ (s2 _ _ hD), hl, n1 (v i) H3 (s3 _ _ (s2 _ _ hD)) ⟨?_, up (s2.trans s3)⟩⟩)
    show acc ++ [v i] = if f i = true then madeI f v i ++ [v i] else madeI f v i
    rw [if_pos c, pa]
  | false =>
    refine iteF (n2 H2 (s2 _ _ hD) ⟨?_, up s2⟩)
    show acc = if f i = true then madeI f v i ++ [v i] else madeI f v i
    rw [if_neg (by rw [c]; exact Bool.false_ne_true), pa]
theorem i_lcT {xs : List V} (f : Nat → Bool) (v : Nat → V) (hz : xs.length ≤ 100000) (hx : SqT K H1 a xs) (ht : ∀ i x, xs[i]? = some x → TurnI g tt te vs σ H1 x (f i) (v i))
    (k : ∀ D H2, H1 D = none → Same H1 H2 → H2 D = some (.lst (madeI f v xs.length)) → Q (.ref D) H2) : kLc (Itt K a) g tt te vs σ H1 Q := by
  refine k_lcT (xs := xs) hz (fun i acc G => acc = madeI f v i ∧ Same H1 G) ⟨rfl, Same.refl _⟩ (fun i acc G p => same_seqT p.2 hx) ?_ ?_
  · intro D i x acc H nD hi hD p
    exact turnI nD hD p (ht i x hi)
  · rintro D acc H nD hD ⟨pa, ps⟩
    exact k D H nD (ps.trans off_sub) (pa ▸ hD)
theorem i_lcL {xs : List V} (f : Nat → Bool) (v : Nat → V) (hz : xs.length ≤ 100000) (hx : SqL K H1 a xs) (ht : ∀ i x, xs[i]? = some x → TurnI g tt te vs σ H1 x (f i) (v i))
    (k : ∀ D H2, H1 D = none → Same H1 H2 → H2 D = some (.lst (madeI f v xs.length)) → Q (.ref D) H2) : kLc (Itl K a) g tt te vs σ H1 Q := by
  refine k_lcL (xs := xs) hz (fun i acc G => acc = madeI f v i ∧ Same H1 G) ⟨rfl, Same.refl _⟩ (fun i acc G p => p.2.seq hx) ?_ ?_
  · intro D i x acc H nD hi hD p
    exact turnI nD hD p (ht i x hi)
  · rintro D acc H nD hD ⟨pa, ps⟩
    exact k D H nD (ps.trans off_sub) (pa ▸ hD)
theorem i_lcR {n : Nat} (f : Nat → Bool) (v : Nat → V) (hz : n ≤ 100000) (ht : ∀ i : Nat, i < n → TurnI g tt te vs σ H1 (.int (i : Int)) (f i) (v i))
    (k : ∀ D H2, H1 D = none → Same H1 H2 → H2 D = some (.lst (madeI f v n)) → Q (.ref D) H2) : kLc (Itr 0 n) g tt te vs σ H1 Q := by
  refine k_lcR (n := n) hz (fun i acc G => acc = madeI f v i ∧ Same H1 G) ⟨rfl, Same.refl _⟩ ?_ ?_
  · intro D i acc H nD hi hD p
    exact turnI nD hD p (ht i hi)
  · rintro D acc H nD hD ⟨pa, ps⟩
    exact k D H nD (ps.trans off_sub) (pa ▸ hD)
/-- the target is a name -/
theorem turn_name {j : Nat} {x : V} {b : Bool} {v : V} (hw : ∀ x, wipe ((wipe σ vs).set j (some x)) vs = wipe σ vs) (ht : EvT tt ((wipe σ vs).set j (some x)) H1 b)
    (he : b = true → EvE te ((wipe σ vs).set j (some x)) H1 v) : TurnI (gName j) tt te vs σ H1 x b v := fun H _ R k => w_name (k _ (hw x) ht he)
end
end Sil
set_option Elab.async false
set_option linter.all false
set_option maxRecDepth 100000
set_option maxHeartbeats 1000000
/-! P6: the rules with the written part told (so that a comprehension's block has the same readings), their readings by names. -/
namespace Sil
open PySem L2
section
variable {X : Cx} (K : PySem.W.Frag)
theorem k_ixL (h : X.K = K := by rfl) : IxR X (rIxL K) := by subst h; exact ix_list
theorem k_ixT (h : X.K = K := by rfl) : IxR X (rIxT K) := by subst h; exact ix_tup
theorem k_slT (h : X.K = K := by rfl) : SlR X (rSlT K) := by subst h; exact sl_tup
theorem k_slL (h : X.K = K := by rfl) : SlR X (rSlL K) := by subst h; exact sl_list
def rLen : List V → Hp → VK → Prop := fun xs H Q => ∃ p ys, xs = [.ref p] ∧ (SqL K H p ys ∨ SqT K H p ys) ∧ Q (.int ys.length) H
theorem k_len (h : X.K = K := by rfl) : CallR X (.builtin "len") (rLen K) := by subst h; exact call_len_seq
def rListOf : List V → Hp → VK → Prop := fun xs H Q => ∃ p ys, xs = [.ref p] ∧ (SqL K H p ys ∨ SqT K H p ys) ∧ ∀ l, H l = none → Q (.ref l) (upd H l (.lst ys))
theorem k_list (h : X.K = K := by rfl) : CallR X (.type "list") (rListOf K) := by subst h; exact call_list_of
def rTupOf : List V → Hp → VK → Prop := fun xs H Q => ∃ p ys, xs = [.ref p] ∧ ((SqL K H p ys ∧ ∀ l, H l = none → Q (.ref l) (upd H l (.tup ys))) ∨ (SqT K H p ys ∧ Q (.ref p) H))
theorem k_tuple (h : X.K = K := by rfl) : CallR X (.type "tuple") (rTupOf K) := by subst h; exact call_tuple_of
theorem k_sum (hc : X.calm = true := by rfl) (h : X.K = K := by rfl) : CallR X (.builtin "sum") (rSum K) := by subst h; exact cr_sum hc
theorem k_max (hc : X.calm = true := by rfl) (h : X.K = K := by rfl) : CallR X (.builtin "max") (rMax K) := by subst h; exact cr_max hc
theorem k_min (hc : X.calm = true := by rfl) (h : X.K = K := by rfl) : CallR X (.builtin "min") (rMin K) := by subst h; exact cr_min hc
theorem k_all (hc : X.calm = true := by rfl) (h : X.K = K := by rfl) : CallR X (.builtin "all") (rAll K) := by subst h; exact cr_all hc
theorem k_any (hc : X.calm = true := by rfl) (h : X.K = K := by rfl) : CallR X (.builtin "any") (rAny K) := by subst h; exact cr_any hc
theorem k_sortedS (h : X.K = K := by rfl) : CallR X (.builtin "sorted") (rSortedS K) := by subst h; exact cr_sortedS
theorem k_maxD (hc : X.calm = true := by rfl) (h : X.K = K := by rfl) : CallRK X (.builtin "max") [Str.ofString "default"] (rMaxD K) := by subst h; exact cr_maxD hc
theorem k_minD (hc : X.calm = true := by rfl) (h : X.K = K := by rfl) : CallRK X (.builtin "min") [Str.ofString "default"] (rMinD K) := by subst h; exact cr_minD hc
theorem k_sumS (hc : X.calm = true := by rfl) (h : X.K = K := by rfl) : CallRK X (.builtin "sum") [Str.ofString "start"] (rSumS K) := by subst h; exact cr_sumS hc
theorem k_isi (h : X.K = K := by rfl) : CallR X (.builtin "isinstance") (rIsi K) := by subst h; exact call_isi
theorem k_isiT (h : X.K = K := by rfl) : CallR X (.builtin "isinstance") (rIsiT K) := by subst h; exact call_isiT
theorem k_repr {k : Nat} (hr : Room k X.A) (hg : Calm X.A) (h : X.K = K := by rfl) : CallR X (.builtin "repr") (rRepr K) := by subst h; exact cr_repr hr hg
theorem k_in (h : X.K = K := by rfl) : OpR X (compareOp .In) (rIn K false) := by subst h; exact op_in_seq
theorem k_notIn (h : X.K = K := by rfl) : OpR X (compareOp .NotIn) (rIn K true) := by subst h; exact op_notIn_seq
theorem k_eqD {k : Nat} (hr : Room k X.A) (h : X.K = K := by rfl) : OpR X (compareOp .Eq) (rEqD K) := by subst h; exact op_eqD hr.units
theorem k_neD {k : Nat} (hr : Room k X.A) (h : X.K = K := by rfl) : OpR X (compareOp .NotEq) (rNeD K) := by subst h; exact op_neD hr.units
end
section
variable {X : Cx}
def rIsNon : R2 := fun x y H Q => y = .non ∧ Q (.bl (decide (x = .non))) H
def rNotNon : R2 := fun x y H Q => y = .non ∧ Q (.bl (!decide (x = .non))) H
theorem k_isN : OpR X (compareOp .Is) rIsNon := op_isN
theorem k_notN : OpR X (compareOp .IsNot) rNotNon := op_notN
def rAbs : List V → Hp → VK → Prop := fun xs H Q => ∃ i, xs = [.int i] ∧ Q (.int (if i < 0 then -i else i)) H
theorem k_abs : CallR X (.builtin "abs") rAbs := call_abs
def rMax2 : List V → Hp → VK → Prop := fun xs H Q => ∃ i j, xs = [.int i, .int j] ∧ Q (.int (if j > i then j else i)) H
def rMin2 : List V → Hp → VK → Prop := fun xs H Q => ∃ i j, xs = [.int i, .int j] ∧ Q (.int (if j < i then j else i)) H
theorem k_max2 (hc : X.calm = true := by rfl) : CallR X (.builtin "max") rMax2 := call_max2 hc
theorem k_min2 (hc : X.calm = true := by rfl) : CallR X (.builtin "min") rMin2 := call_min2 hc
def rLenStr : List V → Hp → VK → Prop := fun xs H Q => ∃ z, xs = [.str z] ∧ z.length ≤ sizeLine ∧ Q (.int z.length) H
theorem k_lenStr : CallR X (.builtin "len") rLenStr := call_len_str
def rInt1 : List V → Hp → VK → Prop := fun xs H Q => (∃ i, xs = [.int i] ∧ Q (.int i) H) ∨ ∃ k, xs = [.bl k] ∧ Q (.int (if k then 1 else 0)) H
theorem k_int1 : CallR X (.type "int") rInt1 := call_int1
def rLtS : R2 := fun x y H Q => ∃ i j, x = .str i ∧ y = .str j ∧ Q (.bl (decide (i.cps.toList < j.cps.toList))) H
theorem k_ltS : OpR X (compareOp .Lt) rLtS := op_lt_str
def rAddS : R2 := fun x y H Q => ∃ i j, x = .str i ∧ y = .str j ∧ i.length + j.length ≤ sizeLine ∧ Q (.str (i ++ j)) H
theorem k_addS : OpR X (binaryOp .Add) rAddS := op_add_str
end
section
variable {X : Cx} (K : PySem.W.Frag) {e o tg : Expr} {es : List Expr} {ta to : TE} {t : TA} {f name : Str} {pos apos cpos : Pos} {T id : String} {r : V → List V → Hp → VK → Prop} {pl : Sem Bool}
theorem pe_fldK (he : PE X e ta) (hb : attributeBase e f X.env (eval e X.env) = eval e X.env := by rfl) (h : X.K = K := by rfl) : PE X (.Attribute e f pos) (tFld K ta f) := by subst h; exact pe_fld he hb
theorem pi_listK (hl : PE X e ta) (h : X.K = K := by rfl) : PI X tg e (iList K ta) := by subst h; exact pi_list hl
theorem pi_tupK (hl : PE X e ta) (h : X.K = K := by rfl) : PI X tg e (iTup K ta) := by subst h; exact pi_tup hl
end
/-! readings by names -/
section
variable {K : PySem.W.Frag} {H : Hp} {Q : VK} {x v : V} {p : Addr} {xs : List V}
theorem w_isN (k : Q (.bl (decide (x = .non))) H) : rIsNon x .non H Q := ⟨rfl, k⟩
theorem w_notN (k : Q (.bl (!decide (x = .non))) H) : rNotNon x .non H Q := ⟨rfl, k⟩
theorem w_abs {i : Int} (k : Q (.int (if i < 0 then -i else i)) H) : rAbs [.int i] H Q := ⟨i, rfl, k⟩
theorem w_max2 {i j : Int} (k : Q (.int (if j > i then j else i)) H) : Sil.rMax2 [.int i, .int j] H Q := ⟨i, j, rfl, k⟩
theorem w_min2 {i j : Int} (k : Q (.int (if j < i then j else i)) H) : rMin2 [.int i, .int j] H Q := ⟨i, j, rfl, k⟩
theorem w_lenL (h : SqL K H p xs) (k : Q (.int xs.length) H) : rLen K [.ref p] H Q := ⟨p, xs, rfl, .inl h, k⟩
theorem w_lenT (h : SqT K H p xs) (k : Q (.int xs.length) H) : rLen K [.ref p] H Q := ⟨p, xs, rfl, .inr h, k⟩
theorem w_lenS {z : Str} (h : z.length ≤ sizeLine) (k : Q (.int z.length) H) : rLenStr [.str z] H Q := ⟨z, rfl, h, k⟩
theorem w_list {ys : List V} (h : SqL K H p ys ∨ SqT K H p ys) (k : ∀ l H2, H l = none → Same H H2 → H2 l = some (.lst ys) → Q (.ref l) H2) : rListOf K [.ref p] H Q :=
  ⟨p, ys, rfl, h, fun l nl => k l _ nl (same_new nl) upd_same⟩
theorem w_tupleL {ys : List V} (h : SqL K H p ys) (k : ∀ l H2, H l = none → Same H H2 → H2 l = some (.tup ys) → Q (.ref l) H2) : rTupOf K [.ref p] H Q :=
  ⟨p, ys, rfl, .inl ⟨h, fun l nl => k l _ nl (same_new nl) upd_same⟩⟩
theorem w_eqD {y : V} {d e : PyData} (h1 : Dp K H x d) (h2 : Dp K H y e) (s1 : SeqAt.shaped d = true) (s2 : SeqAt.shaped e = true) (k : Q (.bl (PyData.eqv d e)) H) : rEqD K x y H Q := ⟨d, e, h1, h2, s1, s2, k⟩
theorem w_neD {y : V} {d e : PyData} (h1 : Dp K H x d) (h2 : Dp K H y e) (s1 : SeqAt.shaped d = true) (s2 : SeqAt.shaped e = true) (k : Q (.bl (!PyData.eqv d e)) H) : rNeD K x y H Q := ⟨d, e, h1, h2, s1, s2, k⟩
theorem w_inT (h : SqT K H p xs) (hx : flatV x = true) (ha : xs.all flatV = true) (k : Q (.bl (inV x xs)) H) : rIn K false x (.ref p) H Q := ⟨p, xs, rfl, .inr h, hx, ha, k⟩
theorem w_inL (h : SqL K H p xs) (hx : flatV x = true) (ha : xs.all flatV = true) (k : Q (.bl (inV x xs)) H) : rIn K false x (.ref p) H Q := ⟨p, xs, rfl, .inl h, hx, ha, k⟩
theorem w_notInT (h : SqT K H p xs) (hx : flatV x = true) (ha : xs.all flatV = true) (k : Q (.bl (!inV x xs)) H) : rIn K true x (.ref p) H Q := ⟨p, xs, rfl, .inr h, hx, ha, k⟩
theorem w_addS {i j : Str} (h : i.length + j.length ≤ sizeLine) (k : Q (.str (i ++ j)) H) : rAddS (.str i) (.str j) H Q := ⟨i, j, rfl, rfl, h, k⟩
theorem w_ltS {i j : Str} (k : Q (.bl (decide (i.cps.toList < j.cps.toList))) H) : rLtS (.str i) (.str j) H Q := ⟨i, j, rfl, rfl, k⟩
end
/-- ints in a list are data -/
theorem dpAll_ints {K : PySem.W.Frag} {H : Hp} : ∀ ns : List Int, DpAll K H (ns.map V.int) (ns.map PyData.int)
  | [] => .nil
  | n :: r => .cons (.int n) (dpAll_ints r)
theorem canLay_ints : ∀ ns : List Int, PyData.canLayAll0 (ns.map PyData.int) = true
  | [] => rfl
  | n :: r => by
    show (true && PyData.canLayAll0 (r.map PyData.int)) = true
    rw [canLay_ints r]; rfl
theorem depth_ints : ∀ ns : List Int, PyData.depthAll (ns.map PyData.int) = 0
  | [] => rfl
  | n :: r => by
    show max 0 (PyData.depthAll (r.map PyData.int)) = 0
    rw [depth_ints r]; rfl
theorem shaped_ints (ns : List Int) : SeqAt.shaped (.list (ns.map PyData.int)) = true := by
  show (PyData.canLayAll0 (ns.map PyData.int) && decide (PyData.depthAll (ns.map PyData.int) + 1 ≤ 64)) = true
  rw [canLay_ints, depth_ints]; rfl
theorem eqv_nil (ds : List PyData) : PyData.eqv (.list ds) (.list []) = decide (ds = []) := by
  cases ds <;> rfl
/-! ### ways that meet again behind a statement -/
def tMid (t u : TS) : TS := fun D σ H => ∃ M : L2.St → Hp → Prop, t { D with nx := M } σ H ∧ ∀ σ' H', M σ' H' → u D σ' H'
theorem pss_mid {X : Cx} {st : Stmt} {rest : List Stmt} {t u : TS} (h1 : PS X st t) (h2 : PSs X rest u) : PSs X (st :: rest) (tMid t u) := by
  refine ⟨fun pins s σ H D I ⟨M, hm, hu⟩ => wpAny_execs_cons (thn (h1.run pins s σ H { D with nx := M } I hm) ?_)⟩
  intro f s1 q
  cases f with
  | next => obtain ⟨σ', H', I', q⟩ := q; exact h2.run pins s1 σ' H' D I' (hu σ' H' q)
  | ret v => exact q
  | brk => exact q
  | cont => exact q
theorem w_mid {t u : TS} {D : Ends} {σ : L2.St} {H : Hp} (M : L2.St → Hp → Prop) (h : t { D with nx := M } σ H) (k : ∀ σ' H', M σ' H' → u D σ' H') : tMid t u D σ H := ⟨M, h, k⟩
end Sil
set_option Elab.async false
set_option linter.all false
set_option maxRecDepth 100000
set_option maxHeartbeats 1000000
/-! P7: errors: one made of nothing; an object made where its __init__ may raise; keywords at a class. -/
namespace Sil
open PySem L2 PySem.Spec PyProof.Rows
section
variable {X : Cx} {C : Addr} {bmB : List Value} {B newId initId : String}
/-- X(), an own class of errors without __init__ -/
theorem pmk_own0 {x : Str} {p pos : Pos} (F : ExcBaseFacts B newId initId bmB) (q : PySem.W.excIn X.K C bmB newId = true) (gC : X.mg x = some (.ref C))
    (kC : PySem.W.keepIn X.K (.ref C) = true) (r : Raises X (.ref C)) (hg : Gl X x) (hdb : (x == ("__debug__" : Str)) = false := by decide) :
    PMk X (.Call (.Name x p) [] [] pos) (fun _ H Q => Q (.ref C) none H) := by
  intro pins s σ H Q I h
  refine wpAny_Call_Name_kw (ld_glob I hg gC ?_ hdb)
  refine PySem.W.callWith_K0 I.kIn kC ?_
  obtain ⟨bm, N, nm, qn, bs, hdct, sn, sub, ab, col, dd, k0, k1, k2, k3, k5, mN, hC, hN, hni, T⟩ := exc_obj I.kIn q
  refine wpAny_call_exc_subT F T hC hN hni (fun h' e hm => ?_) (Nat.zero_le _)
  exact mk_of I hm r h (I.hok.gone hm.new)
end
section
variable {X : Cx} {CX : CXT} {k : Nat} {f C : Addr} {fd : FuncData} {ps : List Str} {sp : Sp} {dvs : List V} {ds : List Value} {E : L2.St → XK} {x : Str} {p pos : Pos} {e : Expr} {es : List Expr} {t : TA}
theorem run_makeS {pins : List (Addr × Obj)} {σ : L2.St} {H : Hp} {s : Shared} {Q : VK} {us : List Value} {vs : List V} (M : Mk X.K C f)
    (F : FnOk X.prog X.w X.K X.mg X.base CX k f fd ps sp) (hr : Room (k + 1) X.A) (hb : Binds X.K fd ps ds) (hd : Vals dvs ds) (hx : PassesAt CX X σ (E σ))
    (I : Inv X pins σ H s) (r : Vals vs us) (h : kMake C sp (vs ++ dvs) H Q (E σ)) : wpAny (model X.prog X.w) X.A (call (.ref C) us) (EP X pins σ Q) X.xe s := by
  let new : Addr := s.heap.objs.size + 1
  have hq := h new s.heap.objs.size (I.hok.fresh (Nat.le_succ _)) (I.hok.fresh (Nat.le_refl _)) (Nat.ne_of_lt (Nat.lt_succ_self _))
  have J := Inv.made (C := C) I
  have rr : Vals (V.ref new :: (vs ++ dvs)) (Value.ref new :: (us ++ ds)) := .cons rfl (r.append hd)
  have hl : (Value.ref new :: us ++ ds).length = ps.length := (rr.length.symm.trans (F.len _ _ _ _ hq) : _)
  have run := F.run _ X.stack _ _ ⟨Value.ref new :: us, []⟩ (Value.ref new :: (us ++ ds)) _ _ (E σ) (hr.make C us []) (J.env0.make C us []) (hb _ (Value.ref new :: us) J.kIn hl) rr hq
  refine wpAny_call (make_map (f := f) I.kIn M.makes M.init (beq_iff_eq.mp M.fn) (codeAny_mono run ?_))
  rintro (er | fl) s' z
  · exact hx pins _ _ er s' J z
  · cases fl with
    | ret u =>
      obtain ⟨v, H', J2, rv, ev, q3⟩ := J.after z
      cases ev
      exact ⟨rv, ⟨V.ref new, H', J2, rfl, q3⟩⟩
    | next => exact z.elim
    | brk => exact z.elim
    | cont => exact z.elim
def tMakeS (C : Addr) (sp : Sp) (dvs : List V) (E : L2.St → XK) (t : TA) : TE := fun σ H Q => t σ H fun vs H1 => kMake C sp (vs ++ dvs) H1 Q (E σ)
theorem pe_makeS (M : Mk X.K C f) (F : FnOk X.prog X.w X.K X.mg X.base CX k f fd ps sp) (hr : Room (k + 1) X.A) (hg : Gl X x) (hm : X.mg x = some (.ref C))
    (hb : Binds X.K fd ps ds) (hd : Vals dvs ds) (hx : ∀ σ, PassesAt CX X σ (E σ)) (ha : PA X (e :: es) t) (hdb : (x == ("__debug__" : Str)) = false := by decide)
    (he : starEach (e :: es) X.env = (false, eval e X.env) :: starEach es X.env := by rfl) (hpl : (backTo pos (starEach es X.env)).any (·.1) = false := by rfl) :
    PE X (.Call (.Name x p) (e :: es) [] pos) (tMakeS C sp dvs E t) := by
  refine ⟨fun pins s σ H Q I h => wpAny_Call_Name_kw (ld_glob I hg hm ?_ hdb)⟩
  refine PySem.W.callWith_K (h₀ := X.base) I.ok.mod.kin M.kp (thn (ha.run pos pins s σ H _ I h) ?_) he hpl
  rintro us s1 ⟨vs, H1, I1, r, q⟩
  exact ⟨I1.kIn, run_makeS M F hr hb hd (hx σ) I1 r q⟩
end
/-! ### facts of an own class of errors over ValueError, without __init__ -/
structure ErrC (K : PySem.W.Frag) (mg : Str → Option Value) (nm : Str) (D : Addr) : Prop where
  g : mg nm = some (.ref D)
  x : PySem.W.excIn K D [.type "ValueError", .type "Exception", .type "BaseException", .type "object"] "ValueError.__new__" = true
  kp : PySem.W.keepIn K (.ref D) = true
  sB : PySem.W.subIn K (.ref D) (.type "BaseException") = some true
  sV : PySem.W.subIn K (.ref D) (.type "ValueError") = some true
  ty : PySem.W.typeIn K (.ref D) = some (.type "type")
  ic : PySem.W.isClsIn K D = true
  sS : PySem.W.subIn K (.ref D) (.ref D) = some true
  is : ExcC K D
theorem ErrC.ex {K : PySem.W.Frag} {mg : Str → Option Value} {nm : Str} {D : Addr} (E : ErrC K mg nm D) : PySem.W.exmOne K (.ref D) (.ref D) = some true :=
  PySem.W.exm_ref E.sB E.is.hd E.ty E.sS
/-- another class, under which the errors of D don't stand -/
structure NotUnder (K : PySem.W.Frag) (D O : Addr) : Prop where
  ic : PySem.W.isClsIn K O = true
  tc : PySem.W.typeIn K (.ref O) = some (.type "type")
  s : PySem.W.subIn K (.ref D) (.ref O) = some false
theorem ErrC.other {K : PySem.W.Frag} {mg : Str → Option Value} {nm : Str} {D O : Addr} (E : ErrC K mg nm D) (n : NotUnder K D O) : PySem.W.kitOne K (.ref D) (.ref O) = some false := by
  have ne : ((Value.ref D) == (Value.ref O)) = false := by
    refine beq_eq_false_iff_ne.mpr fun q => ?_
    have e : D = O := Value.ref.inj q
    subst e
    have a := n.s
    rw [E.sS] at a
    cases a
  have e2 : ((PySem.W.clsIn K O).isSome && PySem.W.typeIn K (.ref O) == some (.type "type")) = true := by
    have e1 : (PySem.W.clsIn K O).isSome = true := n.ic
    rw [e1, n.tc] <;> rfl
  unfold PySem.W.kitOne PySem.W.kitCls
  rw [ne, if_neg Bool.false_ne_true]
  show (if ((PySem.W.clsIn K O).isSome && PySem.W.typeIn K (.ref O) == some (.type "type")) = true then _ else _) = _
  rw [if_pos e2]
  exact n.s
theorem ErrC.under {K : PySem.W.Frag} {mg : Str → Option Value} {nm : Str} {D : Addr} {T : String} (E : ErrC K mg nm D) (hm : PySem.W.kitMeta T = true) (h : PySem.W.subIn K (.ref D) (.type T) = some true) :
    PySem.W.kitOne K (.ref D) (.type T) = some true := by
  unfold PySem.W.kitOne PySem.W.kitCls
  rw [if_neg (by intro z; exact nomatch (beq_iff_eq.mp z))]
  show (if PySem.W.kitMeta T = true then _ else _) = _
  rw [if_pos hm]
  exact h
/-! ### isinstance of the error that a suite holds -/
def rIsX (K : PySem.W.Frag) (D a : Addr) (cls : Value) (d : Option Addr) : List V → Hp → VK → Prop := fun xs H Q => cls = Value.ref D ∧ d = none ∧
  ∃ (c : V) (cv : Value) (b : Bool), xs = [.ref a, c] ∧ ClsV c cv ∧ PySem.W.kitOne K (.ref D) cv = some b ∧ Q (.bl b) H
def rIsXT (K : PySem.W.Frag) (D a : Addr) (cls : Value) (d : Option Addr) : List V → Hp → VK → Prop := fun xs H Q => cls = Value.ref D ∧ d = none ∧
  ∃ (tp : Addr) (cs : List V) (us : List Value) (b : Bool), xs = [.ref a, .ref tp] ∧ H tp = some (.tup cs) ∧ Paired ClsV cs us ∧ PySem.W.kitAny K (.ref D) us = some b ∧ Q (.bl b) H
section
variable {X : Cx} {a D : Addr} {oe : Obj} {pn pins : List (Addr × Obj)} {cls : Value} {d : Option Addr} {σ : L2.St} {H : Hp} {s : Shared}
theorem suite_inst (hz : Zc (.ref D) none oe) (hf : ∃ vs, oe.data = .fields vs) (I : Inv (X.suite a ((a, oe) :: pn)) pins σ H s) : PySem.W.InstAt s.heap a oe D none := by
  obtain ⟨hget, _⟩ := I.pin (a, oe) (List.mem_append.mpr (.inl List.mem_cons_self))
  obtain ⟨vs, hv⟩ := hf
  obtain ⟨oc, od, oda, osl⟩ := oe
  obtain ⟨h1, h2⟩ := hz
  cases h1
  cases h2
  cases hv
  exact ⟨hget, rfl, rfl, trivial⟩
theorem k_isX (K : PySem.W.Frag) (C : ExcC K D) (hz : Zc cls d oe) (hf : ∃ vs, oe.data = .fields vs) (hK : X.K = K := by rfl) : CallR (X.suite a ((a, oe) :: pn)) (.builtin "isinstance") (rIsX K D a cls d) := by
  subst hK
  intro pins s σ H xs us Q I r h
  obtain ⟨rfl, rfl, c, cv, b, rfl, hcv, e, q⟩ := h
  obtain ⟨u1, u2, rfl, r1, r2⟩ := vals2 r
  cases r1
  have ec := hcv.eq r2
  subst ec
  exact PySem.W.kia_one (PySem.W.handS_kitx_exc C.hg C.hk C.hs C.hd C.ha C.hn C.ht C.hm) I.kIn (suite_inst hz hf I) e (fun z => nomatch z) fun tk => ⟨.bl b, H, I.kept (t' := tk) fun _ _ z => z, rfl, q⟩
theorem k_isXT (K : PySem.W.Frag) (C : ExcC K D) (hz : Zc cls d oe) (hf : ∃ vs, oe.data = .fields vs) (hK : X.K = K := by rfl) : CallR (X.suite a ((a, oe) :: pn)) (.builtin "isinstance") (rIsXT K D a cls d) := by
  subst hK
  intro pins s σ H xs us Q I r h
  obtain ⟨rfl, rfl, tp, cs, ws, b, rfl, hT, k, e, q⟩ := h
  obtain ⟨u1, u2, rfl, r1, r2⟩ := vals2 r
  cases r1
  cases (show u2 = Value.ref tp from r2)
  obtain ⟨_, its, rv, o, h1, h2, n, h3⟩ := (show ObjOk X.prog X.w H s.heap tp (.tup cs) from I.hok tp _ hT)
  have e3 := ClsV.all k rv
  subst e3
  obtain ⟨oc, od, dt, sl⟩ := o
  cases h2
  cases h3
  exact PySem.W.kia_tup (PySem.W.handS_kitx_exc C.hg C.hk C.hs C.hd C.ha C.hn C.ht C.hm) I.kIn (suite_inst hz hf I) h1 e (fun z => nomatch z) fun tk => ⟨.bl b, H, I.kept (t' := tk) fun _ _ z => z, rfl, q⟩
end
theorem getD_rel : ∀ {vs : List V} {us : List Value} (_ : Vals vs us) (k : Nat), RelV (vs.getD k .non) (us.getD k .none)
  | _, _, .nil, k => by cases k <;> rfl
  | _, _, .cons r _, 0 => r
  | _, _, .cons _ t, k + 1 => getD_rel t k
theorem w_makeS {C : Addr} {sp : Sp} {dvs : List V} {E : L2.St → XK} {t : TA} {σ : L2.St} {H : Hp} {Q : VK} (k : t σ H fun vs H1 => kMake C sp (vs ++ dvs) H1 Q (E σ)) : tMakeS C sp dvs E t σ H Q := k
def kMakeK (C : Addr) (m : Nat) (sp : Sp) (gV : List V → List V → List V) (zs : List V) (H2 : Hp) (Q : VK) (E : XK) : Prop :=
  ([] : List V).length = 0 ∧ zs.length = m ∧ ∀ x dx, H2 x = none → H2 dx = none → dx ≠ x →
      sp (gV [.ref x] zs) (upd (upd H2 dx (.own x)) x (.ins C dx [])) (fun v H3 => v = .non ∧ Q (.ref x) H3) E
theorem w_makeK0 {C : Addr} {m : Nat} {sp : Sp} {gV : List V → List V → List V} {E : XK} {tk : TA} {σ : L2.St} {H : Hp} {Q : VK}
    (k : tk σ H fun zs H2 => kMakeK C m sp gV zs H2 Q E) : tMakeK C 0 m sp gV E tNil tk σ H Q := k
theorem k_makeK {C : Addr} {m : Nat} {sp : Sp} {gV : List V → List V → List V} {E : XK} {zs ys : List V} {H2 : Hp} {Q : VK}
    (hm : zs.length = m) (e : ∀ x, gV [.ref x] zs = .ref x :: ys) (k : kMake C sp ys H2 Q E) : kMakeK C m sp gV zs H2 Q E :=
  ⟨rfl, hm, fun x dx n1 n2 n3 => by rw [e x]; exact k x dx n1 n2 n3⟩
end Sil
set_option Elab.async false
set_option linter.all false
set_option maxRecDepth 100000
set_option maxHeartbeats 1000000
/-! P8: texts of objects by their own __str__ and __repr__, != by an own __eq__, texts of None. -/
namespace Sil
open PySem L2 PySem.Spec PyProof.Rows
section
variable {X : Cx} {CX : CXT} {k : Nat} {C f : Addr} {fd : FuncData} {ps : List Str} {sp : Sp} {E : XK}
/-- the callee runs, some built-in frames below -/
theorem run_fnA {pins : List (Addr × Obj)} {σ : L2.St} {H : Hp} {s : Shared} {Q : VK} {us : List Value} {vs : List V} {A : Around}
    (hA : A.frames = X.A.frames) (F : FnOk X.prog X.w X.K X.mg X.base CX k f fd ps sp) (hr : Room k A) (hb : Binds X.K fd ps []) (hx : Passes CX X E)
    (I : Inv X pins σ H s) (r : Vals vs us) (h : sp vs H Q E) : wpAny (model X.prog X.w) A (call (.ref f) us) (EP X pins σ Q) X.xe s := by
  have hl : us.length = ps.length := by rw [← r.length]; exact F.len _ _ _ _ h
  have b := hb s us I.kIn (by rw [List.append_nil]; exact hl)
  rw [List.append_nil] at b
  have e0 := I.env0
  have e1 : Env0 X.prog X.w X.K X.mg X.base A X.stack s H := ⟨hA.trans e0.frames, e0.mod, e0.bs, e0.bsz, e0.funs, e0.frf, e0.hok, e0.bare⟩
  refine wpAny_call (codeAny_mono (F.run A X.stack s H ⟨us, []⟩ us vs Q E hr e1 b r h) fun r s' hq => ?_)
  cases r with
  | error e => exact hx pins σ H s e s' I hq
  | ok fl =>
    cases fl with
    | ret u => exact I.after hq
    | next => exact False.elim hq
    | brk => exact False.elim hq
    | cont => exact False.elim hq
/-- what a text by an own method asks -/
def rTxt (C : Addr) (sp : Sp) (E : XK) : List V → Hp → VK → Prop := fun xs H Q => ∃ a dx fs, xs = [.ref a] ∧ H a = some (.ins C dx fs) ∧
  sp xs H (fun v H' => (∃ y, v = .str y) ∧ Q v H') E
/-- str(x) by the own __str__ -/
theorem cr_strO (F : FnOk X.prog X.w X.K X.mg X.base CX k f fd ps sp) (hs : PySem.W.findIn X.K (.ref C) "__str__" = some (some (.ref f)))
    (hf : PySem.W.isFn X.K (.ref f) = true) (hb : Binds X.K fd ps []) (hr : Room (k + 2) X.A) (hx : Passes CX X E) : CallR X (.type "str") (rTxt C sp E) := by
  intro pins s σ H xs us Q I r h
  obtain ⟨a, dx, fs, rfl, ha, hsp⟩ := h
  obtain ⟨u, rfl, ru⟩ := vals1 r
  cases ru
  obtain ⟨mA, J, _⟩ := ins_get I.hok ha
  obtain ⟨od, J, _⟩ := J.look
  have hr2 : Room k X.A.in1.in1 := Room.in1 (Room.in1 hr)
  refine PySem.W.kso_call hr2.units0 I.kIn J hs hf ?_
  refine wpAny_mono (run_fnA (vs := [V.ref a]) rfl F hr2 hb hx I (.cons rfl .nil) hsp) (fun v s' hv => ?_) fun _ _ z => z
  obtain ⟨z, H', I', rz, ⟨y, rfl⟩, q⟩ := hv
  obtain ⟨t, rfl⟩ := rz
  exact ⟨.str y, H', I', ⟨t, rfl⟩, q⟩
open Builtin in
theorem repr_K {A : Around} {E : Value → Shared → Prop} {K : PySem.W.Frag} {s : Shared} {P : Program} {w : World} {x : Addr} {ox : Obj} {od : Option Obj} {Q : Value → Shared → Prop} (hu : A.in1.units < cLine) (XK : K.In s.heap) (I : PySem.W.InstAt s.heap x ox C od)
    (hs : PySem.W.findIn K (.ref C) "__repr__" = some (some (.ref f))) (hf : PySem.W.isFn K (.ref f) = true)
    (h : wpAny (model P w) A.in1 (call (.ref f) [.ref x]) (fun r s' => ∃ m tk, r = .str m tk ∧ Q (.str m tk) s') E s) :
    wpAny (model P w) A (call (.builtin "repr") [.ref x]) Q E s := by
  refine Calls.call_function_entry F.kind_repr F.plain_repr F.entry_repr (F.args_repr1 _) ?_
  unfold Builtin.«repr»
  refine wpAny_bind (m := oneArg "repr" _) (wpAny_pure ?_)
  refine wpAny_bind (wpAny_cRoomFor hu ?_)
  refine wpAny_bind (m := specialOf (.ref x) (Str.ofString "__repr__")) (wpAny_bind (I.type.here ((PySem.W.looks_findIn XK hs).here ?_)))
  show wpAny _ _ (if (some (Value.ref f)).isNone = true then _ else _) _ _ _
  rw [if_neg (by simp)]
  refine wpAny_bind (m := callSpecialIfBound? (.ref x) (Str.ofString "__repr__") _) (PySem.W.ifBound_K XK I hs hf (wpAny_mono h (fun r s' hr => ?_) fun _ _ y => y))
  obtain ⟨m, tk, rfl, hq⟩ := hr
  refine wpAny_bind (wpAny_isInstance (typeIs_str _ _ _) isSubtype_str_str ?_)
  first
    | exact wpAny_pure ⟨_, rfl, hq⟩
    | (rw [if_pos rfl]; exact wpAny_pure ⟨_, rfl, hq⟩)
    | (simp only [if_true]; exact wpAny_pure ⟨_, rfl, hq⟩)
/-- repr(x) by the own __repr__ -/
theorem cr_reprO (F : FnOk X.prog X.w X.K X.mg X.base CX k f fd ps sp) (hs : PySem.W.findIn X.K (.ref C) "__repr__" = some (some (.ref f)))
    (hf : PySem.W.isFn X.K (.ref f) = true) (hb : Binds X.K fd ps []) (hr : Room (k + 1) X.A) (hx : Passes CX X E) : CallR X (.builtin "repr") (rTxt C sp E) := by
  intro pins s σ H xs us Q I r h
  obtain ⟨a, dx, fs, rfl, ha, hsp⟩ := h
  obtain ⟨u, rfl, ru⟩ := vals1 r
  cases ru
  obtain ⟨mA, J, _⟩ := ins_get I.hok ha
  obtain ⟨od, J, _⟩ := J.look
  have hr2 : Room k X.A.in1 := Room.in1 hr
  refine repr_K hr2.units0 I.kIn J hs hf ?_
  refine wpAny_mono (run_fnA (vs := [V.ref a]) rfl F hr2 hb hx I (.cons rfl .nil) hsp) (fun v s' hv => ?_) fun _ _ z => z
  obtain ⟨z, H', I', rz, ⟨y, rfl⟩, q⟩ := hv
  obtain ⟨t, rfl⟩ := rz
  exact ⟨y, t, rfl, .str y, H', I', ⟨t, rfl⟩, q⟩
/-- {x} by the own __str__ -/
def tFmtO (r : List V → Hp → VK → Prop) (te : TE) : TE := fun σ H Q => te σ H fun x H1 => r [x] H1 Q
theorem pe_fmtO {e : Expr} {te : TE} {pos : Pos} (he : PE X e te) (F : FnOk X.prog X.w X.K X.mg X.base CX k f fd ps sp) (hs : PySem.W.findIn X.K (.ref C) "__str__" = some (some (.ref f)))
    (hf : PySem.W.isFn X.K (.ref f) = true) (hfm : PySem.W.findIn X.K (.ref C) "__format__" = some (some (.builtin "object.__format__"))) (hm : PySem.W.mroIn X.K C (.type "object") = some true)
    (hb : Binds X.K fd ps []) (hr : Room (k + 1) X.A) (hx : Passes CX X E) : PE X (.FormattedValue e (-1) none pos) (tFmtO (rTxt C sp E) te) := by
  refine ⟨fun pins s σ H Q I h => ?_⟩
  refine wpAny_FormattedValue_plain (thn (he.run pins s σ H _ I h) fun v s1 hv => ?_)
  obtain ⟨x, H1, I1, r1, a, dx, fs, e1, ha, hsp⟩ := hv
  cases e1
  cases r1
  obtain ⟨mA, J, _⟩ := ins_get I1.hok ha
  obtain ⟨od, J, _⟩ := J.look
  have hr2 : Room k X.A.in1 := Room.in1 hr
  refine PySem.W.kfo_fieldS hr2.units0 I1.kIn J hfm hm hs hf ?_
  refine wpAny_mono (run_fnA (s := { s1 with toks := s1.toks + 1 }) (vs := [V.ref a]) rfl F hr2 hb hx (I1.tok _) (.cons rfl .nil) hsp) (fun v s' hv => ?_) fun _ _ z => z
  obtain ⟨z, H', I', rz, ⟨y, rfl⟩, q⟩ := hv
  obtain ⟨t, rfl⟩ := rz
  exact ⟨.str y, H', I', ⟨t, rfl⟩, q⟩
/-- str(None) -/
theorem cr_strN : CallR X (.type "str") (fun xs H Q => xs = [.non] ∧ Q (.str "None") H) := by
  intro pins s σ H xs us Q I r h
  obtain ⟨rfl, q⟩ := h
  obtain ⟨u, rfl, ru⟩ := vals1 r
  cases ru
  exact PySem.P.str_of_none ⟨.str "None", H, I.tok _, ⟨_, rfl⟩, q⟩
/-- str of an end -/
def rStrE : List V → Hp → VK → Prop := fun xs H Q => (∃ i, xs = [.int i] ∧ i.natAbs.log2 < 1920 ∧ Q (.str (toString i)) H) ∨ (xs = [.non] ∧ Q (.str "None") H)
theorem cr_strE : CallR X (.type "str") rStrE := CallR.or call_str_int cr_strN
/-- {x}: a text, an int, None -/
def tFmtN (te : TE) : TE := fun σ H Q => te σ H fun x H1 => (∃ y : Str, x = .str y ∧ y.length ≤ sizeLine ∧ Q (.str y) H1) ∨ (∃ i : Int, x = .int i ∧ i.natAbs.log2 < 1920 ∧ Q (.str (toString i)) H1) ∨ (x = .non ∧ Q (.str "None") H1)
theorem pe_fmtN {e : Expr} {te : TE} {pos : Pos} (he : PE X e te) : PE X (.FormattedValue e (-1) none pos) (tFmtN te) := by
  refine ⟨fun pins s σ H Q I h => ?_⟩
  refine wpAny_FormattedValue_plain (thn (he.run pins s σ H _ I h) fun v s1 hv => ?_)
  obtain ⟨x, H1, I1, r1, q⟩ := hv
  rcases q with ⟨y, rfl, hz, q⟩ | ⟨i, rfl, hz, q⟩ | ⟨rfl, q⟩
  · obtain ⟨t, rfl⟩ := r1
    exact wpAny_formatField_str ⟨.str y, H1, I1, ⟨t, rfl⟩, q⟩ ⟨.str y, H1, I1.tok _, ⟨_, rfl⟩, q⟩ hz
  · obtain ⟨t, rfl⟩ := r1
    exact wpAny_formatField_int hz ⟨.str (toString i), H1, I1.tok _, ⟨_, rfl⟩, q⟩
  · cases r1
    exact wpAny_formatField_none ⟨.str "None", H1, I1.tok _, ⟨_, rfl⟩, q⟩
end

section
variable {P : Program} {w : World} {A : Around} {E : Value → Shared → Prop} {s : Shared} {K : PySem.W.Frag} {x C f : Addr} {ox : Obj} {od : Option Obj} {b tb : Value}
theorem ifBoundB {M : Model} {name : Str} {id : String} {args : List Value} {Q : Option Value → Shared → Prop} (XK : K.In s.heap) (I : PySem.W.InstAt s.heap x ox C od)
    (hs : PySem.W.findIn K (.ref C) name = some (some (.builtin id))) (hb : ∀ self, bindSpecial (.builtin id) self = pure (.builtin id, [self]))
    (h : wpAny M A (call (.builtin id) (.ref x :: args)) (fun v => Q (some v)) E s) : wpAny M A (callSpecialIfBound? (.ref x) name args) Q E s := by
  simp only [callSpecialIfBound?, bindSpecialIfBound?]
  refine wpAny_holding (wpAny_bind (wpAny_bind (wpAny_bind (I.type.here ((PySem.W.looks_findIn XK hs).here ?_)))))
  refine wpAny_bind (wpAny_askSetting (wpAny_ite ?_))
  have fin : wpAny M A (call (.builtin id) ([.ref x] ++ args) >>= fun v => pure (some v)) Q E s := wpAny_bind (wpAny_mono h (fun v s' h' => wpAny_pure h') fun _ _ h' => h')
  split
  · exact wpAny_bind ((PySem.W.Looks.of_pure (hb _)).here (wpAny_pure (by exact fin)))
  · exact wpAny_tryCatch (wpAny_bind ((PySem.W.Looks.of_pure (hb _)).here (wpAny_pure (by exact fin))))
theorem objNe_K {Q : PySem.Fin → Shared → Prop} (hu : A.units < cLine) (XK : K.In s.heap) (I : PySem.W.InstAt s.heap x ox C od) (hs : PySem.W.findIn K (.ref C) "__eq__" = some (some (.ref f))) (hf : PySem.W.isFn K (.ref f) = true)
    (hcall : wpAny (model P w) A (call (.ref f) [.ref x, b]) (fun v s' => ∃ c, v = .bool c ∧ Q (.done (.ret (.bool (!c)))) s') E s) :
    wpAny (model P w) A (Builtin.«object.__ne__» ⟨[.ref x, b], []⟩) Q E s := by
  unfold Builtin.«object.__ne__»
  repeat (first
    | with_reducible refine wpAny_cRoomFor hu ?_
    | (refine wpAny_bind (m := callSpecialIfBound? (.ref x) (Str.ofString "__eq__") [b])
        (PySem.W.ifBound_K XK I hs hf (wpAny_mono hcall (fun r s' hr => by
          obtain ⟨b, rfl, hq⟩ := hr
          repeat (first | exact hq | exact wpAny_pure hq | exact wpAny_truthy_bool hq | (refine wpAny_bind (m := truthy (.bool _)) (wpAny_truthy_bool ?_)) | wp_step)) fun _ _ e => e)))
    | wp_step)
theorem neOwn_K {h0 : Heap} {L : Addr} {m : Str → Option Value} {Q : Value → Shared → Prop} (hu : A.units + 1 < cLine) (Fh : Fr h0 L s.heap m) (X0 : K.In h0) (I : PySem.W.InstAt s.heap x ox C od)
    (hb : PySem.W.Looks (model P w) s.heap (typeOf b) tb) (hn : PySem.W.notFirst K C tb = true)
    (hne : PySem.W.findIn K (.ref C) "__ne__" = some (some (.builtin "object.__ne__"))) (hm : PySem.W.mroIn K C (.type "object") = some true)
    (hs : PySem.W.findIn K (.ref C) "__eq__" = some (some (.ref f))) (hf : PySem.W.isFn K (.ref f) = true)
    (h : wpAny (model P w) A.in1 (call (.ref f) [.ref x, b]) (fun v s' => ∃ c, v = .bool c ∧ Q (.bool (!c)) s') E s) : wpAny (model P w) A (richCompare .NotEq (.ref x) b) Q E s := by
  have XK := X0.keeps Fh.keep
  have one : wpAny (model P w) A (tryCompare (.ref x) "__ne__" b) (fun r s' => ∃ v, r = some v ∧ Q v s') E s := by
    unfold tryCompare
    refine wpAny_bind (ifBoundB XK I hne PySem.F.cmp_object.ne.bind (wpAny_call (codeAny_call_builtin PySem.F.cmp_object.ne.plain PySem.F.cmpEntry_ne
      (PySem.W.check_slot (i := "object.__ne__") (owner := "object") (n := "__ne__") (by decide +kernel) (by decide +kernel) (I.type.andThen (PySem.W.looks_mroIn XK hm)) (PySem.F.cmpArgs_ne _ _)
        (objNe_K (A := A.in1) hu XK I hs hf (wpAny_mono h (fun v s' hv => ?_) fun _ _ e => e))))))
    obtain ⟨c, rfl, hq⟩ := hv
    exact ⟨c, rfl, wpAny_pure ⟨_, rfl, hq⟩⟩
  unfold richCompare
  simp only [oneThing_ref]
  refine wpAny_holding (wpAny_bind (wpAny_cRoomFor (Nat.lt_of_succ_lt hu) ?_))
  rw [cmpInfo_NotEq]
  dsimp only
  refine wpAny_bind (I.type.here (wpAny_bind (hb.here ?_)))
  split
  · rename_i q
    have e : PySem.W.subIn K tb (.ref C) = some false := by
      rcases Bool.or_eq_true_iff.mp hn with e | e
      · rw [beq_iff_eq.mp e] at q; simp at q
      · exact beq_iff_eq.mp e
    refine wpAny_bind ((PySem.W.looks_subIn XK e).here ?_)
    simp only [Bool.false_eq_true, if_false]
    refine wpAny_bind (wpAny_mono one (fun r s' z => ?_) fun _ _ e => e)
    obtain ⟨v, rfl, hq⟩ := z
    exact wpAny_pure hq
  · refine wpAny_bind (wpAny_pure ?_)
    simp only [Bool.false_eq_true, if_false]
    refine wpAny_bind (wpAny_mono one (fun r s' z => ?_) fun _ _ e => e)
    obtain ⟨v, rfl, hq⟩ := z
    exact wpAny_pure hq
end
/-- x != y by the own __eq__ -/
def rNeO (K : PySem.W.Frag) (C : Addr) (sp : Sp) (E : XK) : R2 := fun x y H Q => ∃ a dx fs ty, x = .ref a ∧ H a = some (.ins C dx fs) ∧
  TyX K H y ty ∧ PySem.W.notFirst K C ty = true ∧ sp [x, y] H (fun v H' => ∃ b, v = .bl b ∧ Q (.bl (!b)) H') E
theorem op_neO {X : Cx} {CX : CXT} {k : Nat} {C f : Addr} {fd : FuncData} {ps : List Str} {sp : Sp} {E : XK}
    (F : FnOk X.prog X.w X.K X.mg X.base CX k f fd ps sp) (hne : PySem.W.findIn X.K (.ref C) "__ne__" = some (some (.builtin "object.__ne__"))) (hm : PySem.W.mroIn X.K C (.type "object") = some true)
    (hs : PySem.W.findIn X.K (.ref C) "__eq__" = some (some (.ref f))) (hf : PySem.W.isFn X.K (.ref f) = true) (hb : Binds X.K fd ps []) (hr : Room (k + 1) X.A)
    (hx : Passes CX X E) : OpR X (compareOp .NotEq) (rNeO X.K C sp E) := by
  intro pins s σ H x y v u Q I rx ry h
  obtain ⟨a, dx, fs, ty, rfl, ha, hty, hn, hsp⟩ := h
  cases rx
  obtain ⟨mA, J, _⟩ := ins_get I.hok ha
  obtain ⟨od, J, _⟩ := J.look
  obtain ⟨m, hF⟩ := I.fr
  obtain ⟨Pz, Z, pz, _⟩ := kit_of I ry hty
  show wpAny _ _ (richCompare .NotEq _ _) _ _ _
  have hr2 : Room k X.A.in1 := Room.in1 hr
  refine neOwn_K (tb := ty) (by have := hr.un; omega) hF I.ok.mod.kin J (Z.ty _ _ I.kIn pz) hn hne hm hs hf ?_
  have r2 : Vals [V.ref a, y] [Value.ref a, u] := .cons rfl (.cons ry .nil)
  refine wpAny_mono (run_fnA rfl F hr2 hb hx I r2 hsp) (fun w s' hw => ?_) fun _ _ z => z
  obtain ⟨z, H', I', rz, c, rfl, q⟩ := hw
  cases rz
  exact ⟨c, rfl, .bl (!c), H', I', rfl, q⟩
/-! readings -/
/-- f'..' of two parts or more -/
def tJoin (ts : List TE) : TE := fun σ H Q => tJs ts Str.empty σ H fun out H1 => Q (.str out) H1
theorem pe_join {X : Cx} {v1 v2 : Expr} {rest : List Expr} {ts : List TE} {pos : Pos} (h : PJ X (v1 :: v2 :: rest) ts) : PE X (.JoinedStr (v1 :: v2 :: rest) pos) (tJoin ts) := pe_joined h
section
variable {t : TE} {ts : List TE} {acc : Str} {σ : L2.St} {H : Hp} {Q : VK} {R : Str → Hp → Prop} {te : TE} {x : V}
theorem w_join (k : tJs ts Str.empty σ H fun out H1 => Q (.str out) H1) : tJoin ts σ H Q := k
/-- a text is put behind -/
def kPut (acc : Str) (x : V) (H : Hp) (R : Str → Hp → Prop) : Prop := ∃ y : Str, x = .str y ∧ (acc ++ y).length ≤ sizeLine ∧ R (acc ++ y) H
theorem w_js (k : t σ H fun x H1 => kPut acc x H1 fun z H2 => tJs ts z σ H2 R) : tJs (t :: ts) acc σ H R := by
  refine cast (congrArg (t σ H) ?_) k
  funext x H1
  refine propext ⟨?_, ?_⟩
  · rintro ⟨y, e, h, k⟩; exact ⟨y, e, h, k⟩
  · rintro ⟨y, e, h, k⟩; exact ⟨y, e, h, k⟩
theorem w_jsN (k : R acc H) : tJs [] acc σ H R := k
theorem w_put {y : Str} (h : (acc ++ y).length ≤ sizeLine) (k : R (acc ++ y) H) : kPut acc (.str y) H R := ⟨y, rfl, h, k⟩
/-- a field's text -/
def kFmt (x : V) (H1 : Hp) (Q : VK) : Prop := (∃ y : Str, x = .str y ∧ y.length ≤ sizeLine ∧ Q (.str y) H1) ∨ (∃ i : Int, x = .int i ∧ i.natAbs.log2 < 1920 ∧ Q (.str (toString i)) H1) ∨ (x = .non ∧ Q (.str "None") H1)
theorem w_fmtN (k : te σ H fun x H1 => kFmt x H1 Q) : tFmtN te σ H Q := k
theorem w_fmtS {y : Str} (h : y.length ≤ sizeLine) (k : Q (.str y) H) : kFmt (.str y) H Q := .inl ⟨y, rfl, h, k⟩
theorem w_fmtI {i : Int} (h : i.natAbs.log2 < 1920) (k : Q (.str (toString i)) H) : kFmt (.int i) H Q := .inr (.inl ⟨i, rfl, h, k⟩)
theorem w_fmt0 (k : Q (.str "None") H) : kFmt .non H Q := .inr (.inr ⟨rfl, k⟩)
theorem w_fmtO {r : List V → Hp → VK → Prop} (k : te σ H fun x H1 => r [x] H1 Q) : tFmtO r te σ H Q := k
end
theorem empty_app (x : Str) : Str.empty ++ x = x := by
  apply TL.ext_tl
  rw [TL.tl_append]
  rfl
theorem app_len (x y : Str) : (x ++ y).length = x.length + y.length := by
  rw [TL.len_tl, TL.len_tl x, TL.len_tl y, TL.tl_append, List.length_append]
theorem int_len {i : Int} (h : i.natAbs.log2 < 1920) : (Str.ofString (toString i)).length ≤ 1921 := by
  have q := int_text_length_le (a := i) (k := 1920) (by decide) h
  have e := PySem.ofString_length (toString i)
  omega
end Sil
set_option Elab.async false
set_option linter.all false
set_option maxRecDepth 100000
set_option maxHeartbeats 1000000
/-! P9: bags; comprehensions that draw; dicts of flat values, their texts. -/
namespace Sil
open PySem L2 PySem.Spec PyProof.Rows
/-! ### bags -/
/-- a bag: a list of two numbers from 0 on -/
def Bag (H : Hp) (b : Addr) : Prop := ∃ n m : Int, 0 ≤ n ∧ 0 ≤ m ∧ H b = some (.lst [.int n, .int m])
theorem Bag.mono {H H' : Hp} {b : Addr} (s : Same H H') : Bag H b → Bag H' b := fun ⟨n, m, h1, h2, h⟩ => ⟨n, m, h1, h2, s _ _ h⟩
/-- the bag at b may have changed, nothing else -/
def Step (b : Addr) (H H' : Hp) : Prop := Bag H' b ∧ Same (off [b] H) (off [b] H')
theorem Step.trans {b : Addr} {H H1 H2 : Hp} (a : Step b H H1) (c : Step b H1 H2) : Step b H H2 := ⟨c.1, a.2.trans c.2⟩
theorem Step.same {b : Addr} {H H' : Hp} (h : Bag H b) (s : Same H H') : Step b H H' := ⟨h.mono s, same_off s⟩
theorem Step.more {b : Addr} {H H1 H2 : Hp} (a : Step b H H1) (s : Same H1 H2) : Step b H H2 := a.trans (.same a.1 s)
theorem Step.refl {b : Addr} {H : Hp} (h : Bag H b) : Step b H H := .same h (Same.refl _)
theorem Step.at {b p : Addr} {H H' : Hp} {o : HO} (s : Step b H H') (h : H p = some o) (n : p ≠ b) : H' p = some o :=
  (off_get (s.2 p o (off_mk h (by simpa using n)))).1
/-- outside of M, where b is in M -/
theorem Step.off {b : Addr} {H H' : Hp} {M : List Addr} (s : Step b H H') (hb : b ∈ M) : Same (Sil.off M H) (Sil.off M H') :=
  off_more s.2 fun a h => by rw [List.mem_singleton] at h; exact h ▸ hb
theorem bag_ne {H : Hp} {b p : Addr} {o : HO} (hb : Bag H b) (h : H p = some o) (n : ∀ xs, o ≠ .lst xs) : p ≠ b := by
  obtain ⟨_, _, _, _, e⟩ := hb
  exact ne_of h e (n _)
theorem bag_new {H : Hp} {b p : Addr} (hb : Bag H b) (h : H p = none) : p ≠ b := by
  rintro rfl
  obtain ⟨_, _, _, _, e⟩ := hb
  rw [h] at e; cases e
theorem Step.old {b : Addr} {H0 H1 H4 : Hp} (s : Step b H1 H4) (s1 : Same H0 H1) (nb : H0 b = none) : Same H0 H4 := fun a o e => s.at (s1 a o e) (ne_of_none e nb)
/-- what is new behind a step was new ahead of it -/
theorem Step.free {b p : Addr} {H H' : Hp} (s : Step b H H') (hb : Bag H b) (h : H' p = none) : H p = none := by
  cases e : H p with
  | none => rfl
  | some o =>
    by_cases q : p = b
    · subst q
      obtain ⟨_, _, _, _, e2⟩ := s.1
      rw [h] at e2; cases e2
    · rw [s.at e q] at h; cases h
theorem Step.tup {b p : Addr} {H H' : Hp} {xs : List V} (s : Step b H H') (hb : Bag H b) (h : H p = some (.tup xs)) : H' p = some (.tup xs) := s.at h (bag_ne hb h fun _ q => nomatch q)
theorem Step.dk {b p : Addr} {H H' : Hp} {xs : List (L2.Key × V)} (s : Step b H H') (hb : Bag H b) (h : H p = some (.dK xs)) : H' p = some (.dK xs) := s.at h (bag_ne hb h fun _ q => nomatch q)
theorem Step.ins {b p C dx : Addr} {H H' : Hp} {fs : List (Str × V)} (s : Step b H H') (hb : Bag H b) (h : H p = some (.ins C dx fs)) : H' p = some (.ins C dx fs) := s.at h (bag_ne hb h fun _ q => nomatch q)
theorem Step.seqT {K : PySem.W.Frag} {b a : Addr} {H H' : Hp} {xs : List V} (s : Step b H H') (hb : Bag H b) (h : SqT K H a xs) : SqT K H' a xs := by
  rcases h with (h | ⟨o, h⟩) | h
  · exact .inl (.inl (s.tup hb h))
  · exact .inl (.inr ⟨o, s.at h (bag_ne hb h fun _ q => nomatch q)⟩)
  · exact .inr h
theorem Step.seqL {K : PySem.W.Frag} {b a : Addr} {H H' : Hp} {xs : List V} (s : Step b H H') (n : a ≠ b) (h : SqL K H a xs) : SqL K H' a xs := by
  rcases h with (h | ⟨o, h⟩) | h
  · exact .inl (.inl (s.at h n))
  · exact .inl (.inr ⟨o, s.at h n⟩)
  · exact .inr h
/-! ### comprehensions that draw -/
/-- a thing told of an item stands when a bag is drawn from, and without the list under way -/
structure ElOk (b : Addr) (El : Nat → V → Hp → Prop) : Prop where
  step : ∀ i y G G', Bag G b → Step b G G' → El i y G → El i y G'
  off : ∀ i y G D acc, G D = some (.lst acc) → El i y G → El i y (off [D] G)
theorem ElOk.flat {b : Addr} (El : Nat → V → Prop) : ElOk b fun i y _ => El i y := ⟨fun _ _ _ _ _ _ h => h, fun _ _ _ _ _ _ h => h⟩
theorem off_tup {G : Hp} {D t : Addr} {acc xs : List V} (h : G D = some (.lst acc)) (e : G t = some (.tup xs)) : off [D] G t = some (.tup xs) :=
  off_mk e (by rw [List.mem_singleton]; rintro rfl; rw [h] at e; cases e)
theorem off_ins {G : Hp} {D t C dx : Addr} {acc : List V} {fs : List (Str × V)} (h : G D = some (.lst acc)) (e : G t = some (.ins C dx fs)) : off [D] G t = some (.ins C dx fs) :=
  off_mk e (by rw [List.mem_singleton]; rintro rfl; rw [h] at e; cases e)
/-- one turn, with no test -/
def TurnB (b : Addr) (g : TG) (tt : TT) (te : TE) (vs : List Nat) (σ : L2.St) (El : V → Hp → Prop) (x : V) (G : Hp) : Prop :=
  ∀ (R : V → Hp → Prop) (Ny : Hp → Prop), (∀ y G', Step b G G' → El y G' → R y G') → g x (wipe σ vs) G fun σ2 H2 => wipe σ2 vs = wipe σ vs ∧ tt σ2 H2 fun c H3 => if c = true then te σ2 H3 R else Ny H3
def AccOk (El : Nat → V → Hp → Prop) (n : Nat) (acc : List V) (G : Hp) : Prop := acc.length = n ∧ ∀ j y, acc[j]? = some y → El j y G
section
variable {K : PySem.W.Frag} {a b : Addr} {g : TG} {tt : TT} {te : TE} {vs : List Nat} {σ : L2.St} {H1 : Hp} {Q : VK} {El : Nat → V → Hp → Prop}
theorem accOk_step (ok : ElOk b El) {n : Nat} {acc : List V} {G G' : Hp} (hb : Bag G b) (s : Step b G G') (h : AccOk El n acc G) : AccOk El n acc G' := ⟨h.1, fun j y e => ok.step _ _ _ _ hb s (h.2 j y e)⟩
theorem accOk_push {n : Nat} {acc : List V} {G : Hp} {y : V} (h : AccOk El n acc G) (hy : El n y G) : AccOk El (n + 1) (acc ++ [y]) G := by
  refine ⟨by rw [List.length_append, h.1]; rfl, fun j z e => ?_⟩
  by_cases q : j < acc.length
  · rw [List.getElem?_append_left q] at e; exact h.2 j z e
  · rw [List.getElem?_append_right (by omega)] at e
    have : j - acc.length = 0 := by
      cases r : j - acc.length with
      | zero => rfl
      | succ m => rw [r] at e; cases e
    rw [this] at e
    cases e
    have : j = n := by have := h.1; omega
    rw [this]; exact hy
theorem turnB (hb : Bag H1 b) (ok : ElOk b El) {D : Addr} {i : Nat} {x : V} {acc : List V} {H : Hp} (nD : H1 D = none) (hD : H D = some (.lst acc))
    (p : Step b H1 (off [D] H) ∧ AccOk El i acc (off [D] H)) (h : Step b H1 H → TurnB b g tt te vs σ (El i) x H) :
    LcTurnQ g tt te vs σ D x (fun i acc G => Step b H1 G ∧ AccOk El i acc G) i acc H := by
  intro Nx Ny k1 k2 hlen
  have nb := bag_new hb nD
  have hbH : Bag H b := p.1.1.mono off_sub
  have st : Step b H1 H := p.1.more off_sub
  refine h st _ Ny fun y G' s' hy => ?_
  have hD' := s'.at hD nb
  refine ⟨acc, hD', hlen, k1 y G' hD' ⟨?_, ?_⟩⟩
  · refine ⟨?_, fun c o hc => ?_⟩
    · obtain ⟨n, m, h1, h2, e⟩ := s'.1
      exact ⟨n, m, h1, h2, off_mk e (by rw [List.mem_singleton]; exact nb.symm)⟩
    · obtain ⟨e1, e2⟩ := off_get hc
      have e3 := (st.trans s').at e1 (by simpa using e2)
      refine off_mk (off_mk e3 ?_) e2
      rw [List.mem_singleton]
      rintro rfl
      rw [nD] at e1; cases e1
  · have q := accOk_step ok p.1.1 (.same p.1.1 off_sub) p.2
    have q := accOk_step ok hbH s' q
    have r := accOk_push q hy
    exact ⟨r.1, fun j z e => ok.off _ _ _ _ _ hD' (r.2 j z e)⟩
theorem b_end (hb : Bag H1 b) (ok : ElOk b El) {D : Addr} {n : Nat} {acc : List V} {H : Hp} (nD : H1 D = none) (hD : H D = some (.lst acc)) (p : Step b H1 (off [D] H) ∧ AccOk El n acc (off [D] H))
    (k : ∀ D acc H, H1 D = none → H D = some (.lst acc) → Step b H1 H → AccOk El n acc H → Q (.ref D) H) : Q (.ref D) H :=
  k D acc H nD hD (p.1.more off_sub) (accOk_step ok p.1.1 (.same p.1.1 off_sub) p.2)
theorem b_lcT {xs : List V} (hb : Bag H1 b) (ok : ElOk b El) (hz : xs.length ≤ 100000) (hx : SqT K H1 a xs) (ht : ∀ i x G, xs[i]? = some x → Step b H1 G → TurnB b g tt te vs σ (El i) x G)
    (k : ∀ D acc H, H1 D = none → H D = some (.lst acc) → Step b H1 H → AccOk El xs.length acc H → Q (.ref D) H) : kLc (Itt K a) g tt te vs σ H1 Q :=
  k_lcT (xs := xs) hz (fun i acc G => Step b H1 G ∧ AccOk El i acc G) ⟨.refl hb, rfl, fun j y e => by cases e⟩ (fun i acc G p => p.1.seqT hb hx)
    (fun D i x acc H nD hi hD p => turnB hb ok nD hD p fun st => ht i x H hi st) fun D acc H nD hD p => b_end hb ok nD hD p k
theorem b_lcL {xs : List V} (hb : Bag H1 b) (na : a ≠ b) (ok : ElOk b El) (hz : xs.length ≤ 100000) (hx : SqL K H1 a xs) (ht : ∀ i x G, xs[i]? = some x → Step b H1 G → TurnB b g tt te vs σ (El i) x G)
    (k : ∀ D acc H, H1 D = none → H D = some (.lst acc) → Step b H1 H → AccOk El xs.length acc H → Q (.ref D) H) : kLc (Itl K a) g tt te vs σ H1 Q :=
  k_lcL (xs := xs) hz (fun i acc G => Step b H1 G ∧ AccOk El i acc G) ⟨.refl hb, rfl, fun j y e => by cases e⟩ (fun i acc G p => p.1.seqL na hx)
    (fun D i x acc H nD hi hD p => turnB hb ok nD hD p fun st => ht i x H hi st) fun D acc H nD hD p => b_end hb ok nD hD p k
theorem b_lcR {n : Nat} (hb : Bag H1 b) (ok : ElOk b El) (hz : n ≤ 100000) (ht : ∀ (i : Nat) G, i < n → Step b H1 G → TurnB b g tt te vs σ (El i) (.int (i : Int)) G)
    (k : ∀ D acc H, H1 D = none → H D = some (.lst acc) → Step b H1 H → AccOk El n acc H → Q (.ref D) H) : kLc (Itr 0 n) g tt te vs σ H1 Q :=
  k_lcR (n := n) hz (fun i acc G => Step b H1 G ∧ AccOk El i acc G) ⟨.refl hb, rfl, fun j y e => by cases e⟩
    (fun D i acc H nD hi hD p => turnB hb ok nD hD p fun st => ht i H hi st) fun D acc H nD hD p => b_end hb ok nD hD p k
/-- the target is a name -/
theorem turnB_name {j : Nat} {El : V → Hp → Prop} {x : V} {G : Hp} (hw : ∀ x, wipe ((wipe σ vs).set j (some x)) vs = wipe σ vs)
    (h : ∀ (R : V → Hp → Prop) (Ny : Hp → Prop), (∀ y G', Step b G G' → El y G' → R y G') → tt ((wipe σ vs).set j (some x)) G fun c H3 => if c = true then te ((wipe σ vs).set j (some x)) H3 R else Ny H3) :
    TurnB b (gName j) tt te vs σ El x G := fun R Ny k => w_name ⟨hw x, h R Ny k⟩
theorem w_yes {σ : L2.St} {H : Hp} {Q : Bool → Hp → Prop} (k : Q true H) : tYes σ H Q := k
end
/-! ### dicts -/
def fD : V → PyData
  | .bl b => .bool b
  | .int i => .int i
  | .str x => .str x
  | _ => .none
def isFl : V → Bool
  | .non | .bl _ | .int _ | .str _ => true
  | _ => false
theorem reads_fl {h : Heap} {v : V} {u : Value} (f : isFl v = true) (r : RelV v u) : Reads h u (fD v) [] := by
  cases v <;> first | cases f | skip
  · cases r; exact Reads.none
  · cases r; exact Reads.bool _
  · obtain ⟨t, rfl⟩ := r; exact Reads.int _ _
  · obtain ⟨t, rfl⟩ := r; exact Reads.str _ _
def dOf (kvs : List (L2.Key × V)) : PyData := .dict (kvs.map fun p => (fD (kV p.1), fD p.2))
theorem reads_pairs {P : Program} {w : World} {h : Heap} : ∀ {es : List DictEntry} {vs : List (L2.Key × Value)} {kvs : List (L2.Key × V)}, Pairs (mixKind P w) es vs → KV kvs vs → (kvs.all fun p => isFl p.2) = true →
    ReadsAll h (es.map (·.key)) (kvs.map fun p => fD (kV p.1)) [] ∧ ReadsAll h (es.map (·.val)) (kvs.map fun p => fD p.2) []
  | _, _, _, .nil, .nil, _ => ⟨.nil, .nil⟩
  | _, _, _, .cons h1 h2 r, .cons (a := p) ⟨e, rv⟩ q, f => by
    rw [List.all_cons, Bool.and_eq_true] at f
    obtain ⟨i1, i2⟩ := reads_pairs (h := h) r q f.2
    refine ⟨?_, ?_⟩
    · refine ReadsAll.cons (as := []) (bs := []) ?_ i1
      dsimp only
      rcases keyIs_shape h1 with ⟨i, t, e2, e3⟩ | ⟨x, t, e2, e3⟩
      · rw [e3, e, e2]; exact Reads.int _ _
      · rw [e3, e, e2]; exact Reads.str _ _
    · refine ReadsAll.cons (as := []) (bs := []) ?_ i2
      dsimp only
      rw [h2]; exact reads_fl f.1 rv
def rReprK : List V → Hp → VK → Prop := fun xs H Q => ∃ a kvs, xs = [.ref a] ∧ H a = some (.dK kvs) ∧ (kvs.all fun p => isFl p.2) = true ∧ (dOf kvs).showable = true ∧ (dOf kvs).depth ≤ 40 ∧
  (dOf kvs).shown.length ≤ sizeLine ∧ Q (.str (dOf kvs).shown) H
theorem cr_reprK {X : Cx} {k : Nat} (hr : Room k X.A) (hg : Calm X.A) : CallR X (.builtin "repr") rReprK := by
  intro pins s σ H xs us Q I r h
  obtain ⟨a, kvs, rfl, ha, hf, hs, hdp, hz, q⟩ := h
  obtain ⟨u, rfl, ru⟩ := vals1 r
  cases ru
  obtain ⟨_, hm, vs, kv, o, es, ep, ho, hx, hd, _, hp, _⟩ := dk_of I.hok ha
  obtain ⟨r1, r2⟩ := reads_pairs (h := s.heap) hp kv hf
  have e1 : (kvs.map fun p => (fD (kV p.1), fD p.2)).map (·.1) = kvs.map fun p => fD (kV p.1) := by rw [List.map_map]; rfl
  have e2 : (kvs.map fun p => (fD (kV p.1), fD p.2)).map (·.2) = kvs.map fun p => fD p.2 := by rw [List.map_map]; rfl
  have rd : Reads s.heap (.ref a) (dOf kvs) (a :: [] ++ []) := Reads.dict ho hx.1 hd (by rw [e1]; exact r1) (by rw [e2]; exact r2)
  have hu := hr.units
  refine repr_of_reads' rd hs (fun _ hq => ?_) hg (by omega) (fun _ _ e => e) (fun h' t tk hk => ⟨.str _, H, I.kept hk, ⟨_, rfl⟩, q⟩) hz
  rw [List.append_nil, List.mem_singleton] at hq
  rw [← hq] at hm
  simp at hm
/-! ### how long a dict's text is -/
theorem upto_dict (ts : List Str) : (dictText ts).length ≤ piled ts + 2 := by
  have e : (dictText ts).length = 1 + (Str.join ", " ts).length + 1 := by
    unfold dictText
    rw [strLen_append, strLen_append]; rfl
  by_cases h : ts = []
  · subst h
    have e4 : (Str.join ", " ([] : List Str)).length = 0 := rfl
    omega
  · have := join_length_add ts h
    omega
def bndKv : List (PyData × PyData) → Nat
  | [] => 0
  | (k, v) :: r => bnd k + bnd v + 4 + bndKv r
theorem shownKv_le : ∀ kvs : List (PyData × PyData), (∀ p ∈ kvs, p.1.showable = true ∧ p.1.hasDict = false ∧ p.2.showable = true ∧ p.2.hasDict = false) → piled (PyData.shownKv kvs) ≤ bndKv kvs
  | [], _ => Nat.le_refl _
  | (k, v) :: r, h => by
    obtain ⟨h1, h2, h3, h4⟩ := h (k, v) List.mem_cons_self
    have a := shown_le k h1 h2
    have b := shown_le v h3 h4
    have c := shownKv_le r fun p m => h p (List.mem_cons_of_mem _ m)
    show piled ((k.shown ++ ": " ++ v.shown) :: PyData.shownKv r) ≤ bnd k + bnd v + 4 + bndKv r
    rw [piled_cons, strLen_append, strLen_append]
    have e : ((": " : String) : Str).length = 2 := rfl
    omega
/-- the text of a dict of names and small ints -/
def SmallI (i : Int) : Prop := i.natAbs < 2 ^ 1000
theorem showable_int {i : Int} (h : SmallI i) : (PyData.int i).showable = true := decide_eq_true (Nat.lt_trans (log2_lt h (by decide)) (by decide))
theorem w_reprK {H : Hp} {Q : VK} {a : Addr} {ns : List (Str × Int)} (h : H a = some (.dK (ns.map fun p => (.inr p.1, .int p.2)))) (hn : ns.length ≤ 100) (hi : ∀ p ∈ ns, SmallI p.2) (hs : ∀ p ∈ ns, (reprText p.1).length ≤ 1000)
    (k : Q (.str (dOf (ns.map fun p => (.inr p.1, .int p.2))).shown) H) : rReprK [.ref a] H Q := by
  have e : (ns.map fun p => ((.inr p.1 : L2.Key), V.int p.2)).map (fun p => (fD (kV p.1), fD p.2)) = ns.map fun p => (PyData.str p.1, PyData.int p.2) := by rw [List.map_map]; rfl
  have sh : PyData.showableKv (ns.map fun p => (PyData.str p.1, PyData.int p.2)) = true := by
    clear k h hn hs e
    induction ns with
    | nil => rfl
    | cons p r ih =>
      show ((PyData.str p.1).showable && (PyData.int p.2).showable && PyData.showableKv _) = true
      rw [showable_int (hi p List.mem_cons_self), ih fun q m => hi q (List.mem_cons_of_mem _ m)]; rfl
  have dp : PyData.depthKv (ns.map fun p => (PyData.str p.1, PyData.int p.2)) = 0 := by
    clear k h hn hs e sh hi
    induction ns with
    | nil => rfl
    | cons p r ih =>
      show max (max (PyData.str p.1).depth (PyData.int p.2).depth) (PyData.depthKv (r.map fun p => (PyData.str p.1, PyData.int p.2))) = 0
      rw [ih]; rfl
  have bd : bndKv (ns.map fun p => (PyData.str p.1, PyData.int p.2)) ≤ ns.length * 3000 := by
    clear k h hn e sh hi dp
    induction ns with
    | nil => exact Nat.zero_le _
    | cons p r ih =>
      have a := hs p List.mem_cons_self
      have b := ih fun q m => hs q (List.mem_cons_of_mem _ m)
      show (reprText p.1).length + 1921 + 4 + bndKv (r.map fun p => (PyData.str p.1, PyData.int p.2)) ≤ (r.length + 1) * 3000
      omega
  have pl := shownKv_le (ns.map fun p => (PyData.str p.1, PyData.int p.2)) fun q m => by
    obtain ⟨p, hp, rfl⟩ := List.mem_map.mp m
    exact ⟨rfl, rfl, showable_int (hi p hp), rfl⟩
  refine ⟨a, _, rfl, h, ?_, ?_, ?_, ?_, k⟩
  · rw [List.all_map]
    exact List.all_eq_true.mpr fun p _ => rfl
  · unfold dOf; rw [e]; exact sh
  · unfold dOf; rw [e]
    show PyData.depthKv _ + 1 ≤ 40
    rw [dp]; decide
  · unfold dOf; rw [e]
    have u := upto_dict (PyData.shownKv (ns.map fun p => (PyData.str p.1, PyData.int p.2)))
    show (dictText (PyData.shownKv _)).length ≤ sizeLine
    have : ns.length * 3000 ≤ 300000 := Nat.mul_le_mul_right 3000 hn
    exact Nat.le_trans (m := 400000) (by omega) (by decide)
/-! ### readings -/
section
variable {σ : L2.St} {H : Hp} {Q : VK} {x y v : V} {td ty tv te : TE} {a : Addr} {K : PySem.W.Frag}
def kDGet (x y : V) (H2 : Hp) (Q : VK) : Prop := ∃ a v, x = .ref a ∧ DGet H2 a y (some v) ∧ Q v H2
theorem w_dget (k : td σ H fun x H1 => ty σ H1 fun y H2 => kDGet x y H2 Q) : tDGet td ty σ H Q := k
theorem k_dget {kvs : List (L2.Key × V)} {n : Str} (h : H a = some (.dK kvs)) (e : valV kvs (.inr n) = some v) (k : Q v H) : kDGet (.ref a) (.str n) H Q :=
  ⟨a, v, rfl, by rw [← e]; exact DGet.k (k := .inr n) h, k⟩
def kDPut (x y v : V) (H3 : Hp) (R : Hp → Prop) : Prop := ∃ a H4, x = .ref a ∧ DPut H3 a y v H4 ∧ R H4
theorem w_dput {D : Ends} (k : tv σ H fun v H1 => td σ H1 fun x H2 => ty σ H2 fun y H3 => kDPut x y v H3 fun H4 => D.nx σ H4) : sDPut td ty tv D σ H := k
theorem k_dput {kvs : List (L2.Key × V)} {n : Str} {R : Hp → Prop} (h : H a = some (.dK kvs)) (hl : kvs.length < 1000) (k : R (upd H a (.dK (putK kvs (.inr n) v)))) : kDPut (.ref a) (.str n) v H R :=
  ⟨a, _, rfl, DPut.k (k := .inr n) h (Nat.lt_trans hl (by decide)), k⟩
def rDictP (K : PySem.W.Frag) : List V → Hp → VK → Prop := fun xs H Q => ∃ (a : Addr) (ps : List Addr) (kvs : List (L2.Key × V)), xs = [.ref a] ∧ SqL K H a (ps.map V.ref) ∧ Paired (fun p kv => SqT K H p [kV kv.1, kv.2]) ps kvs ∧
    ∀ p, H p = none → Q (.ref p) (upd H p (.dK (mergeK [] kvs)))
theorem k_dictP {X : Cx} (K : PySem.W.Frag) (hc : X.calm = true := by rfl) (h : X.K = K := by rfl) : CallR X (.type "dict") (rDictP K) := by subst h; exact call_dictP hc
theorem w_sl {r : V → Option Int → Option Int → Hp → VK → Prop} {tl th : TO} (k : te σ H fun x H1 => tl σ H1 fun l H2 => th σ H2 fun u H3 => r x l u H3 Q) : tSl r te tl th σ H Q := k
def kPart (x : V) (H : Hp) (R : Option Int → Hp → Prop) : Prop := ∃ i, x = .int i ∧ R (some i) H
theorem w_part {R : Option Int → Hp → Prop} (k : te σ H fun x H1 => kPart x H1 R) : tPart te σ H R := k
theorem k_part {i : Int} {R : Option Int → Hp → Prop} (k : R (some i) H) : kPart (.int i) H R := ⟨i, rfl, k⟩
theorem w_noPart {R : Option Int → Hp → Prop} (k : R none H) : tNoPart σ H R := k
theorem w_slS {z : Str} {lo hi : Option Int} (h : z.length ≤ 100000) (k : Q (.str (cutS z lo hi)) H) : rSlS (.str z) lo hi H Q := ⟨z, rfl, Nat.le_trans h (by decide), k⟩
theorem w_ixS {z : Str} {i : Int} {c : Nat} (h : z.length ≤ 100000) (e : atI z.cps.toList i = some c) (k : Q (.str ⟨#[c]⟩) H) : rIxS (.str z) (.int i) H Q := ⟨z, i, c, rfl, rfl, Nat.le_trans h (by decide), e, k⟩
def kBM (K : PySem.W.Frag) (T : String) (x : V) (H : Hp) (R : Prop) : Prop := tyV K T x H ∧ R
theorem w_bm {T : String} {r : V → List V → Hp → VK → Prop} {t : TA} (k : te σ H fun x H1 => kBM K T x H1 (t σ H1 fun xs H2 => r x xs H2 Q)) : tBM K T r te t σ H Q := k
theorem k_bmS {z : Str} {R : Prop} (k : R) : kBM K "str" (.str z) H R := ⟨by first | exact ⟨_, rfl⟩ | trivial | exact .inl ⟨rfl, _, rfl⟩ | (simp [tyV]), k⟩
def rJoin (K : PySem.W.Frag) : V → List V → Hp → VK → Prop := fun x xs H Q => ∃ a p, ∃ ys : List Str, x = .str a ∧ xs = [.ref p] ∧ (SqL K H p (ys.map V.str) ∨ SqT K H p (ys.map V.str)) ∧
    (ys.map (·.length)).sum + ys.length * a.length ≤ 16777216 ∧ Q (.str (Txt.join a ys)) H
theorem k_join {X : Cx} (K : PySem.W.Frag) (h : X.K = K := by rfl) : MtR X "str.join" (rJoin K) := by subst h; exact mt_join
theorem k_slA {X : Cx} (K : PySem.W.Frag) (h : X.K = K := by rfl) : SlR X (rSlA K) := by subst h; exact sl_tupA
end
theorem pe_bmK {X : Cx} (K : PySem.W.Frag) {o e : Expr} {es : List Expr} {to : TE} {t : TA} {name : Str} {apos cpos : Pos} {T id : String} {r : V → List V → Hp → VK → Prop}
    (pa : PlainAttrs T) (slot : Slot T name id) (hty : typeOf (.builtin id) = pure (.type "method_descriptor")) (hm : MtR X id r) (ho : PE X o to) (ha : PA X (e :: es) t)
    (hbase : attributeBase o name X.env (eval o X.env) = eval o X.env := by rfl)
    (hfew : ((backTo cpos (starEach (e :: es) X.env)).all (fun x => !x.1) && (backToKw cpos (keywordEach [] X.env)).all (fun x => x.1.isSome)
      && decide ((e :: es).length + ([] : List Keyword).length + (if ([] : List Keyword).isEmpty then 0 else 1) < 30)) = true := by rfl)
    (hline : (apos.endLine == cpos.line) = true := by rfl) (hs : starEach (e :: es) X.env = (false, eval e X.env) :: starEach es X.env := by rfl) (hplain : (backTo cpos (starEach es X.env)).any (·.1) = false := by rfl)
    (h : X.K = K := by rfl) : PE X (.Call (.Attribute o name apos) (e :: es) [] cpos) (tBM K T r to t) := by
  subst h
  exact pe_bm pa slot hty hm ho ha hbase hfew hline hs hplain
theorem madeI_all (v : Nat → V) : ∀ n, madeI (fun _ => true) v n = (List.range n).map v
  | 0 => rfl
  | n + 1 => by
    show madeI (fun _ => true) v n ++ [v n] = _
    rw [madeI_all v n, List.range_succ, List.map_append]; rfl
theorem joinL_nil : ∀ ls : List (List Nat), TL.joinL [] ls = ls.flatten
  | [] => rfl
  | [x] => by simp [TL.joinL]
  | x :: y :: r => by
    show x ++ ([] ++ TL.joinL [] (y :: r)) = _
    rw [joinL_nil (y :: r)]; simp
end Sil
set_option Elab.async false
set_option linter.all false
set_option maxRecDepth 100000
set_option maxHeartbeats 1000000
/-! P10: names. -/
namespace Sil
open PySem L2 PySem.Spec PyProof.Rows
/-! ### names -/
structure NameOk (x : Str) : Prop where
  pos : 1 ≤ x.length
  len : x.length ≤ 8
  let_ : ∀ c ∈ x.cps.toList, 97 ≤ c ∧ c ≤ 122
theorem NameOk.rep {x : Str} (h : NameOk x) : (reprText x).length ≤ 1000 := by
  have q := StrLaws.reprText_len x fun c m => Nat.lt_of_le_of_lt (h.let_ c m).2 (by decide)
  have := h.len
  omega
/-- names: texts in order, each one once -/
structure Names (xs : List Str) : Prop where
  ok : ∀ x ∈ xs, NameOk x
  nd : xs.Nodup
  so : sortedS xs = true
def abc : Str := Str.ofString "abcdefghijklmnopqrstuvwxyz"
theorem abc_at {i : Int} (h0 : 0 ≤ i) (h1 : i < 26) : atI abc.cps.toList i = some (97 + i.toNat) := by
  have all : ∀ n : Nat, n < 26 → atI abc.cps.toList (n : Int) = some (97 + n) := by decide +kernel
  have := all i.toNat (by omega)
  rw [Int.toNat_of_nonneg h0] at this
  exact this
def letter (first pace : Int) (k : Nat) : Nat := 97 + ((first + pace * (k : Int)) % 26).toNat
theorem letter_inj {first pace : Int} (hp : pace = 1 ∨ pace = 3 ∨ pace = 5 ∨ pace = 25) {j k : Nat} (hj : j < 26) (hk : k < 26) (h : letter first pace j = letter first pace k) : j = k := by
  unfold letter at h
  rcases hp with rfl | rfl | rfl | rfl <;> omega
def nameAt (stem : Str) (spot : Int) (c : Nat) : Str := cutS stem none (some spot) ++ (⟨#[c]⟩ : Str) ++ cutS stem (some spot) none
theorem tl_cut1 {stem : Str} {n : Nat} (h : n ≤ stem.length) : TL.tl (cutS stem none (some (n : Int))) = (TL.tl stem).take n := by
  show ((stem.cps.toList.drop (HT.sIx stem.length 0 none)).take (HT.sIx stem.length stem.length (some (n : Int)) - HT.sIx stem.length 0 none)).toArray.toList = _
  rw [HT.sIx_nat, HT.sIx_none, Nat.min_eq_left h]
  simp [TL.tl]
theorem tl_cut2 {stem : Str} {n : Nat} (h : n ≤ stem.length) : TL.tl (cutS stem (some (n : Int)) none) = (TL.tl stem).drop n := by
  show ((stem.cps.toList.drop (HT.sIx stem.length 0 (some (n : Int)))).take (HT.sIx stem.length stem.length none - HT.sIx stem.length 0 (some (n : Int)))).toArray.toList = _
  rw [HT.sIx_nat, HT.sIx_none, Nat.min_eq_left h]
  have e : stem.length = stem.cps.toList.length := TL.len_tl stem
  rw [e, ← List.length_drop, List.take_length]
theorem tl_name {stem : Str} {n c : Nat} (h : n ≤ stem.length) : TL.tl (nameAt stem n c) = (TL.tl stem).take n ++ [c] ++ (TL.tl stem).drop n := by
  unfold nameAt
  rw [TL.tl_append, TL.tl_append, tl_cut1 h, tl_cut2 h]
theorem name_inj {stem : Str} {n c d : Nat} (h : n ≤ stem.length) (e : nameAt stem n c = nameAt stem n d) : c = d := by
  have e := congrArg TL.tl e
  rw [tl_name h, tl_name h, List.append_assoc, List.append_assoc] at e
  have e := List.append_cancel_left e
  simpa using e
theorem name_ok {stem : Str} {n c : Nat} (h : n ≤ stem.length) (hl : stem.length ≤ 7) (hs : ∀ x ∈ TL.tl stem, 97 ≤ x ∧ x ≤ 122) (hc : 97 ≤ c ∧ c ≤ 122) : NameOk (nameAt stem n c) := by
  have e := tl_name (c := c) h
  have el : (nameAt stem n c).length = stem.length + 1 := by
    rw [TL.len_tl, e, List.length_append, List.length_append, List.length_take, List.length_drop, ← TL.len_tl stem, Nat.min_eq_left h]
    show n + 1 + (stem.length - n) = _
    omega
  refine ⟨by omega, by omega, fun x m => ?_⟩
  have m : x ∈ TL.tl (nameAt stem n c) := m
  rw [e] at m
  rcases List.mem_append.mp m with m | m
  · rcases List.mem_append.mp m with m | m
    · exact hs x (List.mem_of_mem_take m)
    · rw [List.mem_singleton] at m; rw [m]; exact hc
  · exact hs x (List.mem_of_mem_drop m)
theorem letter_ok (first pace : Int) (k : Nat) : 97 ≤ letter first pace k ∧ letter first pace k ≤ 122 := by
  unfold letter
  omega
theorem names_raw {stem : Str} {n many : Nat} {first pace : Int} (h : n ≤ stem.length) (hl : stem.length ≤ 7) (hs : ∀ x ∈ TL.tl stem, 97 ≤ x ∧ x ≤ 122)
    (hp : pace = 1 ∨ pace = 3 ∨ pace = 5 ∨ pace = 25) (hm : many ≤ 26) {ys : List Str} (p : ys.Perm ((List.range many).map fun k => nameAt stem n (letter first pace k))) (so : sortedS ys = true) : Names ys ∧ ys.length = many := by
  refine ⟨⟨fun x m => ?_, ?_, so⟩, by rw [p.length_eq, List.length_map, List.length_range]⟩
  · obtain ⟨k, _, rfl⟩ := List.mem_map.mp (p.mem_iff.mp m)
    exact name_ok h hl hs (letter_ok _ _ _)
  · refine p.nodup_iff.mpr ?_
    rw [List.nodup_iff_pairwise_ne, List.pairwise_map]
    refine List.Pairwise.imp_of_mem ?_ (List.nodup_iff_pairwise_ne.mp (List.nodup_range (n := many)))
    intro j k hj hk ne e
    rw [List.mem_range] at hj hk
    exact ne (letter_inj hp (by omega) (by omega) (name_inj h e))
def spNames : Sp := fun vs H Q _ => ∃ (b : Addr) (many : Nat), vs = [.ref b, .int many] ∧ Bag H b ∧ 1 ≤ many ∧ many ≤ 26 ∧
  ∀ t xs H', Names xs → xs.length = many → H t = none → Step b H H' → H' t = some (.tup (xs.map V.str)) → Q (.ref t) H'
theorem use_names {b : Addr} {many : Nat} {H : Hp} {Q : VK} {E : XK} (hb : Bag H b) (h1 : 1 ≤ many) (h2 : many ≤ 26)
    (k : ∀ t xs H', Names xs → xs.length = many → H t = none → Step b H H' → H' t = some (.tup (xs.map V.str)) → Q (.ref t) H') : spNames ([.ref b, .int many] ++ []) H Q E := ⟨b, many, rfl, hb, h1, h2, k⟩
theorem size_at {d : Int} (h0 : 0 ≤ d) (h1 : d < 5) : ∃ s : Nat, atI [V.int 0, .int 0, .int 1, .int 2, .int 7] d = some (.int (s : Int)) ∧ s ≤ 7 := by
  have h : d = 0 ∨ d = 1 ∨ d = 2 ∨ d = 3 ∨ d = 4 := by omega
  rcases h with rfl | rfl | rfl | rfl | rfl
  · exact ⟨0, rfl, by decide⟩
  · exact ⟨0, rfl, by decide⟩
  · exact ⟨1, rfl, by decide⟩
  · exact ⟨2, rfl, by decide⟩
  · exact ⟨7, rfl, by decide⟩
theorem pace_at {d : Int} (h0 : 0 ≤ d) (h1 : d < 4) : ∃ s : Int, atI [V.int 1, .int 3, .int 5, .int 25] d = some (.int s) ∧ (s = 1 ∨ s = 3 ∨ s = 5 ∨ s = 25) := by
  have h : d = 0 ∨ d = 1 ∨ d = 2 ∨ d = 3 := by omega
  rcases h with rfl | rfl | rfl | rfl
  · exact ⟨1, rfl, by decide⟩
  · exact ⟨3, rfl, by decide⟩
  · exact ⟨5, rfl, by decide⟩
  · exact ⟨25, rfl, by decide⟩
theorem stem_of : ∀ {acc : List V}, (∀ (j : Nat) (y : V), acc[j]? = some y → ∃ c, y = V.str ⟨#[c]⟩ ∧ 97 ≤ c ∧ c ≤ 122) → ∃ ys : List Nat, acc = (ys.map fun c => (⟨#[c]⟩ : Str)).map V.str ∧ ∀ c ∈ ys, 97 ≤ c ∧ c ≤ 122
  | [], _ => ⟨[], rfl, fun _ h => nomatch h⟩
  | v :: r, h => by
    obtain ⟨c, rfl, hc⟩ := h 0 v rfl
    obtain ⟨ys, rfl, hy⟩ := stem_of (acc := r) fun j y e => h (j + 1) y e
    refine ⟨c :: ys, rfl, fun d m => ?_⟩
    rcases List.mem_cons.mp m with rfl | m
    · exact hc
    · exact hy d m
theorem tl_stem (ys : List Nat) : TL.tl (Txt.join (Str.ofString "") (ys.map fun c => (⟨#[c]⟩ : Str))) = ys := by
  rw [TL.join_eq, TL.tl_join]
  show TL.joinL [] _ = _
  rw [joinL_nil, List.map_map]
  induction ys with
  | nil => rfl
  | cons c r ih =>
    rw [List.map_cons, List.flatten_cons, ih]; rfl
theorem sum_ones (ys : List Nat) : ((ys.map fun c => (⟨#[c]⟩ : Str)).map (·.length)).sum = ys.length := by
  induction ys with
  | nil => rfl
  | cons c r ih =>
    rw [List.map_cons, List.map_cons, List.sum_cons, ih]
    show 1 + r.length = r.length + 1
    omega
end Sil
set_option Elab.async false
set_option linter.all false
set_option maxRecDepth 100000
set_option maxHeartbeats 1000000
/-! P11: filters that draw; watches; numbers by names. -/
namespace Sil
open PySem L2 PySem.Spec PyProof.Rows
/-! ### filters that draw -/
section
variable {K : PySem.W.Frag} {a b : Addr} {g : TG} {tt : TT} {te : TE} {vs : List Nat} {σ : L2.St} {H1 : Hp} {Q : VK}
def TurnF (b : Addr) (g : TG) (tt : TT) (te : TE) (vs : List Nat) (σ : L2.St) (x : V) (G : Hp) : Prop :=
  ∀ (R : V → Hp → Prop) (Ny : Hp → Prop), (∀ G', Step b G G' → R x G') → (∀ G', Step b G G' → Ny G') → g x (wipe σ vs) G fun σ2 H2 => wipe σ2 vs = wipe σ vs ∧ tt σ2 H2 fun c H3 => if c = true then te σ2 H3 R else Ny H3
theorem take_snoc {α : Type} {xs : List α} {i : Nat} {x : α} (h : xs[i]? = some x) : xs.take (i + 1) = xs.take i ++ [x] := by
  obtain ⟨h1, rfl⟩ := List.getElem?_eq_some_iff.mp h
  rw [List.take_succ_eq_append_getElem h1]
theorem f_lcT {xs : List V} (hb : Bag H1 b) (hz : xs.length ≤ 100000) (hx : SqT K H1 a xs) (ht : ∀ (i : Nat) (x : V) (G : Hp), xs[i]? = some x → Step b H1 G → TurnF b g tt te vs σ x G)
    (k : ∀ D acc H, H1 D = none → H D = some (.lst acc) → Step b H1 H → acc.Sublist xs → Q (.ref D) H) : kLc (Itt K a) g tt te vs σ H1 Q := by
  refine k_lcT (xs := xs) hz (fun i acc G => Step b H1 G ∧ acc.Sublist (xs.take i)) ⟨.refl hb, List.Sublist.refl _⟩ (fun i acc G p => p.1.seqT hb hx) ?_ ?_
  · intro D i x acc H nD hi hD p Nx Ny k1 k2 hlen
    have nb := bag_new hb nD
    have st : Step b H1 H := p.1.more off_sub
    have back : ∀ G', Step b H G' → Step b H1 (off [D] G') := fun G' s' => by
      refine ⟨?_, fun c o hc => ?_⟩
      · obtain ⟨n, m, h1, h2, e⟩ := s'.1
        exact ⟨n, m, h1, h2, off_mk e (by rw [List.mem_singleton]; exact nb.symm)⟩
      · obtain ⟨e1, e2⟩ := off_get hc
        have e3 := (st.trans s').at e1 (by simpa using e2)
        refine off_mk (off_mk e3 ?_) e2
        rw [List.mem_singleton]
        rintro rfl
        rw [nD] at e1; cases e1
    refine ht i x H hi st _ Ny (fun G' s' => ?_) fun G' s' => ?_
    · refine ⟨acc, s'.at hD nb, hlen, k1 x G' (s'.at hD nb) ⟨back G' s', ?_⟩⟩
      rw [take_snoc hi]
      exact p.2.append (List.Sublist.refl _)
    · refine k2 G' (s'.at hD nb) ⟨back G' s', ?_⟩
      rw [take_snoc hi]
      exact p.2.trans (List.sublist_append_left _ _)
  · rintro D acc H nD hD ⟨p1, p2⟩
    rw [List.take_length] at p2
    exact k D acc H nD hD (p1.more off_sub) p2
theorem turnF_name {j : Nat} {x : V} {G : Hp} (hw : ∀ x, wipe ((wipe σ vs).set j (some x)) vs = wipe σ vs)
    (h : ∀ (R : V → Hp → Prop) (Ny : Hp → Prop), (∀ G', Step b G G' → R x G') → (∀ G', Step b G G' → Ny G') → tt ((wipe σ vs).set j (some x)) G fun c H3 => if c = true then te ((wipe σ vs).set j (some x)) H3 R else Ny H3) :
    TurnF b (gName j) tt te vs σ x G := fun R Ny k1 k2 => w_name ⟨hw x, h R Ny k1 k2⟩
/-- the target is a pair of names -/
theorem turn_pair {i j : Nat} {q : Addr} {v1 v2 : V} {c : Bool} {v : V} (hq : H1 q = some (.tup [v1, v2])) (hw : wipe (((wipe σ vs).set i (some v1)).set j (some v2)) vs = wipe σ vs)
    (ht : EvT tt (((wipe σ vs).set i (some v1)).set j (some v2)) H1 c) (he : c = true → EvE te (((wipe σ vs).set i (some v1)).set j (some v2)) H1 v) :
    TurnI (gTup K 2 (gCons (gName i) (gCons (gName j) gNil))) tt te vs σ H1 (.ref q) c v := fun H s R k =>
  w_gtup (SqT.at (s _ _ hq)) rfl (w_gcons (w_name (w_gcons (w_name (w_gnil (k _ hw ht he))))))
end
/-! ### texts are data -/
theorem NameOk.lay {x : Str} (h : NameOk x) : PyData.canLay0 (.str x) = true := by
  show x.cps.all (fun c => decide (c < 0x110000)) = true
  rw [Array.all_eq_true]
  intro i hi
  have m : x.cps[i] ∈ x.cps.toList := by simp
  exact decide_eq_true (Nat.lt_of_le_of_lt (h.let_ _ m).2 (by decide))
theorem dpAll_strs {K : PySem.W.Frag} {H : Hp} : ∀ xs : List Str, DpAll K H (xs.map V.str) (xs.map PyData.str)
  | [] => .nil
  | n :: r => .cons (.str n) (dpAll_strs r)
theorem canLay_strs : ∀ {xs : List Str}, (∀ x ∈ xs, NameOk x) → PyData.canLayAll0 (xs.map PyData.str) = true
  | [], _ => rfl
  | n :: r, h => by
    show (PyData.canLay0 (.str n) && PyData.canLayAll0 (r.map PyData.str)) = true
    rw [(h n List.mem_cons_self).lay, canLay_strs fun x m => h x (List.mem_cons_of_mem _ m)]; rfl
theorem depth_strs : ∀ ns : List Str, PyData.depthAll (ns.map PyData.str) = 0
  | [] => rfl
  | n :: r => by
    show max 0 (PyData.depthAll (r.map PyData.str)) = 0
    rw [depth_strs r]; rfl
theorem shaped_strs {xs : List Str} (h : ∀ x ∈ xs, NameOk x) : SeqAt.shaped (.list (xs.map PyData.str)) = true := by
  show (PyData.canLayAll0 (xs.map PyData.str) && decide (PyData.depthAll (xs.map PyData.str) + 1 ≤ 64)) = true
  rw [canLay_strs h, depth_strs]; rfl
/-! ### what stays -/
/-- tuples stay -/
def TKeep (H H' : Hp) : Prop := ∀ p xs, H p = some (.tup xs) → H' p = some (.tup xs)
theorem TKeep.same {H H' : Hp} (s : Same H H') : TKeep H H' := fun p xs e => s _ _ e
theorem TKeep.step {b : Addr} {H H' : Hp} (hb : Bag H b) (s : Step b H H') : TKeep H H' := fun p xs e => s.tup hb e
theorem TKeep.trans {H H' H2 : Hp} (s : TKeep H H') (t : TKeep H' H2) : TKeep H H2 := fun p xs e => t p xs (s p xs e)
/-! ### watches -/
inductive Wt where
  | sum (ws : List (Str × Int)) (l : Int)
  | over (ws : List (Str × Int)) (l : Int)
  | most (ns : List Str) (l : Int)
  | count (ns : List Str) (l : Int)
def PairsAt (H : Hp) (t : Addr) (ws : List (Str × Int)) : Prop := ∃ ps : List Addr, H t = some (.tup (ps.map V.ref)) ∧ Paired (fun q e => H q = some (.tup [.str e.1, .int e.2])) ps ws
def WatchAt (H : Hp) (p : Addr) : Wt → Prop
  | .sum ws l => ∃ t, H p = some (.tup [.str (Str.ofString "sum"), .ref t, .int l]) ∧ PairsAt H t ws
  | .over ws l => ∃ t, H p = some (.tup [.str (Str.ofString "over"), .ref t, .int l]) ∧ PairsAt H t ws
  | .most ns l => ∃ t, H p = some (.tup [.str (Str.ofString "most"), .ref t, .int l]) ∧ H t = some (.tup (ns.map V.str))
  | .count ns l => ∃ t, H p = some (.tup [.str (Str.ofString "count"), .ref t, .int l]) ∧ H t = some (.tup (ns.map V.str))
theorem paired_keep {H H' : Hp} (k : TKeep H H') : ∀ {ps : List Addr} {ws : List (Str × Int)}, Paired (fun q e => H q = some (.tup [.str e.1, .int e.2])) ps ws → Paired (fun q e => H' q = some (.tup [.str e.1, .int e.2])) ps ws
  | _, _, .nil => .nil
  | _, _, .cons h r => .cons (k _ _ h) (paired_keep k r)
theorem PairsAt.keep {H H' : Hp} {t : Addr} {ws : List (Str × Int)} (k : TKeep H H') : PairsAt H t ws → PairsAt H' t ws := fun ⟨ps, h1, h2⟩ => ⟨ps, k _ _ h1, paired_keep k h2⟩
theorem WatchAt.keep {H H' : Hp} {p : Addr} (k : TKeep H H') : ∀ {w : Wt}, WatchAt H p w → WatchAt H' p w
  | .sum _ _, ⟨t, h1, h2⟩ => ⟨t, k _ _ h1, h2.keep k⟩
  | .over _ _, ⟨t, h1, h2⟩ => ⟨t, k _ _ h1, h2.keep k⟩
  | .most _ _, ⟨t, h1, h2⟩ => ⟨t, k _ _ h1, k _ _ h2⟩
  | .count _ _, ⟨t, h1, h2⟩ => ⟨t, k _ _ h1, k _ _ h2⟩
def Wt.names : Wt → List Str
  | .sum ws _ => ws.map (·.1)
  | .over ws _ => ws.map (·.1)
  | .most ns _ => ns
  | .count ns _ => ns
def Wt.weights : Wt → List Int
  | .sum ws _ => ws.map (·.2)
  | .over ws _ => ws.map (·.2)
  | _ => []
/-- a watch of these names -/
structure WOk (xs : List Str) (w : Wt) : Prop where
  sub : ∀ n ∈ w.names, n ∈ xs
  ne : w.names ≠ []
  few : w.names.length ≤ 26
  wt : ∀ i ∈ w.weights, i.natAbs ≤ 1000000
theorem paired_at {H : Hp} : ∀ {ps : List Addr} {ws : List (Str × Int)} (_ : Paired (fun q e => H q = some (.tup [.str e.1, .int e.2])) ps ws) {i : Nat} {x : V}, (ps.map V.ref)[i]? = some x →
    ∃ q e, x = .ref q ∧ ws[i]? = some e ∧ H q = some (.tup [.str e.1, .int e.2])
  | _, _, .nil, i, x, h => by cases h
  | _, _, .cons (a := q) (b := e) h r, 0, x, hi => by cases hi; exact ⟨q, e, rfl, rfl, h⟩
  | _, _, .cons h r, i + 1, x, hi => paired_at r hi
theorem paired_len {α β : Type} {R : α → β → Prop} : ∀ {ps : List α} {ws : List β}, Paired R ps ws → ps.length = ws.length
  | _, _, .nil => rfl
  | _, _, .cons _ r => congrArg (· + 1) (paired_len r)
/-! ### numbers by names -/
def numKv (ns : List (Str × Int)) : List (L2.Key × V) := ns.map fun p => (.inr p.1, .int p.2)
def numOf (ns : List (Str × Int)) (x : Str) : Option Int := (ns.find? fun p => decide (p.1 = x)).map (·.2)
theorem val_num (x : Str) : ∀ ns : List (Str × Int), valV (numKv ns) (.inr x) = (numOf ns x).map V.int
  | [] => rfl
  | p :: r => by
    by_cases h : p.1 = x
    · have e : numOf (p :: r) x = some p.2 := by unfold numOf; rw [List.find?_cons_of_pos (by simpa using h)]; rfl
      rw [e]
      exact valV_pos (p := ((.inr p.1 : L2.Key), V.int p.2)) (by rw [h])
    · have e : numOf (p :: r) x = numOf r x := by unfold numOf; rw [List.find?_cons_of_neg (by simpa using h)]
      rw [e, ← val_num x r]
      exact valV_neg (p := ((.inr p.1 : L2.Key), V.int p.2)) (by intro q; exact h (by injection q))
theorem num_some {x : Str} : ∀ {ns : List (Str × Int)}, x ∈ ns.map (·.1) → ∃ i, numOf ns x = some i ∧ (x, i) ∈ ns
  | [], h => nomatch h
  | p :: r, h => by
    by_cases q : p.1 = x
    · refine ⟨p.2, by unfold numOf; rw [List.find?_cons_of_pos (by simpa using q)]; rfl, ?_⟩
      rw [← q]; exact List.mem_cons_self
    · obtain ⟨i, h1, h2⟩ := num_some (ns := r) (by
        rcases List.mem_cons.mp h with e | e
        · exact absurd e.symm q
        · exact e)
      exact ⟨i, by unfold numOf; rw [List.find?_cons_of_neg (by simpa using q)]; exact h1, List.mem_cons_of_mem _ h2⟩
def num (ns : List (Str × Int)) (x : Str) : Int := (numOf ns x).getD 0
theorem num_val {x : Str} {ns : List (Str × Int)} (h : x ∈ ns.map (·.1)) : valV (numKv ns) (.inr x) = some (.int (num ns x)) := by
  obtain ⟨i, e, _⟩ := num_some h
  rw [val_num]
  unfold num
  rw [e]; rfl
theorem num_mem {x : Str} {ns : List (Str × Int)} (h : x ∈ ns.map (·.1)) : (x, num ns x) ∈ ns := by
  obtain ⟨i, e, m⟩ := num_some h
  unfold num
  rw [e]; exact m
/-! ### worths -/
def total (f : Str → Int) (ws : List (Str × Int)) : Int := (ws.map fun e => e.2 * f e.1).sum
def worthV (f : Str → Int) : Wt → V
  | .sum ws _ => .int (total f ws)
  | .over ws l => .bl (decide (l ≤ total f ws))
  | .most ns _ => .int ((maxO (ns.map f)).getD 0)
  | .count ns l => .int ((ns.filter fun n => decide (l ≤ f n)).length : Nat)
theorem madeI_len (f : Nat → Bool) (v : Nat → V) : ∀ n, (madeI f v n).length = ((List.range n).filter f).length
  | 0 => rfl
  | n + 1 => by
    show (if f n = true then madeI f v n ++ [v n] else madeI f v n).length = _
    rw [List.range_succ, List.filter_append]
    by_cases h : f n = true
    · rw [if_pos h, List.length_append, madeI_len f v n, List.length_append]
      simp [h]
    · rw [if_neg h, madeI_len f v n]
      simp [h]
theorem range_at {α : Type} (d : α) (xs : List α) : (List.range xs.length).map (fun i => xs.getD i d) = xs := by
  apply List.ext_getElem
  · simp
  · intro i h1 h2
    simp [List.getD_eq_getElem?_getD, h2]
theorem filter_at {α : Type} (d : α) (p : α → Bool) (xs : List α) : ((List.range xs.length).filter fun i => p (xs.getD i d)).length = (xs.filter p).length := by
  have e := congrArg (fun l => (l.filter p).length) (range_at d xs)
  simp only [List.filter_map, List.length_map] at e
  exact e
/-! ### worths -/
theorem sum_list (f : Str → Int) (ws : List (Str × Int)) (n : Nat) (h : n = ws.length) : madeI (fun _ => true) (fun i => V.int ((ws.getD i (Str.empty, 0)).2 * f (ws.getD i (Str.empty, 0)).1)) n = (ws.map fun e => e.2 * f e.1).map V.int := by
  subst h
  rw [madeI_all]
  have e := congrArg (fun l => (l.map fun e : Str × Int => e.2 * f e.1).map V.int) (range_at (Str.empty, 0) ws)
  rw [List.map_map, List.map_map] at e
  exact e
theorem num_list (f : Str → Int) (ns : List Str) (n : Nat) (h : n = ns.length) : madeI (fun _ => true) (fun i => V.int (f (ns.getD i Str.empty))) n = (ns.map f).map V.int := by
  subst h
  rw [madeI_all]
  have e := congrArg (fun l => (l.map f).map V.int) (range_at Str.empty ns)
  rw [List.map_map, List.map_map] at e
  exact e
/-- numbers that have these names -/
structure NumAt (H : Hp) (d : Addr) (ns : List (Str × Int)) (xs : List Str) : Prop where
  at_ : H d = some (.dK (numKv ns))
  has : ∀ x ∈ xs, x ∈ ns.map (·.1)
theorem NumAt.same {H H' : Hp} {d : Addr} {ns : List (Str × Int)} {xs : List Str} (s : Same H H') (h : NumAt H d ns xs) : NumAt H' d ns xs := ⟨s _ _ h.at_, h.has⟩
theorem NumAt.sub {H : Hp} {d : Addr} {ns : List (Str × Int)} {xs ys : List Str} (s : ∀ y ∈ ys, y ∈ xs) (h : NumAt H d ns xs) : NumAt H d ns ys := ⟨h.at_, fun y m => h.has y (s y m)⟩
def WtLe (ws : List (Str × Int)) : Prop := ∀ e ∈ ws, e.2.natAbs ≤ 1000000
/-- the sum's comprehension -/
theorem sum_turn {K : PySem.W.Frag} {ps : List Addr} {ws : List (Str × Int)} {ns : List (Str × Int)} {d : Addr} {H : Hp} {tt : TT} {te : TE} {vs : List Nat} {σ : L2.St} {i j : Nat}
    (pp : Paired (fun q e => H q = some (.tup [.str e.1, .int e.2])) ps ws) (hd : NumAt H d ns (ws.map (·.1)))
    (hw : ∀ u v, wipe (((wipe σ vs).set i (some u)).set j (some v)) vs = wipe σ vs)
    (ht : ∀ u v H', tt (((wipe σ vs).set i (some u)).set j (some v)) H' = fun Q => Q true H')
    (he : ∀ (x : Str) (k : Int) (f : Int), valV (numKv ns) (.inr x) = some (.int f) → k.natAbs ≤ 1000000 → EvE te (((wipe σ vs).set i (some (.str x))).set j (some (.int k))) H (.int (k * f)))
    (wl : WtLe ws) : ∀ (a : Nat) (x : V), (ps.map V.ref)[a]? = some x → TurnI (gTup K 2 (gCons (gName i) (gCons (gName j) gNil))) tt te vs σ H x true (V.int ((ws.getD a (Str.empty, 0)).2 * num ns (ws.getD a (Str.empty, 0)).1)) := by
  intro a x ha
  obtain ⟨q, e, rfl, hwa, hq⟩ := paired_at pp ha
  have eg : ws.getD a (Str.empty, 0) = e := by rw [List.getD_eq_getElem?_getD, hwa]; rfl
  have me := List.mem_of_getElem? hwa
  refine turn_pair hq (hw _ _) (fun H' s' Q' k' => ?_) (fun _ => ?_)
  · rw [ht]; exact k' _ (Same.refl _)
  · rw [eg]
    exact he _ _ _ (num_val (hd.has _ (List.mem_map_of_mem me))) (wl e me)
theorem WOk.le {xs : List Str} {ws : List (Str × Int)} {l : Int} (h : WOk xs (.sum ws l)) : WtLe ws := fun e m => h.wt e.2 (List.mem_map_of_mem m)
theorem WOk.le' {xs : List Str} {ws : List (Str × Int)} {l : Int} (h : WOk xs (.over ws l)) : WtLe ws := fun e m => h.wt e.2 (List.mem_map_of_mem m)
theorem w_eqY {x : Str} {H : Hp} {Q : VK} (k : Q (.bl true) H) : rEq (.str x) (.str x) H Q := w_eq rfl (by rw [decide_eq_true rfl]; exact k)
theorem w_eqX {a b : Str} {H : Hp} {Q : VK} (h : ¬ a = b) (k : Q (.bl false) H) : rEq (.str a) (.str b) H Q := w_eq rfl (by rw [decide_eq_false (fun e => h (by injection e))]; exact k)
def spWorth : Sp := fun vs H Q _ => ∃ (p d : Addr) (w : Wt) (ns : List (Str × Int)), vs = [.ref p, .ref d] ∧ WatchAt H p w ∧ WOk w.names w ∧ NumAt H d ns w.names ∧
  ∀ H', Same H H' → Q (worthV (num ns) w) H'
theorem use_worth {p d : Addr} {w : Wt} {ns : List (Str × Int)} {H : Hp} {Q : VK} {E : XK} (h1 : WatchAt H p w) (h2 : WOk w.names w) (h3 : NumAt H d ns w.names) (k : ∀ H', Same H H' → Q (worthV (num ns) w) H') :
    spWorth ([.ref p, .ref d] ++ []) H Q E := ⟨p, d, w, ns, rfl, h1, h2, h3, k⟩
theorem getD_map {α : Type} {f : Str → α} {ns : List Str} {i : Nat} {x : α} (h : (ns.map f)[i]? = some x) : x = f (ns.getD i Str.empty) ∧ ns.getD i Str.empty ∈ ns := by
  obtain ⟨h1, h2⟩ := List.getElem?_eq_some_iff.mp h
  rw [List.length_map] at h1
  have e : ns.getD i Str.empty = ns[i] := by rw [List.getD_eq_getElem?_getD, List.getElem?_eq_getElem h1]; rfl
  rw [e]
  exact ⟨by rw [← h2, List.getElem_map], List.getElem_mem _⟩
end Sil
set_option Elab.async false
set_option linter.all false
set_option maxRecDepth 100000
set_option maxHeartbeats 1000000
/-! P12: pairs drawn, dicts made of them, how far worths go. -/
namespace Sil
open PySem L2 PySem.Spec PyProof.Rows
theorem acc_pairs {B : Int → Prop} {H : Hp} : ∀ {acc : List V} {ys : List Str}, acc.length = ys.length → (∀ (j : Nat) (y : V), acc[j]? = some y → ∃ q k, y = V.ref q ∧ H q = some (.tup [.str (ys.getD j Str.empty), .int k]) ∧ B k) →
    ∃ (ps : List Addr) (ws : List (Str × Int)), acc = ps.map V.ref ∧ Paired (fun q e => H q = some (.tup [.str e.1, .int e.2])) ps ws ∧ ws.map (·.1) = ys ∧ ∀ e ∈ ws, B e.2
  | [], [], _, _ => ⟨[], [], rfl, .nil, rfl, fun _ h => nomatch h⟩
  | [], _ :: _, h, _ => nomatch h
  | _ :: _, [], h, _ => nomatch h
  | v :: r, y :: ys, hl, h => by
    obtain ⟨q, k, rfl, hq, hk⟩ := h 0 v rfl
    obtain ⟨ps, ws, e1, e2, e3, e4⟩ := acc_pairs (acc := r) (ys := ys) (by simpa using hl) fun j z e => h (j + 1) z e
    refine ⟨q :: ps, (y, k) :: ws, by rw [e1]; rfl, .cons hq e2, by rw [List.map_cons, e3], fun e m => ?_⟩
    rcases List.mem_cons.mp m with rfl | m
    · exact hk
    · exact e4 e m
theorem valV_out {kvs : List (L2.Key × V)} {k : L2.Key} (h : k ∉ kvs.map (·.1)) : valV kvs k = none := by
  unfold valV
  rw [List.find?_eq_none.mpr]
  · rfl
  · intro p m q
    exact h (List.mem_map.mpr ⟨p, m, of_decide_eq_true q⟩)
theorem mergeK_new : ∀ (more kvs : List (L2.Key × V)), ((kvs ++ more).map (·.1)).Nodup → mergeK kvs more = kvs ++ more
  | [], kvs, _ => by rw [List.append_nil]; rfl
  | p :: r, kvs, h => by
    have out : p.1 ∉ kvs.map (·.1) := by
      rw [List.map_append, List.map_cons] at h
      exact fun m => (List.nodup_append.mp h).2.2 _ m _ List.mem_cons_self rfl
    show mergeK (putK kvs p.1 p.2) r = _
    rw [putK_new p.2 (valV_out out)]
    have e : kvs ++ [(p.1, p.2)] ++ r = kvs ++ p :: r := by simp
    rw [mergeK_new r _ (by rw [e]; exact h), e]
theorem keys_num (ns : List (Str × Int)) : (numKv ns).map (·.1) = (ns.map (·.1)).map (Sum.inr : Str → L2.Key) := by
  unfold numKv
  rw [List.map_map, List.map_map]; rfl
theorem merge_num {ns : List (Str × Int)} (h : (ns.map (·.1)).Nodup) : mergeK [] (numKv ns) = numKv ns := by
  have e := mergeK_new (numKv ns) [] (by
    rw [List.nil_append, keys_num, List.nodup_iff_pairwise_ne, List.pairwise_map]
    exact (List.nodup_iff_pairwise_ne.mp h).imp fun q z => q (by injection z))
  rw [List.nil_append] at e
  exact e
theorem put_num {ns : List (Str × Int)} {x : Str} {v : Int} (h : x ∈ ns.map (·.1)) : ∃ ns', putK (numKv ns) (.inr x) (.int v) = numKv ns' ∧ ns'.map (·.1) = ns.map (·.1) ∧ ∀ e ∈ ns', e ∈ ns ∨ e.2 = v := by
  refine ⟨ns.map fun p => if p.1 = x then (p.1, v) else p, ?_, ?_, ?_⟩
  · unfold putK
    rw [if_pos]
    · unfold numKv
      rw [List.map_map, List.map_map]
      apply List.map_congr_left
      intro p m
      by_cases q : p.1 = x
      · simp [q]
      · have : ¬ (Sum.inr p.1 : L2.Key) = Sum.inr x := fun z => q (by injection z)
        simp [q]
    · rw [List.any_eq_true]
      obtain ⟨p, m, rfl⟩ := List.mem_map.mp h
      exact ⟨(.inr p.1, .int p.2), List.mem_map.mpr ⟨p, m, rfl⟩, decide_eq_true rfl⟩
  · rw [List.map_map]
    apply List.map_congr_left
    intro p m
    show (if p.1 = x then (p.1, v) else p).1 = p.1
    split <;> rfl
  · intro e m
    obtain ⟨p, mp, rfl⟩ := List.mem_map.mp m
    by_cases q : p.1 = x
    · rw [if_pos q]; exact .inr rfl
    · rw [if_neg q]; exact .inl mp
theorem paired_sq {K : PySem.W.Frag} {H : Hp} : ∀ {ps : List Addr} {ws : List (Str × Int)}, Paired (fun q e => H q = some (.tup [.str e.1, .int e.2])) ps ws → Paired (fun p kv => SqT K H p [kV kv.1, kv.2]) ps (numKv ws)
  | _, _, .nil => .nil
  | _, _, .cons h r => .cons (SqT.at h) (paired_sq r)
/-! ### how far worths go -/
theorem total_le {f : Str → Int} {M : Nat} : ∀ {ws : List (Str × Int)}, (∀ e ∈ ws, e.2.natAbs ≤ 1000000 ∧ (f e.1).natAbs ≤ M) → (total f ws).natAbs ≤ ws.length * (1000000 * M)
  | [], _ => Nat.zero_le _
  | e :: r, h => by
    obtain ⟨h1, h2⟩ := h e List.mem_cons_self
    have ih := total_le (f := f) (ws := r) fun x m => h x (List.mem_cons_of_mem _ m)
    have e0 : total f (e :: r) = e.2 * f e.1 + total f r := by unfold total; rw [List.map_cons, List.sum_cons]
    rw [e0]
    have a := Int.natAbs_add_le (e.2 * f e.1) (total f r)
    have b : (e.2 * f e.1).natAbs ≤ 1000000 * M := by rw [Int.natAbs_mul]; exact Nat.mul_le_mul h1 h2
    rw [List.length_cons, Nat.succ_mul]
    omega
theorem dp_fl {K : PySem.W.Frag} {H : Hp} {v : V} (h : isFl v = true) : Dp K H v (fD v) := by
  cases v <;> first | cases h | skip
  · exact .non
  · exact .bl _
  · exact .int _
  · exact .str _
def Fits (f : Str → Int) (ns : List Str) : Prop := ∀ n ∈ ns, (f n).natAbs ≤ 2 ^ 80
theorem worth_fl (f : Str → Int) (w : Wt) : isFl (worthV f w) = true := by cases w <;> rfl
theorem worth_show {f : Str → Int} {w : Wt} (ok : WOk w.names w) (hf : Fits f w.names) : (fD (worthV f w)).showable = true := by
  have tot : ∀ ws : List (Str × Int), ws.length ≤ 26 → WtLe ws → Fits f (ws.map (·.1)) → SmallI (total f ws) := by
    intro ws hl hw hf
    have t := total_le (f := f) (M := 2 ^ 80) (ws := ws) fun e m => ⟨hw e m, hf _ (List.mem_map_of_mem m)⟩
    have : ws.length * (1000000 * 2 ^ 80) ≤ 26 * (1000000 * 2 ^ 80) := Nat.mul_le_mul_right _ hl
    exact Nat.lt_of_le_of_lt (Nat.le_trans t this) (by decide)
  have few := ok.few
  cases w with
  | sum ws l => exact showable_int (tot ws (by rwa [show (Wt.sum ws l).names = ws.map (·.1) from rfl, List.length_map] at few) ok.le hf)
  | over ws l => rfl
  | most ns l =>
    refine showable_int ?_
    show ((maxO (ns.map f)).getD 0).natAbs < 2 ^ 1000
    cases e : maxO (ns.map f) with
    | none => decide
    | some m =>
      obtain ⟨n, hn, rfl⟩ := List.mem_map.mp (maxO_in e).1
      exact Nat.lt_of_le_of_lt (hf n hn) (by decide)
  | count ns l =>
    refine showable_int ?_
    show (((ns.filter fun n => decide (l ≤ f n)).length : Nat) : Int).natAbs < 2 ^ 1000
    have := List.length_filter_le (fun n => decide (l ≤ f n)) ns
    have few : ns.length ≤ 26 := few
    exact Nat.lt_of_le_of_lt (m := 26) (by omega) (by decide)
theorem bnd_fl {v : V} (h : ∀ x, v ≠ .str x) : bnd (fD v) ≤ 2000 := by
  cases v <;> first | exact absurd rfl (h _) | exact Nat.le_of_ble_eq_true rfl
theorem worth_repr {K : PySem.W.Frag} {f : Str → Int} {w : Wt} {H : Hp} {Q : VK} (ok : WOk w.names w) (hf : Fits f w.names) (k : Q (.str (fD (worthV f w)).shown) H) : rRepr K [worthV f w] H Q := by
  refine w_repr (dp_fl (worth_fl f w)) (worth_show ok hf) ?_ ?_ ?_ k
  · cases w <;> rfl
  · cases w <;> exact Nat.zero_le _
  · exact Nat.le_trans (bnd_fl (by cases w <;> intro x h <;> cases h)) (by decide)
theorem w_pc {tk tv : TE} {r : List (TE × TE)} {σ : L2.St} {H : Hp} {Q : List (V × V) → Hp → Prop} (k : tk σ H fun x H1 => tv σ H1 fun y H2 => tPairs r σ H2 fun ps H3 => Q ((x, y) :: ps) H3) : tPairs ((tk, tv) :: r) σ H Q := k
theorem w_pn {σ : L2.St} {H : Hp} {Q : List (V × V) → Hp → Prop} (k : Q [] H) : tPairs [] σ H Q := k
theorem w_disp {trs : List (TE × TE)} {σ : L2.St} {H : Hp} {Q : VK} (k : ∀ p, H p = none → tPairs trs σ (upd H p (.dK [])) fun ps H2 => H2 p = some (.dK []) ∧ ∃ kvs : List (L2.Key × V), ps = kvs.map (fun kv => (kV kv.1, kv.2)) ∧ kvs.length ≤ 15 ∧ Q (.ref p) (upd H2 p (.dK (mergeK [] kvs)))) :
    tDisp trs σ H Q := k
end Sil
set_option Elab.async false
set_option linter.all false
set_option maxRecDepth 100000
set_option maxHeartbeats 1000000
/-! P13: t[::-1] of a tuple; a call of a local name that holds one of several defs; methods that change a list. -/
namespace Sil
open PySem L2 PySem.Spec PyProof.Rows
section
variable {prog : Program} {w : World} {A : Around} {E : Value → Shared → Prop} {s : Shared}
theorem adjust_rev (n : Nat) : Builtin.Slice.sliceAdjust none none (-1) (n : Int) = ((n : Int) - 1, -1) := by
  unfold Builtin.Slice.sliceAdjust
  rfl
theorem places_rev (n : Nat) : Builtin.Slice.slicePlaces ((n : Int) - 1) (-1) (-1) = n := by
  unfold Builtin.Slice.slicePlaces
  simp only [show ¬ ((-1 : Int) > 0) by decide, if_false]
  split
  · rw [show (- -1 : Int) = 1 by decide, Int.ediv_one]; omega
  · omega
theorem sliceApplied_rev {sl : Addr} {vs : Value} {n : Nat} {Q : Int × Int × Nat → Shared → Prop} (hs : s.heap.IsSliceOf sl .none .none vs) (ps : IsPart vs (some (-1))) (h : Q ((n : Int) - 1, -1, n) s) :
    wpAny (model prog w) A (Builtin.Slice.sliceApplied (.ref sl) (pure (n : Int))) Q E s := by
  obtain ⟨os, hos, hcs, hds⟩ := id hs
  unfold Builtin.Slice.sliceApplied Builtin.Slice.sliceFields
  refine wpAny_bind (wpAny_bind (wpAny_field hos hds (x := .none) rfl (wpAny_bind (wpAny_field hos hds (x := .none) rfl (wpAny_bind (wpAny_field hos hds (x := vs) rfl (wpAny_pure ?_)))))))
  refine wpAny_bind (HT.slicePart_ ps ?_)
  show wpAny _ _ (if ((-1 : Int) == 0) = true then _ else _) _ _ s
  rw [if_neg (by decide)]
  refine wpAny_bind (HT.slicePart_ .none (wpAny_bind (HT.slicePart_ .none (wpAny_bind (wpAny_pure ?_)))))
  show wpAny _ _ (match Builtin.Slice.sliceAdjust none none (-1) (n : Int) with | (lo, hi) => pure (lo, (-1 : Int), Builtin.Slice.slicePlaces lo hi (-1))) _ _ s
  rw [adjust_rev n]
  show wpAny _ _ (pure ((n : Int) - 1, (-1 : Int), Builtin.Slice.slicePlaces ((n : Int) - 1) (-1) (-1))) _ _ s
  rw [places_rev]
  exact wpAny_pure h
theorem fm_congr {α β : Type} {f g : α → Option β} : ∀ {l : List α}, (∀ x ∈ l, f x = g x) → l.filterMap f = l.filterMap g
  | [], _ => rfl
  | a :: r, h => by
    rw [List.filterMap_cons, List.filterMap_cons, h a List.mem_cons_self, fm_congr fun x m => h x (List.mem_cons_of_mem _ m)]
theorem pick_rev (xs : Array Value) : ((List.range xs.size).filterMap fun (m : Nat) => xs[((xs.size : Int) - 1 + (m : Int) * (-1)).toNat]?).toArray = xs.toList.reverse.toArray := by
  have e : ((List.range xs.size).filterMap fun (m : Nat) => xs[((xs.size : Int) - 1 + (m : Int) * (-1)).toNat]?) = ((List.range xs.size).map fun k => xs.size - 1 - k).filterMap (xs[·]?) := by
    rw [List.filterMap_map]
    apply fm_congr
    intro m hm
    have := List.mem_range.mp hm
    show xs[_]? = xs[xs.size - 1 - m]?
    rw [show ((xs.size : Int) - 1 + (m : Int) * (-1)).toNat = xs.size - 1 - m from by omega]
  rw [e, PySem.W.krv_range, List.filterMap_reverse, PySem.W.krv_all]
theorem getItem_tuple_rev {t sl : Addr} {items : Array Value} {vs : Value} {Q : Value → Shared → Prop} (ht : IsTup s.heap t items) (hs : s.heap.IsSliceOf sl .none .none vs) (ps : IsPart vs (some (-1)))
    (h : Q (.ref s.heap.objs.size) { s with heap := s.heap.push { cls := .type "tuple", data := .seq items.toList.reverse.toArray } }) (hsz : items.size ≤ sizeLine) : wpAny (model prog w) A (getItem (.ref t) (.ref sl)) Q E s := by
  have htake : sizeOk (.seq items.toList.reverse.toArray) := by
    show items.toList.reverse.toArray.size ≤ sizeLine
    rw [List.size_toArray, List.length_reverse, Array.length_toList]
    exact hsz
  obtain ⟨os, hos, hcs, hds⟩ := id hs
  have hTs : s.TypeIs (.ref sl) "slice" := ⟨os, hos, hcs⟩
  unfold getItem
  try with_reducible refine wpAny_holding ?_
  first | refine wpAny_bind (wpAny_pure ?_) | skip
  refine wpAny_bind (wpAny_sequenceKey ht.typeIs (by decide) ?_)
  refine wpAny_bind (wpAny_callSpecial?_slot (name := Str.ofString "__getitem__") ht.typeIs PyProof.Rows.slot_tuple_getitem
    (wpAny_call_entry PyProof.Rows.slot_tuple_getitem ht.typeIs entry_tuple_getitem ?_ (args_tuple_getitem _ _)))
  show wpAny _ _ (Builtin.Tuple.tupleItemsOf (.ref t) >>= _) _ _ s
  refine wpAny_bind (tupleItemsOf_ ht ?_)
  refine wpAny_bind (wpAny_typeOf hTs ?_)
  rw [if_pos (by decide)]
  refine wpAny_bind (sliceApplied_rev hs ps ?_)
  have hno : ¬ ((((items.size : Int) - 1) == 0 && (-1 : Int) == 1 && items.size == items.size) = true) := by
    rw [show ((-1 : Int) == 1) = false from rfl]; simp
  show wpAny _ _ (if (((items.size : Int) - 1) == 0 && (-1 : Int) == 1 && items.size == items.size) = true then _ else _) _ _ s
  rw [if_neg hno, pick_rev]
  first
    | exact wpAny_bind (m := Builtin.Tuple.tupleExact _) (wpAny_newObj_type (wpAny_pure ⟨_, rfl, wpAny_pure h⟩) htake)
    | exact wpAny_bind (m := Builtin.Tuple.tupleExact _) (wpAny_newObj_type (wpAny_bind (wpAny_pure (wpAny_pure ⟨_, rfl, wpAny_pure h⟩))) htake)
    | exact wpAny_bind (wpAny_bind (m := Builtin.Tuple.tupleExact _) (wpAny_newObj_type (wpAny_pure (wpAny_pure ⟨_, rfl, wpAny_pure h⟩)) htake))
    | exact wpAny_bind (wpAny_bind (m := Builtin.Tuple.tupleExact _) (wpAny_newObj_type (wpAny_pure ⟨_, rfl, wpAny_pure h⟩) htake))
end
def kRevT (K : PySem.W.Frag) (x : V) (H1 : Hp) (Q : VK) : Prop := ∃ a xs, x = .ref a ∧ SqT K H1 a xs ∧ ∀ p, H1 p = none → Q (.ref p) (upd H1 p (.tup xs.reverse))
def tRevT (K : PySem.W.Frag) (te : TE) : TE := fun σ H Q => te σ H fun x H1 => kRevT K x H1 Q
theorem pe_revT {X : Cx} (K : PySem.W.Frag) {e : Expr} {te : TE} {k : Nat} {p1 p2 p3 pos : Pos} (he : PE X e te) (hK : X.K = K := by rfl) : PE X (.Subscript e (.Slice none none (some (.UnaryOp .USub (.Constant (.int 1) k p1) p2)) p3) pos) (tRevT K te) := by
  subst hK
  refine ⟨fun pins s σ H Q I h => ?_⟩
  refine Subscript_ (thn (he.run pins s σ H _ I h) fun v s1 ⟨x, H1, I1, r1, q1⟩ => ?_)
  obtain ⟨a, xs, ex, hx, q⟩ := q1
  subst ex
  cases r1
  have hst : PO X (some (.UnaryOp .USub (.Constant (.int 1) k p1) p2)) (tPart (tUn (rU fun i => .int (-i)) (tC (.int 1)))) := po_some (pe_un un_neg pe_int)
  refine wpAny_Slice ?_
  rw [evalPart_none]
  refine wpAny_pure (wpAny_pure ?_)
  refine thn (hst.run pins s1 σ H1 (fun o H4 => o = some (-1) ∧ H4 = H1) I1 ⟨1, rfl, -1, rfl, rfl, rfl⟩) fun vs s4 ⟨o, H4, I4, ps, eo, e4⟩ => ?_
  subst eo e4
  have I5 : Inv X pins σ H4 { s4 with heap := s4.heap.push { cls := .type "slice", data := .fields #[.none, .none, vs] } } := I4.kept (t' := s4.toks) fun b ob q => Heap.get?_push_of_some _ q
  obtain ⟨its, r, ht, hz⟩ := I5.tuple hx
  have hlen := r.length
  show wpAny (model X.prog X.w) X.A (subscriptTail e (.Slice none none (some (.UnaryOp .USub (.Constant (.int 1) k p1) p2)) p3) (.ref a) (.ref s4.heap.objs.size)) (EP X pins σ Q) X.xe { s4 with heap := s4.heap.push { cls := .type "slice", data := .fields #[.none, .none, vs] } }
  refine tail_any (ops := [.ref a, .ref s4.heap.objs.size]) ht.typeIs PyProof.Rows.slot_tuple_getitem.lookup ?_ (by with_unfolding_all rfl)
  refine getItem_tuple_rev ht (Heap.IsSliceOf.new _ .none .none vs) ps ?_ (by rw [List.size_toArray]; omega)
  refine ⟨.ref _, _, I5.laid (t' := s4.toks) (o := .tup xs.reverse) (fun b ob q => Heap.get?_push_of_some _ q) (Nat.le_refl _) ?_, rfl, q _ (I5.hok.fresh (Nat.le_refl _))⟩
  exact ⟨by rw [List.length_reverse]; exact hz, _, r.reverse, IsTup.new _ _⟩
theorem w_revT {K : PySem.W.Frag} {te : TE} {σ : L2.St} {H : Hp} {Q : VK} (k : te σ H fun x H1 => kRevT K x H1 Q) : tRevT K te σ H Q := k
theorem k_revT {K : PySem.W.Frag} {H : Hp} {Q : VK} {a : Addr} {xs : List V} (h : SqT K H a xs) (k : ∀ p H', H p = none → Same H H' → H' p = some (.tup xs.reverse) → Q (.ref p) H') : kRevT K (.ref a) H Q :=
  ⟨a, xs, rfl, h, fun p np => k p _ np (same_new np) upd_same⟩
/-! ### a local name that holds one of several defs -/
def tCallR (i : Nat) (R : Addr → Sp → Prop) (t : TA) : TE := fun σ H Q => ∃ f sp, σ[i]? = some (some (.ref f)) ∧ R f sp ∧ t σ H fun vs H1 => sp vs H1 Q (fun _ _ _ => False)
theorem pe_callR {X : Cx} {k i : Nat} {x : Str} {p pos : Pos} {e : Expr} {es : List Expr} {t : TA} {R : Addr → Sp → Prop} (A : ∀ f sp, R f sp → Held X.prog X.w X.K X.mg X.base k f sp) (hr : Room k X.A) (hN : X.N[i]? = some x) (hv : Vis X.env.scope x) (ha : PA X (e :: es) t)
    (hdb : (x == ("__debug__" : Str)) = false := by decide) (hcd : (x == ("__classdict__" : Str)) = false := by decide)
    (he : starEach (e :: es) X.env = (false, eval e X.env) :: starEach es X.env := by rfl) (hpl : (backTo pos (starEach es X.env)).any (·.1) = false := by rfl) : PE X (.Call (.Name x p) (e :: es) [] pos) (tCallR i R t) := by
  refine ⟨fun pins s σ H Q I h => ?_⟩
  obtain ⟨f, sp, hs, hS, ht⟩ := h
  have z := pe_callA (X := X) (k := k) (i := i) (x := x) (p := p) (pos := pos) (e := e) (es := es) (t := t) (S := fun g => if g = f then some sp else none) (fun g sp' h' => by
    by_cases q : g = f
    · rw [if_pos q] at h'
      injection h' with h'
      subst h' q
      exact A _ _ hS
    · rw [if_neg q] at h'; cases h') hr hN hv ha hdb hcd he hpl
  exact z.run pins s σ H Q I ⟨f, sp, hs, if_pos rfl, ht⟩
end Sil
set_option Elab.async false
set_option linter.all false
set_option maxRecDepth 100000
set_option maxHeartbeats 1000000
/-! P14: what watches tell by bands. -/
namespace Sil
open PySem L2 PySem.Spec PyProof.Rows
abbrev EF := Str → Option Int × Option Int
def wE (w : Int) : Option Int → Option Int
  | none => none
  | some i => some (w * i)
def lowE (f : EF) (e : Str × Int) : Option Int := if 0 < e.2 then wE e.2 (f e.1).1 else wE e.2 (f e.1).2
def highE (f : EF) (e : Str × Int) : Option Int := if 0 < e.2 then wE e.2 (f e.1).2 else wE e.2 (f e.1).1
/-- the sum, none where an end is wanting -/
def addE (l : List (Option Int)) : Option Int := if l.all (·.isSome) = true then some (pres l).sum else none
inductive Told where
  | pair (lo hi : Option Int)
  | tri (o : Option Bool)
  deriving DecidableEq
def triE (lo hi : Option Int) (l : Int) : Option Bool :=
  match lo, hi with
  | some i, some j => if l ≤ i then some true else if j < l then some false else none
  | some i, none => if l ≤ i then some true else none
  | none, some j => if j < l then some false else none
  | none, none => none
def geE (l : Int) : Option Int → Bool
  | none => false
  | some i => decide (l ≤ i)
def geU (l : Int) : Option Int → Bool
  | none => true
  | some i => decide (l ≤ i)
def told (f : EF) : Wt → Told
  | .sum ws _ => .pair (addE (ws.map (lowE f))) (addE (ws.map (highE f)))
  | .over ws l => .tri (triE (addE (ws.map (lowE f))) (addE (ws.map (highE f))) l)
  | .most ns _ => .pair (maxO (pres (ns.map fun n => (f n).1))) (if (ns.map fun n => (f n).2).all (·.isSome) = true then maxO (pres (ns.map fun n => (f n).2)) else none)
  | .count ns l => .pair (some ((ns.filter fun n => geE l (f n).1).length : Nat)) (some ((ns.filter fun n => geU l (f n).2).length : Nat))
def Wt.lim : Wt → Int
  | .sum _ l => l
  | .over _ l => l
  | .most _ l => l
  | .count _ l => l
def within (lo hi : Option Int) (l : Int) : Bool :=
  match lo, hi with
  | some i, some j => decide (j - i ≤ l)
  | _, _ => false
def kept (f : EF) (w : Wt) : Bool :=
  match w, told f w with
  | .over _ _, .tri o => o.isSome
  | .count _ _, .pair lo hi => decide (lo = hi)
  | _, .pair lo hi => within lo hi w.lim
  | _, .tri _ => false
/-- what is told, as a value -/
def ToldV (H : Hp) (v : V) : Told → Prop
  | .pair lo hi => ∃ p, v = .ref p ∧ H p = some (.tup [eV lo, eV hi])
  | .tri o => v = match o with | none => .non | some b => .bl b
/-- bands by names -/
def BandsAt (C : Addr) (H : Hp) (d : Addr) (f : EF) (xs : List Str) : Prop := ∃ kvs : List (L2.Key × V), H d = some (.dK kvs) ∧ ∀ x ∈ xs, ∃ p, valV kvs (.inr x) = some (.ref p) ∧ BandAt C H p (f x).1 (f x).2
/-- pairs of ends by names -/
def PlacesAt (H : Hp) (d : Addr) (f : EF) (xs : List Str) : Prop := ∃ kvs : List (L2.Key × V), H d = some (.dK kvs) ∧ ∀ x ∈ xs, ∃ p, valV kvs (.inr x) = some (.ref p) ∧ H p = some (.tup [eV (f x).1, eV (f x).2])
theorem BandsAt.same {C d : Addr} {H H' : Hp} {f : EF} {xs : List Str} (s : Same H H') : BandsAt C H d f xs → BandsAt C H' d f xs := fun ⟨kvs, h, k⟩ => ⟨kvs, s _ _ h, fun x m => let ⟨p, e, b⟩ := k x m; ⟨p, e, b.mono s⟩⟩
theorem PlacesAt.same {d : Addr} {H H' : Hp} {f : EF} {xs : List Str} (s : Same H H') : PlacesAt H d f xs → PlacesAt H' d f xs := fun ⟨kvs, h, k⟩ => ⟨kvs, s _ _ h, fun x m => let ⟨p, e, b⟩ := k x m; ⟨p, e, s _ _ b⟩⟩
theorem BandsAt.sub {C d : Addr} {H : Hp} {f : EF} {xs ys : List Str} (s : ∀ y ∈ ys, y ∈ xs) : BandsAt C H d f xs → BandsAt C H d f ys := fun ⟨kvs, h, k⟩ => ⟨kvs, h, fun x m => k x (s x m)⟩
theorem PlacesAt.sub {d : Addr} {H : Hp} {f : EF} {xs ys : List Str} (s : ∀ y ∈ ys, y ∈ xs) : PlacesAt H d f xs → PlacesAt H d f ys := fun ⟨kvs, h, k⟩ => ⟨kvs, h, fun x m => k x (s x m)⟩
theorem BandsAt.step {b C d : Addr} {H H' : Hp} {f : EF} {xs : List Str} (hb : Bag H b) (s : Step b H H') : BandsAt C H d f xs → BandsAt C H' d f xs := fun ⟨kvs, h, k⟩ => ⟨kvs, s.dk hb h, fun x m => let ⟨p, e, dx, q⟩ := k x m; ⟨p, e, dx, s.ins hb q⟩⟩
theorem PlacesAt.step {b d : Addr} {H H' : Hp} {f : EF} {xs : List Str} (hb : Bag H b) (s : Step b H H') : PlacesAt H d f xs → PlacesAt H' d f xs := fun ⟨kvs, h, k⟩ => ⟨kvs, s.dk hb h, fun x m => let ⟨p, e, q⟩ := k x m; ⟨p, e, s.tup hb q⟩⟩
/-! ### None in ends -/
theorem flat_ends (l : List (Option Int)) : (l.map eV).all flatV = true := by
  rw [List.all_map]
  exact List.all_eq_true.mpr fun e _ => by cases e <;> rfl
theorem none_in : ∀ l : List (Option Int), inV .non (l.map eV) = !l.all (·.isSome)
  | [] => rfl
  | none :: r => rfl
  | some i :: r => by
    show (eqV (.int i) .non || inV .non (r.map eV)) = !((true && r.all (·.isSome)))
    rw [none_in r]; rfl
theorem ends_ints : ∀ {l : List (Option Int)}, l.all (·.isSome) = true → l.map eV = (pres l).map V.int
  | [], _ => rfl
  | none :: r, h => nomatch h
  | some i :: r, h => by
    rw [List.all_cons, Bool.and_eq_true] at h
    show V.int i :: r.map eV = V.int i :: (pres r).map V.int
    rw [ends_ints h.2]
theorem pres_len : ∀ {l : List (Option Int)}, l.all (·.isSome) = true → (pres l).length = l.length
  | [], _ => rfl
  | none :: r, h => nomatch h
  | some i :: r, h => by
    rw [List.all_cons, Bool.and_eq_true] at h
    show (pres r).length + 1 = r.length + 1
    rw [pres_len h.2]
def spAdded (K : PySem.W.Frag) : Sp := fun vs H Q _ => ∃ (l : Addr) (os : List (Option Int)), vs = [.ref l] ∧ SqL K H l (os.map eV) ∧ Q (eV (addE os)) H
theorem use_added {K : PySem.W.Frag} {l : Addr} {os : List (Option Int)} {H : Hp} {Q : VK} {E : XK} (h : SqL K H l (os.map eV)) (k : Q (eV (addE os)) H) : spAdded K ([.ref l] ++ []) H Q E := ⟨l, os, rfl, h, k⟩
def spWeighed : Sp := fun vs H Q _ => ∃ (w : Int) (e : Option Int), vs = [.int w, eV e] ∧ w.natAbs ≤ 1000000 ∧ Q (eV (wE w e)) H
theorem use_weighed {w : Int} {e : Option Int} {H : Hp} {Q : VK} {E : XK} (h : w.natAbs ≤ 1000000) (k : Q (eV (wE w e)) H) : spWeighed ([.int w, eV e] ++ []) H Q E := ⟨w, e, rfl, h, k⟩
def spSumEnds (C : Addr) : Sp := fun vs H Q _ => ∃ (t d : Addr) (ws : List (Str × Int)) (f : EF), vs = [.ref t, .ref d] ∧ PairsAt H t ws ∧ BandsAt C H d f (ws.map (·.1)) ∧ WtLe ws ∧ ws.length ≤ 26 ∧
  ∀ p H', Same H H' → H' p = some (.tup [eV (addE (ws.map (lowE f))), eV (addE (ws.map (highE f)))]) → Q (.ref p) H'
theorem use_sum_ends {C t d : Addr} {ws : List (Str × Int)} {f : EF} {H : Hp} {Q : VK} {E : XK} (h1 : PairsAt H t ws) (h2 : BandsAt C H d f (ws.map (·.1))) (h3 : WtLe ws) (h4 : ws.length ≤ 26)
    (k : ∀ p H', Same H H' → H' p = some (.tup [eV (addE (ws.map (lowE f))), eV (addE (ws.map (highE f)))]) → Q (.ref p) H') : spSumEnds C ([.ref t, .ref d] ++ []) H Q E := ⟨t, d, ws, f, rfl, h1, h2, h3, h4, k⟩
/-- what a teller is handed -/
def SomeAt (H : Hp) (t : Addr) : Wt → Prop
  | .sum ws _ => PairsAt H t ws
  | .over ws _ => PairsAt H t ws
  | .most ns _ => H t = some (.tup (ns.map V.str))
  | .count ns _ => H t = some (.tup (ns.map V.str))
def Wt.kind : Wt → Nat
  | .sum _ _ => 0
  | .over _ _ => 1
  | .most _ _ => 2
  | .count _ _ => 3
def spTell (C : Addr) (n : Nat) : Sp := fun vs H Q _ => ∃ (t d : Addr) (w : Wt) (f : EF), vs = [.ref t, .int w.lim, .ref d] ∧ w.kind = n ∧ SomeAt H t w ∧ WOk w.names w ∧ BandsAt C H d f w.names ∧
  ∀ v H', Same H H' → ToldV H' v (told f w) → Q v H'
def spTold (C : Addr) : Sp := fun vs H Q _ => ∃ (p d : Addr) (w : Wt) (f : EF), vs = [.ref p, .ref d] ∧ WatchAt H p w ∧ WOk w.names w ∧ BandsAt C H d f w.names ∧
  ∀ v H', Same H H' → ToldV H' v (told f w) → Q v H'
theorem use_told {C p d : Addr} {w : Wt} {f : EF} {H : Hp} {Q : VK} {E : XK} (h1 : WatchAt H p w) (h2 : WOk w.names w) (h3 : BandsAt C H d f w.names) (k : ∀ v H', Same H H' → ToldV H' v (told f w) → Q v H') :
    spTold C ([.ref p, .ref d] ++ []) H Q E := ⟨p, d, w, f, rfl, h1, h2, h3, k⟩
def spKept (C : Addr) : Sp := fun vs H Q _ => ∃ (p d : Addr) (w : Wt) (f : EF), vs = [.ref p, .ref d] ∧ WatchAt H p w ∧ WOk w.names w ∧ BandsAt C H d f w.names ∧ ∀ H', Same H H' → Q (.bl (kept f w)) H'
theorem use_kept {C p d : Addr} {w : Wt} {f : EF} {H : Hp} {Q : VK} {E : XK} (h1 : WatchAt H p w) (h2 : WOk w.names w) (h3 : BandsAt C H d f w.names) (k : ∀ H', Same H H' → Q (.bl (kept f w)) H') :
    spKept C ([.ref p, .ref d] ++ []) H Q E := ⟨p, d, w, f, rfl, h1, h2, h3, k⟩
theorem WOk.few_sum {xs : List Str} {ws : List (Str × Int)} {l : Int} (h : WOk xs (.sum ws l)) : ws.length ≤ 26 := by have := h.few; rwa [show (Wt.sum ws l).names = ws.map (·.1) from rfl, List.length_map] at this
theorem WOk.few_over {xs : List Str} {ws : List (Str × Int)} {l : Int} (h : WOk xs (.over ws l)) : ws.length ≤ 26 := by have := h.few; rwa [show (Wt.over ws l).names = ws.map (·.1) from rfl, List.length_map] at this
theorem k_bmL {K : PySem.W.Frag} {H : Hp} {p : Addr} {xs : List V} {R : Prop} (h : SqL K H p xs) (k : R) : kBM K "list" (.ref p) H R := ⟨.inl ⟨rfl, xs, h⟩, k⟩
theorem w_append {H : Hp} {l : Addr} {xs : List V} {y : V} {Q : VK} (h : H l = some (.lst xs)) (hl : xs.length < 1000) (k : Q .non (upd H l (.lst (xs ++ [y])))) : rAppend (.ref l) [y] H Q :=
  ⟨l, xs, y, rfl, rfl, h, Nat.lt_trans hl (by decide), k⟩
theorem take_map {α β : Type} (g : α → β) (ws : List α) (i : Nat) {e : α} (h : ws[i]? = some e) : (ws.take (i + 1)).map g = (ws.take i).map g ++ [g e] := by
  rw [take_snoc h, List.map_append]; rfl
theorem all_ends (g : Str → Option Int) (ns : List Str) : madeI (fun _ => true) (fun i => eV (g (ns.getD i Str.empty))) ns.length = (ns.map g).map eV := by
  rw [madeI_all]
  have e := congrArg (fun l => (l.map g).map eV) (range_at Str.empty ns)
  rw [List.map_map, List.map_map] at e
  exact e
theorem madeI_filter (f : Nat → Bool) (v : Nat → V) : ∀ n, madeI f v n = ((List.range n).filter f).map v
  | 0 => rfl
  | n + 1 => by
    show (if f n = true then madeI f v n ++ [v n] else madeI f v n) = _
    rw [List.range_succ, List.filter_append, List.map_append, madeI_filter f v n]
    by_cases h : f n = true
    · rw [if_pos h]; simp [h]
    · rw [if_neg h]; simp [h]
theorem filter_list {α : Type} (d : α) (p : α → Bool) (g : α → V) (xs : List α) : madeI (fun i => p (xs.getD i d)) (fun i => g (xs.getD i d)) xs.length = (xs.filter p).map g := by
  rw [madeI_filter]
  have e := congrArg (fun l => (l.filter p).map g) (range_at d xs)
  rw [List.filter_map, List.map_map] at e
  exact e
theorem pres_filter (g : Str → Option Int) : ∀ ns : List Str, (ns.filter fun n => (g n).isSome).map (fun n => eV (g n)) = (pres (ns.map g)).map V.int
  | [] => rfl
  | n :: r => by
    have ih := pres_filter g r
    cases e : g n with
    | none =>
      rw [List.filter_cons_of_neg (by rw [e]; decide), ih, List.map_cons, e]; rfl
    | some i =>
      rw [List.filter_cons_of_pos (by rw [e]; rfl), List.map_cons, ih, List.map_cons, e]; rfl
theorem made_ends (g : Str → Option Int) (ns : List Str) : madeI (fun i => (g (ns.getD i Str.empty)).isSome) (fun i => eV (g (ns.getD i Str.empty))) ns.length = (pres (ns.map g)).map V.int := by
  rw [← pres_filter g ns]
  exact filter_list Str.empty (fun n => (g n).isSome) (fun n => eV (g n)) ns
theorem k_ixD {X : Cx} (K : PySem.W.Frag) (w : World) (h : X.K = K := by rfl) (hw : X.w = w := by rfl) : IxR X (rIxD K w) := by subst h hw; exact ix_kdict
end Sil
set_option Elab.async false
set_option linter.all false
set_option maxRecDepth 100000
set_option maxHeartbeats 1000000
/-! P15: a list taken apart; dicts made of drawn pairs of any values. -/
namespace Sil
open PySem L2 PySem.Spec PyProof.Rows
theorem w_unl {K : PySem.W.Frag} {n : Nat} {t : TGs} {p : Addr} {xs : List V} {σ : L2.St} {H : Hp} {Q : L2.St → Hp → Prop} (h : SqL K H p xs) (hl : xs.length = n) (k : t xs σ H Q) : gUnl K n t (.ref p) σ H Q :=
  ⟨p, xs, rfl, h, hl, k⟩
/-- an end that is tiny -/
def Tiny (e : Option Int) : Prop := ∀ i, e = some i → i.natAbs < 1000
theorem Tiny.small {e : Option Int} (h : Tiny e) : Small e := fun i q => Nat.lt_trans (h i q) (by decide)
def spDEnds : Sp := fun vs H Q _ => ∃ b, vs = [.ref b] ∧ Bag H b ∧
  ∀ p lo hi H', Tiny lo → Tiny hi → atMost lo hi = true → H p = none → Step b H H' → H' p = some (.tup [eV lo, eV hi]) → Q (.ref p) H'
theorem use_dends {b : Addr} {H : Hp} {Q : VK} {E : XK} (hb : Bag H b) (k : ∀ p lo hi H', Tiny lo → Tiny hi → atMost lo hi = true → H p = none → Step b H H' → H' p = some (.tup [eV lo, eV hi]) → Q (.ref p) H') :
    spDEnds ([.ref b] ++ []) H Q E := ⟨b, rfl, hb, k⟩
/-! ### dicts made of drawn pairs of any values -/
def genKv (ws : List (Str × V)) : List (L2.Key × V) := ws.map fun p => (.inr p.1, p.2)
theorem acc_pairsG {B : Str → V → Prop} {H : Hp} : ∀ {acc : List V} {ys : List Str}, acc.length = ys.length → (∀ (j : Nat) (y : V), acc[j]? = some y → ∃ q v, y = V.ref q ∧ H q = some (.tup [.str (ys.getD j Str.empty), v]) ∧ B (ys.getD j Str.empty) v) →
    ∃ (ps : List Addr) (ws : List (Str × V)), acc = ps.map V.ref ∧ Paired (fun q e => H q = some (.tup [.str e.1, e.2])) ps ws ∧ ws.map (·.1) = ys ∧ ∀ e ∈ ws, B e.1 e.2
  | [], [], _, _ => ⟨[], [], rfl, .nil, rfl, fun _ h => nomatch h⟩
  | [], _ :: _, h, _ => nomatch h
  | _ :: _, [], h, _ => nomatch h
  | v :: r, y :: ys, hl, h => by
    obtain ⟨q, k, rfl, hq, hk⟩ := h 0 v rfl
    obtain ⟨ps, ws, e1, e2, e3, e4⟩ := acc_pairsG (acc := r) (ys := ys) (by simpa using hl) fun j z e => h (j + 1) z e
    refine ⟨q :: ps, (y, k) :: ws, by rw [e1]; rfl, .cons hq e2, by rw [List.map_cons, e3], fun e m => ?_⟩
    rcases List.mem_cons.mp m with rfl | m
    · exact hk
    · exact e4 e m
theorem keys_gen (ws : List (Str × V)) : (genKv ws).map (·.1) = (ws.map (·.1)).map (Sum.inr : Str → L2.Key) := by
  unfold genKv
  rw [List.map_map, List.map_map]; rfl
theorem merge_gen {ws : List (Str × V)} (h : (ws.map (·.1)).Nodup) : mergeK [] (genKv ws) = genKv ws := by
  have e := mergeK_new (genKv ws) [] (by
    rw [List.nil_append, keys_gen, List.nodup_iff_pairwise_ne, List.pairwise_map]
    exact (List.nodup_iff_pairwise_ne.mp h).imp fun q z => q (by injection z))
  rw [List.nil_append] at e
  exact e
theorem paired_sqG {K : PySem.W.Frag} {H : Hp} : ∀ {ps : List Addr} {ws : List (Str × V)}, Paired (fun q e => H q = some (.tup [.str e.1, e.2])) ps ws → Paired (fun p kv => SqT K H p [kV kv.1, kv.2]) ps (genKv ws)
  | _, _, .nil => .nil
  | _, _, .cons h r => .cons (SqT.at h) (paired_sqG r)
theorem gen_val {x : Str} : ∀ {ws : List (Str × V)}, x ∈ ws.map (·.1) → ∃ v, valV (genKv ws) (.inr x) = some v ∧ (x, v) ∈ ws
  | [], h => nomatch h
  | p :: r, h => by
    by_cases q : p.1 = x
    · subst q
      exact ⟨p.2, valV_pos (p := ((.inr p.1 : L2.Key), p.2)) rfl, List.mem_cons_self⟩
    · obtain ⟨i, h1, h2⟩ := gen_val (ws := r) (by
        rcases List.mem_cons.mp h with e | e
        · exact absurd e.symm q
        · exact e)
      refine ⟨i, ?_, List.mem_cons_of_mem _ h2⟩
      rw [← h1]
      exact valV_neg (p := ((.inr p.1 : L2.Key), p.2)) (by intro z; exact q (by injection z))
/-- a pair of a name and what B says -/
def PairElG (ys : List Str) (B : Str → V → Hp → Prop) (i : Nat) (y : V) (G : Hp) : Prop := ∃ q v, y = V.ref q ∧ G q = some (.tup [.str (ys.getD i Str.empty), v]) ∧ B (ys.getD i Str.empty) v G
theorem pairElG_ok {b : Addr} {ys : List Str} {B : Str → V → Hp → Prop} (h1 : ∀ x v G G', Bag G b → Step b G G' → B x v G → B x v G') (h2 : ∀ x v G D acc, G D = some (.lst acc) → B x v G → B x v (off [D] G)) : ElOk b (PairElG ys B) :=
  ⟨fun i y G G' hb s ⟨q, k, e, h, hk⟩ => ⟨q, k, e, s.tup hb h, h1 _ _ _ _ hb s hk⟩, fun i y G D acc hD ⟨q, k, e, h, hk⟩ => ⟨q, k, e, off_tup hD h, h2 _ _ _ _ _ hD hk⟩⟩
/-- a value is a pair of ends -/
def EndsV (x : Str) (v : V) (G : Hp) : Prop := ∃ q lo hi, v = .ref q ∧ G q = some (.tup [eV lo, eV hi]) ∧ Small lo ∧ Small hi ∧ atMost lo hi = true
theorem endsV_ok (b : Addr) (ys : List Str) : ElOk b (PairElG ys EndsV) := pairElG_ok (fun x v G G' hb s ⟨q, lo, hi, e, h, r⟩ => ⟨q, lo, hi, e, s.tup hb h, r⟩) fun x v G D acc hD ⟨q, lo, hi, e, h, r⟩ => ⟨q, lo, hi, e, off_tup hD h, r⟩
/-- a value is the band of a name -/
def BandV (C : Addr) (f : EF) (x : Str) (v : V) (G : Hp) : Prop := ∃ q, v = .ref q ∧ BandAt C G q (f x).1 (f x).2
theorem bandV_ok (b : Addr) (ys : List Str) (C : Addr) (f : EF) : ElOk b (PairElG ys (BandV C f)) :=
  pairElG_ok (fun x v G G' hb s ⟨q, e, dx, h⟩ => ⟨q, e, dx, s.ins hb h⟩) fun x v G D acc hD ⟨q, e, dx, h⟩ => ⟨q, e, dx, off_ins hD h⟩
theorem places_of {H : Hp} {d : Addr} {ws : List (Str × V)} (hd : H d = some (.dK (genKv ws))) (h : ∀ e ∈ ws, EndsV e.1 e.2 H) :
    ∃ f : EF, PlacesAt H d f (ws.map (·.1)) ∧ ∀ x ∈ ws.map (·.1), Small (f x).1 ∧ Small (f x).2 ∧ atMost (f x).1 (f x).2 = true := by
  have hx : ∀ x : Str, ∃ e : Option Int × Option Int, x ∈ ws.map (·.1) → (∃ p, valV (genKv ws) (.inr x) = some (.ref p) ∧ H p = some (.tup [eV e.1, eV e.2])) ∧ Small e.1 ∧ Small e.2 ∧ atMost e.1 e.2 = true := fun x => by
    by_cases m : x ∈ ws.map (·.1)
    · obtain ⟨v, h1, h2⟩ := gen_val m
      obtain ⟨q, lo, hi, e, h3, h4, h5, h6⟩ := h _ h2
      dsimp only at e
      subst e
      exact ⟨(lo, hi), fun _ => ⟨⟨q, h1, h3⟩, h4, h5, h6⟩⟩
    · exact ⟨(none, none), fun m' => absurd m' m⟩
  obtain ⟨f, hf⟩ := Classical.axiomOfChoice hx
  exact ⟨f, ⟨_, hd, fun x m => (hf x m).1⟩, fun x m => (hf x m).2⟩
theorem bands_of {C : Addr} {H : Hp} {d : Addr} {ws : List (Str × V)} {f : EF} (hd : H d = some (.dK (genKv ws))) (h : ∀ e ∈ ws, BandV C f e.1 e.2 H) : BandsAt C H d f (ws.map (·.1)) := by
  refine ⟨_, hd, fun x m => ?_⟩
  obtain ⟨v, h1, h2⟩ := gen_val m
  obtain ⟨q, e, h3⟩ := h _ h2
  dsimp only at e
  subst e
  exact ⟨q, h1, h3⟩
end Sil
set_option Elab.async false
set_option linter.all false
set_option maxRecDepth 100000
set_option maxHeartbeats 1000000
/-! P16: the text of a dict whose values are written by an own __repr__. -/
namespace Sil
open PySem L2 PySem.Spec PyProof.Rows
/-! ### heaps with locked lists and dicts -/
def isBox : HO → Bool
  | .lst _ => true
  | .dK _ => true
  | _ => false
def Lk (H H' : Hp) : Prop := ∀ b o, H b = some o → H' b = some o ∨ (isBox o = true ∧ ∃ od, H' b = some (.frz od o))
theorem Lk.refl (H : Hp) : Lk H H := fun b o h => .inl h
theorem Lk.ins {H H' : Hp} (k : Lk H H') {a C dx : Addr} {fs : List (Str × V)} (h : H a = some (.ins C dx fs)) : H' a = some (.ins C dx fs) := by
  rcases k a _ h with q | ⟨q, _⟩
  · exact q
  · cases q
theorem Lk.tup {H H' : Hp} (k : Lk H H') {a : Addr} {xs : List V} (h : H a = some (.tup xs)) : H' a = some (.tup xs) := by
  rcases k a _ h with q | ⟨q, _⟩
  · exact q
  · cases q
theorem Lk.band {H H' : Hp} (k : Lk H H') {C p : Addr} {lo hi : Option Int} : BandAt C H p lo hi → BandAt C H' p lo hi := fun ⟨dx, h⟩ => ⟨dx, k.ins h⟩
/-- the text of a value, wherever it is asked under X -/
def Shows (X : Cx) (n : Nat) (as : List Addr) (H : Hp) (v : V) (t : Str) : Prop :=
  ∀ (base : Nat) (A : Around) (g : List Code) (pins : List (Addr × Obj)) (σ : L2.St) (H' : Hp) (s : Shared) (u : Value) (Q : Str → Shared → Prop),
    base + t.length ≤ sizeLine → A.frames = X.A.frames → A.guards = some g → (∀ b ∈ as, Clear g b) → Room n A → Lk H H' → Inv X pins σ H' s → RelV v u →
    (∀ s', Inv X pins σ H' s' → Q t s') → wpAny (model X.prog X.w) A (pyReprUnder base u) Q X.xe s
section
variable {X : Cx}
theorem Shows.more {n m : Nat} {as bs : List Addr} {H : Hp} {v : V} {t : Str} (h : Shows X n as H v t) (hs : ∀ b ∈ as, b ∈ bs) (hn : n ≤ m) : Shows X m bs H v t :=
  fun base A g pins σ H' s u Q h1 h2 h3 h4 h5 => h base A g pins σ H' s u Q h1 h2 h3 (fun b m => h4 b (hs b m)) (h5.mono hn)
theorem shows_str {H : Hp} {x : Str} (hz : (reprText x).length ≤ sizeLine) : Shows X 0 [] H (.str x) (reprText x) := by
  intro base A g pins σ H' s u Q h1 _ _ _ _ _ I ru q
  obtain ⟨t, rfl⟩ := ru
  exact ReprIs.str x t hz base h1 A X.xe s Q fun tk => q _ (I.kept (t' := tk) fun _ _ e => e)
theorem shows_int {H : Hp} {i : Int} (hz : i.natAbs.log2 < 1920) : Shows X 0 [] H (.int i) (toString i) := by
  intro base A g pins σ H' s u Q h1 _ _ _ _ _ I ru q
  obtain ⟨t, rfl⟩ := ru
  exact ReprIs.int t hz base h1 A X.xe s Q fun tk => q _ (I.kept (t' := tk) fun _ _ e => e)
/-- an instance by its own __repr__ -/
theorem shows_own {CX : CXT} {k : Nat} {C f a dx : Addr} {fs : List (Str × V)} {fd : FuncData} {ps : List Str} {sp : Sp} {E : XK} {H : Hp} {t : Str}
    (F : FnOk X.prog X.w X.K X.mg X.base CX k f fd ps sp) (hs : PySem.W.findIn X.K (.ref C) "__repr__" = some (some (.ref f)))
    (hf : PySem.W.isFn X.K (.ref f) = true) (hb : Binds X.K fd ps []) (hx : Passes CX X E) (ha : H a = some (.ins C dx fs))
    (hp : ∀ H', Lk H H' → ∀ Q : VK, Q (.str t) H' → sp [.ref a] H' Q E) : Shows X k [] H (.ref a) t := by
  intro base A g pins σ H' s u Q h1 hA _ _ hr lk I ru q
  cases ru
  have ha' := lk.ins ha
  obtain ⟨mA, J, _⟩ := ins_get I.hok ha'
  obtain ⟨od, J, _⟩ := J.look
  refine wpAny_pyReprUnder_ref (by omega) ?_
  unfold pyReprObjUnder pyReprObjBy
  refine wpAny_bind (wpAny_cRoomFor hr.units0 ?_)
  refine wpAny_bind (m := specialOf (.ref a) (Str.ofString "__repr__")) (wpAny_bind (J.type.here ((PySem.W.looks_findIn I.kIn hs).here ?_)))
  show wpAny _ _ (if (some (Value.ref f)).isNone = true then _ else _) _ _ _
  rw [if_neg (by simp)]
  have run : wpAny (model X.prog X.w) A (call (.ref f) [.ref a]) (fun v s' => (∃ x w, v = Value.str x w ∧ x = t) ∧ Inv X pins σ H' s') X.xe s := by
    refine wpAny_mono (run_fnA (Q := fun v H2 => v = .str t ∧ H2 = H') (vs := [V.ref a]) hA F hr hb hx I (.cons rfl .nil) (hp H' lk _ ⟨rfl, rfl⟩)) (fun v s' hv => ?_) fun _ _ z => z
    obtain ⟨z, H2, I2, rz, e1, e2⟩ := hv
    subst e1 e2
    obtain ⟨w, rfl⟩ := rz
    exact ⟨⟨t, w, rfl, rfl⟩, I2⟩
  have fin : wpAny (model X.prog X.w) A (call (.ref f) ([.ref a] ++ []) >>= fun v => pure (some v)) (fun o s' => ∃ w, o = some (Value.str t w) ∧ Inv X pins σ H' s') X.xe s :=
    wpAny_bind (wpAny_mono run (fun v s' h' => by obtain ⟨⟨x, w, rfl, rfl⟩, I2⟩ := h'; exact wpAny_pure ⟨w, rfl, I2⟩) fun _ _ h' => h')
  refine wpAny_bind (wpAny_mono (Q := fun o s' => ∃ w, o = some (Value.str t w) ∧ Inv X pins σ H' s') ?_ (fun o s' h' => ?_) fun _ _ h' => h')
  · simp only [callSpecialIfBoundBy?, bindSpecialIfBound?]
    refine wpAny_holding (wpAny_bind (wpAny_bind (wpAny_bind (J.type.here ((PySem.W.looks_findIn I.kIn hs).here ?_)))))
    refine wpAny_bind (wpAny_askSetting (wpAny_ite ?_))
    split
    · exact wpAny_bind ((PySem.W.bind_fn I.kIn _ (beq_iff_eq.mp hf)).here (wpAny_pure (by exact fin)))
    · exact wpAny_tryCatch (wpAny_bind ((PySem.W.bind_fn I.kIn _ (beq_iff_eq.mp hf)).here (wpAny_pure (by exact fin))))
  · obtain ⟨w, rfl, I2⟩ := h'
    refine wpAny_bind (wpAny_isInstance (T := "str") (b := true) (typeIs_str _ _ _) isSubtype_str_str ?_)
    first
      | exact wpAny_pure ⟨_, _, rfl, q _ I2⟩
      | (rw [if_pos rfl]; exact wpAny_pure ⟨_, _, rfl, q _ I2⟩)
/-- the dict's text -/
def kvT (ts : List (Str × Str)) : List Str := ts.map fun p => p.1 ++ ": " ++ p.2
theorem entries_rel {pins : List (Addr × Obj)} {σ : L2.St} {H : Hp} {s : Shared} {a : Addr} {od : Obj} {kvs : List (L2.Key × V)} (I : Inv X pins σ H s) (h : H a = some (.frz od (.dK kvs))) :
    (a == sysModules) = false ∧ s.heap.get? a = some od ∧ od.cls = .type "dict" ∧ ∃ (es : Array DictEntry) (ep : Nat), od.data = .dict es ep ∧ es.size = kvs.length ∧
      ∀ (i : Nat) (e : DictEntry) (k : L2.Key) (v : V), es[i]? = some e → kvs[i]? = some (k, v) → RelV (kV k) e.key ∧ RelV v e.val := by
  obtain ⟨h1, h2, h3, es, ep, vs, h4, h5, kv, o', es', h6, h7, h8, h9, h10, h11⟩ := I.frzK h
  rw [h2] at h6
  cases h6
  rw [h4] at h8
  cases h8
  refine ⟨h1, h2, h3.1, es, ep, h4, h5, fun i e k v he hk => ?_⟩
  obtain ⟨u, hu, e1, r1⟩ : ∃ u : Value, vs[i]? = some (k, u) ∧ True ∧ RelV v u := by
    clear h9 h10 h11 h7 he h5 h
    induction kv generalizing i with
    | nil => cases hk
    | cons hh _ ih =>
      cases i with
      | zero => cases hk; exact ⟨_, congrArg some (Prod.ext hh.1.symm rfl), trivial, hh.2⟩
      | succ j => exact ih j hk
  obtain ⟨k1, k2⟩ := h10.get? (by rw [Array.getElem?_toList]; exact he) hu
  exact ⟨relV_key k1, by rw [k2]; exact r1⟩
theorem own_dict_repr {n : Nat} {as : List Addr} {H H' : Hp} {a : Addr} {od : Obj} {kvs : List (L2.Key × V)} {ts : List (Str × Str)} {A : Around} {g : List Code} {pins : List (Addr × Obj)} {σ : L2.St} {s : Shared} {R : Result → Shared → Prop}
    {base : Nat} {id : String} {rest : List Value} (hlk : Lk H H') (hd : H' a = some (.frz od (.dK kvs))) (hl : ts.length = kvs.length) (hna : a ∉ as)
    (hE : ∀ (i : Nat) (k : L2.Key) (v : V) (p : Str × Str), kvs[i]? = some (k, v) → ts[i]? = some p → Shows X n as H (kV k) p.1 ∧ Shows X n as H v p.2)
    (hcg : (Code.builtin id ⟨.ref a :: rest, []⟩).isGuard = true) (hfr : (A.under (.builtin id ⟨.ref a :: rest, []⟩)).frames = X.A.frames) (hr : Room n (A.under (.builtin id ⟨.ref a :: rest, []⟩)))
    (hg : A.guards = some g) (hcl : ∀ b ∈ a :: as, Clear g b) (I : Inv X pins σ H' s)
    (hR : ∀ s' w, Inv X pins σ H' s' → R (.ok (.ret (.str (dictText (kvT ts)) w))) s') (hsz : base + (dictText (kvT ts)).length ≤ sizeLine) (hxe : ∀ e s', X.xe e s' → R (.error e) s') :
    wpOwn (model X.prog X.w) A (.builtin id ⟨.ref a :: rest, []⟩) (Builtin.dictReprAt base ⟨[.ref a], []⟩) (fun fin s' => match fin with | .done f => R (.ok f) s' | .again c' => c'.quiet = true ∧ codeAny (model X.prog X.w) A c' R s') (fun e s' => R (.error e) s') s := by
  obtain ⟨hsys, ho, hc, es, ep, hdt, hes, _⟩ := entries_rel I hd
  have hTy : s.TypeIs (.ref a) "dict" := ⟨od, ho, hc⟩
  have hpl := piled_le_dictText (kvT ts)
  have hlen : (kvT ts).length = es.size := by unfold kvT; rw [List.length_map, hl, hes]
  unfold Builtin.dictReprAt Builtin.Dict.dictSlotNone
  refine wpOwn_bind (wpOwn_of_wpAny (wpAny_bind (wpAny_notOrdered_dict hTy (wpAny_pure ?_))))
  rw [dictReprRunning_eq]
  refine wpOwn_bind (wpOwn_stackTailAny hg (dictGuardF_off _) (dictGuardF_pos _) ?_)
  rw [show (g.any fun c => dictGuardF (.ref a) (c, default)) = false from List.any_eq_false.mpr fun c m => by rw [dictGuardF_of_clear (hcl a List.mem_cons_self) c m]; exact Bool.false_ne_true]
  refine wpOwn_of_wpAny ?_
  have hg' := guards_under_guard hcg hg
  have hcl' : ∀ b ∈ as, Clear (.builtin id ⟨.ref a :: rest, []⟩ :: g) b := fun b m => (hcl b (List.mem_cons_of_mem _ m)).cons (a := a) fun e => hna (e ▸ m)
  generalize hA' : A.under (.builtin id ⟨.ref a :: rest, []⟩) = A' at *
  show wpAny _ _ (Builtin.Dict.addrOf (.ref a) >>= _) _ _ s
  refine wpAny_bind (wpAny_pure ?_)
  show wpAny _ _ (Builtin.Dict.showsAll a >>= _) _ _ s
  unfold Builtin.Dict.showsAll
  rw [if_neg (by rw [hsys]; exact Bool.false_ne_true)]
  refine wpAny_bind (wpAny_pure (wpAny_bind (wpAny_dictEpoch ho hdt (wpAny_bind (wpAny_dictEntries ho hdt ?_)))))
  refine wpAny_bind ?_
  rw [Std.Legacy.Range.forIn_eq_forIn_range']
  simp only [Std.Legacy.Range.size, Nat.sub_zero, Nat.add_sub_cancel, Nat.div_one]
  refine wpAny_forIn_list _ (fun left r s' => ∃ i, left = List.range' i (es.size - i) ∧ i ≤ es.size ∧ r = (⟨((kvT ts).take i).toArray, base + piled ((kvT ts).take i)⟩ : (Array Str × Nat)) ∧ Inv X pins σ H' s') _ ?_ ?_ _ _
    ⟨0, by simp, Nat.zero_le _, by simp [piled], I⟩
  · rintro x left r s' ⟨i, e1, e2, rfl, I'⟩
    have lt : i < es.size := by
      rcases Nat.lt_or_ge i es.size with h | h
      · exact h
      · rw [Nat.sub_eq_zero_of_le h] at e1; simp at e1
    rw [show es.size - i = (es.size - (i + 1)) + 1 from by omega, List.range'_succ] at e1
    injection e1 with e3 e4
    subst e3
    obtain ⟨_, ho', _, es', ep', hdt', hes', rel⟩ := entries_rel I' hd
    rw [hdt] at hdt'
    cases hdt'
    have hlk1 : x < kvs.length := by omega
    have hlk2 : x < ts.length := by omega
    obtain ⟨k, v, ekv⟩ : ∃ k v, kvs[x]? = some (k, v) := ⟨_, _, List.getElem?_eq_getElem hlk1⟩
    obtain ⟨p, ep⟩ : ∃ p, ts[x]? = some p := ⟨_, List.getElem?_eq_getElem hlk2⟩
    obtain ⟨rk, rv⟩ := rel x es[x] k v (Array.getElem?_eq_getElem lt) ekv
    obtain ⟨sk, sv⟩ := hE x k v p ekv ep
    have ept : (kvT ts)[x]? = some (p.1 ++ ": " ++ p.2) := by unfold kvT; rw [List.getElem?_map, ep]; rfl
    have hpl2 : (p.1 ++ ": " ++ p.2).length = p.1.length + 2 + p.2.length := by rw [strLen_append, strLen_append]; rfl
    have hp1 := piled_take_succ ept
    have hp2 := piled_take_le (kvT ts) (x + 1)
    rw [hpl2] at hp1
    refine wpAny_bind (wpAny_dictEntries ho' hdt ?_)
    rw [Array.getElem?_eq_getElem lt]
    refine wpAny_bind (wpAny_holding (wpAny_bind ?_))
    refine wpAny_mono (sk _ A' _ pins σ H' _ _ (fun y s2 => y = p.1 ∧ Inv X pins σ H' s2) (by omega) hfr hg' hcl' hr hlk I' rk fun s2 I2 => ⟨rfl, I2⟩) (fun y s2 hy => ?_) fun e s2 he => hxe _ _ he
    obtain ⟨rfl, I2⟩ := hy
    refine wpAny_bind (wpAny_mono (sv _ A' _ pins σ H' _ _ (fun y s2 => y = p.2 ∧ Inv X pins σ H' s2) (by omega) hfr hg' hcl' hr hlk I2 rv fun s2 I2 => ⟨rfl, I2⟩) (fun y s3 hy => ?_) fun e s2 he => hxe _ _ he)
    obtain ⟨rfl, I3⟩ := hy
    refine wpAny_pure ?_
    obtain ⟨_, ho3, _⟩ := entries_rel I3 hd
    refine wpAny_bind (wpAny_dictEpoch ho3 hdt ?_)
    rw [if_neg (by simp)]
    refine wpAny_pure ⟨x + 1, e4, lt, ?_, I3⟩
    have q1 : ((kvT ts).take x).toArray.push (p.1 ++ ": " ++ p.2) = ((kvT ts).take (x + 1)).toArray := by
      rw [List.take_add_one, ept]; simp
    rw [q1, show base + piled ((kvT ts).take x) + (p.1.length + p.2.length + 4) = base + piled ((kvT ts).take (x + 1)) from by omega]
  · rintro r s' ⟨i, e1, e2, rfl, I'⟩
    have ei : i = es.size := by
      rcases Nat.lt_or_ge i es.size with h | h
      · rw [show es.size - i = (es.size - (i + 1)) + 1 from by omega, List.range'_succ] at e1; exact nomatch e1
      · exact Nat.le_antisymm e2 h
    rw [ei, ← hlen, List.take_length]
    refine wpAny_bind (wpAny_mkStr (wpAny_pure ?_) (by simpa [dictText] using Nat.le_trans (Nat.le_add_left _ _) hsz))
    have := hR _ s'.toks (I'.kept (t' := s'.toks + 1) fun _ _ e => e)
    simpa [dictText] using this
/-- a dict is locked, if it isn't yet -/
theorem lock_dict {pins : List (Addr × Obj)} {σ : L2.St} {H H' : Hp} {s : Shared} {a : Addr} {kvs : List (L2.Key × V)} (lk : Lk H H') (h : H a = some (.dK kvs)) (I : Inv X pins σ H' s) :
    ∃ (H2 : Hp) (od : Obj), Lk H H2 ∧ H2 a = some (.frz od (.dK kvs)) ∧ Inv X pins σ H2 s ∧ ∀ s', Inv X pins σ H2 s' → Inv X pins σ H' s' := by
  rcases lk a _ h with q | ⟨_, od, q⟩
  · obtain ⟨od, I2⟩ := I.lock q trivial
    refine ⟨_, od, fun b o e => ?_, upd_same, I2, fun s' I3 => ?_⟩
    · by_cases hb : b = a
      · subst hb
        rw [h] at e
        cases e
        exact .inr ⟨rfl, od, upd_same⟩
      · rw [upd_ne hb]; exact lk b o e
    · have I4 := I3.unlock upd_same (I.nofrz q trivial)
      have e : upd (upd H' a (.frz od (.dK kvs))) a (.dK kvs) = H' := by
        funext b
        by_cases hb : b = a
        · subst hb; rw [upd_same, q]
        · rw [upd_ne hb, upd_ne hb]
      rw [e] at I4
      exact I4
  · exact ⟨H', od, lk, q, I, fun s' I' => I'⟩
theorem frames_under_repr (A : Around) (args : Args) : (A.under (.builtin "dict.__repr__" args)).frames = A.frames := by
  first | rfl | simp [Around.under, Code.envs, pushEnvs]
theorem frames_under_repr_u (A : Around) (args : Args) : (A.under (.builtin "dict.__repr__.under" args)).frames = A.frames := by
  first | rfl | simp [Around.under, Code.envs, pushEnvs]
theorem room_under_repr {n : Nat} {A : Around} (args : Args) (hr : Room (n + 1) A) : Room n (A.under (.builtin "dict.__repr__" args)) := by
  refine ⟨hr.hd, ?_, ?_⟩
  · have := hr.dp
    have e : (A.under (.builtin "dict.__repr__" args)).depth ≤ A.depth + 1 := by
      first
        | exact Nat.le_succ _
        | exact Nat.le_refl _
        | (simp [Around.under, Code.weight, Code.isCreation, Code.isGuard, Code.isCaller, Code.frames, Code.isFrame, guardIds])
    omega
  · have := hr.un
    rw [units_under_dict_repr]
    omega
theorem room_under_repr_u {n : Nat} {A : Around} (args : Args) (hr : Room (n + 1) A) : Room n (A.under (.builtin "dict.__repr__.under" args)) := by
  refine ⟨hr.hd, ?_, ?_⟩
  · have := hr.dp
    have e : (A.under (.builtin "dict.__repr__.under" args)).depth ≤ A.depth + 1 := by
      first
        | exact Nat.le_succ _
        | exact Nat.le_refl _
        | (simp [Around.under, Code.weight, Code.isCreation, Code.isGuard, Code.isCaller, Code.frames, Code.isFrame, guardIds])
    omega
  · have := hr.un
    rw [units_under_dict_repr_under]
    omega
theorem shows_dict {n : Nat} {as : List Addr} {H : Hp} {a : Addr} {kvs : List (L2.Key × V)} {ts : List (Str × Str)} (h : H a = some (.dK kvs)) (hl : ts.length = kvs.length) (hna : a ∉ as)
    (hE : ∀ (i : Nat) (k : L2.Key) (v : V) (p : Str × Str), kvs[i]? = some (k, v) → ts[i]? = some p → Shows X n as H (kV k) p.1 ∧ Shows X n as H v p.2) : Shows X (n + 1) (a :: as) H (.ref a) (dictText (kvT ts)) := by
  intro base A g pins σ H' s u Q h1 hA hg hcl hr lk I ru q
  cases ru
  obtain ⟨H2, od, lk2, hd, I2, back⟩ := lock_dict lk h I
  obtain ⟨hsys, ho, hc, _⟩ := entries_rel I2 hd
  have hu := hr.units0
  refine wpAny_pyReprUnder_ref (by omega) ?_
  refine wpAny_pyReprObjUnder_twin (twin := "dict.__repr__.under") ⟨od, ho, hc⟩ F.slot_dict_repr rfl hu ?_
  refine call_twin_own (F.quiet_dict_repr_under _) F.entry_dict_repr_under F.check_dict_repr_under ⟨od, ho, hc⟩ F.slot_dict_repr (F.args_dict_repr_1 _) ?_
  exact own_dict_repr lk2 hd hl hna hE (isGuard_dict_repr_under _) ((frames_under_repr_u _ _).trans hA) (room_under_repr_u _ hr) hg hcl I2 (fun s' w I' => ⟨⟨_, _, rfl⟩, _, _, rfl, q _ (back _ I')⟩) h1 fun e s' he => he
/-- repr(d) -/
def rReprO (X : Cx) (n : Nat) : List V → Hp → VK → Prop := fun xs H Q => ∃ (a : Addr) (as : List Addr) (kvs : List (L2.Key × V)) (ts : List (Str × Str)), xs = [.ref a] ∧ H a = some (.dK kvs) ∧ ts.length = kvs.length ∧ a ∉ as ∧
  (∀ (i : Nat) (k : L2.Key) (v : V) (p : Str × Str), kvs[i]? = some (k, v) → ts[i]? = some p → Shows X n as H (kV k) p.1 ∧ Shows X n as H v p.2) ∧ (dictText (kvT ts)).length ≤ sizeLine ∧ Q (.str (dictText (kvT ts))) H
theorem cr_reprOD {n : Nat} (hr : Room (n + 2) X.A) (hg : Calm X.A) : CallR X (.builtin "repr") (rReprO X n) := by
  intro pins s σ H xs us Q I r h
  obtain ⟨a, as, kvs, ts, rfl, ha, hl, hna, hE, hz, q⟩ := h
  obtain ⟨u, rfl, ru⟩ := vals1 r
  cases ru
  obtain ⟨H2, od, lk2, hd, I2, back⟩ := lock_dict (Lk.refl H) ha I
  obtain ⟨hsys, ho, hc, _⟩ := entries_rel I2 hd
  have hu := hr.units
  have hr2 : Room (n + 1) X.A.in1 := Room.in1 hr
  refine call_repr_slot (by omega) ⟨od, ho, hc⟩ F.slot_dict_repr ?_
  refine wpAny_call (codeAny_call_builtin_own (Code.quiet_builtin _ (by decide +kernel)) F.entry_dict_repr (F.slot_dict_repr.check _ _ _ _ _ _ _ _ ⟨od, ho, hc⟩ (F.args_dict_repr_1 _) ?_))
  refine own_dict_repr (R := callEnd (fun r s₁ => ∃ x t, r = .str x t ∧ EP X pins σ Q r s₁) X.xe) (A := X.A.in1) (base := 0) lk2 hd hl hna hE (isGuard_dict_repr _) (frames_under_repr _ _) (room_under_repr _ hr2) hg (fun b _ => Clear.nil b) I2 (fun s' w I' => ⟨_, _, rfl, .str _, H, back _ I', ⟨_, rfl⟩, q⟩) (by omega) fun e s' he => he
end
end Sil
set_option Elab.async false
set_option linter.all false
set_option maxRecDepth 100000
set_option maxHeartbeats 1000000
/-! P17: how far what is told goes. -/
namespace Sil
open PySem L2 PySem.Spec PyProof.Rows
/-- ends no farther than M -/
def EndLe (M : Nat) (e : Option Int) : Prop := ∀ i, e = some i → i.natAbs ≤ M
def FitE (M : Nat) (f : EF) (xs : List Str) : Prop := ∀ x ∈ xs, EndLe M (f x).1 ∧ EndLe M (f x).2
theorem FitE.sub {M : Nat} {f : EF} {xs ys : List Str} (h : FitE M f xs) (s : ∀ y ∈ ys, y ∈ xs) : FitE M f ys := fun y m => h y (s y m)
theorem EndLe.mono {M N : Nat} {e : Option Int} (h : EndLe M e) (l : M ≤ N) : EndLe N e := fun i q => Nat.le_trans (h i q) l
theorem endLe_wE {M : Nat} {w : Int} {e : Option Int} (hw : w.natAbs ≤ 1000000) (h : EndLe M e) : EndLe (1000000 * M) (wE w e) := fun i q => by
  cases e with
  | none => cases q
  | some j =>
    cases q
    rw [Int.natAbs_mul]
    exact Nat.mul_le_mul hw (h j rfl)
theorem endLe_addE {M : Nat} : ∀ {l : List (Option Int)}, (∀ e ∈ l, EndLe M e) → EndLe (l.length * M) (addE l) := fun {l} h i q => by
  unfold addE at q
  split at q
  · cases q
    rename_i ha
    clear ha
    induction l with
    | nil => exact Nat.zero_le _
    | cons e r ih =>
      have ih := ih fun x m => h x (List.mem_cons_of_mem _ m)
      rw [List.length_cons, Nat.succ_mul]
      cases e with
      | none =>
        have e1 : pres (none :: r) = pres r := rfl
        rw [e1]; omega
      | some j =>
        have e1 : pres (some j :: r) = j :: pres r := rfl
        rw [e1, List.sum_cons]
        have := Int.natAbs_add_le j (pres r).sum
        have := h (some j) List.mem_cons_self j rfl
        omega
  · cases q
theorem pres_mem {l : List (Option Int)} {i : Int} (h : i ∈ pres l) : some i ∈ l := by
  unfold pres at h
  obtain ⟨e, m, q⟩ := List.mem_filterMap.mp h
  cases (show e = some i from q)
  exact m
theorem endLe_max {M : Nat} {l : List (Option Int)} (h : ∀ e ∈ l, EndLe M e) : EndLe M (maxO (pres l)) := fun i q => h _ (pres_mem (maxO_in q).1) i rfl
theorem told_le {M : Nat} {f : EF} {w : Wt} {lo hi : Option Int} (ok : WOk w.names w) (hf : FitE M f w.names) (h : told f w = .pair lo hi) : EndLe (26 * (1000000 * M) + 26) lo ∧ EndLe (26 * (1000000 * M) + 26) hi := by
  have few := ok.few
  cases w with
  | over ws l => cases h
  | sum ws l =>
    cases h
    have fl : ws.length ≤ 26 := ok.few_sum
    have w1 : ∀ e ∈ ws.map (lowE f), EndLe (1000000 * M) e := fun e m => by
      obtain ⟨x, mx, rfl⟩ := List.mem_map.mp m
      have a := hf x.1 (List.mem_map_of_mem mx)
      unfold lowE
      split
      · exact endLe_wE (ok.le x mx) a.1
      · exact endLe_wE (ok.le x mx) a.2
    have w2 : ∀ e ∈ ws.map (highE f), EndLe (1000000 * M) e := fun e m => by
      obtain ⟨x, mx, rfl⟩ := List.mem_map.mp m
      have a := hf x.1 (List.mem_map_of_mem mx)
      unfold highE
      split
      · exact endLe_wE (ok.le x mx) a.2
      · exact endLe_wE (ok.le x mx) a.1
    have m : ws.length * (1000000 * M) ≤ 26 * (1000000 * M) := Nat.mul_le_mul_right _ fl
    refine ⟨(endLe_addE w1).mono ?_, (endLe_addE w2).mono ?_⟩ <;> (rw [List.length_map]; omega)
  | most ns l =>
    injection h with h1 h2
    subst h1 h2
    have a : ∀ e ∈ ns.map fun n => (f n).1, EndLe M e := fun e m => by obtain ⟨x, mx, rfl⟩ := List.mem_map.mp m; exact (hf x mx).1
    have b : ∀ e ∈ ns.map fun n => (f n).2, EndLe M e := fun e m => by obtain ⟨x, mx, rfl⟩ := List.mem_map.mp m; exact (hf x mx).2
    refine ⟨(endLe_max a).mono (by omega), ?_⟩
    split
    · exact (endLe_max b).mono (by omega)
    · exact fun i q => nomatch q
  | count ns l =>
    injection h with h1 h2
    subst h1 h2
    have few : ns.length ≤ 26 := few
    have l1 := List.length_filter_le (fun n => geE l (f n).1) ns
    have l2 := List.length_filter_le (fun n => geU l (f n).2) ns
    exact ⟨fun i q => by cases q; omega, fun i q => by cases q; omega⟩
theorem told_kind {f : EF} {w : Wt} : (∃ lo hi, told f w = .pair lo hi) ∨ ∃ o, told f w = .tri o := by
  cases w
  · exact .inl ⟨_, _, rfl⟩
  · exact .inr ⟨_, rfl⟩
  · exact .inl ⟨_, _, rfl⟩
  · exact .inl ⟨_, _, rfl⟩
theorem toldV_same {H H' : Hp} {v : V} (s : Same H H') : ∀ {t : Told}, ToldV H v t → ToldV H' v t
  | .pair _ _, ⟨p, e, h⟩ => ⟨p, e, s _ _ h⟩
  | .tri _, h => h
/-! ### bands by names, all of them -/
structure BandsX (C : Addr) (H : Hp) (d : Addr) (f : EF) (ns : List (Str × V)) : Prop where
  at_ : H d = some (.dK (genKv ns))
  band : ∀ e ∈ ns, BandV C f e.1 e.2 H
theorem BandsX.same {C d : Addr} {H H' : Hp} {f : EF} {ns : List (Str × V)} (s : Same H H') (h : BandsX C H d f ns) : BandsX C H' d f ns :=
  ⟨s _ _ h.at_, fun e m => let ⟨q, e1, e2⟩ := h.band e m; ⟨q, e1, e2.mono s⟩⟩
theorem BandsX.step {b C d : Addr} {H H' : Hp} {f : EF} {ns : List (Str × V)} (hb : Bag H b) (s : Step b H H') (h : BandsX C H d f ns) : BandsX C H' d f ns :=
  ⟨s.dk hb h.at_, fun e m => let ⟨q, e1, dx, e2⟩ := h.band e m; ⟨q, e1, dx, s.ins hb e2⟩⟩
theorem BandsX.bands {C d : Addr} {H : Hp} {f : EF} {ns : List (Str × V)} (h : BandsX C H d f ns) : BandsAt C H d f (ns.map (·.1)) := bands_of h.at_ h.band
end Sil
set_option Elab.async false
set_option linter.all false
set_option maxRecDepth 100000
set_option maxHeartbeats 1000000
/-! P18: == and != of dicts whose values are compared by an own __eq__. -/
namespace Sil
open PySem L2 PySem.Spec PyProof.Rows
section
variable {X : Cx} {n : Nat} {D : Eqv}
theorem same_pairsG {nm : String} {A : Around} {pins : List (Addr × Obj)} {σ : L2.St} {H : Hp} {s : Shared} {a b : Addr} {oa ob : Obj} {ks ls : List (L2.Key × V)} (hD : Mon D) (h : EqG X n D) (sb : Sub X n A) (I : Inv X pins σ H s)
    (ha : H a = some (.frz oa (.dK ks))) (hb : H b = some (.frz ob (.dK ls))) (hl : ks.length = ls.length) (hp : ∀ p ∈ ks, ∃ v, valV ls p.1 = some v ∧ D p.2 v H) :
    wpAny (model X.prog X.w) A (Builtin.Dict.samePairs nm a b) (fun r s' => r = true ∧ LoopI X pins σ H s') X.xe s := by
  obtain ⟨ya, ga, xa, es, ea, va, da, la, ra, oa', es0, ga0, _, da0, keya, paira, _⟩ := I.frzK ha
  rw [ga] at ga0; cases ga0; rw [da] at da0; cases da0
  obtain ⟨yb, gb, xb, et, eb, vb, db, lb, rb, ob', et0, gb0, _, db0, keyb, pairb, _⟩ := I.frzK hb
  rw [gb] at gb0; cases gb0; rw [db] at db0; cases db0
  have gA : ∀ s', LoopI X pins σ H s' → s'.heap.get? a = some oa := fun s' ⟨H', I', e⟩ => (I'.frzK (e _ _ ha)).2.1
  have gB : ∀ s', LoopI X pins σ H s' → s'.heap.get? b = some ob := fun s' ⟨H', I', e⟩ => (I'.frzK (e _ _ hb)).2.1
  have hfind : ∀ k, findBy (mixKind X.prog X.w).is et k = valueAt vb k := fun k => by
    rw [← pairb.find k]
    generalize et = e0
    obtain ⟨l⟩ := e0
    simp [findBy]
  have len1 : va.length = es.size := by rw [← paira.length]; exact Array.length_toList
  have len2 : ks.length = va.length := Paired.length ra
  unfold Builtin.Dict.samePairs Builtin.Dict.showsAll
  rw [if_neg (show ¬ (a == sysModules) = true by rw [ya]; exact Bool.false_ne_true), if_neg (show ¬ (b == sysModules) = true by rw [yb]; exact Bool.false_ne_true)]
  refine wpAny_bind (wpAny_pure (wpAny_bind (wpAny_pure ?_)))
  refine wpAny_bind (wpAny_dictEntries ga da ?_)
  dsimp only
  refine wpAny_bind (wpAny_dictEntries gb db ?_)
  rw [if_neg (by simp; omega)]
  refine wpAny_bind (wpAny_dictEpoch ga da ?_)
  refine wpAny_bind ?_
  rw [Std.Legacy.Range.forIn_eq_forIn_range']
  simp only [Std.Legacy.Range.size, Nat.sub_zero, Nat.add_sub_cancel, Nat.div_one]
  refine wpAny_forIn_list _ (fun left q s' => q = (none, ()) ∧ LoopI X pins σ H s' ∧ ∃ i, left = List.range' i (es.size - i) ∧ i ≤ es.size) _ ?_ ?_ _ _ ⟨rfl, ⟨H, I, Ext.rfl'⟩, 0, by simp, Nat.zero_le _⟩
  · rintro x left q s' ⟨rfl, hI, i, e1, e2⟩
    have lt : i < es.size := by
      rcases Nat.lt_or_ge i es.size with h | h
      · exact h
      · rw [Nat.sub_eq_zero_of_le h] at e1; simp at e1
    rw [show es.size - i = (es.size - (i + 1)) + 1 from by omega, List.range'_succ] at e1
    injection e1 with e3 e4
    subst e3
    refine wpAny_bind (wpAny_dictEntries (gA s' hI) da ?_)
    rw [Array.getElem?_eq_getElem lt]
    have lk : x < ks.length := by omega
    have lv : x < va.length := by omega
    obtain ⟨hk1, hk2⟩ : ks[x].1 = va[x].1 ∧ RelV ks[x].2 va[x].2 := by
      have aux : ∀ {l1 : List (L2.Key × V)} {l2 : List (L2.Key × Value)}, KV l1 l2 → ∀ (j : Nat) (h1 : j < l1.length) (h2 : j < l2.length), l1[j].1 = l2[j].1 ∧ RelV l1[j].2 l2[j].2 := by
        intro l1 l2 r
        induction r with
        | nil => intro j h1; exact absurd h1 (Nat.not_lt_zero _)
        | cons hh _ ih =>
          intro j h1 h2
          cases j with
          | zero => exact hh
          | succ j => exact ih j (Nat.lt_of_succ_lt_succ h1) (Nat.lt_of_succ_lt_succ h2)
      exact aux ra x lk lv
    obtain ⟨hkey, hval⟩ := paira.get? (i := x) (e := es[x]) (k := va[x].1) (v := va[x].2) (by rw [Array.getElem?_toList]; exact Array.getElem?_eq_getElem lt) (List.getElem?_eq_getElem lv)
    obtain ⟨k', hk', hh⟩ := keya es[x] (Array.getElem_mem lt)
    have ekk : k' = va[x].1 := (mixKind X.prog X.w).inj _ _ _ hk' hkey
    rw [ekk] at hh
    obtain ⟨v, ev, dv⟩ := hp ks[x] (List.getElem_mem lk)
    have rr : RelO (some v) (valueAt vb va[x].1) := by rw [← ev, hk1]; exact rb.val va[x].1
    obtain ⟨y, hy, ry⟩ := rr.some_of
    show wpAny _ _ (holding [es[x].key, es[x].val] _ >>= _) _ _ _
    rw [hh]
    refine wpAny_bind (wpAny_holding (wpAny_bind (wpAny_dictFind_of hkey (gB s' hI) db keyb ?_)))
    cases hj : et.findIdx? fun e => (mixKind X.prog X.w).is va[x].1 e.key with
    | none =>
      have hn : valueAt vb va[x].1 = none := by rw [← hfind, findBy_of_findIdx?, hj]
      rw [hn] at hy; cases hy
    | some j =>
      obtain ⟨hjl, _, _⟩ := Array.findIdx?_eq_some_iff_getElem.mp hj
      have hv' : valueAt vb va[x].1 = some et[j].val := by
        rw [← hfind, findBy_of_findIdx?, hj]
        simp [Array.getElem?_eq_getElem hjl]
      have ey : et[j].val = y := Option.some.inj (hv'.symm.trans hy)
      refine wpAny_bind (wpAny_dictEntries (gB s' hI) db ?_)
      rw [Array.getElem?_eq_getElem hjl]
      obtain ⟨H1, I1, x1⟩ := hI
      refine wpAny_holding (wpAny_mono (h A pins s' σ H1 ks[x].2 v es[x].val et[j].val sb I1 (by rw [hval]; exact hk2) (by rw [ey]; exact ry) (hD _ _ _ _ x1 dv)) (fun r s2 hq => ?_) fun _ _ z => z)
      obtain ⟨rfl, H2, I2, x2⟩ := hq
      have hI2 : LoopI X pins σ H s2 := ⟨H2, I2, x1.trans x2⟩
      show wpAny _ _ (if (!true) = true then _ else _) _ _ _
      rw [if_neg (by decide)]
      refine wpAny_bind (wpAny_dictEpoch (gA s2 hI2) da ?_)
      rw [if_neg (by simp)]
      exact wpAny_pure ⟨rfl, hI2, x + 1, e4, lt⟩
  · rintro q s' ⟨rfl, hI, i, e1, e2⟩
    exact wpAny_pure ⟨rfl, hI⟩
def DDict (D : Eqv) : Eqv := fun x y H => ∃ a b ks ls, x = .ref a ∧ y = .ref b ∧ a ≠ b ∧ H a = some (.dK ks) ∧ H b = some (.dK ls) ∧ ks.length = ls.length ∧ ∀ p ∈ ks, ∃ v, valV ls p.1 = some v ∧ ∀ H', Lk H H' → D p.2 v H'
theorem lk_upd {H : Hp} {a : Addr} {o : HO} {od : Obj} (h : H a = some o) (hb : isBox o = true) {H0 : Hp} (k : Lk H0 H) : Lk H0 (upd H a (.frz od o)) := fun b u e => by
  by_cases hq : b = a
  · subst hq
    rcases k b u e with q | ⟨q1, od', q⟩
    · rw [h] at q; cases q
      exact .inr ⟨hb, od, upd_same⟩
    · rw [h] at q; cases q
      cases hb
  · rw [upd_ne hq]; exact k b u e
/-- both dicts locked -/
theorem with_locks {pins : List (Addr × Obj)} {σ : L2.St} {H : Hp} {s : Shared} {a b : Addr} {ks ls : List (L2.Key × V)} (I : Inv X pins σ H s) (hne : a ≠ b) (ha : H a = some (.dK ks)) (hb : H b = some (.dK ls)) :
    ∃ (H2 : Hp) (oa ob : Obj), Lk H H2 ∧ H2 a = some (.frz oa (.dK ks)) ∧ H2 b = some (.frz ob (.dK ls)) ∧ Inv X pins σ H2 s ∧ ∀ s', LoopI X pins σ H2 s' → LoopI X pins σ H s' := by
  obtain ⟨oa, I1⟩ := I.lock ha trivial
  have hb1 : upd H a (.frz oa (.dK ks)) b = some (.dK ls) := by rw [upd_ne hne.symm]; exact hb
  obtain ⟨ob, I2⟩ := I1.lock hb1 trivial
  refine ⟨_, oa, ob, lk_upd hb1 rfl (lk_upd ha rfl (Lk.refl H)), by rw [upd_ne hne]; exact upd_same, upd_same, I2, fun s' ⟨H3, I3, e3⟩ => ?_⟩
  have hb3 : H3 b = some (.frz ob (.dK ls)) := e3 _ _ upd_same
  have ha3 : H3 a = some (.frz oa (.dK ks)) := e3 _ _ (by rw [upd_ne hne]; exact upd_same)
  have I4 := I3.unlock hb3 (I1.nofrz hb1 trivial)
  have I5 := I4.unlock (d := a) (by rw [upd_ne hne]; exact ha3) (I.nofrz ha trivial)
  refine ⟨_, I5, fun c o e => ?_⟩
  by_cases ca : c = a
  · subst ca; rw [upd_same]; rw [ha] at e; exact e
  · rw [upd_ne ca]
    by_cases cb : c = b
    · subst cb; rw [upd_same]; rw [hb] at e; exact e
    · rw [upd_ne cb]
      exact e3 c o (by rw [upd_ne cb, upd_ne ca]; exact e)
theorem rcG_dict (hD : Mon D) (h : EqG X n D) : RcG X (n + 1) (DDict D) := by
  intro A pins s σ H x y u v sb I rx ry d
  obtain ⟨a, b, ks, ls, rfl, rfl, hne, ha, hb, hl, hp⟩ := d
  cases rx
  cases ry
  obtain ⟨H2, oa, ob, lk, ha2, hb2, I2, back⟩ := with_locks I hne ha hb
  obtain ⟨_, ga, xa, _⟩ := I2.frzK ha2
  obtain ⟨_, gb, xb, _⟩ := I2.frzK hb2
  have ta : s.TypeIs (.ref a) "dict" := ⟨oa, ga, xa.1⟩
  have tb : s.TypeIs (.ref b) "dict" := ⟨ob, gb, xb.1⟩
  refine wpAny_richCompare_same_room (op := .Eq) ta tb PySem.F.slot_dict_eq (wpAny_call_entry PySem.F.slot_dict_eq ta PySem.F.entry_dict_eq ?_ (PySem.F.args_dict_eq_2 _ _)) sb.room.units0
  show wpAny _ _ (Builtin.Dict.dictSlotArgs "__eq__" ⟨[.ref a, .ref b], []⟩ >>= _) _ _ s
  unfold Builtin.Dict.dictSlotArgs
  refine wpAny_bind (wpAny_bind (wpAny_notOrdered_dict ta (wpAny_pure ?_)))
  refine wpAny_bind (wpAny_isInstance (T := "dict") tb PySem.F.sub_dict_dict ?_)
  simp only [Bool.not_true, Bool.false_eq_true, if_false]
  refine wpAny_bind (wpAny_pure (wpAny_bind (wpAny_pure ?_)))
  refine wpAny_bind (wpAny_mono (same_pairsG hD h sb.in1 I2 ha2 hb2 hl fun p m => let ⟨v, e, q⟩ := hp p m; ⟨v, e, q _ lk⟩) (fun r s' q => ?_) fun _ _ z => z)
  obtain ⟨rfl, q⟩ := q
  refine wpAny_pure ⟨_, rfl, ?_, ?_⟩
  · exact fun x => nomatch x
  · exact ⟨rfl, back _ q⟩
def rNeDO (D : Eqv) : R2 := fun x y H Q => DDict D x y H ∧ ∀ H', Ext H H' → Q (.bl false) H'
theorem op_neDO (hD : Mon D) (h : EqG X n D) (hr : Room (n + 1) X.A) : OpR X (compareOp .NotEq) (rNeDO D) := by
  intro pins s σ H x y v u Q I rx ry hq
  obtain ⟨⟨a, b, ks, ls, rfl, rfl, hne, ha, hb, hl, hp⟩, q⟩ := hq
  cases rx
  cases ry
  obtain ⟨H2, oa, ob, lk, ha2, hb2, I2, back⟩ := with_locks I hne ha hb
  obtain ⟨_, ga, xa, _⟩ := I2.frzK ha2
  obtain ⟨_, gb, xb, _⟩ := I2.frzK hb2
  have ta : s.TypeIs (.ref a) "dict" := ⟨oa, ga, xa.1⟩
  have tb : s.TypeIs (.ref b) "dict" := ⟨ob, gb, xb.1⟩
  have sb : Sub X (n + 1) X.A := ⟨hr, rfl⟩
  refine wpAny_richCompare_same_room (op := .NotEq) ta tb PySem.F.slot_dict_ne (wpAny_call_entry PySem.F.slot_dict_ne ta PySem.F.entry_dict_ne ?_ (PySem.F.args_dict_ne_2 _ _)) sb.room.units0
  show wpAny _ _ (Builtin.Dict.dictSlotArgs "__ne__" ⟨[.ref a, .ref b], []⟩ >>= _) _ _ s
  unfold Builtin.Dict.dictSlotArgs
  refine wpAny_bind (wpAny_bind (wpAny_notOrdered_dict ta (wpAny_pure ?_)))
  refine wpAny_bind (wpAny_isInstance (T := "dict") tb PySem.F.sub_dict_dict ?_)
  simp only [Bool.not_true, Bool.false_eq_true, if_false]
  refine wpAny_bind (wpAny_pure (wpAny_bind (wpAny_pure ?_)))
  refine wpAny_bind (wpAny_mono (same_pairsG hD h sb.in1 I2 ha2 hb2 hl fun p m => let ⟨v, e, q⟩ := hp p m; ⟨v, e, q _ lk⟩) (fun r s' q => ?_) fun _ _ z => z)
  obtain ⟨rfl, hI⟩ := q
  obtain ⟨H3, I3, e3⟩ := back _ hI
  refine wpAny_pure ⟨_, rfl, ?_, ?_⟩
  · exact fun x => nomatch x
  · exact ⟨.bl false, H3, I3, rfl, q H3 e3⟩
end
end Sil
set_option Elab.async false
set_option linter.all false
set_option maxRecDepth 100000
set_option maxHeartbeats 1000000
/-! P19: what is told by narrower bands. -/
namespace Sil
open PySem L2 PySem.Spec PyProof.Rows
/-- a low end, and one that is no lower -/
def LoLe : Option Int → Option Int → Prop
  | none, _ => True
  | some _, none => False
  | some i, some j => i ≤ j
/-- a high end, and one that is no higher -/
def HiLe : Option Int → Option Int → Prop
  | none, _ => True
  | some _, none => False
  | some i, some j => j ≤ i
theorem LoLe.refl : ∀ e : Option Int, LoLe e e
  | none => trivial
  | some i => Int.le_refl i
theorem HiLe.refl : ∀ e : Option Int, HiLe e e
  | none => trivial
  | some i => Int.le_refl i
theorem LoLe.trans : ∀ {a b c : Option Int}, LoLe a b → LoLe b c → LoLe a c
  | none, _, _, _, _ => trivial
  | some _, some _, some _, h, k => Int.le_trans h k
  | some _, some _, none, _, k => k.elim
  | some _, none, _, h, _ => h.elim
theorem HiLe.trans : ∀ {a b c : Option Int}, HiLe a b → HiLe b c → HiLe a c
  | none, _, _, _, _ => trivial
  | some _, some _, some _, h, k => Int.le_trans k h
  | some _, some _, none, _, k => k.elim
  | some _, none, _, h, _ => h.elim
/-- the bands f' are within the bands f -/
def Nar (f' f : EF) (xs : List Str) : Prop := ∀ x ∈ xs, LoLe (f x).1 (f' x).1 ∧ HiLe (f x).2 (f' x).2
def OkE (f : EF) (xs : List Str) : Prop := ∀ x ∈ xs, atMost (f x).1 (f x).2 = true
theorem Nar.refl (f : EF) (xs : List Str) : Nar f f xs := fun x _ => ⟨.refl _, .refl _⟩
theorem Nar.trans {f g h : EF} {xs : List Str} (a : Nar h g xs) (b : Nar g f xs) : Nar h f xs := fun x m => ⟨(b x m).1.trans (a x m).1, (b x m).2.trans (a x m).2⟩
theorem Nar.sub {f g : EF} {xs ys : List Str} (a : Nar g f xs) (s : ∀ y ∈ ys, y ∈ xs) : Nar g f ys := fun y m => a y (s y m)
theorem OkE.sub {f : EF} {xs ys : List Str} (a : OkE f xs) (s : ∀ y ∈ ys, y ∈ xs) : OkE f ys := fun y m => a y (s y m)
theorem most_le {lo hi : Option Int} : atMost lo hi = true → ∀ i j, lo = some i → hi = some j → i ≤ j := fun h i j e1 e2 => by subst e1 e2; exact of_decide_eq_true h
theorem most_of {lo hi : Option Int} (h : ∀ i j, lo = some i → hi = some j → i ≤ j) : atMost lo hi = true := by
  cases lo with
  | none => rfl
  | some i =>
    cases hi with
    | none => rfl
    | some j => exact decide_eq_true (h i j rfl rfl)
/-! ### sums -/
def plusE : Option Int → Option Int → Option Int
  | some i, some j => some (i + j)
  | _, _ => none
theorem addE_cons (e : Option Int) (r : List (Option Int)) : addE (e :: r) = plusE e (addE r) := by
  cases e with
  | none => rfl
  | some i =>
    unfold addE
    rw [List.all_cons]
    cases h : r.all (·.isSome) with
    | false => rfl
    | true =>
      show some (pres (some i :: r)).sum = some (i + (pres r).sum)
      rw [show pres (some i :: r) = i :: pres r from rfl, List.sum_cons]
theorem addE_lo {α : Type} {g g' : α → Option Int} : ∀ {ws : List α}, (∀ e ∈ ws, LoLe (g e) (g' e)) → LoLe (addE (ws.map g)) (addE (ws.map g'))
  | [], _ => Int.le_refl 0
  | e :: r, h => by
    have a := h e List.mem_cons_self
    have b := addE_lo (ws := r) fun x m => h x (List.mem_cons_of_mem _ m)
    rw [List.map_cons, List.map_cons, addE_cons, addE_cons]
    revert a b
    generalize g e = x1, g' e = x2, addE (r.map g) = y1, addE (r.map g') = y2
    intro a b
    cases x1 with
    | none => trivial
    | some i =>
      cases y1 with
      | none => trivial
      | some j =>
        cases x2 with
        | none => exact a.elim
        | some i' =>
          cases y2 with
          | none => exact b.elim
          | some j' => exact Int.add_le_add a b
theorem addE_hi {α : Type} {g g' : α → Option Int} : ∀ {ws : List α}, (∀ e ∈ ws, HiLe (g e) (g' e)) → HiLe (addE (ws.map g)) (addE (ws.map g'))
  | [], _ => Int.le_refl 0
  | e :: r, h => by
    have a := h e List.mem_cons_self
    have b := addE_hi (ws := r) fun x m => h x (List.mem_cons_of_mem _ m)
    rw [List.map_cons, List.map_cons, addE_cons, addE_cons]
    revert a b
    generalize g e = x1, g' e = x2, addE (r.map g) = y1, addE (r.map g') = y2
    intro a b
    cases x1 with
    | none => trivial
    | some i =>
      cases y1 with
      | none => trivial
      | some j =>
        cases x2 with
        | none => exact a.elim
        | some i' =>
          cases y2 with
          | none => exact b.elim
          | some j' => exact Int.add_le_add a b
theorem addE_most {α : Type} {g g' : α → Option Int} : ∀ {ws : List α}, (∀ e ∈ ws, atMost (g e) (g' e) = true) → atMost (addE (ws.map g)) (addE (ws.map g')) = true
  | [], _ => rfl
  | e :: r, h => by
    have a := h e List.mem_cons_self
    have b := addE_most (ws := r) fun x m => h x (List.mem_cons_of_mem _ m)
    rw [List.map_cons, List.map_cons, addE_cons, addE_cons]
    revert a b
    generalize g e = x1, g' e = x2, addE (r.map g) = y1, addE (r.map g') = y2
    intro a b
    refine most_of fun i j e1 e2 => ?_
    cases x1 <;> cases y1 <;> first | cases e1 | skip
    cases x2 <;> cases y2 <;> first | cases e2 | skip
    exact Int.add_le_add (of_decide_eq_true a) (of_decide_eq_true b)
theorem lowE_lo {f f' : EF} {e : Str × Int} (h : LoLe (f e.1).1 (f' e.1).1 ∧ HiLe (f e.1).2 (f' e.1).2) : LoLe (lowE f e) (lowE f' e) := by
  obtain ⟨a, b⟩ := h
  unfold lowE
  revert a b
  generalize (f e.1).1 = x1, (f' e.1).1 = x2, (f e.1).2 = y1, (f' e.1).2 = y2, e.2 = w
  intro a b
  by_cases hw : 0 < w
  · rw [if_pos hw, if_pos hw]
    cases x1 with
    | none => trivial
    | some i =>
      cases x2 with
      | none => exact a.elim
      | some j => exact Int.mul_le_mul_of_nonneg_left a (by omega)
  · rw [if_neg hw, if_neg hw]
    cases y1 with
    | none => trivial
    | some i =>
      cases y2 with
      | none => exact b.elim
      | some j => exact Int.mul_le_mul_of_nonpos_left (by omega) b
theorem highE_hi {f f' : EF} {e : Str × Int} (h : LoLe (f e.1).1 (f' e.1).1 ∧ HiLe (f e.1).2 (f' e.1).2) : HiLe (highE f e) (highE f' e) := by
  obtain ⟨a, b⟩ := h
  unfold highE
  revert a b
  generalize (f e.1).1 = x1, (f' e.1).1 = x2, (f e.1).2 = y1, (f' e.1).2 = y2, e.2 = w
  intro a b
  by_cases hw : 0 < w
  · rw [if_pos hw, if_pos hw]
    cases y1 with
    | none => trivial
    | some i =>
      cases y2 with
      | none => exact b.elim
      | some j => exact Int.mul_le_mul_of_nonneg_left b (by omega)
  · rw [if_neg hw, if_neg hw]
    cases x1 with
    | none => trivial
    | some i =>
      cases x2 with
      | none => exact a.elim
      | some j => exact Int.mul_le_mul_of_nonpos_left (by omega) a
theorem ends_most {f : EF} {e : Str × Int} (h : atMost (f e.1).1 (f e.1).2 = true) : atMost (lowE f e) (highE f e) = true := by
  unfold lowE highE
  revert h
  generalize (f e.1).1 = x, (f e.1).2 = y, e.2 = w
  intro h
  refine most_of fun i j e1 e2 => ?_
  by_cases hw : 0 < w
  · rw [if_pos hw] at e1 e2
    cases x <;> cases e1
    cases y <;> cases e2
    exact Int.mul_le_mul_of_nonneg_left (of_decide_eq_true h) (by omega)
  · rw [if_neg hw] at e1 e2
    cases y <;> cases e1
    cases x <;> cases e2
    exact Int.mul_le_mul_of_nonpos_left (by omega) (of_decide_eq_true h)
/-! ### the greatest -/
theorem maxO_none {ns : List Int} : maxO ns = none → ns = [] := fun h => by
  cases ns with
  | nil => rfl
  | cons i r =>
    exfalso
    have : ∃ m, maxO (i :: r) = some m := by
      have aux : ∀ (l : List Int), l ≠ [] → ∃ m, m ∈ l ∧ ∀ y ∈ l, y ≤ m := by
        intro l
        induction l with
        | nil => intro q; exact absurd rfl q
        | cons a t ih =>
          intro _
          by_cases ht : t = []
          · subst ht
            exact ⟨a, List.mem_cons_self, fun y m => by rw [List.mem_singleton] at m; rw [m]; exact Int.le_refl _⟩
          · obtain ⟨m, m1, m2⟩ := ih ht
            by_cases hc : a ≤ m
            · exact ⟨m, List.mem_cons_of_mem _ m1, fun y q => by
                rcases List.mem_cons.mp q with rfl | q
                · exact hc
                · exact m2 y q⟩
            · exact ⟨a, List.mem_cons_self, fun y q => by
                rcases List.mem_cons.mp q with rfl | q
                · exact Int.le_refl _
                · have := m2 y q; omega⟩
      obtain ⟨m, m1, m2⟩ := aux (i :: r) (by simp)
      exact ⟨m, maxO_of m1 m2⟩
    obtain ⟨m, e⟩ := this
    rw [h] at e; cases e
theorem mem_pres {l : List (Option Int)} {i : Int} (h : some i ∈ l) : i ∈ pres l := List.mem_filterMap.mpr ⟨_, h, rfl⟩
theorem max_lo {α : Type} {g g' : α → Option Int} {ns : List α} (h : ∀ n ∈ ns, LoLe (g n) (g' n)) : LoLe (maxO (pres (ns.map g))) (maxO (pres (ns.map g'))) := by
  cases e : maxO (pres (ns.map g)) with
  | none => trivial
  | some m =>
    obtain ⟨n, mn, en⟩ := List.mem_map.mp (pres_mem (maxO_in e).1)
    have hn := h n mn
    rw [en] at hn
    cases e2 : g' n with
    | none => rw [e2] at hn; exact hn.elim
    | some j =>
      rw [e2] at hn
      have mj : j ∈ pres (ns.map g') := mem_pres (List.mem_map.mpr ⟨n, mn, e2⟩)
      cases e3 : maxO (pres (ns.map g')) with
      | none => rw [maxO_none e3] at mj; cases mj
      | some m' => exact Int.le_trans hn ((maxO_in e3).2 j mj)
/-- the greatest of ends, none where one is wanting -/
def topE (l : List (Option Int)) : Option Int := if l.all (·.isSome) = true then maxO (pres l) else none
theorem all_map {α : Type} {g : α → Option Int} {ns : List α} : (ns.map g).all (·.isSome) = true ↔ ∀ n ∈ ns, ∃ i, g n = some i := by
  rw [List.all_map, List.all_eq_true]
  exact ⟨fun h n m => Option.isSome_iff_exists.mp (h n m), fun h n m => Option.isSome_iff_exists.mpr (h n m)⟩
theorem top_hi {α : Type} {g g' : α → Option Int} {ns : List α} (h : ∀ n ∈ ns, HiLe (g n) (g' n)) (ne : ns ≠ []) : HiLe (topE (ns.map g)) (topE (ns.map g')) := by
  unfold topE
  by_cases ha : (ns.map g).all (·.isSome) = true
  · have hb : (ns.map g').all (·.isSome) = true := all_map.mpr fun n m => by
      obtain ⟨i, e⟩ := all_map.mp ha n m
      have q := h n m
      rw [e] at q
      cases e2 : g' n with
      | none => rw [e2] at q; exact q.elim
      | some j => exact ⟨j, rfl⟩
    rw [if_pos ha, if_pos hb]
    cases e : maxO (pres (ns.map g)) with
    | none => trivial
    | some m =>
      cases e3 : maxO (pres (ns.map g')) with
      | none =>
        exfalso
        obtain ⟨n, r, rfl⟩ : ∃ n r, ns = n :: r := by cases ns with | nil => exact absurd rfl ne | cons n r => exact ⟨n, r, rfl⟩
        obtain ⟨i, ei⟩ := all_map.mp hb n List.mem_cons_self
        have : i ∈ pres ((n :: r).map g') := mem_pres (List.mem_map.mpr ⟨n, List.mem_cons_self, ei⟩)
        rw [maxO_none e3] at this; cases this
      | some m' =>
        obtain ⟨n, mn, en⟩ := List.mem_map.mp (pres_mem (maxO_in e3).1)
        have q := h n mn
        rw [en] at q
        cases e2 : g n with
        | none => obtain ⟨i, ei⟩ := all_map.mp ha n mn; rw [e2] at ei; cases ei
        | some j =>
          rw [e2] at q
          exact Int.le_trans q ((maxO_in e).2 j (mem_pres (List.mem_map.mpr ⟨n, mn, e2⟩)))
  · rw [if_neg ha]; trivial
theorem max_most {f : EF} {ns : List Str} (h : OkE f ns) : atMost (maxO (pres (ns.map fun n => (f n).1))) (topE (ns.map fun n => (f n).2)) = true := by
  refine most_of fun i j e1 e2 => ?_
  obtain ⟨n, mn, en⟩ := List.mem_map.mp (pres_mem (maxO_in e1).1)
  unfold topE at e2
  split at e2
  · rename_i ha
    obtain ⟨k, ek⟩ := all_map.mp ha n mn
    have := (maxO_in e2).2 k (mem_pres (List.mem_map.mpr ⟨n, mn, ek⟩))
    exact Int.le_trans (most_le (h n mn) i k en ek) this
  · cases e2
/-! ### counts -/
theorem filter_le {α : Type} {p q : α → Bool} : ∀ {ns : List α}, (∀ n ∈ ns, p n = true → q n = true) → (ns.filter p).length ≤ (ns.filter q).length
  | [], _ => Nat.le_refl _
  | n :: r, h => by
    have ih := filter_le (ns := r) fun x m => h x (List.mem_cons_of_mem _ m)
    by_cases hp : p n = true
    · rw [List.filter_cons_of_pos hp, List.filter_cons_of_pos (h n List.mem_cons_self hp), List.length_cons, List.length_cons]; omega
    · rw [List.filter_cons_of_neg hp]
      by_cases hq : q n = true
      · rw [List.filter_cons_of_pos hq, List.length_cons]; omega
      · rw [List.filter_cons_of_neg hq]; exact ih
theorem geE_lo {l : Int} {a b : Option Int} (h : LoLe a b) : geE l a = true → geE l b = true := fun q => by
  cases a with
  | none => cases q
  | some i =>
    cases b with
    | none => exact h.elim
    | some j => exact decide_eq_true (Int.le_trans (of_decide_eq_true q) h)
theorem geU_hi {l : Int} {a b : Option Int} (h : HiLe a b) : geU l b = true → geU l a = true := fun q => by
  cases a with
  | none => rfl
  | some i =>
    cases b with
    | none => exact h.elim
    | some j => exact decide_eq_true (Int.le_trans (of_decide_eq_true q) h)
theorem ge_most {l : Int} {a b : Option Int} (h : atMost a b = true) : geE l a = true → geU l b = true := fun q => by
  cases a with
  | none => cases q
  | some i =>
    cases b with
    | none => rfl
    | some j => exact decide_eq_true (Int.le_trans (of_decide_eq_true q) (of_decide_eq_true h))
/-! ### what is told -/
def TIn : Told → Told → Prop
  | .pair lo' hi', .pair lo hi => LoLe lo lo' ∧ HiLe hi hi'
  | .tri o', .tri o => o = none ∨ o' = o
  | _, _ => False
theorem tri_in {lo hi lo' hi' : Option Int} {l : Int} (a : LoLe lo lo') (b : HiLe hi hi') (c : atMost lo' hi' = true) : triE lo hi l = none ∨ triE lo' hi' l = triE lo hi l := by
  cases lo with
  | none =>
    cases hi with
    | none => exact .inl rfl
    | some j =>
      cases hi' with
      | none => exact b.elim
      | some j' =>
        have b : j' ≤ j := b
        by_cases h : j < l
        · right
          show triE lo' (some j') l = if j < l then some false else none
          rw [if_pos h]
          cases lo' with
          | none => show (if j' < l then some false else none) = _; rw [if_pos (by omega)]
          | some i' =>
            have c : i' ≤ j' := of_decide_eq_true c
            show (if l ≤ i' then some true else if j' < l then some false else none) = _
            rw [if_neg (by omega), if_pos (by omega)]
        · left; show (if j < l then some false else none) = none; rw [if_neg h]
  | some i =>
    cases lo' with
    | none => exact a.elim
    | some i' =>
      have a : i ≤ i' := a
      by_cases h : l ≤ i
      · right
        have e1 : triE (some i) hi l = some true := by cases hi <;> (dsimp only [triE]; rw [if_pos h])
        have e2 : triE (some i') hi' l = some true := by cases hi' <;> (dsimp only [triE]; rw [if_pos (by omega)])
        rw [e1, e2]
      · cases hi with
        | none => left; show (if l ≤ i then some true else none) = none; rw [if_neg h]
        | some j =>
          cases hi' with
          | none => exact b.elim
          | some j' =>
            have b : j' ≤ j := b
            have c : i' ≤ j' := of_decide_eq_true c
            by_cases h2 : j < l
            · right
              show (if l ≤ i' then some true else if j' < l then some false else none) = (if l ≤ i then some true else if j < l then some false else none)
              rw [if_neg h, if_pos h2, if_neg (by omega), if_pos (by omega)]
            · left
              show (if l ≤ i then some true else if j < l then some false else none) = none
              rw [if_neg h, if_neg h2]
theorem told_in {f f' : EF} {w : Wt} (ne : w.names ≠ []) (hn : Nar f' f w.names) (ok : OkE f' w.names) : TIn (told f' w) (told f w) := by
  cases w with
  | sum ws l => exact ⟨addE_lo fun e m => lowE_lo (hn e.1 (List.mem_map_of_mem m)), addE_hi fun e m => highE_hi (hn e.1 (List.mem_map_of_mem m))⟩
  | over ws l => exact tri_in (addE_lo fun e m => lowE_lo (hn e.1 (List.mem_map_of_mem m))) (addE_hi fun e m => highE_hi (hn e.1 (List.mem_map_of_mem m))) (addE_most fun e m => ends_most (ok e.1 (List.mem_map_of_mem m)))
  | most ns l => exact ⟨max_lo fun n m => (hn n m).1, top_hi (fun n m => (hn n m).2) ne⟩
  | count ns l => exact ⟨Int.ofNat_le.mpr (filter_le fun n m => geE_lo (hn n m).1), Int.ofNat_le.mpr (filter_le fun n m => geU_hi (hn n m).2)⟩
theorem within_in {lo hi lo' hi' : Option Int} {l : Int} (a : LoLe lo lo') (b : HiLe hi hi') (h : within lo hi l = true) : within lo' hi' l = true := by
  cases lo <;> cases hi <;> first | cases h | skip
  cases lo' with
  | none => exact a.elim
  | some i' =>
    cases hi' with
    | none => exact b.elim
    | some j' =>
      have h := of_decide_eq_true h
      have a : _ ≤ i' := a
      have b : j' ≤ _ := b
      exact decide_eq_true (by omega)
theorem kept_in {f f' : EF} {w : Wt} (ne : w.names ≠ []) (hn : Nar f' f w.names) (ok : OkE f' w.names) (h : kept f w = true) : kept f' w = true := by
  have t := told_in ne hn ok
  cases w with
  | sum ws l => exact within_in t.1 t.2 h
  | most ns l => exact within_in t.1 t.2 h
  | over ws l =>
    have h : (triE (addE (ws.map (lowE f))) (addE (ws.map (highE f))) l).isSome = true := h
    show (triE (addE (ws.map (lowE f'))) (addE (ws.map (highE f'))) l).isSome = true
    rcases (show _ ∨ _ from t) with q | q
    · rw [q] at h; cases h
    · rw [q]; exact h
  | count ns l =>
    obtain ⟨t1, t2⟩ := t
    have h : decide (some (((ns.filter fun n => geE l (f n).1).length : Nat) : Int) = some (((ns.filter fun n => geU l (f n).2).length : Nat) : Int)) = true := h
    have h := Option.some.inj (of_decide_eq_true h)
    have m : (ns.filter fun n => geE l (f' n).1).length ≤ (ns.filter fun n => geU l (f' n).2).length := filter_le fun n m => ge_most (ok n m)
    show decide (some (((ns.filter fun n => geE l (f' n).1).length : Nat) : Int) = some (((ns.filter fun n => geU l (f' n).2).length : Nat) : Int)) = true
    have t1 := Int.ofNat_le.mp t1
    have t2 := Int.ofNat_le.mp t2
    have h := Int.ofNat.inj h
    exact decide_eq_true (congrArg some (congrArg Int.ofNat (by omega)))
/-! ### single numbers -/
def Wt.slk : Wt → Prop
  | .sum _ l => 0 ≤ l
  | .most _ l => 0 ≤ l
  | _ => True
def ptE (g : Str → Int) : EF := fun x => (some (g x), some (g x))
theorem addE_some {α : Type} (g : α → Int) (ws : List α) : addE (ws.map fun e => some (g e)) = some ((ws.map g).sum) := by
  induction ws with
  | nil => rfl
  | cons e r ih => rw [List.map_cons, addE_cons, ih, List.map_cons, List.sum_cons]; rfl
theorem ends_pt (g : Str → Int) (e : Str × Int) : lowE (ptE g) e = some (e.2 * g e.1) ∧ highE (ptE g) e = some (e.2 * g e.1) := by
  unfold lowE highE ptE
  constructor <;> (split <;> rfl)
theorem pres_some {α : Type} (g : α → Int) (ns : List α) : pres (ns.map fun n => some (g n)) = ns.map g := by
  induction ns with
  | nil => rfl
  | cons n r ih => rw [List.map_cons, List.map_cons, ← ih]; rfl
theorem max_some {ns : List Int} (h : ns ≠ []) : ∃ m, maxO ns = some m := by
  cases e : maxO ns with
  | none => exact absurd (maxO_none e) h
  | some m => exact ⟨m, rfl⟩
theorem kept_pt {g : Str → Int} {w : Wt} (ne : w.names ≠ []) (hs : w.slk) : kept (ptE g) w = true := by
  cases w with
  | sum ws l =>
    have e1 : ws.map (lowE (ptE g)) = ws.map fun e => some (e.2 * g e.1) := List.map_congr_left fun e _ => (ends_pt g e).1
    have e2 : ws.map (highE (ptE g)) = ws.map fun e => some (e.2 * g e.1) := List.map_congr_left fun e _ => (ends_pt g e).2
    show within (addE (ws.map (lowE (ptE g)))) (addE (ws.map (highE (ptE g)))) l = true
    rw [e1, e2, addE_some (fun e : Str × Int => e.2 * g e.1)]
    have hs : 0 ≤ l := hs
    exact decide_eq_true (by omega)
  | over ws l =>
    have e1 : ws.map (lowE (ptE g)) = ws.map fun e => some (e.2 * g e.1) := List.map_congr_left fun e _ => (ends_pt g e).1
    have e2 : ws.map (highE (ptE g)) = ws.map fun e => some (e.2 * g e.1) := List.map_congr_left fun e _ => (ends_pt g e).2
    show (triE (addE (ws.map (lowE (ptE g)))) (addE (ws.map (highE (ptE g)))) l).isSome = true
    rw [e1, e2, addE_some (fun e : Str × Int => e.2 * g e.1)]
    generalize (ws.map fun e : Str × Int => e.2 * g e.1).sum = z
    show (if l ≤ z then some true else if z < l then some false else none).isSome = true
    by_cases h : l ≤ z
    · rw [if_pos h]; rfl
    · rw [if_neg h, if_pos (by omega)]; rfl
  | most ns l =>
    have hs : 0 ≤ l := hs
    have e1 : (ns.map fun n => (ptE g n).1) = ns.map fun n => some (g n) := rfl
    have e2 : (ns.map fun n => (ptE g n).2) = ns.map fun n => some (g n) := rfl
    have ha : (ns.map fun n => some (g n)).all (·.isSome) = true := all_map.mpr fun n _ => ⟨_, rfl⟩
    show within (maxO (pres (ns.map fun n => (ptE g n).1))) (if (ns.map fun n => (ptE g n).2).all (·.isSome) = true then maxO (pres (ns.map fun n => (ptE g n).2)) else none) l = true
    rw [e1, e2, if_pos ha, pres_some g ns]
    obtain ⟨m, e⟩ := max_some (ns := ns.map g) (fun q => ne (List.map_eq_nil_iff.mp q))
    rw [e]
    exact decide_eq_true (by omega)
  | count ns l => exact decide_eq_true rfl
theorem kept_congr {f f' : EF} {w : Wt} (h : ∀ x ∈ w.names, f x = f' x) : told f w = told f' w ∧ kept f w = kept f' w := by
  have t : told f w = told f' w := by
    cases w with
    | sum ws l =>
      have e1 : ws.map (lowE f) = ws.map (lowE f') := List.map_congr_left fun e m => by unfold lowE; rw [h e.1 (List.mem_map_of_mem m)]
      have e2 : ws.map (highE f) = ws.map (highE f') := List.map_congr_left fun e m => by unfold highE; rw [h e.1 (List.mem_map_of_mem m)]
      show Told.pair _ _ = Told.pair _ _
      rw [e1, e2]
    | over ws l =>
      have e1 : ws.map (lowE f) = ws.map (lowE f') := List.map_congr_left fun e m => by unfold lowE; rw [h e.1 (List.mem_map_of_mem m)]
      have e2 : ws.map (highE f) = ws.map (highE f') := List.map_congr_left fun e m => by unfold highE; rw [h e.1 (List.mem_map_of_mem m)]
      show Told.tri _ = Told.tri _
      rw [e1, e2]
    | most ns l =>
      have e1 : (ns.map fun n => (f n).1) = ns.map fun n => (f' n).1 := List.map_congr_left fun e m => by rw [h e m]
      have e2 : (ns.map fun n => (f n).2) = ns.map fun n => (f' n).2 := List.map_congr_left fun e m => by rw [h e m]
      show Told.pair _ _ = Told.pair _ _
      rw [e1, e2]
    | count ns l =>
      have e1 : (ns.filter fun n => geE l (f n).1) = ns.filter fun n => geE l (f' n).1 := List.filter_congr fun e m => by rw [h e m]
      have e2 : (ns.filter fun n => geU l (f n).2) = ns.filter fun n => geU l (f' n).2 := List.filter_congr fun e m => by rw [h e m]
      show Told.pair _ _ = Told.pair _ _
      rw [e1, e2]
  refine ⟨t, ?_⟩
  cases w <;> (unfold kept; rw [t])
end Sil
set_option Elab.async false
set_option linter.all false
set_option maxRecDepth 100000
set_option maxHeartbeats 1000000
/-! P20: what stays where lists change; pairs as targets; bands cut. -/
namespace Sil
open PySem L2 PySem.Spec PyProof.Rows
/-- all but lists stays -/
def NKeep (H H' : Hp) : Prop := ∀ p o, H p = some o → (∀ xs, o ≠ .lst xs) → H' p = some o
theorem NKeep.same {H H' : Hp} (s : Same H H') : NKeep H H' := fun p o e _ => s p o e
theorem NKeep.step {b : Addr} {H H' : Hp} (hb : Bag H b) (s : Step b H H') : NKeep H H' := fun p o e n => s.at e (bag_ne hb e n)
theorem NKeep.trans {H H1 H2 : Hp} (a : NKeep H H1) (b : NKeep H1 H2) : NKeep H H2 := fun p o e n => b p o (a p o e n) n
theorem NKeep.upd {H : Hp} {c : Addr} {xs ys : List V} (h : H c = some (.lst xs)) : NKeep H (upd H c (.lst ys)) := fun p o e n => by
  rw [upd_ne (ne_of e h (n xs))]; exact e
theorem NKeep.tup {H H' : Hp} (k : NKeep H H') {p : Addr} {xs : List V} (h : H p = some (.tup xs)) : H' p = some (.tup xs) := k p _ h fun _ q => nomatch q
theorem NKeep.dk {H H' : Hp} (k : NKeep H H') {p : Addr} {xs : List (L2.Key × V)} (h : H p = some (.dK xs)) : H' p = some (.dK xs) := k p _ h fun _ q => nomatch q
theorem NKeep.ins {H H' : Hp} (k : NKeep H H') {p C dx : Addr} {fs : List (Str × V)} (h : H p = some (.ins C dx fs)) : H' p = some (.ins C dx fs) := k p _ h fun _ q => nomatch q
theorem NKeep.band {H H' : Hp} (k : NKeep H H') {C p : Addr} {lo hi : Option Int} : BandAt C H p lo hi → BandAt C H' p lo hi := fun ⟨dx, h⟩ => ⟨dx, k.ins h⟩
theorem NKeep.tk {H H' : Hp} (k : NKeep H H') : TKeep H H' := fun p xs h => k.tup h
theorem NKeep.bands {H H' : Hp} (k : NKeep H H') {C d : Addr} {f : EF} {ns : List (Str × V)} (h : BandsX C H d f ns) : BandsX C H' d f ns :=
  ⟨k.dk h.at_, fun e m => let ⟨q, e1, e2⟩ := h.band e m; ⟨q, e1, k.band e2⟩⟩
theorem NKeep.num {H H' : Hp} (k : NKeep H H') {d : Addr} {ns : List (Str × Int)} {xs : List Str} (h : NumAt H d ns xs) : NumAt H' d ns xs := ⟨k.dk h.at_, h.has⟩
theorem NumAt.stp {b d : Addr} {H H' : Hp} {ns : List (Str × Int)} {xs : List Str} (hb : Bag H b) (s : Step b H H') (h : NumAt H d ns xs) : NumAt H' d ns xs := (NKeep.step hb s).num h
/-- the target of a comprehension that draws is a pair of names -/
theorem turnB_pair {K : PySem.W.Frag} {b q : Addr} {tt : TT} {te : TE} {vs : List Nat} {σ : L2.St} {i j : Nat} {El : V → Hp → Prop} {v1 v2 : V} {G : Hp} (hq : G q = some (.tup [v1, v2]))
    (hw : wipe (((wipe σ vs).set i (some v1)).set j (some v2)) vs = wipe σ vs)
    (h : ∀ (R : V → Hp → Prop) (Ny : Hp → Prop), (∀ y G', Step b G G' → El y G' → R y G') → tt (((wipe σ vs).set i (some v1)).set j (some v2)) G fun c H3 => if c = true then te (((wipe σ vs).set i (some v1)).set j (some v2)) H3 R else Ny H3) :
    TurnB b (gTup K 2 (gCons (gName i) (gCons (gName j) gNil))) tt te vs σ El (.ref q) G := fun R Ny k =>
  w_gtup (SqT.at hq) rfl (w_gcons (w_name (w_gcons (w_name (w_gnil ⟨hw, h R Ny k⟩)))))
/-! ### dicts of any values -/
theorem put_gen {ns : List (Str × V)} {x : Str} {v : V} (h : x ∈ ns.map (·.1)) : ∃ ns', putK (genKv ns) (.inr x) v = genKv ns' ∧ ns'.map (·.1) = ns.map (·.1) ∧ ∀ e ∈ ns', (e.1 ≠ x ∧ e ∈ ns) ∨ (e.1 = x ∧ e.2 = v) := by
  refine ⟨ns.map fun p => if p.1 = x then (p.1, v) else p, ?_, ?_, ?_⟩
  · unfold putK
    rw [if_pos]
    · unfold genKv
      rw [List.map_map, List.map_map]
      apply List.map_congr_left
      intro p m
      by_cases q : p.1 = x
      · simp [q]
      · have : ¬ (Sum.inr p.1 : L2.Key) = Sum.inr x := fun z => q (by injection z)
        simp [q]
    · rw [List.any_eq_true]
      obtain ⟨p, m, rfl⟩ := List.mem_map.mp h
      exact ⟨(.inr p.1, p.2), List.mem_map.mpr ⟨p, m, rfl⟩, decide_eq_true rfl⟩
  · rw [List.map_map]
    apply List.map_congr_left
    intro p m
    show (if p.1 = x then (p.1, v) else p).1 = p.1
    split <;> rfl
  · intro e m
    obtain ⟨p, mp, rfl⟩ := List.mem_map.mp m
    by_cases q : p.1 = x
    · rw [if_pos q]; exact .inr ⟨q, rfl⟩
    · rw [if_neg q]; exact .inl ⟨q, mp⟩
theorem nodup_snd {α β : Type} : ∀ {ws : List (α × β)} {e e' : α × β}, (ws.map (·.1)).Nodup → e ∈ ws → e' ∈ ws → e.1 = e'.1 → e = e'
  | [], _, _, _, h, _, _ => nomatch h
  | w :: r, e, e', nd, h, h', q => by
    rw [List.map_cons, List.nodup_cons] at nd
    rcases List.mem_cons.mp h with rfl | m
    · rcases List.mem_cons.mp h' with rfl | m'
      · rfl
      · exact absurd (List.mem_map.mpr ⟨e', m', q.symm⟩) nd.1
    · rcases List.mem_cons.mp h' with rfl | m'
      · exact absurd (List.mem_map.mpr ⟨e, m, q⟩) nd.1
      · exact nodup_snd nd.2 m m' q
/-- the ends of names as a function -/
theorem ends_fn {H : Hp} {ws : List (Str × V)} (nd : (ws.map (·.1)).Nodup) (h : ∀ e ∈ ws, EndsV e.1 e.2 H) :
    ∃ f : EF, ∀ e ∈ ws, ∃ q, e.2 = .ref q ∧ H q = some (.tup [eV (f e.1).1, eV (f e.1).2]) ∧ Small (f e.1).1 ∧ Small (f e.1).2 ∧ atMost (f e.1).1 (f e.1).2 = true := by
  have hx : ∀ x : Str, ∃ p : Option Int × Option Int, ∀ e ∈ ws, e.1 = x → ∃ q, e.2 = .ref q ∧ H q = some (.tup [eV p.1, eV p.2]) ∧ Small p.1 ∧ Small p.2 ∧ atMost p.1 p.2 = true := fun x => by
    by_cases m : ∃ e ∈ ws, e.1 = x
    · obtain ⟨e, me, ex⟩ := m
      obtain ⟨q, lo, hi, e1, e2, e3, e4, e5⟩ := h e me
      refine ⟨(lo, hi), fun e' me' ex' => ?_⟩
      have : e' = e := nodup_snd nd me' me (ex'.trans ex.symm)
      subst this
      exact ⟨q, e1, e2, e3, e4, e5⟩
    · exact ⟨(none, none), fun e me ex => absurd ⟨e, me, ex⟩ m⟩
  obtain ⟨f, hf⟩ := Classical.axiomOfChoice hx
  exact ⟨f, fun e me => hf e.1 e me rfl⟩
theorem gen_num {ws : List (Str × V)} {g : Str → Int} {xs : List Str} (h1 : ws.map (·.1) = xs) (h2 : ∀ e ∈ ws, e.2 = .int (g e.1)) : genKv ws = numKv (xs.map fun x => (x, g x)) := by
  subst h1
  unfold genKv numKv
  rw [List.map_map, List.map_map]
  apply List.map_congr_left
  intro e m
  show ((Sum.inr e.1 : L2.Key), e.2) = (.inr e.1, .int (g e.1))
  rw [h2 e m]
theorem num_fn {g : Str → Int} {xs : List Str} {x : Str} (h : x ∈ xs) : num (xs.map fun x => (x, g x)) x = g x := by
  have m := num_mem (ns := xs.map fun x => (x, g x)) (x := x) (by rw [List.map_map]; exact List.mem_map.mpr ⟨x, h, rfl⟩)
  obtain ⟨y, _, e⟩ := List.mem_map.mp m
  injection e with e1 e2
  subst e1
  exact e2.symm
/-! ### cuts -/
def HasI (e : Option Int × Option Int) (i : Int) : Prop := LoLe e.1 (some i) ∧ HiLe e.2 (some i)
theorem HasI.most {e : Option Int × Option Int} {i : Int} (h : HasI e i) : atMost e.1 e.2 = true := most_of fun a b e1 e2 => by
  obtain ⟨h1, h2⟩ := h
  rw [e1] at h1
  rw [e2] at h2
  exact Int.le_trans h1 h2
def cutE (a b : Option Int × Option Int) : Option Int × Option Int := (maxE a.1 b.1, minE a.2 b.2)
theorem HasI.cut {a b : Option Int × Option Int} {i : Int} (h : HasI a i) (k : HasI b i) : HasI (cutE a b) i := by
  obtain ⟨a1, a2⟩ := a
  obtain ⟨b1, b2⟩ := b
  obtain ⟨h1, h2⟩ := h
  obtain ⟨k1, k2⟩ := k
  refine ⟨?_, ?_⟩
  · cases a1 with
    | none => exact k1
    | some x =>
      cases b1 with
      | none => exact h1
      | some y =>
        have h1 : x ≤ i := h1
        have k1 : y ≤ i := k1
        show max x y ≤ i
        omega
  · cases a2 with
    | none => exact k2
    | some x =>
      cases b2 with
      | none => exact h2
      | some y =>
        have h2 : i ≤ x := h2
        have k2 : i ≤ y := k2
        show i ≤ min x y
        omega
theorem cut_nar (a b : Option Int × Option Int) : LoLe a.1 (cutE a b).1 ∧ HiLe a.2 (cutE a b).2 := by
  obtain ⟨a1, a2⟩ := a
  obtain ⟨b1, b2⟩ := b
  refine ⟨?_, ?_⟩
  · cases a1 with
    | none => trivial
    | some x =>
      cases b1 with
      | none => exact Int.le_refl x
      | some y => show x ≤ max x y; omega
  · cases a2 with
    | none => trivial
    | some x =>
      cases b2 with
      | none => exact Int.le_refl x
      | some y => show min x y ≤ x; omega
theorem maxE_comm (a b c : Option Int) : maxE (maxE a b) c = maxE (maxE a c) b := by
  cases a <;> cases b <;> cases c <;> simp only [maxE] <;> (try rfl) <;> (congr 1; omega)
theorem minE_comm (a b c : Option Int) : minE (minE a b) c = minE (minE a c) b := by
  cases a <;> cases b <;> cases c <;> simp only [minE] <;> (try rfl) <;> (congr 1; omega)
theorem cutE_comm (a b c : Option Int × Option Int) : cutE (cutE a b) c = cutE (cutE a c) b := by
  unfold cutE
  rw [maxE_comm, minE_comm]
abbrev Cut := Str × (Option Int × Option Int)
def cutF (f : EF) (c : Cut) : EF := fun x => if x = c.1 then cutE (f x) c.2 else f x
theorem cutF_comm (f : EF) (a b : Cut) : cutF (cutF f a) b = cutF (cutF f b) a := by
  funext x
  unfold cutF
  by_cases h1 : x = a.1 <;> by_cases h2 : x = b.1
  · simp only [if_pos h1, if_pos h2, cutE_comm]
  · simp only [if_pos h1, if_neg h2]
  · simp only [if_neg h1, if_pos h2]
  · simp only [if_neg h1, if_neg h2]
theorem fold_comm (cs : List Cut) (f : EF) (c : Cut) : cs.foldl cutF (cutF f c) = cutF (cs.foldl cutF f) c := by
  induction cs generalizing f with
  | nil => rfl
  | cons d r ih => rw [List.foldl_cons, List.foldl_cons, cutF_comm, ih]
theorem fold_rev (cs : List Cut) (f : EF) : cs.reverse.foldl cutF f = cs.foldl cutF f := by
  induction cs generalizing f with
  | nil => rfl
  | cons d r ih => rw [List.reverse_cons, List.foldl_append, ih, List.foldl_cons, List.foldl_cons, List.foldl_nil, fold_comm]
theorem fold_has {g : Str → Int} : ∀ {cs : List Cut} {f : EF} {xs : List Str}, (∀ x ∈ xs, HasI (f x) (g x)) → (∀ c ∈ cs, HasI c.2 (g c.1)) → ∀ x ∈ xs, HasI (cs.foldl cutF f x) (g x)
  | [], f, xs, h, _, x, m => h x m
  | c :: r, f, xs, h, k, x, m => by
    refine fold_has (cs := r) (f := cutF f c) (xs := xs) (fun y my => ?_) (fun d md => k d (List.mem_cons_of_mem _ md)) x m
    unfold cutF
    by_cases hq : y = c.1
    · rw [if_pos hq]
      refine (h y my).cut ?_
      rw [hq]
      exact k c List.mem_cons_self
    · rw [if_neg hq]; exact h y my
theorem fold_nar : ∀ {cs : List Cut} {f : EF} {xs : List Str}, Nar (cs.foldl cutF f) f xs
  | [], f, xs => Nar.refl f xs
  | c :: r, f, xs => (fold_nar (cs := r) (f := cutF f c)).trans fun x m => by
    unfold cutF
    by_cases hq : x = c.1
    · rw [if_pos hq]; exact cut_nar _ _
    · rw [if_neg hq]; exact ⟨.refl _, .refl _⟩
def ptOf : Option Int × Option Int → Int
  | (some i, _) => i
  | (none, some j) => j
  | (none, none) => 0
theorem pt_has {e : Option Int × Option Int} (h : atMost e.1 e.2 = true) : HasI e (ptOf e) := by
  obtain ⟨lo, hi⟩ := e
  cases lo with
  | none =>
    cases hi with
    | none => exact ⟨trivial, trivial⟩
    | some j => exact ⟨trivial, Int.le_refl j⟩
  | some i =>
    cases hi with
    | none => exact ⟨Int.le_refl i, trivial⟩
    | some j =>
      have h : decide (i ≤ j) = true := h
      exact ⟨Int.le_refl i, (of_decide_eq_true h : i ≤ j)⟩
theorem pt_nar {g : Str → Int} {f : EF} {xs : List Str} (h : ∀ x ∈ xs, HasI (f x) (g x)) : Nar (ptE g) f xs := fun x m => h x m
/-- a cut: a name and a band -/
def CutAt (C : Addr) (H : Hp) (q : Addr) (e : Cut) : Prop := ∃ p, H q = some (.tup [.str e.1, .ref p]) ∧ BandAt C H p e.2.1 e.2.2
theorem CutAt.keep {C q : Addr} {H H' : Hp} {e : Cut} (k : NKeep H H') : CutAt C H q e → CutAt C H' q e := fun ⟨p, h1, h2⟩ => ⟨p, k.tup h1, k.band h2⟩
theorem cuts_keep {C : Addr} {H H' : Hp} (k : NKeep H H') : ∀ {ps : List Addr} {cs : List Cut}, Paired (CutAt C H) ps cs → Paired (CutAt C H') ps cs
  | _, _, .nil => .nil
  | _, _, .cons h r => .cons (h.keep k) (cuts_keep k r)
theorem paired_get {α β : Type} {R : α → β → Prop} : ∀ {ps : List α} {cs : List β} (_ : Paired R ps cs) {i : Nat} {p : α}, ps[i]? = some p → ∃ c, cs[i]? = some c ∧ R p c
  | _, _, .nil, i, p, h => by cases h
  | _, _, .cons (b := c) h r, 0, p, hi => by cases hi; exact ⟨c, rfl, h⟩
  | _, _, .cons h r, i + 1, p, hi => paired_get r hi
theorem paired_app {α β : Type} {R : α → β → Prop} : ∀ {ps qs : List α} {cs ds : List β}, Paired R ps cs → Paired R qs ds → Paired R (ps ++ qs) (cs ++ ds)
  | _, _, _, _, .nil, k => k
  | _, _, _, _, .cons h r, k => .cons h (paired_app r k)
theorem paired_rev {α β : Type} {R : α → β → Prop} : ∀ {ps : List α} {cs : List β}, Paired R ps cs → Paired R ps.reverse cs.reverse
  | _, _, .nil => .nil
  | _, _, .cons h r => by
    rw [List.reverse_cons, List.reverse_cons]
    exact paired_app (paired_rev r) (.cons h .nil)
theorem HasI.tiny {e : Option Int × Option Int} (h1 : Small e.1) (h2 : Small e.2) : (ptOf e).natAbs < 2 ^ 200 := by
  obtain ⟨lo, hi⟩ := e
  cases lo with
  | none =>
    cases hi with
    | none => decide
    | some j => exact h2 j rfl
  | some i => exact h1 i rfl
/-! ### xs[::-1] -/
def kRevL (K : PySem.W.Frag) (x : V) (H1 : Hp) (Q : VK) : Prop := ∃ a xs, x = .ref a ∧ SqL K H1 a xs ∧ ∀ p, H1 p = none → Q (.ref p) (upd H1 p (.lst xs.reverse))
theorem pe_revLK {X : Cx} (K : PySem.W.Frag) {e : Expr} {te : TE} {k : Nat} {p1 p2 p3 pos : Pos} (he : PE X e te) (h : X.K = K := by rfl) : PE X (.Subscript e (.Slice none none (some (.UnaryOp .USub (.Constant (.int 1) k p1) p2)) p3) pos) (tRevL K te) := by
  subst h; exact pe_revL he
theorem w_revL {K : PySem.W.Frag} {te : TE} {σ : L2.St} {H : Hp} {Q : VK} (k : te σ H fun x H1 => kRevL K x H1 Q) : tRevL K te σ H Q := k
theorem k_revL {K : PySem.W.Frag} {H : Hp} {Q : VK} {a : Addr} {xs : List V} (h : SqL K H a xs) (k : ∀ p H', H p = none → Same H H' → H' p = some (.lst xs.reverse) → Q (.ref p) H') : kRevL K (.ref a) H Q :=
  ⟨a, xs, rfl, h, fun p np => k p _ np (same_new np) upd_same⟩
/-! ### bands that are the same -/
def RBand (C : Addr) (a b : Addr) (H : Hp) : Prop := ∃ lo hi, BandAt C H a lo hi ∧ BandAt C H b lo hi
theorem mon_band (C : Addr) : Mon (DIns C (RBand C)) := mon_ins fun a b H H' e ⟨lo, hi, h1, h2⟩ => ⟨lo, hi, h1.mono e, h2.mono e⟩
theorem dband {C a b : Addr} {H : Hp} {lo hi : Option Int} (h1 : BandAt C H a lo hi) (h2 : BandAt C H b lo hi) : DIns C (RBand C) (.ref a) (.ref b) H :=
  let ⟨dx, e1⟩ := h1; let ⟨dy, e2⟩ := h2; ⟨a, b, dx, dy, _, _, rfl, rfl, e1, e2, lo, hi, ⟨dx, e1⟩, ⟨dy, e2⟩⟩
theorem fnOk_imp {P : Program} {w : World} {K : PySem.W.Frag} {mg : Str → Option Value} {base : Heap} {CX : CXT} {k : Nat} {f : Addr} {fd : FuncData} {ps : List Str} {sp sp' : Sp} (F : FnOk P w K mg base CX k f fd ps sp) (h : ∀ vs H Q E, sp' vs H Q E → sp vs H Q E) :
    FnOk P w K mg base CX k f fd ps sp' := ⟨fun vs H Q E q => F.len vs H Q E (h _ _ _ _ q), fun A o s H a us vs Q E r e b v q => F.run A o s H a us vs Q E r e b v (h _ _ _ _ q)⟩
/-- two dicts of bands with the same ends by the same names are the same -/
theorem ddict_bands {C a b : Addr} {H : Hp} {f : EF} {ns ms : List (Str × V)} (hne : a ≠ b) (h1 : BandsX C H a f ns) (h2 : BandsX C H b f ms) (hl : ns.map (·.1) = ms.map (·.1)) : DDict (DIns C (RBand C)) (.ref a) (.ref b) H := by
  refine ⟨a, b, _, _, rfl, rfl, hne, h1.at_, h2.at_, ?_, fun p m => ?_⟩
  · have := congrArg List.length hl
    unfold genKv
    rw [List.length_map, List.length_map] at *
    exact this
  · unfold genKv at m
    obtain ⟨e, me, rfl⟩ := List.mem_map.mp m
    obtain ⟨v, ev, mv⟩ := gen_val (ws := ms) (x := e.1) (by rw [← hl]; exact List.mem_map_of_mem me)
    obtain ⟨q, e1, b1⟩ := h1.band e me
    obtain ⟨q2, e2, b2⟩ := h2.band _ mv
    refine ⟨v, ev, fun H' lk => ?_⟩
    dsimp only at e2 b2 ⊢
    rw [e1, e2]
    exact dband (lk.band b1) (lk.band b2)
end Sil
set_option Elab.async false
set_option linter.all false
set_option maxRecDepth 100000
set_option maxHeartbeats 3200000
/-! P23: len(set(xs)) of numbers or of truths. -/
namespace Sil
open PySem PySem.Spec PyProof.Rows
section
variable {κ : Type} [DecidableEq κ]
def stepD (σ : List κ) (v : κ) : List κ := if v ∈ σ then σ else σ ++ [v]
def nubTo (val : Nat → κ) (i : Nat) : List κ := ((List.range i).map val).foldl stepD []
theorem nubTo_succ (val : Nat → κ) (i : Nat) : nubTo val (i + 1) = stepD (nubTo val i) (val i) := by
  unfold nubTo; rw [List.range_succ, List.map_append, List.foldl_append]; rfl
theorem nubTo_le (val : Nat → κ) : ∀ i, (nubTo val i).length ≤ i
  | 0 => Nat.le_refl _
  | i + 1 => by
    rw [nubTo_succ]; unfold stepD
    have ih := nubTo_le val i
    split
    · omega
    · rw [List.length_append, List.length_singleton]; omega
theorem nubTo_mem (val : Nat → κ) (k : κ) : ∀ i, k ∈ nubTo val i ↔ ∃ j, j < i ∧ val j = k
  | 0 => ⟨fun h => (by cases h), fun h => (by obtain ⟨j, h, _⟩ := h; exact absurd h (Nat.not_lt_zero _))⟩
  | i + 1 => by
    have ih := nubTo_mem val k i
    have e : k ∈ nubTo val (i + 1) ↔ k ∈ nubTo val i ∨ k = val i := by
      rw [nubTo_succ]; unfold stepD
      split
      · rename_i h
        refine ⟨.inl, fun q => q.elim id fun q => by rw [q]; exact h⟩
      · rw [List.mem_append, List.mem_singleton]
    rw [e, ih]
    refine ⟨fun q => ?_, fun ⟨j, hj, ej⟩ => ?_⟩
    · rcases q with ⟨j, hj, ej⟩ | q
      · exact ⟨j, Nat.lt_succ_of_lt hj, ej⟩
      · exact ⟨i, Nat.lt_succ_self _, q.symm⟩
    · rcases Nat.lt_succ_iff_lt_or_eq.mp hj with q | q
      · exact .inl ⟨j, q, ej⟩
      · subst q; exact .inr ej.symm
theorem nubTo_nodup (val : Nat → κ) : ∀ i, (nubTo val i).Nodup
  | 0 => List.nodup_nil
  | i + 1 => by
    rw [nubTo_succ]; unfold stepD
    have ih := nubTo_nodup val i
    split
    · exact ih
    · rename_i h
      rw [List.nodup_append]
      exact ⟨ih, by simp, fun a ha b hb e => by rw [List.mem_singleton] at hb; subst hb; subst e; exact h ha⟩
end
section
variable {prog : Program} {w : World} {κ : Type} [DecidableEq κ] {knd : KeyKind prog w κ}
theorem setOf_congr {h : Heap} {a : Addr} {S S' : κ → Bool} {n n' : Nat} (hS : h.SetOf knd a S n) (e : ∀ k, S k = S' k) (en : n = n') : h.SetOf knd a S' n' := by
  have : S = S' := funext e
  subst this en; exact hS
variable {A : Around} {R : Result → Shared → Prop} {I : Addr} {fp wr : List Addr} {G : Array GenState → Array GenState → Prop} {n : Nat} {P : Nat → Value → Prop} {St : Nat → Shared → Prop}
theorem set_goes (W : WalksS prog w A.in1 I fp wr G n P St) (S : Addr) (hSf : S ∉ fp) (val : Nat → κ) (hval : ∀ i v, P i v → knd.is (val i) v = true ∧ v.scannable = true) (hb : n + 1 < scanBound) :
    ∀ (k i : Nat) (s : Shared), n - i = k → i ≤ n → St i s → s.heap.SetOf knd S (fun z => decide (z ∈ nubTo val i)) (nubTo val i).length →
      (∀ s', Moved (S :: wr) G s s' → s'.heap.SetOf knd S (fun z => decide (z ∈ nubTo val n)) (nubTo val n).length → R (.ok (.ret .none)) s') →
      codeAny (model prog w) A (.builtin "set.update.loop" ⟨[.ref S, .ref I], []⟩) R s := by
  have hSw : S ∉ wr := fun h => hSf (W.sub _ h)
  have up : ∀ b ∈ wr, b ∈ S :: wr := fun b m => List.mem_cons_of_mem _ m
  intro k
  induction k with
  | zero =>
    intro i s hk hi st hS hR
    have en : i = n := by omega
    subst en
    refine codeAny_builtin PyProof.Rows.F.entry_set_update_loop ?_
    rw [Around.under_plainId PyProof.Rows.F.plain_set_update_loop _]
    show wpAny _ A.in1 (pyNext (.ref I) >>= _) _ _ s
    refine wpAny_bind (W.done s _ _ st fun s' hm => wpAny_pure (hR s' (hm.mono up) ?_))
    obtain ⟨o, es, ep, t, ho, rest⟩ := hS
    exact ⟨o, es, ep, t, hm.heap S _ hSw ho, rest⟩
  | succ k ih =>
    intro i s hk hi st hS hR
    have lt : i < n := by omega
    refine codeAny_builtin PyProof.Rows.F.entry_set_update_loop ?_
    rw [Around.under_plainId PyProof.Rows.F.plain_set_update_loop _]
    show wpAny _ A.in1 (pyNext (.ref I) >>= _) _ _ s
    refine wpAny_bind (W.item i s _ _ lt st fun v s' hP st' hm => ?_)
    obtain ⟨hv, hsc⟩ := hval i v hP
    have hS' : s'.heap.SetOf knd S (fun z => decide (z ∈ nubTo val i)) (nubTo val i).length := by
      obtain ⟨o, es, ep, tb, ho, rest⟩ := hS
      exact ⟨o, es, ep, tb, hm.heap S _ hSw ho, rest⟩
    show wpAny _ A.in1 (holding [v] (setAdd S v) >>= _) _ _ s'
    refine wpAny_bind (wpAny_holding ?_)
    unfold setAdd
    refine wpAny_holding (wpAny_bind (knd.pyHash (k := val i) hv ?_))
    have room : (nubTo val i).length + 1 < scanBound := by have := nubTo_le val i; omega
    refine wpAny_setAddHashed_of (knd := knd) (s := { s' with toks := s'.toks + 1 }) hv hsc hS' room fun h' hsb hS2 => ?_
    have hSi : h'.SetOf knd S (fun z => decide (z ∈ nubTo val (i + 1))) (nubTo val (i + 1)).length := by
      refine setOf_congr hS2 (fun z => ?_) ?_
      · rw [nubTo_succ]
        unfold stepD
        by_cases q : val i ∈ nubTo val i
        · rw [if_pos q]
          by_cases e : z = val i
          · subst e; simp [q]
          · simp [e]
        · rw [if_neg q]
          simp
      · rw [nubTo_succ]
        unfold stepD
        by_cases q : val i ∈ nubTo val i
        · rw [if_pos q, if_pos (by simpa using q)]
        · rw [if_neg q, if_neg (by simpa using q), List.length_append]; rfl
    refine wpAny_pure ⟨plainId_quiet PyProof.Rows.F.plain_set_update_loop _, ih (i + 1) _ (by omega) lt (W.frame _ s' _ _ st' (Nat.le_succ _) fun b m o e => ?_) hSi fun s2 hm2 hS3 => ?_⟩
    · rw [hsb.2 b (fun h : b = S => hSf (by rw [← h]; exact m))]; exact e
    · refine hR s2 (Moved.trans W.gtrans ((hm.mono up).then_heap (Nat.le_succ _) fun b o m e => ?_) hm2) hS3
      rw [hsb.2 b (fun h : b = S => m (by rw [h]; exact List.mem_cons_self))]; exact e
end
section
variable {prog : Program} {w : World} {κ : Type} [DecidableEq κ] {knd : KeyKind prog w κ} {A : Around} {E : Value → Shared → Prop} {s : Shared}
theorem set_of_list {l : Addr} {items : Array Value} {val : Nat → κ} {Q : Value → Shared → Prop} (hh : A.handled = none) (hl : s.heap.IsList l items) (hval : ∀ i v, items[i]? = some v → knd.is (val i) v = true ∧ v.scannable = true) (hb : items.size + 1 < scanBound)
    (h : ∀ (h' : Heap) (tk : Nat), h'.SetOf knd s.heap.objs.size (fun z => decide (z ∈ nubTo val items.size)) (nubTo val items.size).length →
      (∀ b o, b < s.heap.objs.size → s.heap.get? b = some o → h'.get? b = some o) → Q (.ref s.heap.objs.size) { s with heap := h', toks := tk }) :
    wpAny (model prog w) A (call (.type "set") [.ref l]) Q E s := by
  obtain ⟨c, tl, hmro⟩ := PySem.F.called_set.mro
  have hmade := PySem.F.called_set.made
  have hsub := PySem.F.called_set.sub
  refine wpAny_call (codeAny_of_tree ?_)
  show wpAny _ _ (callAny (.type "set") _) _ _ _
  refine wpAny_pure ⟨Code.quiet_builtin _ (by decide +kernel), codeAny_builtin PySem.F.entry_type_call ?_⟩
  rw [Around.under_plain (weight_type_call_type "set" [.ref l] []) rfl]
  have h1 := PySem.F.called_set.notType
  have h2 := PySem.F.called_set.canCreate
  have hct := PySem.F.typeCall_set_1 (.ref l)
  repeat (any_goals (first | assumption | wp_step))
  refine codeAny_mono (code_set_new_1 (.ref l) (E := E) (Q₁ := fun obj s₁ => ∃ led : Bool, obj = .ref s.heap.objs.size ∧ s₁ = { s with heap := s.heap.push { cls := .type "set", dict := none, data := .set #[] 0 (.fresh 0 0 led) } }) fun led => ⟨led, rfl, rfl⟩) fun r s₁ hr => ?_
  cases r with
  | error e => exact hr
  | ok fl =>
    cases fl with
    | ret obj =>
      obtain ⟨led, rfl, rfl⟩ := hr
      have hS : (s.heap.push { cls := .type "set", dict := none, data := .set #[] 0 (.fresh 0 0 led) }).get? s.heap.objs.size = some { cls := .type "set", dict := none, data := .set #[] 0 (.fresh 0 0 led) } := Heap.get?_push_size _ rfl
      have hT : Shared.TypeIs { s with heap := s.heap.push { cls := .type "set", dict := none, data := .set #[] 0 (.fresh 0 0 led) } } (.ref s.heap.objs.size) "set" := ⟨_, hS, rfl⟩
      have hli := PySem.F.called_set.init.lookup
      have hbi := PySem.F.called_set.init.bind (.ref s.heap.objs.size)
      repeat (any_goals (first | assumption | wp_step))
      refine codeAny_mono (codeAny_call_builtin (R := wants (fun r s₂ => r = .none ∧ ∃ h' tk, s₂ = { s with heap := h', toks := tk } ∧
          h'.SetOf knd s.heap.objs.size (fun z => decide (z ∈ nubTo val items.size)) (nubTo val items.size).length ∧
          (∀ b o, b < s.heap.objs.size → s.heap.get? b = some o → h'.get? b = some o)) E) PySem.F.called_set.init.plain PySem.F.entry_set_init (check_set_init_1 hT ?_)) fun r₂ s₂ hr₂ => ?_
      · obtain ⟨⟨ocls, odict, odata, oslots⟩, hol, hcl, nl, hdl⟩ := hl
        simp only at hcl hdl
        subst hcl hdl
        have hol' : (s.heap.push { cls := .type "set", dict := none, data := .set #[] 0 (.fresh 0 0 led) }).get? l = some { cls := .type "list", dict := odict, data := .seq items nl, slots := oslots } := Heap.get?_push_of_some _ hol
        have hsls := PySem.F.sub_list_set
        have hslf := PySem.F.sub_list_frozenset
        have hne : (Value.type "list" == Value.type "dict") = false := by decide
        have hl1 : (s.heap.push { cls := .type "set", dict := none, data := .set #[] 0 (.fresh 0 0 led) }).IsList l items := ⟨_, hol', rfl, nl, rfl⟩
        unfold Builtin.«set.__init__» noKeywords Builtin.Frozenset.updateFrom
        generalize hPI : pyIter = PI
        wp_walk
        subst hPI
        refine wpAny_pyIter_list hl1 ?_
        refine wpAny_bind (wpAny_runValue ?_)
        have hlS : l < s.heap.objs.size := Heap.lt_size hol
        have hh3 : A.in1.in1.in1.handled = none := by simp [hh]
        have hneI : l ≠ (s.heap.push { cls := .type "set", dict := none, data := .set #[] 0 (.fresh 0 0 led) }).objs.size := by rw [Heap.size_push]; exact Nat.ne_of_lt (Nat.lt_succ_of_lt hlS)
        have hSf : s.heap.objs.size ∉ [(s.heap.push { cls := .type "set", dict := none, data := .set #[] 0 (.fresh 0 0 led) }).objs.size, l] := by
          rw [Heap.size_push]
          intro m
          rcases List.mem_cons.mp m with q | q
          · exact absurd q (Nat.ne_of_lt (Nat.lt_succ_self _))
          · exact absurd (List.mem_singleton.mp q) (Nat.ne_of_gt hlS)
        refine set_goes (knd := knd) ((Walks.list hh3 _ l hneI items).toS) s.heap.objs.size hSf val hval hb (items.size - 0) 0 _ (by omega) (Nat.zero_le _) ⟨⟨_, Heap.get?_push_size _ rfl, rfl, rfl⟩, hl1.push _⟩ ?_ fun s' hm hS' => ?_
        · have hget : ((s.heap.push { cls := .type "set", dict := none, data := .set #[] 0 (.fresh 0 0 led) }).push { cls := .type "list_iterator", data := .fields #[.ref l, .int 0 0] }).get? s.heap.objs.size = some { cls := .type "set", dict := none, data := .set #[] 0 (.fresh 0 0 led) } := Heap.get?_push_of_some _ hS
          exact setOf_congr ((PyProof.Rows.setObjOf_fresh (knd := knd) led).setOf hget (by unfold scanBound; omega)) (fun z => by simp [nubTo]) rfl
        · obtain ⟨h', g', d', tk', os'⟩ := s'
          have eg : g' = s.gens := hm.gens
          have ed : d' = s.drawn := hm.drawn
          have eo : os' = s.os := hm.os
          subst eg ed eo
          show wpAny _ _ _ _ _ _
          refine wpAny_pure ?_
          show wpAny _ _ (ret Value.none) _ _ _
          refine wpAny_pure ⟨rfl, h', tk', rfl, hS', fun b o hb e => ?_⟩
          refine hm.heap b o (fun m => ?_) (Heap.get?_push_of_some _ (Heap.get?_push_of_some _ e))
          rcases List.mem_cons.mp m with q | q
          · exact absurd q (Nat.ne_of_lt hb)
          · rw [List.mem_singleton, Heap.size_push] at q
            exact absurd q (Nat.ne_of_lt (Nat.lt_succ_of_lt hb))
      · cases r₂ with
        | error e => exact hr₂
        | ok fl₂ =>
          cases fl₂ with
          | ret r =>
            obtain ⟨rfl, h', tk, rfl, hS', hk'⟩ := hr₂
            repeat (any_goals (first | assumption | wp_step))
            exact h _ _ hS' hk'
          | _ => exact hr₂.elim
    | _ => exact hr.elim
end
open L2
def kLenSet (K : PySem.W.Frag) (x : V) (H1 : Hp) (Q : VK) : Prop := ∃ l : Addr, x = .ref l ∧ ((∃ ns : List Int, SqL K H1 l (ns.map V.int) ∧ ns.length ≤ 4000 ∧ Q (.int ((nubTo (fun i => ns.getD i 0) ns.length).length : Nat)) H1) ∨
  ∃ bs : List Bool, SqL K H1 l (bs.map V.bl) ∧ bs.length ≤ 4000 ∧ Q (.int ((nubTo (fun i => bs.getD i false) bs.length).length : Nat)) H1)
def tLenSet (K : PySem.W.Frag) (ta : TE) : TE := fun σ H Q => ta σ H fun x H1 => kLenSet K x H1 Q
theorem w_lenSet {K : PySem.W.Frag} {ta : TE} {σ : L2.St} {H : Hp} {Q : VK} (k : ta σ H fun x H1 => kLenSet K x H1 Q) : tLenSet K ta σ H Q := k
theorem vals_getI : ∀ {ns : List Int} {us : List Value}, Vals (ns.map V.int) us → ∀ (i : Nat) (v : Value), us[i]? = some v → ∃ t, v = .int (ns.getD i 0) t
  | [], _, .nil, i, v, h => by cases h
  | n :: ns, _, .cons r t, 0, v, h => by cases h; obtain ⟨k, rfl⟩ := r; exact ⟨k, rfl⟩
  | n :: ns, _, .cons r t, i + 1, v, h => vals_getI t i v h
theorem vals_getB : ∀ {ns : List Bool} {us : List Value}, Vals (ns.map V.bl) us → ∀ (i : Nat) (v : Value), us[i]? = some v → v = .bool (ns.getD i false)
  | [], _, .nil, i, v, h => by cases h
  | n :: ns, _, .cons r t, 0, v, h => by cases h; cases r; rfl
  | n :: ns, _, .cons r t, i + 1, v, h => vals_getB t i v h
theorem pe_lenSetK {X : Cx} (K : PySem.W.Frag) {a : Expr} {ta : TE} {p p2 q pos : Pos} (hg : Gl X "len") (hm : X.mg "len" = none) (hg2 : Gl X "set") (hm2 : X.mg "set" = none) (ha : PE X a ta) (hc : X.calm = true := by rfl)
    (na : starEach [a] X.env = (false, eval a X.env) :: starEach [] X.env := by rfl) (hK : X.K = K := by rfl) : PE X (.Call (.Name "len" p) [.Call (.Name "set" p2) [a] [] q] [] pos) (tLenSet K ta) := by
  subst hK
  refine ⟨fun pins s σ H Q I h => ?_⟩
  refine Call_ (ld_blt I hg hm boot_len ?_)
  refine PyProof.Rows.callWith_builtin1 (PyProof.Rows.args_cons ?_ rfl) rfl rfl
  refine Call_ (ld_blt I hg2 hm2 boot_set ?_)
  refine PyProof.Rows.callWith_type1 (PyProof.Rows.args_cons (thn (ha.run pins s σ H _ I h) fun v s1 ⟨x, H1, I1, r1, q1⟩ => PyProof.Rows.args_nil ?_) na) na rfl
  obtain ⟨l, rfl, ⟨ns, hq, hl, q1⟩ | ⟨bs, hq, hl, q1⟩⟩ := q1
  · cases r1
    obtain ⟨its, r, pl, hz⟩ := I1.list hq
    have hlen : its.toArray.size = ns.length := by rw [List.size_toArray, ← r.length, List.length_map]
    refine set_of_list (knd := intKind X.prog X.w) (val := fun i => ns.getD i 0) (I1.ok.hd hc) pl.isList (fun i v e => ?_) (by rw [hlen]; unfold scanBound; omega) fun h' tk hS hk => ?_
    · obtain ⟨t, rfl⟩ := vals_getI r i v (by simpa using e)
      exact ⟨intKind_is _ _ _ _, rfl⟩
    refine PyProof.Rows.args_nil ?_
    rw [hlen] at hS
    obtain ⟨o, es, ep, t, ho, hex, hd, _, _, _, hf, hn⟩ := hS
    have I2 : Inv X pins σ H1 { s1 with heap := h', toks := tk } := I1.kept fun b o e => hk b o (Heap.lt_size e) e
    have := nubTo_le (fun i => ns.getD i 0) ns.length
    exact call_len_set ho hex hd hf (by rw [hn]; omega) ⟨.int _, H1, I2.tok _, ⟨_, by rw [hn]⟩, q1⟩
  · cases r1
    obtain ⟨its, r, pl, hz⟩ := I1.list hq
    have hlen : its.toArray.size = bs.length := by rw [List.size_toArray, ← r.length, List.length_map]
    refine set_of_list (knd := PpSet.boolK X.prog X.w) (val := fun i => bs.getD i false) (I1.ok.hd hc) pl.isList (fun i v e => ?_) (by rw [hlen]; unfold scanBound; omega) fun h' tk hS hk => ?_
    · obtain rfl := vals_getB r i v (by simpa using e)
      exact ⟨PpSet.boolK_is _ _ _, rfl⟩
    refine PyProof.Rows.args_nil ?_
    rw [hlen] at hS
    obtain ⟨o, es, ep, t, ho, hex, hd, _, _, _, hf, hn⟩ := hS
    have I2 : Inv X pins σ H1 { s1 with heap := h', toks := tk } := I1.kept fun b o e => hk b o (Heap.lt_size e) e
    have := nubTo_le (fun i => bs.getD i false) bs.length
    exact call_len_set ho hex hd hf (by rw [hn]; omega) ⟨.int _, H1, I2.tok _, ⟨_, by rw [hn]⟩, q1⟩
/-! ### how many -/
theorem getD_get {α : Type} {d : α} {xs : List α} {x : α} : (∃ j, j < xs.length ∧ xs.getD j d = x) ↔ x ∈ xs := by
  refine ⟨fun ⟨j, hj, e⟩ => ?_, fun m => ?_⟩
  · rw [← e, List.getD_eq_getElem?_getD, List.getElem?_eq_getElem hj]; exact List.getElem_mem _
  · obtain ⟨j, hj, e⟩ := List.mem_iff_getElem.mp m
    exact ⟨j, hj, by rw [List.getD_eq_getElem?_getD, List.getElem?_eq_getElem hj]; exact e⟩
def nDist {α : Type} [DecidableEq α] (d : α) (xs : List α) : Nat := (nubTo (fun i => xs.getD i d) xs.length).length
theorem nDist_one {α : Type} [DecidableEq α] {d : α} {xs : List α} : nDist d xs = 1 ↔ ∃ x ∈ xs, ∀ y ∈ xs, y = x := by
  unfold nDist
  have mem : ∀ k, k ∈ nubTo (fun i => xs.getD i d) xs.length ↔ k ∈ xs := fun k => (nubTo_mem _ k _).trans getD_get
  have nd := nubTo_nodup (fun i => xs.getD i d) xs.length
  generalize nubTo (fun i => xs.getD i d) xs.length = zs at *
  refine ⟨fun h => ?_, fun ⟨x, mx, hx⟩ => ?_⟩
  · match zs, h with
    | [x], _ => exact ⟨x, (mem x).mp (by simp), fun y my => by have := (mem y).mpr my; simpa using this⟩
  · match zs, mem, nd with
    | [], mem, _ => exact absurd ((mem x).mpr mx) (by simp)
    | [z], _, _ => rfl
    | a :: b :: r, mem, nd =>
      have ea := hx a ((mem a).mp (by simp))
      have eb := hx b ((mem b).mp (by simp))
      rw [ea, eb] at nd
      simp at nd
theorem nDist_two {xs : List Bool} : nDist false xs = 2 ↔ true ∈ xs ∧ false ∈ xs := by
  unfold nDist
  have mem : ∀ k, k ∈ nubTo (fun i => xs.getD i false) xs.length ↔ k ∈ xs := fun k => (nubTo_mem _ k _).trans getD_get
  have nd := nubTo_nodup (fun i => xs.getD i false) xs.length
  generalize nubTo (fun i => xs.getD i false) xs.length = zs at *
  rw [← mem true, ← mem false]
  match zs, nd with
  | [], _ => simp
  | [a], _ => cases a <;> simp
  | [a, b], nd => cases a <;> cases b <;> simp at nd ⊢
  | a :: b :: c :: r, nd => cases a <;> cases b <;> cases c <;> simp at nd
end Sil
set_option Elab.async false
set_option linter.all false
set_option maxRecDepth 100000
set_option maxHeartbeats 1000000
/-! P24: worths of all numbers of bands. -/
namespace Sil
open PySem L2 PySem.Spec PyProof.Rows
/-! ### worths as numbers -/
def worthI (g : Str → Int) : Wt → Int
  | .sum ws _ => total g ws
  | .over ws _ => total g ws
  | .most ns _ => (maxO (ns.map g)).getD 0
  | .count ns l => ((ns.filter fun n => decide (l ≤ g n)).length : Nat)
/-- the ends of what a watch's number can be -/
def ends (f : EF) : Wt → Option Int × Option Int
  | .sum ws _ => (addE (ws.map (lowE f)), addE (ws.map (highE f)))
  | .over ws _ => (addE (ws.map (lowE f)), addE (ws.map (highE f)))
  | .most ns _ => (maxO (pres (ns.map fun n => (f n).1)), topE (ns.map fun n => (f n).2))
  | .count ns l => (some ((ns.filter fun n => geE l (f n).1).length : Nat), some ((ns.filter fun n => geU l (f n).2).length : Nat))
theorem ends_in {f f' : EF} {w : Wt} (ne : w.names ≠ []) (hn : Nar f' f w.names) : LoLe (ends f w).1 (ends f' w).1 ∧ HiLe (ends f w).2 (ends f' w).2 := by
  cases w with
  | sum ws l => exact ⟨addE_lo fun e m => lowE_lo (hn e.1 (List.mem_map_of_mem m)), addE_hi fun e m => highE_hi (hn e.1 (List.mem_map_of_mem m))⟩
  | over ws l => exact ⟨addE_lo fun e m => lowE_lo (hn e.1 (List.mem_map_of_mem m)), addE_hi fun e m => highE_hi (hn e.1 (List.mem_map_of_mem m))⟩
  | most ns l => exact ⟨max_lo fun n m => (hn n m).1, top_hi (fun n m => (hn n m).2) ne⟩
  | count ns l => exact ⟨Int.ofNat_le.mpr (filter_le fun n m => geE_lo (hn n m).1), Int.ofNat_le.mpr (filter_le fun n m => geU_hi (hn n m).2)⟩
theorem ends_pt1 {g : Str → Int} {w : Wt} (ne : w.names ≠ []) : ends (ptE g) w = (some (worthI g w), some (worthI g w)) := by
  have sm : ∀ ws : List (Str × Int), addE (ws.map (lowE (ptE g))) = some (total g ws) ∧ addE (ws.map (highE (ptE g))) = some (total g ws) := fun ws => by
    have e1 : ws.map (lowE (ptE g)) = ws.map fun e => some (e.2 * g e.1) := List.map_congr_left fun e _ => (ends_pt g e).1
    have e2 : ws.map (highE (ptE g)) = ws.map fun e => some (e.2 * g e.1) := List.map_congr_left fun e _ => (ends_pt g e).2
    rw [e1, e2, addE_some (fun e : Str × Int => e.2 * g e.1)]
    exact ⟨rfl, rfl⟩
  cases w with
  | sum ws l => show (addE _, addE _) = _; rw [(sm ws).1, (sm ws).2]; rfl
  | over ws l => show (addE _, addE _) = _; rw [(sm ws).1, (sm ws).2]; rfl
  | most ns l =>
    have ha : (ns.map fun n => some (g n)).all (·.isSome) = true := all_map.mpr fun n _ => ⟨_, rfl⟩
    obtain ⟨m, e⟩ := max_some (ns := ns.map g) (fun q => ne (List.map_eq_nil_iff.mp q))
    show (maxO (pres (ns.map fun n => some (g n))), topE (ns.map fun n => some (g n))) = (some ((maxO (ns.map g)).getD 0), some ((maxO (ns.map g)).getD 0))
    unfold topE
    rw [if_pos ha, pres_some g ns, e]; rfl
  | count ns l => rfl
/-- finite bands -/
def finE (lo hi : Str → Int) : EF := fun x => (some (lo x), some (hi x))
theorem worth_between {lo hi g : Str → Int} {w : Wt} (ne : w.names ≠ []) (h : ∀ x ∈ w.names, lo x ≤ g x ∧ g x ≤ hi x) : LoLe (ends (finE lo hi) w).1 (some (worthI g w)) ∧ HiLe (ends (finE lo hi) w).2 (some (worthI g w)) := by
  have := ends_in (f := finE lo hi) (f' := ptE g) ne fun x m => h x m
  rw [ends_pt1 ne] at this
  exact this
open Classical in
/-- the ends are come to -/
theorem ends_met {lo hi : Str → Int} {w : Wt} (ne : w.names ≠ []) (nd : w.names.Nodup) : ∃ g1 g2 : Str → Int, (∀ x, g1 x = lo x ∨ g1 x = hi x) ∧ (∀ x, g2 x = lo x ∨ g2 x = hi x) ∧ ends (finE lo hi) w = (some (worthI g1 w), some (worthI g2 w)) := by
  have sm : ∀ ws : List (Str × Int), (ws.map (·.1)).Nodup → ∃ g1 g2 : Str → Int, (∀ x, g1 x = lo x ∨ g1 x = hi x) ∧ (∀ x, g2 x = lo x ∨ g2 x = hi x) ∧ addE (ws.map (lowE (finE lo hi))) = some (total g1 ws) ∧ addE (ws.map (highE (finE lo hi))) = some (total g2 ws) := fun ws nd => by
    refine ⟨fun x => if ∃ e ∈ ws, e.1 = x ∧ 0 < e.2 then lo x else hi x, fun x => if ∃ e ∈ ws, e.1 = x ∧ 0 < e.2 then hi x else lo x, fun x => ?_, fun x => ?_, ?_, ?_⟩
    · dsimp only; split
      · exact .inl rfl
      · exact .inr rfl
    · dsimp only; split
      · exact .inr rfl
      · exact .inl rfl
    · have e1 : ws.map (lowE (finE lo hi)) = ws.map fun e => some (e.2 * (fun x => if ∃ e ∈ ws, e.1 = x ∧ 0 < e.2 then lo x else hi x) e.1) := List.map_congr_left fun e m => by
        unfold lowE
        by_cases q : 0 < e.2
        · rw [if_pos q]
          dsimp only
          rw [if_pos ⟨e, m, rfl, q⟩]; rfl
        · rw [if_neg q]
          dsimp only
          rw [if_neg]
          · rfl
          · rintro ⟨e', m', ee, q'⟩
            have := nodup_snd nd m' m ee
            subst this
            exact q q'
      rw [e1, addE_some (fun e : Str × Int => e.2 * (fun x => if ∃ e ∈ ws, e.1 = x ∧ 0 < e.2 then lo x else hi x) e.1)]; rfl
    · have e1 : ws.map (highE (finE lo hi)) = ws.map fun e => some (e.2 * (fun x => if ∃ e ∈ ws, e.1 = x ∧ 0 < e.2 then hi x else lo x) e.1) := List.map_congr_left fun e m => by
        unfold highE
        by_cases q : 0 < e.2
        · rw [if_pos q]
          dsimp only
          rw [if_pos ⟨e, m, rfl, q⟩]; rfl
        · rw [if_neg q]
          dsimp only
          rw [if_neg]
          · rfl
          · rintro ⟨e', m', ee, q'⟩
            have := nodup_snd nd m' m ee
            subst this
            exact q q'
      rw [e1, addE_some (fun e : Str × Int => e.2 * (fun x => if ∃ e ∈ ws, e.1 = x ∧ 0 < e.2 then hi x else lo x) e.1)]; rfl
  cases w with
  | sum ws l =>
    obtain ⟨g1, g2, h1, h2, e1, e2⟩ := sm ws nd
    exact ⟨g1, g2, h1, h2, by show (addE _, addE _) = _; rw [e1, e2]; rfl⟩
  | over ws l =>
    obtain ⟨g1, g2, h1, h2, e1, e2⟩ := sm ws nd
    exact ⟨g1, g2, h1, h2, by show (addE _, addE _) = _; rw [e1, e2]; rfl⟩
  | most ns l =>
    refine ⟨lo, hi, fun _ => .inl rfl, fun _ => .inr rfl, ?_⟩
    have ha : (ns.map fun n => some (hi n)).all (·.isSome) = true := all_map.mpr fun n _ => ⟨_, rfl⟩
    obtain ⟨m, e⟩ := max_some (ns := ns.map lo) (fun q => ne (List.map_eq_nil_iff.mp q))
    obtain ⟨m2, e2⟩ := max_some (ns := ns.map hi) (fun q => ne (List.map_eq_nil_iff.mp q))
    show (maxO (pres (ns.map fun n => some (lo n))), topE (ns.map fun n => some (hi n))) = (some ((maxO (ns.map lo)).getD 0), some ((maxO (ns.map hi)).getD 0))
    unfold topE
    rw [if_pos ha, pres_some lo ns, pres_some hi ns, e, e2]; rfl
  | count ns l => exact ⟨lo, hi, fun _ => .inl rfl, fun _ => .inr rfl, rfl⟩
/-! ### all rows of numbers -/
abbrev Row := List (Str × Int)
def rowsStep (vf : Str → List Int) (rows : List Row) (x : Str) : List Row := rows.flatMap fun r => (vf x).map fun v => r ++ [(x, v)]
def rowsOf (vf : Str → List Int) (xs : List Str) : List Row := xs.foldl (rowsStep vf) [[]]
theorem rows_snoc (vf : Str → List Int) (xs : List Str) (x : Str) : rowsOf vf (xs ++ [x]) = rowsStep vf (rowsOf vf xs) x := by unfold rowsOf; rw [List.foldl_append]; rfl
theorem rows_mem (vf : Str → List Int) : ∀ (n : Nat) (xs : List Str), xs.length = n → ∀ r : Row, r ∈ rowsOf vf xs ↔ (r.map (·.1) = xs ∧ ∀ e ∈ r, e.2 ∈ vf e.1) := by
  intro n
  induction n with
  | zero =>
    intro xs hl r
    have : xs = [] := List.eq_nil_of_length_eq_zero hl
    subst this
    show r ∈ [[]] ↔ _
    rw [List.mem_singleton]
    refine ⟨fun e => by subst e; exact ⟨rfl, fun e m => nomatch m⟩, fun ⟨h, _⟩ => List.map_eq_nil_iff.mp h⟩
  | succ n ih =>
    intro xs hl r
    obtain ⟨ys, x, rfl⟩ : ∃ ys x, xs = ys ++ [x] := by
      have hne : xs ≠ [] := by rintro rfl; cases hl
      exact ⟨xs.dropLast, xs.getLast hne, (List.dropLast_concat_getLast hne).symm⟩
    have hy : ys.length = n := by rw [List.length_append] at hl; simpa using hl
    rw [rows_snoc]
    unfold rowsStep
    rw [List.mem_flatMap]
    refine ⟨fun ⟨r', m', q⟩ => ?_, fun ⟨h1, h2⟩ => ?_⟩
    · obtain ⟨v, mv, rfl⟩ := List.mem_map.mp q
      obtain ⟨a, b⟩ := (ih ys hy r').mp m'
      refine ⟨by rw [List.map_append, a]; rfl, fun e me => ?_⟩
      rcases List.mem_append.mp me with me | me
      · exact b e me
      · rw [List.mem_singleton] at me; subst me; exact mv
    · have hrn : r ≠ [] := by rintro rfl; simp at h1
      obtain ⟨r', e, rfl⟩ : ∃ r' e, r = r' ++ [e] := ⟨r.dropLast, r.getLast hrn, (List.dropLast_concat_getLast hrn).symm⟩
      rw [List.map_append] at h1
      obtain ⟨a, b⟩ := List.append_inj_left' h1 rfl, List.append_inj_right' h1 rfl
      injection b with b _
      refine ⟨r', (ih ys hy r').mpr ⟨a, fun z mz => h2 z (List.mem_append_left _ mz)⟩, List.mem_map.mpr ⟨e.2, ?_, ?_⟩⟩
      · rw [← b]; exact h2 e (by simp)
      · rw [← b]
theorem rows_fn {vf : Str → List Int} {xs : List Str} {g : Str → Int} (h : ∀ x ∈ xs, g x ∈ vf x) : (xs.map fun x => (x, g x)) ∈ rowsOf vf xs := by
  rw [rows_mem vf _ xs rfl]
  refine ⟨by rw [List.map_map]; exact List.map_id _, fun e m => ?_⟩
  obtain ⟨x, mx, rfl⟩ := List.mem_map.mp m
  exact h x mx
theorem row_num {vf : Str → List Int} {xs : List Str} {r : Row} (h : r ∈ rowsOf vf xs) {x : Str} (m : x ∈ xs) : num r x ∈ vf x := by
  obtain ⟨a, b⟩ := (rows_mem vf _ xs rfl r).mp h
  exact b _ (num_mem (by rw [a]; exact m))
theorem worth_congr {g g' : Str → Int} {w : Wt} (h : ∀ x ∈ w.names, g x = g' x) : worthI g w = worthI g' w := by
  cases w with
  | sum ws l => exact congrArg List.sum (List.map_congr_left fun e m => by rw [h e.1 (List.mem_map_of_mem m)])
  | over ws l => exact congrArg List.sum (List.map_congr_left fun e m => by rw [h e.1 (List.mem_map_of_mem m)])
  | most ns l => show (maxO (ns.map g)).getD 0 = (maxO (ns.map g')).getD 0; rw [show ns.map g = ns.map g' from List.map_congr_left h]
  | count ns l =>
    show (((ns.filter fun n => decide (l ≤ g n)).length : Nat) : Int) = ((ns.filter fun n => decide (l ≤ g' n)).length : Nat)
    rw [List.filter_congr fun n m => by rw [h n m]]
/-- the worths of all rows have the ends as their least and greatest -/
theorem worths_ends {vf : Str → List Int} {lo hi : Str → Int} {w : Wt} (ne : w.names ≠ []) (nd : w.names.Nodup) (hv : ∀ x ∈ w.names, lo x ∈ vf x ∧ hi x ∈ vf x ∧ ∀ v ∈ vf x, lo x ≤ v ∧ v ≤ hi x) :
    ∃ L U, ends (finE lo hi) w = (some L, some U) ∧ L ∈ ((rowsOf vf w.names).map fun r => worthI (num r) w) ∧ U ∈ ((rowsOf vf w.names).map fun r => worthI (num r) w) ∧ ∀ r ∈ rowsOf vf w.names, L ≤ worthI (num r) w ∧ worthI (num r) w ≤ U := by
  obtain ⟨g1, g2, h1, h2, e⟩ := ends_met (lo := lo) (hi := hi) ne nd
  have put : ∀ g : Str → Int, (∀ x, g x = lo x ∨ g x = hi x) → worthI g w ∈ ((rowsOf vf w.names).map fun r => worthI (num r) w) := fun g hg => by
    refine List.mem_map.mpr ⟨w.names.map fun x => (x, g x), rows_fn fun x m => ?_, worth_congr fun x m => num_fn m⟩
    rcases hg x with q | q
    · rw [q]; exact (hv x m).1
    · rw [q]; exact (hv x m).2.1
  refine ⟨_, _, e, put g1 h1, put g2 h2, fun r m => ?_⟩
  obtain ⟨a, b⟩ := worth_between (lo := lo) (hi := hi) (g := num r) ne fun x mx => (hv x mx).2.2 _ (row_num m mx)
  rw [e] at a b
  exact ⟨a, b⟩
/-! ### small bands, far ends for those without -/
def Sml (e : Option Int × Option Int) : Prop := (∃ a b, e = (some a, some b) ∧ -4 ≤ a ∧ a ≤ b ∧ b ≤ 7) ∨ (∃ b, e = (none, some b) ∧ -4 ≤ b ∧ b ≤ 7) ∨ ∃ a, e = (some a, none) ∧ -4 ≤ a ∧ a ≤ 7
def loC (f : EF) (x : Str) : Int := ((f x).1).getD (-1000)
def hiC (f : EF) (x : Str) : Int := ((f x).2).getD 1000
theorem mulB {w v : Int} (hw : w.natAbs ≤ 5) (hv : -7 ≤ v ∧ v ≤ 7) : -35 ≤ w * v ∧ w * v ≤ 35 := by
  have h : (w * v).natAbs ≤ 35 := by
    rw [Int.natAbs_mul]
    exact Nat.le_trans (Nat.mul_le_mul hw (show v.natAbs ≤ 7 by omega)) (by decide)
  omega
theorem mulL {w : Int} (h0 : w ≠ 0) : (0 < w → w * (-1000) ≤ -1000 ∧ 1000 ≤ w * 1000) ∧ (¬ 0 < w → w * 1000 ≤ -1000 ∧ 1000 ≤ w * (-1000)) := by
  constructor <;> intro h <;> omega
theorem low_C {f : EF} {e : Str × Int} (hs : Sml (f e.1)) (hw : e.2.natAbs ≤ 5) (h0 : e.2 ≠ 0) : ∃ v, lowE (finE (loC f) (hiC f)) e = some v ∧ ((lowE f e = some v ∧ -35 ≤ v ∧ v ≤ 35) ∨ (lowE f e = none ∧ v ≤ -1000)) := by
  obtain ⟨m1, m2⟩ := mulL h0
  unfold lowE finE loC hiC
  by_cases q : 0 < e.2
  · simp only [if_pos q]
    rcases hs with ⟨a, b, h, h1, h2, h3⟩ | ⟨b, h, h1, h2⟩ | ⟨a, h, h1, h2⟩ <;> rw [h]
    · exact ⟨e.2 * a, rfl, .inl ⟨rfl, mulB hw ⟨by omega, by omega⟩⟩⟩
    · exact ⟨e.2 * (-1000), rfl, .inr ⟨rfl, (m1 q).1⟩⟩
    · exact ⟨e.2 * a, rfl, .inl ⟨rfl, mulB hw ⟨by omega, by omega⟩⟩⟩
  · simp only [if_neg q]
    rcases hs with ⟨a, b, h, h1, h2, h3⟩ | ⟨b, h, h1, h2⟩ | ⟨a, h, h1, h2⟩ <;> rw [h]
    · exact ⟨e.2 * b, rfl, .inl ⟨rfl, mulB hw ⟨by omega, by omega⟩⟩⟩
    · exact ⟨e.2 * b, rfl, .inl ⟨rfl, mulB hw ⟨by omega, by omega⟩⟩⟩
    · exact ⟨e.2 * 1000, rfl, .inr ⟨rfl, (m2 q).1⟩⟩
theorem high_C {f : EF} {e : Str × Int} (hs : Sml (f e.1)) (hw : e.2.natAbs ≤ 5) (h0 : e.2 ≠ 0) : ∃ v, highE (finE (loC f) (hiC f)) e = some v ∧ ((highE f e = some v ∧ -35 ≤ v ∧ v ≤ 35) ∨ (highE f e = none ∧ 1000 ≤ v)) := by
  obtain ⟨m1, m2⟩ := mulL h0
  unfold highE finE loC hiC
  by_cases q : 0 < e.2
  · simp only [if_pos q]
    rcases hs with ⟨a, b, h, h1, h2, h3⟩ | ⟨b, h, h1, h2⟩ | ⟨a, h, h1, h2⟩ <;> rw [h]
    · exact ⟨e.2 * b, rfl, .inl ⟨rfl, mulB hw ⟨by omega, by omega⟩⟩⟩
    · exact ⟨e.2 * b, rfl, .inl ⟨rfl, mulB hw ⟨by omega, by omega⟩⟩⟩
    · exact ⟨e.2 * 1000, rfl, .inr ⟨rfl, (m1 q).2⟩⟩
  · simp only [if_neg q]
    rcases hs with ⟨a, b, h, h1, h2, h3⟩ | ⟨b, h, h1, h2⟩ | ⟨a, h, h1, h2⟩ <;> rw [h]
    · exact ⟨e.2 * a, rfl, .inl ⟨rfl, mulB hw ⟨by omega, by omega⟩⟩⟩
    · exact ⟨e.2 * (-1000), rfl, .inr ⟨rfl, (m2 q).2⟩⟩
    · exact ⟨e.2 * a, rfl, .inl ⟨rfl, mulB hw ⟨by omega, by omega⟩⟩⟩
theorem sum_C {F G : Str × Int → Option Int} : ∀ {ws : List (Str × Int)}, (∀ e ∈ ws, ∃ v, G e = some v ∧ ((F e = some v ∧ -35 ≤ v ∧ v ≤ 35) ∨ (F e = none ∧ v ≤ -1000))) →
    ∃ L, addE (ws.map G) = some L ∧ ((addE (ws.map F) = some L ∧ -(35 * (ws.length : Int)) ≤ L ∧ L ≤ 35 * (ws.length : Int)) ∨ (addE (ws.map F) = none ∧ L ≤ -1000 + 35 * (ws.length : Int)))
  | [], _ => ⟨0, rfl, .inl ⟨rfl, by decide, by decide⟩⟩
  | e :: r, h => by
    obtain ⟨v, g1, k⟩ := h e List.mem_cons_self
    obtain ⟨L, g2, k2⟩ := sum_C (ws := r) fun x m => h x (List.mem_cons_of_mem _ m)
    refine ⟨v + L, by rw [List.map_cons, addE_cons, g1, g2]; rfl, ?_⟩
    rw [List.map_cons, addE_cons, List.length_cons]
    rcases k with ⟨k, k3, k4⟩ | ⟨k, k3⟩
    · rcases k2 with ⟨q, q3, q4⟩ | ⟨q, q3⟩
      · left; rw [k, q]; exact ⟨rfl, by omega, by omega⟩
      · right; rw [k, q]; exact ⟨rfl, by omega⟩
    · right
      rw [k]
      refine ⟨rfl, ?_⟩
      rcases k2 with ⟨q, q3, q4⟩ | ⟨q, q3⟩ <;> omega
theorem sum_CH {F G : Str × Int → Option Int} : ∀ {ws : List (Str × Int)}, (∀ e ∈ ws, ∃ v, G e = some v ∧ ((F e = some v ∧ -35 ≤ v ∧ v ≤ 35) ∨ (F e = none ∧ 1000 ≤ v))) →
    ∃ L, addE (ws.map G) = some L ∧ ((addE (ws.map F) = some L ∧ -(35 * (ws.length : Int)) ≤ L ∧ L ≤ 35 * (ws.length : Int)) ∨ (addE (ws.map F) = none ∧ 1000 - 35 * (ws.length : Int) ≤ L))
  | [], _ => ⟨0, rfl, .inl ⟨rfl, by decide, by decide⟩⟩
  | e :: r, h => by
    obtain ⟨v, g1, k⟩ := h e List.mem_cons_self
    obtain ⟨L, g2, k2⟩ := sum_CH (ws := r) fun x m => h x (List.mem_cons_of_mem _ m)
    refine ⟨v + L, by rw [List.map_cons, addE_cons, g1, g2]; rfl, ?_⟩
    rw [List.map_cons, addE_cons, List.length_cons]
    rcases k with ⟨k, k3, k4⟩ | ⟨k, k3⟩
    · rcases k2 with ⟨q, q3, q4⟩ | ⟨q, q3⟩
      · left; rw [k, q]; exact ⟨rfl, by omega, by omega⟩
      · right; rw [k, q]; exact ⟨rfl, by omega⟩
    · right
      rw [k]
      refine ⟨rfl, ?_⟩
      rcases k2 with ⟨q, q3, q4⟩ | ⟨q, q3⟩ <;> omega
/-- a watch as the law draws it here -/
structure W9 (f : EF) (w : Wt) : Prop where
  ne : w.names ≠ []
  few : w.names.length ≤ 4
  sml : ∀ x ∈ w.names, Sml (f x)
  wt : ∀ i ∈ w.weights, i.natAbs ≤ 5 ∧ i ≠ 0
  lim : w.lim.natAbs ≤ 400
  slk : w.slk
/-- what is told by bands, and by the far ones -/
def Told9 (a c : Option Int × Option Int) : Prop := ∃ L U, c = (some L, some U) ∧ ((a.1 = some L ∧ -200 ≤ L ∧ L ≤ 200) ∨ (a.1 = none ∧ L ≤ -800)) ∧ ((a.2 = some U ∧ -200 ≤ U ∧ U ≤ 200) ∨ (a.2 = none ∧ 800 ≤ U))
theorem told9 {f : EF} {w : Wt} (h : W9 f w) : Told9 (ends f w) (ends (finE (loC f) (hiC f)) w) := by
  have sm : ∀ ws : List (Str × Int), ws.length ≤ 4 → (∀ e ∈ ws, Sml (f e.1) ∧ e.2.natAbs ≤ 5 ∧ e.2 ≠ 0) → Told9 (addE (ws.map (lowE f)), addE (ws.map (highE f))) (addE (ws.map (lowE (finE (loC f) (hiC f)))), addE (ws.map (highE (finE (loC f) (hiC f))))) := fun ws hl hh => by
    obtain ⟨L, e1, k1⟩ := sum_C (ws := ws) (F := lowE f) (G := lowE (finE (loC f) (hiC f))) fun e m => low_C (hh e m).1 (hh e m).2.1 (hh e m).2.2
    obtain ⟨U, e2, k2⟩ := sum_CH (ws := ws) (F := highE f) (G := highE (finE (loC f) (hiC f))) fun e m => high_C (hh e m).1 (hh e m).2.1 (hh e m).2.2
    refine ⟨L, U, by rw [e1, e2], ?_, ?_⟩
    · rcases k1 with ⟨q, q1, q2⟩ | ⟨q, q1⟩
      · exact .inl ⟨q, by omega, by omega⟩
      · exact .inr ⟨q, by omega⟩
    · rcases k2 with ⟨q, q1, q2⟩ | ⟨q, q1⟩
      · exact .inl ⟨q, by omega, by omega⟩
      · exact .inr ⟨q, by omega⟩
  cases w with
  | sum ws l => exact sm ws (by have := h.few; rwa [show (Wt.sum ws l).names = ws.map (·.1) from rfl, List.length_map] at this) fun e m => ⟨h.sml e.1 (List.mem_map_of_mem m), h.wt e.2 (List.mem_map_of_mem m)⟩
  | over ws l => exact sm ws (by have := h.few; rwa [show (Wt.over ws l).names = ws.map (·.1) from rfl, List.length_map] at this) fun e m => ⟨h.sml e.1 (List.mem_map_of_mem m), h.wt e.2 (List.mem_map_of_mem m)⟩
  | most ns l =>
    have hs : ∀ n ∈ ns, Sml (f n) := h.sml
    have hne : ns ≠ [] := h.ne
    have ha : (ns.map fun n => some (hiC f n)).all (·.isSome) = true := all_map.mpr fun n _ => ⟨_, rfl⟩
    obtain ⟨L, eL⟩ := max_some (ns := ns.map (loC f)) (fun q => hne (List.map_eq_nil_iff.mp q))
    obtain ⟨U, eU⟩ := max_some (ns := ns.map (hiC f)) (fun q => hne (List.map_eq_nil_iff.mp q))
    refine ⟨L, U, ?_, ?_, ?_⟩
    · show (maxO (pres (ns.map fun n => some (loC f n))), topE (ns.map fun n => some (hiC f n))) = _
      unfold topE
      rw [if_pos ha, pres_some (loC f) ns, pres_some (hiC f) ns, eL, eU]
    · show (maxO (pres (ns.map fun n => (f n).1)) = some L ∧ _) ∨ (maxO (pres (ns.map fun n => (f n).1)) = none ∧ _)
      obtain ⟨nL, mL, enL⟩ := List.mem_map.mp (maxO_in eL).1
      have upL := (maxO_in eL).2
      cases e : maxO (pres (ns.map fun n => (f n).1)) with
      | none =>
        right
        refine ⟨rfl, ?_⟩
        have e0 := maxO_none e
        have : (f nL).1 = none := by
          cases q : (f nL).1 with
          | none => rfl
          | some i =>
            have : i ∈ pres (ns.map fun n => (f n).1) := mem_pres (List.mem_map.mpr ⟨nL, mL, q⟩)
            rw [e0] at this; cases this
        rw [← enL]
        unfold loC
        rw [this]; decide
      | some a =>
        left
        obtain ⟨n, mn, en⟩ := List.mem_map.mp (pres_mem (maxO_in e).1)
        have en : (f n).1 = some a := en
        have lb : -4 ≤ a ∧ a ≤ 7 := by
          rcases hs n mn with ⟨a', b, h, h1, h2, h3⟩ | ⟨b, h, h1, h2⟩ | ⟨a', h, h1, h2⟩ <;> (rw [h] at en; cases en) <;> omega
        have : a ≤ L := by
          have := upL (loC f n) (List.mem_map_of_mem mn)
          unfold loC at this
          rw [en] at this; exact this
        have : L ≤ a := by
          rw [← enL]
          unfold loC
          cases q : (f nL).1 with
          | none => show (-1000 : Int) ≤ a; omega
          | some i => exact (maxO_in e).2 i (mem_pres (List.mem_map.mpr ⟨nL, mL, q⟩))
        have : a = L := by omega
        exact ⟨by rw [this], by omega, by omega⟩
    · show (topE (ns.map fun n => (f n).2) = some U ∧ _) ∨ (topE (ns.map fun n => (f n).2) = none ∧ _)
      obtain ⟨nU, mU, enU⟩ := List.mem_map.mp (maxO_in eU).1
      have upU := (maxO_in eU).2
      unfold topE
      by_cases q : (ns.map fun n => (f n).2).all (·.isSome) = true
      · left
        rw [if_pos q]
        have hc : ∀ n ∈ ns, (f n).2 = some (hiC f n) := fun n mn => by
          obtain ⟨i, ei⟩ := all_map.mp q n mn
          unfold hiC; rw [ei]; rfl
        have e3 : (ns.map fun n => (f n).2) = ns.map fun n => some (hiC f n) := List.map_congr_left hc
        rw [e3, pres_some (hiC f) ns, eU]
        have := hc nU mU
        have lb : -4 ≤ hiC f nU ∧ hiC f nU ≤ 7 := by
          rcases hs nU mU with ⟨a', b, h, h1, h2, h3⟩ | ⟨b, h, h1, h2⟩ | ⟨a', h, h1, h2⟩
          · rw [h] at this; cases this; omega
          · rw [h] at this; cases this; omega
          · rw [h] at this; cases this
        exact ⟨rfl, by omega, by omega⟩
      · right
        rw [if_neg q]
        refine ⟨rfl, ?_⟩
        obtain ⟨n, mn, en⟩ : ∃ n ∈ ns, (f n).2 = none := by
          apply Classical.byContradiction
          intro hno
          refine q (all_map.mpr fun n mn => ?_)
          cases e : (f n).2 with
          | none => exact absurd ⟨n, mn, e⟩ hno
          | some i => exact ⟨i, rfl⟩
        have := upU (hiC f n) (List.mem_map_of_mem mn)
        unfold hiC at this
        rw [en] at this
        have : (1000 : Int) ≤ U := this
        omega
  | count ns l =>
    have hl : l.natAbs ≤ 400 := h.lim
    have few : ns.length ≤ 4 := h.few
    have e1 : (ns.filter fun n => geE l (finE (loC f) (hiC f) n).1) = ns.filter fun n => geE l (f n).1 := List.filter_congr fun n mn => by
      show decide (l ≤ loC f n) = _
      unfold loC
      cases q : (f n).1 with
      | none => show decide (l ≤ -1000) = false; exact decide_eq_false (by omega)
      | some i => rfl
    have e2 : (ns.filter fun n => geU l (finE (loC f) (hiC f) n).2) = ns.filter fun n => geU l (f n).2 := List.filter_congr fun n mn => by
      show decide (l ≤ hiC f n) = _
      unfold hiC
      cases q : (f n).2 with
      | none => show decide (l ≤ 1000) = true; exact decide_eq_true (by omega)
      | some i => rfl
    have l1 := List.length_filter_le (fun n => geE l (f n).1) ns
    have l2 := List.length_filter_le (fun n => geU l (f n).2) ns
    refine ⟨_, _, rfl, ?_, ?_⟩
    · left; rw [e1]; exact ⟨rfl, by omega, by omega⟩
    · left; rw [e2]; exact ⟨rfl, by omega, by omega⟩
def keptV (L U : Int) : Wt → Bool
  | .sum _ l => decide (U - L ≤ l)
  | .most _ l => decide (U - L ≤ l)
  | .count _ _ => decide (L = U)
  | .over _ l => decide (l ≤ L) || decide (U < l)
theorem kept9 {f : EF} {w : Wt} (h : W9 f w) {L U : Int} (e : ends (finE (loC f) (hiC f)) w = (some L, some U)) : kept f w = keptV L U w := by
  obtain ⟨L', U', e', k1, k2⟩ := told9 h
  rw [e] at e'
  injection e' with e1 e2
  injection e1 with e1
  injection e2 with e2
  subst e1 e2
  have wi : ∀ l : Int, l.natAbs ≤ 400 → within (ends f w).1 (ends f w).2 l = decide (U - L ≤ l) := fun l hl => by
    rcases k1 with ⟨q, q1, q2⟩ | ⟨q, q1⟩
    · rw [q]
      rcases k2 with ⟨z, z1, z2⟩ | ⟨z, z1⟩
      · rw [z]; rfl
      · rw [z]
        show false = _
        rw [decide_eq_false (by omega)]
    · rw [q]
      show false = _
      rcases k2 with ⟨z, z1, z2⟩ | ⟨z, z1⟩ <;> rw [decide_eq_false (by omega)]
  have hl := h.lim
  cases w with
  | sum ws l => exact wi l hl
  | most ns l => exact wi l hl
  | count ns l =>
    show decide ((ends f (.count ns l)).1 = (ends f (.count ns l)).2) = decide (L = U)
    rcases k1 with ⟨q, _⟩ | ⟨q, _⟩
    · rcases k2 with ⟨z, _⟩ | ⟨z, _⟩
      · rw [q, z]
        exact decide_eq_decide.mpr ⟨fun h => by injection h, fun h => by rw [h]⟩
      · cases z
    · cases q
  | over ws l =>
    have hl : l.natAbs ≤ 400 := hl
    show (triE (ends f (.over ws l)).1 (ends f (.over ws l)).2 l).isSome = (decide (l ≤ L) || decide (U < l))
    rcases k1 with ⟨q, q1, q2⟩ | ⟨q, q1⟩
    · rcases k2 with ⟨z, z1, z2⟩ | ⟨z, z1⟩
      · rw [q, z]
        dsimp only [triE]
        by_cases c1 : l ≤ L
        · rw [if_pos c1, decide_eq_true c1]; rfl
        · rw [if_neg c1, decide_eq_false c1]
          by_cases c2 : U < l
          · rw [if_pos c2, decide_eq_true c2]; rfl
          · rw [if_neg c2, decide_eq_false c2]; rfl
      · rw [q, z]
        dsimp only [triE]
        rw [decide_eq_false (show ¬ U < l by omega)]
        by_cases c1 : l ≤ L
        · rw [if_pos c1, decide_eq_true c1]; rfl
        · rw [if_neg c1, decide_eq_false c1]; rfl
    · rw [q, decide_eq_false (show ¬ l ≤ L by omega)]
      rcases k2 with ⟨z, z1, z2⟩ | ⟨z, z1⟩
      · rw [z]
        dsimp only [triE]
        by_cases c2 : U < l
        · rw [if_pos c2, decide_eq_true c2]; rfl
        · rw [if_neg c2, decide_eq_false c2]; rfl
      · rw [z, decide_eq_false (show ¬ U < l by omega)]; rfl
theorem tri9 {f : EF} {ws : List (Str × Int)} {l : Int} (h : W9 f (.over ws l)) {L U : Int} (e : ends (finE (loC f) (hiC f)) (.over ws l) = (some L, some U)) :
    told f (.over ws l) = .tri (if l ≤ L then some true else if U < l then some false else none) := by
  obtain ⟨L', U', e', k1, k2⟩ := told9 h
  rw [e] at e'
  injection e' with e1 e2
  injection e1 with e1
  injection e2 with e2
  subst e1 e2
  have hl : l.natAbs ≤ 400 := h.lim
  show Told.tri (triE (ends f (.over ws l)).1 (ends f (.over ws l)).2 l) = _
  rcases k1 with ⟨q, q1, q2⟩ | ⟨q, q1⟩
  · rcases k2 with ⟨z, z1, z2⟩ | ⟨z, z1⟩
    · rw [q, z]; rfl
    · rw [q, z]
      dsimp only [triE]
      by_cases c1 : l ≤ L
      · rw [if_pos c1, if_pos c1]
      · rw [if_neg c1, if_neg c1, if_neg (by omega)]
  · rw [q, if_neg (show ¬ l ≤ L by omega)]
    rcases k2 with ⟨z, z1, z2⟩ | ⟨z, z1⟩
    · rw [z]; rfl
    · rw [z, if_neg (show ¬ U < l by omega)]; rfl
/-- how many unlike worths there are -/
theorem dist_one {W : List Int} {L U : Int} (h1 : L ∈ W) (h2 : U ∈ W) (h : ∀ x ∈ W, L ≤ x ∧ x ≤ U) : nDist 0 W = 1 ↔ L = U := by
  rw [nDist_one]
  refine ⟨fun ⟨x, _, k⟩ => (k L h1).trans (k U h2).symm, fun e => ⟨L, h1, fun y m => ?_⟩⟩
  have := h y m
  omega
theorem dist_over {W : List Int} {L U l : Int} (h1 : L ∈ W) (h2 : U ∈ W) (h : ∀ x ∈ W, L ≤ x ∧ x ≤ U) :
    (nDist false (W.map fun x => decide (l ≤ x)) = 1 ↔ (l ≤ L ∨ U < l)) ∧ (nDist false (W.map fun x => decide (l ≤ x)) = 2 ↔ ¬ (l ≤ L ∨ U < l)) := by
  have hLU := (h L h1).2
  have t : true ∈ (W.map fun x => decide (l ≤ x)) ↔ l ≤ U := by
    rw [List.mem_map]
    refine ⟨fun ⟨x, m, e⟩ => ?_, fun q => ⟨U, h2, decide_eq_true q⟩⟩
    have := of_decide_eq_true e
    have := (h x m).2
    omega
  have f : false ∈ (W.map fun x => decide (l ≤ x)) ↔ L < l := by
    rw [List.mem_map]
    refine ⟨fun ⟨x, m, e⟩ => ?_, fun q => ⟨L, h1, decide_eq_false (by omega)⟩⟩
    have := of_decide_eq_false e
    have := (h x m).1
    omega
  refine ⟨?_, ?_⟩
  · rw [nDist_one]
    refine ⟨fun ⟨b, m, k⟩ => ?_, fun q => ?_⟩
    · cases b with
      | true =>
        left
        have := mt (fun z => k false (f.mpr z)) (by simp)
        omega
      | false =>
        right
        have := mt (fun z => k true (t.mpr z)) (by simp)
        omega
    · rcases q with q | q
      · refine ⟨true, t.mpr (by omega), fun y m => ?_⟩
        cases y with
        | true => rfl
        | false => have := f.mp m; omega
      · refine ⟨false, f.mpr (by omega), fun y m => ?_⟩
        cases y with
        | false => rfl
        | true => have := t.mp m; omega
  · rw [nDist_two, t, f]
    omega
end Sil
set_option Elab.async false
set_option linter.all false
set_option maxRecDepth 100000
set_option maxHeartbeats 2000000
/-! P25: list(range(a, b)); comprehensions that only make objects. -/
namespace Sil
open PySem L2 PySem.Spec PyProof.Rows
/-- the numbers from a on, n of them -/
def upFrom (a : Int) (n : Nat) : List Int := (List.range n).map fun (i : Nat) => a + (i : Int)
theorem rgV_up (a b : Int) : rgV a b = (upFrom a (b - a).toNat).map V.int := by
  unfold rgV upFrom
  rw [List.map_map]; rfl
theorem w_lstRg {ta tb : TE} {σ : L2.St} {H : Hp} {Q : VK} (h : ta σ H fun x H1 => tb σ H1 fun y H2 => ∃ i j, x = .int i ∧ y = .int j ∧ RgOk i j ∧ ∀ q, H2 q = none → Q (.ref q) (upd H2 q (.lst ((upFrom i (j - i).toNat).map V.int)))) : tLstRg (tRg2 ta tb) σ H Q := by
  unfold tLstRg tRg2
  simp only [rgV_up]
  exact h
/-! ### comprehensions that only make objects -/
section
variable {K : PySem.W.Frag} {a : Addr} {g : TG} {tt : TT} {te : TE} {vs : List Nat} {σ : L2.St} {H1 : Hp} {Q : VK} {El : Nat → V → Hp → Prop}
structure ElOkS (El : Nat → V → Hp → Prop) : Prop where
  same : ∀ i y G G', Same G G' → El i y G → El i y G'
  off : ∀ i y G D acc, G D = some (.lst acc) → El i y G → El i y (off [D] G)
def TurnS (g : TG) (tt : TT) (te : TE) (vs : List Nat) (σ : L2.St) (El : V → Hp → Prop) (x : V) (G : Hp) : Prop :=
  ∀ (R : V → Hp → Prop) (Ny : Hp → Prop), (∀ y G', Same G G' → El y G' → R y G') → g x (wipe σ vs) G fun σ2 H2 => wipe σ2 vs = wipe σ vs ∧ tt σ2 H2 fun c H3 => if c = true then te σ2 H3 R else Ny H3
theorem turnS (ok : ElOkS El) {D : Addr} {i : Nat} {x : V} {acc : List V} {H : Hp} (nD : H1 D = none) (hD : H D = some (.lst acc))
    (p : Same H1 (off [D] H) ∧ AccOk El i acc (off [D] H)) (h : Same H1 H → TurnS g tt te vs σ (El i) x H) :
    LcTurnQ g tt te vs σ D x (fun i acc G => Same H1 G ∧ AccOk El i acc G) i acc H := by
  intro Nx Ny k1 k2 hlen
  have st : Same H1 H := p.1.trans off_sub
  refine h st _ Ny fun y G' s' hy => ?_
  have hD' := s' _ _ hD
  refine ⟨acc, hD', hlen, k1 y G' hD' ⟨?_, ?_⟩⟩
  · intro c o hc
    refine off_mk (s' _ _ (st _ _ hc)) ?_
    rw [List.mem_singleton]
    rintro rfl
    rw [nD] at hc; cases hc
  · have q : AccOk El i acc G' := ⟨p.2.1, fun j z e => ok.same _ _ _ _ (off_sub.trans s') (p.2.2 j z e)⟩
    have r := accOk_push q hy
    exact ⟨r.1, fun j z e => ok.off _ _ _ _ _ hD' (r.2 j z e)⟩
theorem s_end (ok : ElOkS El) {D : Addr} {n : Nat} {acc : List V} {H : Hp} (nD : H1 D = none) (hD : H D = some (.lst acc)) (p : Same H1 (off [D] H) ∧ AccOk El n acc (off [D] H))
    (k : ∀ D acc H, H1 D = none → H D = some (.lst acc) → Same H1 H → AccOk El n acc H → Q (.ref D) H) : Q (.ref D) H :=
  k D acc H nD hD (p.1.trans off_sub) ⟨p.2.1, fun j z e => ok.same _ _ _ _ off_sub (p.2.2 j z e)⟩
theorem s_lcT {xs : List V} (ok : ElOkS El) (hz : xs.length ≤ 100000) (hx : SqT K H1 a xs) (ht : ∀ i x G, xs[i]? = some x → Same H1 G → TurnS g tt te vs σ (El i) x G)
    (k : ∀ D acc H, H1 D = none → H D = some (.lst acc) → Same H1 H → AccOk El xs.length acc H → Q (.ref D) H) : kLc (Itt K a) g tt te vs σ H1 Q :=
  k_lcT (xs := xs) hz (fun i acc G => Same H1 G ∧ AccOk El i acc G) ⟨Same.refl _, rfl, fun j y e => by cases e⟩ (fun i acc G p => same_seqT p.1 hx)
    (fun D i x acc H nD hi hD p => turnS ok nD hD p fun st => ht i x H hi st) fun D acc H nD hD p => s_end ok nD hD p k
theorem turnS_name {j : Nat} {El : V → Hp → Prop} {x : V} {G : Hp} (hw : ∀ x, wipe ((wipe σ vs).set j (some x)) vs = wipe σ vs)
    (h : ∀ (R : V → Hp → Prop) (Ny : Hp → Prop), (∀ y G', Same G G' → El y G' → R y G') → tt ((wipe σ vs).set j (some x)) G fun c H3 => if c = true then te ((wipe σ vs).set j (some x)) H3 R else Ny H3) :
    TurnS (gName j) tt te vs σ El x G := fun R Ny k => w_name ⟨hw x, h R Ny k⟩
theorem pairElG_okS {ys : List Str} {B : Str → V → Hp → Prop} (h1 : ∀ x v G G', Same G G' → B x v G → B x v G') (h2 : ∀ x v G D acc, G D = some (.lst acc) → B x v G → B x v (off [D] G)) : ElOkS (PairElG ys B) :=
  ⟨fun i y G G' s ⟨q, k, e, h, hk⟩ => ⟨q, k, e, s _ _ h, h1 _ _ _ _ s hk⟩, fun i y G D acc hD ⟨q, k, e, h, hk⟩ => ⟨q, k, e, off_tup hD h, h2 _ _ _ _ _ hD hk⟩⟩
theorem bandV_okS (ys : List Str) (C : Addr) (f : EF) : ElOkS (PairElG ys (BandV C f)) :=
  pairElG_okS (fun x v G G' s ⟨q, e, h⟩ => ⟨q, e, h.mono s⟩) fun x v G D acc hD ⟨q, e, dx, h⟩ => ⟨q, e, dx, off_ins hD h⟩
end
/-! ### the numbers of a band -/
def valsE : Option Int × Option Int → List Int
  | (some a, some b) => upFrom a (b + 1 - a).toNat
  | (none, some b) => [-1000, b]
  | (some a, none) => [a, 1000]
  | (none, none) => []
theorem vals_ok {f : EF} {x : Str} (h : Sml (f x)) (hd : ∀ a b, f x = (some a, some b) → b ≤ a + 3) : loC f x ∈ valsE (f x) ∧ hiC f x ∈ valsE (f x) ∧ (∀ v ∈ valsE (f x), loC f x ≤ v ∧ v ≤ hiC f x) ∧ (valsE (f x)).length ≤ 4 := by
  unfold loC hiC
  rcases h with ⟨a, b, h, h1, h2, h3⟩ | ⟨b, h, h1, h2⟩ | ⟨a, h, h1, h2⟩
  · have hb := hd a b h
    rw [h]
    show a ∈ upFrom a (b + 1 - a).toNat ∧ b ∈ upFrom a (b + 1 - a).toNat ∧ (∀ v ∈ upFrom a (b + 1 - a).toNat, a ≤ v ∧ v ≤ b) ∧ (upFrom a (b + 1 - a).toNat).length ≤ 4
    unfold upFrom
    refine ⟨List.mem_map.mpr ⟨0, List.mem_range.mpr (by omega), by omega⟩, List.mem_map.mpr ⟨(b - a).toNat, List.mem_range.mpr (by omega), by omega⟩, fun v m => ?_, by rw [List.length_map, List.length_range]; omega⟩
    obtain ⟨i, mi, rfl⟩ := List.mem_map.mp m
    have := List.mem_range.mp mi
    omega
  · rw [h]
    show (-1000 : Int) ∈ [-1000, b] ∧ b ∈ [-1000, b] ∧ (∀ v ∈ [-1000, b], -1000 ≤ v ∧ v ≤ b) ∧ 2 ≤ 4
    refine ⟨by simp, by simp, fun v m => ?_, by decide⟩
    rcases List.mem_cons.mp m with rfl | m
    · omega
    · rw [List.mem_singleton] at m; omega
  · rw [h]
    show a ∈ [a, 1000] ∧ (1000 : Int) ∈ [a, 1000] ∧ (∀ v ∈ [a, 1000], a ≤ v ∧ v ≤ 1000) ∧ 2 ≤ 4
    refine ⟨by simp, by simp, fun v m => ?_, by decide⟩
    rcases List.mem_cons.mp m with rfl | m
    · omega
    · rw [List.mem_singleton] at m; omega
theorem flat_len {α β : Type} {F : α → List β} : ∀ {xs : List α}, (∀ x ∈ xs, (F x).length ≤ 4) → (xs.flatMap F).length ≤ 4 * xs.length
  | [], _ => Nat.zero_le _
  | x :: r, h => by
    rw [List.flatMap_cons, List.length_append, List.length_cons]
    have a := h x List.mem_cons_self
    have b := flat_len (xs := r) fun y m => h y (List.mem_cons_of_mem _ m)
    omega
theorem rows_len {vf : Str → List Int} : ∀ (n : Nat) {xs : List Str}, xs.length = n → (∀ x ∈ xs, (vf x).length ≤ 4) → (rowsOf vf xs).length ≤ 4 ^ n := by
  intro n
  induction n with
  | zero => intro xs hl _; rw [List.eq_nil_of_length_eq_zero hl]; exact Nat.le_refl 1
  | succ n ih =>
    intro xs hl h
    obtain ⟨ys, x, rfl⟩ : ∃ ys x, xs = ys ++ [x] := by
      have hne : xs ≠ [] := by rintro rfl; cases hl
      exact ⟨xs.dropLast, xs.getLast hne, (List.dropLast_concat_getLast hne).symm⟩
    rw [rows_snoc]
    unfold rowsStep
    have a := ih (xs := ys) (by rw [List.length_append] at hl; simpa using hl) fun y m => h y (List.mem_append_left _ m)
    have b := flat_len (xs := rowsOf vf ys) (F := fun r => (vf x).map fun v => r ++ [(x, v)]) fun r _ => by rw [List.length_map]; exact h x (by simp)
    exact Nat.le_trans b (by rw [Nat.pow_succ]; omega)
theorem put_new_num {r : Row} {x : Str} {v : Int} (h : x ∉ r.map (·.1)) : putK (numKv r) (.inr x) (.int v) = numKv (r ++ [(x, v)]) := by
  rw [putK_new _ (valV_out (by rw [keys_num]; intro m; obtain ⟨y, my, e⟩ := List.mem_map.mp m; injection e with e; subst e; exact h my))]
  unfold numKv
  rw [List.map_append]; rfl
theorem worth_val {g : Str → Int} {w : Wt} : worthV g w = match w with | .over _ l => .bl (decide (l ≤ worthI g w)) | _ => .int (worthI g w) := by
  cases w <;> rfl
end Sil
set_option Elab.async false
set_option linter.all false
set_option maxRecDepth 100000
set_option maxHeartbeats 2000000
/-! P26: comprehensions over texts and zips; what a watch is, as data. -/
namespace Sil
open PySem L2 PySem.Spec PyProof.Rows
/-! ### comprehensions over any source -/
structure Src (J : It) (H1 : Hp) (n : Nat) (P : Nat → V → Hp → Prop) : Prop where
  go : ∀ i H, Same H1 H → i < n → J.go i H
  yld : ∀ i H v H', Same H1 H → i < n → J.yld i H v H' → Same H H' ∧ P i v H'
  stop : ∀ H, Same H1 H → J.stop n H
section
variable {J : It} {g : TG} {tt : TT} {te : TE} {vs : List Nat} {σ : L2.St} {H1 : Hp} {Q : VK} {n : Nat} {P : Nat → V → Hp → Prop}
theorem madeI_le (f : Nat → Bool) (v : Nat → V) (n : Nat) : (madeI f v n).length ≤ n := by
  rw [madeI_len]
  exact Nat.le_trans (List.length_filter_le _ _) (by rw [List.length_range]; exact Nat.le_refl _)
theorem i_lcJ (sr : Src J H1 n P) (f : Nat → Bool) (v : Nat → V) (hz : n ≤ 100000) (ht : ∀ i x G, i < n → Same H1 G → P i x G → TurnI g tt te vs σ G x (f i) (v i))
    (k : ∀ D H2, H1 D = none → Same H1 H2 → H2 D = some (.lst (madeI f v n)) → Q (.ref D) H2) : kLc J g tt te vs σ H1 Q := by
  intro D nD
  refine ⟨fun i m H => m = n - i ∧ i ≤ n ∧ H D = some (.lst (madeI f v i)) ∧ Same H1 (off [D] H), ⟨n, rfl, Nat.zero_le _, upd_same, by rw [off_upd, off_new nD]; exact Same.refl _⟩, ?_⟩
  rintro i m H ⟨rfl, hi, hD, hs⟩
  have s0 : Same H1 H := hs.trans off_sub
  by_cases hlt : i < n
  · refine .inr ⟨sr.go i H s0 hlt, fun H' => i + 1 ≤ n ∧ H' D = some (.lst (madeI f v (i + 1))) ∧ Same H1 (off [D] H'), fun H' p => ⟨n - (i + 1), by omega, rfl, p⟩, fun x H' y => ?_⟩
    obtain ⟨s1, px⟩ := sr.yld i H x H' s0 hlt y
    have s01 := s0.trans s1
    have hD1 := s1 _ _ hD
    have up : ∀ {H2}, Same H' H2 → Same H1 (off [D] H2) := fun s b o e => off_mk (s b o (s01 b o e)) (by
      intro hm; rw [List.mem_singleton] at hm; rw [hm, nD] at e; cases e)
    refine ht i x H' hlt s01 px H' (Same.refl _) _ fun σ2 hw ht he => ⟨hw, ht H' (Same.refl _) _ fun H2 s2 => ?_⟩
    cases c : f i with
    | true =>
      refine iteT (he c H2 s2 _ fun H3 s3 => ⟨madeI f v i, s3 _ _ (s2 _ _ hD1), Nat.lt_of_le_of_lt (madeI_le f v i) (Nat.lt_of_lt_of_le (Nat.lt_of_lt_of_le hlt hz) (by decide)), hlt, ?_, ?_⟩)
      · rw [upd_same]
        show some (HO.lst (madeI f v i ++ [v i])) = some (.lst (if f i = true then madeI f v i ++ [v i] else madeI f v i))
        rw [if_pos c]
      · rw [off_upd]; exact up (s2.trans s3)
    | false =>
      refine iteF ⟨hlt, ?_, up s2⟩
      show H2 D = some (.lst (if f i = true then madeI f v i ++ [v i] else madeI f v i))
      rw [if_neg (by rw [c]; exact Bool.false_ne_true)]
      exact s2 _ _ hD1
  · have e : i = n := by omega
    subst e
    exact .inl ⟨sr.stop H s0, k D H nD s0 hD⟩
end
theorem src_str (x : Str) (H1 : Hp) : Src (Its x) H1 x.cps.size (fun i v _ => ∃ c, x.cps[i]? = some c ∧ v = .str ⟨#[c]⟩) :=
  ⟨fun i H _ h => h, fun i H v H' _ _ ⟨e, c, h1, h2⟩ => by subst e; exact ⟨Same.refl _, c, h1, h2⟩, fun H _ => Nat.le_refl _⟩
theorem w_lcS {te0 : TE} {g : TG} {tt : TT} {te : TE} {vs : List Nat} {σ : L2.St} {H : Hp} {Q : VK} (k : te0 σ H fun x H1 => ∃ y, x = .str y ∧ kLc (Its y) g tt te vs σ H1 Q) : tLc (iStr te0) g tt te vs σ H Q := k
section
variable {K : PySem.W.Frag} {a b : Addr} {xs ys : List V} {H1 : Hp}
theorem src_zipL (h1 : SqL K H1 a xs) (h2 : SqL K H1 b ys) (n : Nat) (hn : n = min xs.length ys.length) : Src (Itz K a b) H1 n (fun i v H => ∃ T x y, v = .ref T ∧ H T = some (.tup [x, y]) ∧ xs[i]? = some x ∧ ys[i]? = some y) :=
  ⟨fun i H s h => ⟨xs, ys, xs[i], ys[i], s.seq h1, s.seq h2, List.getElem?_eq_getElem (by omega), List.getElem?_eq_getElem (by omega)⟩,
    fun i H v H' s h ⟨T, x, y, e, nT, e2, q1, q2⟩ => by subst e2; exact ⟨same_new nT, T, x, y, e, upd_same, q1 _ (s.seq h1), q2 _ (s.seq h2)⟩, fun H s => ⟨xs, ys, s.seq h1, s.seq h2, by omega⟩⟩
theorem src_zipT (h1 : SqT K H1 a xs) (h2 : SqT K H1 b ys) (n : Nat) (hn : n = min xs.length ys.length) : Src (RZ.ItzT K a b) H1 n (fun i v H => ∃ T x y, v = .ref T ∧ H T = some (.tup [x, y]) ∧ xs[i]? = some x ∧ ys[i]? = some y) :=
  ⟨fun i H s h => ⟨xs, ys, xs[i], ys[i], same_seqT s h1, same_seqT s h2, List.getElem?_eq_getElem (by omega), List.getElem?_eq_getElem (by omega)⟩,
    fun i H v H' s h ⟨T, x, y, e, nT, e2, q1, q2⟩ => by subst e2; exact ⟨same_new nT, T, x, y, e, upd_same, q1 _ (same_seqT s h1), q2 _ (same_seqT s h2)⟩, fun H s => ⟨xs, ys, same_seqT s h1, same_seqT s h2, by omega⟩⟩
end
theorem pi_zipK {X : Cx} (K : PySem.W.Frag) {e e2 : Expr} {ta : TA} {p pos tpos : Pos} {elts : List Expr} {kk : Nat} (hg : Gl X "zip") (hm : X.mg "zip" = none) (ha : PA X [e, e2] ta) (h : X.K = K := by rfl)
    (hs : starEach [e, e2] X.env = (false, eval e X.env) :: starEach [e2] X.env := by rfl) (hpl : (backTo pos (starEach [e2] X.env)).any (·.1) = false := by rfl) :
    PI X (.Tuple elts kk tpos) (.Call (.Name "zip" p) [e, e2] [] pos) (RZ.iZipA K ta) := by subst h; exact RZ.pi_zipA hg hm ha hs hpl
theorem w_lcZ {K : PySem.W.Frag} {ta : TA} {g : TG} {tt : TT} {te : TE} {vs : List Nat} {σ : L2.St} {H : Hp} {Q : VK}
    (k : ta σ H fun zs H1 => ∃ a b xs ys, zs = [.ref a, .ref b] ∧ ((SqL K H1 a xs ∧ SqL K H1 b ys ∧ kLc (Itz K a b) g tt te vs σ H1 Q) ∨ (SqT K H1 a xs ∧ SqT K H1 b ys ∧ kLc (RZ.ItzT K a b) g tt te vs σ H1 Q))) : tLc (RZ.iZipA K ta) g tt te vs σ H Q := k
/-! ### lists or tuples -/
def rIxE (K : PySem.W.Frag) : R2 := fun x y H Q => rIxL K x y H Q ∨ rIxT K x y H Q
theorem k_ixE {X : Cx} (K : PySem.W.Frag) (h : X.K = K := by rfl) : IxR X (rIxE K) := by subst h; exact IxR.or ix_list ix_tup
def rSlE (K : PySem.W.Frag) : V → Option Int → Option Int → Hp → VK → Prop := fun x lo hi H Q => rSlL K x lo hi H Q ∨ rSlA K x lo hi H Q
theorem k_slE {X : Cx} (K : PySem.W.Frag) (h : X.K = K := by rfl) : SlR X (rSlE K) := by
  subst h
  intro pins s σ H x v vl vu lo hi sl Q I rx hs pl pu h
  rcases h with h | h
  · exact sl_list pins s σ H x v vl vu lo hi sl Q I rx hs pl pu h
  · exact sl_tupA pins s σ H x v vl vu lo hi sl Q I rx hs pl pu h
/-- a list or a tuple -/
def SqE (K : PySem.W.Frag) (H : Hp) (a : Addr) (xs : List V) : Prop := SqL K H a xs ∨ SqT K H a xs
theorem SqE.same {K : PySem.W.Frag} {H H' : Hp} {a : Addr} {xs : List V} (s : Same H H') : SqE K H a xs → SqE K H' a xs
  | .inl h => .inl (s.seq h)
  | .inr h => .inr (same_seqT s h)
theorem w_ixE {K : PySem.W.Frag} {H : Hp} {Q : VK} {p : Addr} {xs : List V} {j : Int} {v : V} (h : SqE K H p xs) (ha : atI xs j = some v) (k : Q v H) : rIxE K (.ref p) (.int j) H Q := by
  rcases h with h | h
  · exact .inl ⟨p, xs, j, v, rfl, rfl, h, ha, k⟩
  · exact .inr ⟨p, xs, j, v, rfl, rfl, h, ha, k⟩
theorem w_lenE {K : PySem.W.Frag} {H : Hp} {Q : VK} {p : Addr} {xs : List V} (h : SqE K H p xs) (k : Q (.int xs.length) H) : rLen K [.ref p] H Q := ⟨p, xs, rfl, h, k⟩
/-! ### order of texts -/
def rLeS : R2 := fun x y H Q => ∃ i j, x = .str i ∧ y = .str j ∧ Q (.bl (!decide (j.cps.toList < i.cps.toList))) H
theorem k_leS {X : Cx} : OpR X (compareOp .LtE) rLeS := op_le_str
theorem w_leS {i j : Str} {H : Hp} {Q : VK} (k : Q (.bl (!decide (j.cps.toList < i.cps.toList))) H) : rLeS (.str i) (.str j) H Q := ⟨i, j, rfl, rfl, k⟩
def ltS (a b : Str) : Bool := decide (a.cps.toList < b.cps.toList)
/-! ### labels -/
def letterC (c : Nat) : Bool := decide (97 ≤ c) && decide (c ≤ 122)
def labelS (x : Str) : Bool := (decide (1 ≤ x.cps.size) && decide (x.cps.size ≤ 8)) && x.cps.toList.all letterC
def labelD : PyData → Bool
  | .str x => labelS x
  | _ => false
theorem one_lt (c d : Nat) : decide ((⟨#[c]⟩ : Str).cps.toList < (⟨#[d]⟩ : Str).cps.toList) = decide (c < d) := by
  have : ((⟨#[c]⟩ : Str).cps.toList < (⟨#[d]⟩ : Str).cps.toList) ↔ c < d := by
    show [c] < [d] ↔ c < d
    rw [List.cons_lt_cons_iff]
    simp
  exact decide_eq_decide.mpr this
def rStrip : V → List V → Hp → VK → Prop := fun x xs H Q => ∃ a b, x = .str a ∧ xs = [.str b] ∧ a.length ≤ sizeLine ∧ Q (.str (Txt.stripChars a b)) H
theorem mt_stripC {X : Cx} : MtR X "str.strip" rStrip := mt_stripChars
theorem takeWhile_all {p : Nat → Bool} : ∀ {l : List Nat}, (l.takeWhile p).length = l.length ↔ l.all p = true
  | [] => by simp
  | x :: r => by
    by_cases h : p x = true
    · rw [List.takeWhile_cons_of_pos h, List.length_cons, List.length_cons, List.all_cons, h, Bool.true_and, ← takeWhile_all (l := r)]
      omega
    · rw [List.takeWhile_cons_of_neg h, List.all_cons]
      simp [h]
theorem takeWhile_neg {p : Nat → Bool} : ∀ {l : List Nat}, (l.takeWhile p).length < l.length → ∃ c r, l.drop (l.takeWhile p).length = c :: r ∧ p c = false
  | [], h => absurd h (by simp)
  | x :: r, h => by
    by_cases q : p x = true
    · rw [List.takeWhile_cons_of_pos q] at h ⊢
      obtain ⟨c, r', e, hc⟩ := takeWhile_neg (p := p) (l := r) (by simpa using h)
      exact ⟨c, r', by simpa using e, hc⟩
    · rw [List.takeWhile_cons_of_neg q]
      exact ⟨x, r, rfl, by simpa using q⟩
theorem takeWhile_le {p : Nat → Bool} (l : List Nat) : (l.takeWhile p).length ≤ l.length := (List.takeWhile_sublist _).length_le
theorem strip_empty (x y : Str) : decide (Txt.stripChars x y = Str.empty) = x.cps.toList.all y.cps.contains := by
  generalize hp : (y.cps.contains : Nat → Bool) = p
  have e0 : Txt.stripChars x y = Txt.stripBy p true true x := by unfold Txt.stripChars; rw [hp]
  rw [e0]
  have hl : x.length = x.cps.toList.length := by rw [Array.length_toList]; rfl
  have emp : ∀ z : Str, z = Str.empty ↔ z.cps.size = 0 := fun z => by
    constructor
    · rintro rfl; rfl
    · intro h
      obtain ⟨c⟩ := z
      have : c = #[] := Array.eq_empty_of_size_eq_zero h
      rw [this]; rfl
  by_cases ha : x.cps.toList.all p = true
  · rw [ha]
    refine decide_eq_true ((emp _).mpr ?_)
    have hlo : stripLo p true x = x.length := by unfold stripLo; rw [if_pos rfl, takeWhile_all.mpr ha, hl]
    unfold Txt.stripBy
    by_cases c : stripSame p true true x = true
    · rw [if_pos c]
      unfold stripSame at c
      rw [hlo] at c
      simp at c
      exact c.1
    · rw [if_neg c]
      unfold stripped Builtin.Str.strSub
      rw [hlo]
      show (x.cps.extract x.length _).size = 0
      rw [Array.size_extract]
      have : x.length = x.cps.size := rfl
      omega
  · rw [Bool.eq_false_iff.mpr ha]
    refine decide_eq_false fun e => ?_
    have e := (emp _).mp e
    have hlt : (x.cps.toList.takeWhile p).length < x.cps.toList.length := Nat.lt_of_le_of_ne (takeWhile_le _) fun q => ha (takeWhile_all.mp q)
    have hlo : stripLo p true x = (x.cps.toList.takeWhile p).length := by unfold stripLo; rw [if_pos rfl]
    obtain ⟨c0, r, ed, hc0⟩ := takeWhile_neg hlt
    have hsz : x.cps.size = x.cps.toList.length := by rw [Array.length_toList]
    unfold Txt.stripBy at e
    by_cases c : stripSame p true true x = true
    · rw [if_pos c] at e
      omega
    · rw [if_neg c] at e
      unfold stripped Builtin.Str.strSub at e
      have e : (x.cps.extract (stripLo p true x) (stripHi p true x (stripLo p true x))).size = 0 := e
      rw [Array.size_extract] at e
      have hhi : stripHi p true x (stripLo p true x) = x.length - ((x.cps.toList.drop (stripLo p true x)).reverse.takeWhile p).length := by unfold stripHi; rw [if_pos rfl]
      rw [hhi, hlo, ed] at e
      have h1 : ((c0 :: r).reverse.takeWhile p).length < (c0 :: r).length := by
        have q := takeWhile_le (p := p) (c0 :: r).reverse
        rw [List.length_reverse] at q
        refine Nat.lt_of_le_of_ne q fun z => ?_
        have : (c0 :: r).reverse.all p = true := takeWhile_all.mp (by rw [List.length_reverse]; exact z)
        rw [List.all_reverse, List.all_cons, hc0] at this
        cases this
      have h2 := congrArg List.length ed
      rw [List.length_drop] at h2
      omega
theorem letters_in : ∀ c : Nat, (Str.ofString "abcdefghijklmnopqrstuvwxyz").cps.contains c = letterC c := by
  intro c
  have e : (Str.ofString "abcdefghijklmnopqrstuvwxyz").cps = ((List.range 26).map (· + 97)).toArray := by decide +kernel
  rw [e]
  unfold letterC
  by_cases h : 97 ≤ c ∧ c ≤ 122
  · rw [decide_eq_true h.1, decide_eq_true h.2]
    rw [List.contains_toArray, List.contains_iff_mem.mpr (List.mem_map.mpr ⟨c - 97, List.mem_range.mpr (by omega), by omega⟩)]
    rfl
  · have : (decide (97 ≤ c) && decide (c ≤ 122)) = false := by
      rw [Bool.and_eq_false_iff]
      by_cases q : 97 ≤ c
      · right; exact decide_eq_false (by omega)
      · left; exact decide_eq_false q
    rw [this, List.contains_toArray, Bool.eq_false_iff]
    intro m
    obtain ⟨j, mj, ej⟩ := List.mem_map.mp (List.contains_iff_mem.mp m)
    have := List.mem_range.mp mj
    omega
end Sil
set_option Elab.async false
set_option linter.all false
set_option maxRecDepth 100000
set_option maxHeartbeats 2000000
/-! P27: what a watch is, as data; tame data. -/
namespace Sil
open PySem L2 PySem.Spec PyProof.Rows
def strD : PyData → Str
  | .str x => x
  | _ => Str.empty
def fstD : PyData → PyData
  | .tuple (d :: _) => d
  | _ => .none
def sndI : PyData → Int
  | .tuple [_, .int i] => i
  | _ => 0
def risingS : List Str → Bool
  | a :: b :: r => ltS a b && risingS (b :: r)
  | _ => true
def fewD (ds : List PyData) : Bool := decide (1 ≤ ds.length) && decide (ds.length ≤ 10)
def namesD : PyData → Bool
  | .tuple ds => fewD ds && (ds.all labelD && risingS (ds.map strD))
  | _ => false
/-- a pair of a label and a whole number -/
def pairD : PyData → Bool
  | .tuple [a, .int _] => labelD a
  | _ => false
def weightD (d : PyData) : Bool := pairD d && (decide (1 ≤ (sndI d).natAbs) && decide ((sndI d).natAbs ≤ 999999))
def weightsD : PyData → Bool
  | .tuple ds => fewD ds && (ds.all weightD && risingS (ds.map fun d => strD (fstD d)))
  | _ => false
def loose (wd : Str) : Bool := decide (wd = Str.ofString "over") || decide (wd = Str.ofString "count")
def limitD (wd : Str) : PyData → Bool
  | .int i => decide (i.natAbs ≤ 10 ^ 30 - 1) && (decide (0 ≤ i) || loose wd)
  | _ => false
def weighedS (wd : Str) : Bool := decide (wd = Str.ofString "sum") || decide (wd = Str.ofString "over")
def listedS (wd : Str) : Bool := decide (wd = Str.ofString "most") || decide (wd = Str.ofString "count")
def handsD (wd : Str) (d : PyData) : Bool := if weighedS wd = true then weightsD d else namesD d
def wordS (wd : Str) : Bool := weighedS wd || listedS wd
def watchD : PyData → Bool
  | .tuple [.str wd, a, l] => wordS wd && (handsD wd a && limitD wd l)
  | _ => false
/-! ### places of data -/
section
variable {K : PySem.W.Frag} {H : Hp}
theorem dpAll_len : ∀ {xs : List V} {ds : List PyData}, DpAll K H xs ds → xs.length = ds.length
  | _, _, .nil => rfl
  | _, _, .cons _ r => congrArg (· + 1) (dpAll_len r)
theorem dpAll_get : ∀ {xs : List V} {ds : List PyData}, DpAll K H xs ds → ∀ {i : Nat} {x : V}, xs[i]? = some x → ∃ d, ds[i]? = some d ∧ Dp K H x d
  | _, _, .nil, i, x, h => by cases h
  | _, _, .cons h r, 0, x, e => by cases e; exact ⟨_, rfl, h⟩
  | _, _, .cons h r, i + 1, x, e => dpAll_get r e
theorem dpAll_strs' : ∀ {xs : List V} {ds : List PyData}, DpAll K H xs ds → ds.all isStrD = true → xs = (ds.map strD).map V.str
  | _, _, .nil, _ => rfl
  | _, _, .cons (d := d) h r, e => by
    rw [List.all_cons, Bool.and_eq_true] at e
    rw [List.map_cons, List.map_cons, ← dpAll_strs' r e.2]
    cases h <;> first | rfl | cases e.1
theorem label_str {d : PyData} (h : labelD d = true) : isStrD d = true := by cases d <;> first | rfl | cases h
theorem all_imp {α : Type} {p q : α → Bool} (h : ∀ x, p x = true → q x = true) : ∀ {l : List α}, l.all p = true → l.all q = true
  | [], _ => rfl
  | x :: r, e => by
    rw [List.all_cons, Bool.and_eq_true] at e ⊢
    exact ⟨h x e.1, all_imp h e.2⟩
theorem dpAll_app : ∀ {xs ys : List V} {ds es : List PyData}, DpAll K H xs ds → DpAll K H ys es → DpAll K H (xs ++ ys) (ds ++ es)
  | _, _, _, _, .nil, h => h
  | _, _, _, _, .cons h r, q => .cons h (dpAll_app r q)
theorem dpAll_drop : ∀ {xs : List V} {ds : List PyData} (n : Nat), DpAll K H xs ds → DpAll K H (xs.drop n) (ds.drop n)
  | _, _, 0, h => h
  | _, _, n + 1, .nil => .nil
  | _, _, n + 1, .cons _ r => dpAll_drop n r
theorem dpAll_take : ∀ {xs : List V} {ds : List PyData} (n : Nat), DpAll K H xs ds → DpAll K H (xs.take n) (ds.take n)
  | _, _, 0, _ => .nil
  | _, _, n + 1, .nil => .nil
  | _, _, n + 1, .cons h r => .cons h (dpAll_take n r)
theorem dpAll_rev : ∀ {xs : List V} {ds : List PyData}, DpAll K H xs ds → DpAll K H xs.reverse ds.reverse
  | _, _, .nil => .nil
  | _, _, .cons h r => by
    rw [List.reverse_cons, List.reverse_cons]
    exact dpAll_app (dpAll_rev r) (.cons h .nil)
end
/-! ### rising -/
theorem cut_one (xs : List V) : cutV xs (some 1) none = xs.drop 1 := by
  unfold cutV
  have e1 : HT.sIx xs.length 0 (some 1) = min 1 xs.length := HT.sIx_nat xs.length 0 1
  rw [e1, HT.sIx_none]
  cases xs with
  | nil => rfl
  | cons x r =>
    rw [show min 1 (x :: r).length = 1 from by rw [List.length_cons]; omega]
    rw [List.take_of_length_le (by rw [List.length_drop]; exact Nat.le_refl _)]
def riseB (xs : List Str) (i : Nat) : Bool := ltS (xs.getD i Str.empty) (xs.getD (i + 1) Str.empty)
theorem rise_all : ∀ xs : List Str, ((List.range (xs.length - 1)).map (riseB xs)).all id = risingS xs
  | [] => rfl
  | [a] => rfl
  | a :: b :: r => by
    have ih := rise_all (b :: r)
    rw [show (a :: b :: r).length - 1 = ((b :: r).length - 1) + 1 from rfl, List.range_succ_eq_map, List.map_cons, List.map_map, List.all_cons]
    show (ltS a b && _) = (ltS a b && risingS (b :: r))
    rw [← ih]
    rfl
theorem rise_made (xs : List Str) : madeI (fun _ => true) (fun i => V.bl (riseB xs i)) (xs.length - 1) = ((List.range (xs.length - 1)).map (riseB xs)).map V.bl := by
  rw [madeI_all, List.map_map]; rfl
theorem all_made (p : PyData → Bool) (ds : List PyData) (n : Nat) (h : n = ds.length) : madeI (fun _ => true) (fun i => V.bl (p (ds.getD i .none))) n = (ds.map p).map V.bl := by
  subst h
  rw [madeI_all]
  have e := congrArg (fun l => (l.map p).map V.bl) (range_at PyData.none ds)
  rw [List.map_map, List.map_map] at e
  exact e
theorem all_id {α : Type} (p : α → Bool) : ∀ l : List α, (l.map p).all id = l.all p
  | [] => rfl
  | x :: r => by rw [List.map_cons, List.all_cons, List.all_cons, all_id p r]; rfl
/-! ### a choice as a test -/
def tIfT (t ta tb : TT) : TT := fun σ H Q => t σ H fun c H1 => if c = true then ta σ H1 Q else tb σ H1 Q
theorem pt_ifE {X : Cx} {c a b : Expr} {pos : Pos} {tA ta tb : TT} (hc : PT X c tA) (ha : PT X a ta) (hb : PT X b tb) : PT X (.IfExp c a b pos) (tIfT tA ta tb) := by
  refine ⟨fun pins s σ H Q I h => ?_⟩
  refine isTrue_IfExp (thn (hc.run pins s σ H _ I h) fun d s1 ⟨H1, I1, q1⟩ => ?_)
  cases d with
  | true => exact ha.run pins s1 σ H1 Q I1 q1
  | false => exact hb.run pins s1 σ H1 Q I1 q1
theorem w_ifT {t ta tb : TT} {σ : L2.St} {H : Hp} {Q : Bool → Hp → Prop} (k : t σ H fun c H1 => if c = true then ta σ H1 Q else tb σ H1 Q) : tIfT t ta tb σ H Q := k
/-! ### tame data -/
structure StrOk (x : Str) : Prop where
  len : x.length ≤ 1000
  rep : (reprText x).length ≤ 1000
  lay : PyData.canLay0 (.str x) = true
inductive Tm : Nat → PyData → Prop
  | non (n : Nat) : Tm n .none
  | bl (n : Nat) (b : Bool) : Tm n (.bool b)
  | int (n : Nat) (i : Int) : i.natAbs ≤ 10 ^ 30 → Tm n (.int i)
  | str (n : Nat) (x : Str) : StrOk x → Tm n (.str x)
  | lst (n : Nat) (ds : List PyData) : (∀ d, d ∈ ds → Tm n d) → Tm (n + 1) (.list ds)
  | tup (n : Nat) (ds : List PyData) : (∀ d, d ∈ ds → Tm n d) → Tm (n + 1) (.tuple ds)
theorem Tm.mono {n : Nat} {d : PyData} (h : Tm n d) : ∀ {m : Nat}, n ≤ m → Tm m d := by
  induction h with
  | non n => intro m _; exact .non m
  | bl n b => intro m _; exact .bl m b
  | int n i h => intro m _; exact .int m i h
  | str n x h => intro m _; exact .str m x h
  | lst n ds h ih =>
    intro m hm
    obtain ⟨k, rfl⟩ : ∃ k, m = k + 1 := ⟨m - 1, by omega⟩
    exact .lst k ds fun d md => ih d md (by omega)
  | tup n ds h ih =>
    intro m hm
    obtain ⟨k, rfl⟩ : ∃ k, m = k + 1 := ⟨m - 1, by omega⟩
    exact .tup k ds fun d md => ih d md (by omega)
end Sil
set_option Elab.async false
set_option linter.all false
set_option maxRecDepth 100000
set_option maxHeartbeats 2000000
/-! P28: own classes of errors over any built-in class, with an own __init__. -/
namespace Sil
open PySem L2 PySem.Spec PyProof.Rows
/-- a built-in class of errors (its mro bm) from which own ones come; newId is what makes them, O the class that owns it -/
structure XBase (O newId : String) (bm : List Value) : Prop where
  own : ∃ initId bmO, ExcBaseFacts O newId initId bmO
  hO : bm.contains (.type O) = true
  hA : bm.contains (.type "AttributeError") = false
  hN : bm.contains (.type "NameError") = false
  hB : bm.contains (.type "object") = true
  pass : ∀ self : Value, refuseLoop self "__setattr__" bm = pure ()
def bmV : List Value := [.type "ValueError", .type "Exception", .type "BaseException", .type "object"]
def bmK : List Value := [.type "KeyError", .type "LookupError", .type "Exception", .type "BaseException", .type "object"]
def bmL : List Value := [.type "LookupError", .type "Exception", .type "BaseException", .type "object"]
def bmI : List Value := [.type "IndexError", .type "LookupError", .type "Exception", .type "BaseException", .type "object"]
def bmO : List Value := [.type "OverflowError", .type "ArithmeticError", .type "Exception", .type "BaseException", .type "object"]
def bmR : List Value := [.type "RuntimeError", .type "Exception", .type "BaseException", .type "object"]
theorem xb_V : XBase "ValueError" "ValueError.__new__" bmV := ⟨⟨_, _, F.excBase_ValueError⟩, by decide +kernel, by decide +kernel, by decide +kernel, by decide +kernel, fun _ => by kernel_rfl⟩
theorem xb_K : XBase "LookupError" "LookupError.__new__" bmK := ⟨⟨_, _, F.excBase_LookupError⟩, by decide +kernel, by decide +kernel, by decide +kernel, by decide +kernel, fun _ => by kernel_rfl⟩
theorem xb_L : XBase "LookupError" "LookupError.__new__" bmL := ⟨⟨_, _, F.excBase_LookupError⟩, by decide +kernel, by decide +kernel, by decide +kernel, by decide +kernel, fun _ => by kernel_rfl⟩
theorem xb_I : XBase "IndexError" "IndexError.__new__" bmI := ⟨⟨_, _, F.excBase_IndexError⟩, by decide +kernel, by decide +kernel, by decide +kernel, by decide +kernel, fun _ => by kernel_rfl⟩
theorem xb_O : XBase "OverflowError" "OverflowError.__new__" bmO := ⟨⟨_, _, F.excBase_OverflowError⟩, by decide +kernel, by decide +kernel, by decide +kernel, by decide +kernel, fun _ => by kernel_rfl⟩
theorem xb_R : XBase "RuntimeError" "RuntimeError.__new__" bmR := ⟨⟨_, _, F.excBase_RuntimeError⟩, by decide +kernel, by decide +kernel, by decide +kernel, by decide +kernel, fun _ => by kernel_rfl⟩
/-! ### self.f = v -/
section
open Builtin Builtin.ObjectAttr
variable {prog : Program} {w : World} {A : Around} {R : Result → Shared → Prop} {hp : Heap} {g : Array GenState} {d : Drawn} {t : Nat} {os : OsState} {K : PySem.W.Frag} {x C : Addr} {name : Str} {tk : Tok} {v : Value} {cd : ClassData} {O newId : String} {bm : List Value}
/-- up to the store itself -/
theorem xset_head (B : XBase O newId bm) (X : K.In hp) {ox : Obj} {od : Option Obj} (I : PySem.W.InstAt hp x ox C od) (hcd : PySem.W.clsIn K C = some cd) (hm : cd.mro = .ref C :: bm) (ha : PySem.W.findIn K (.ref C) name = some none)
    (q : wpAny (model prog w) A.in1 (storeInOwnDict (.ref x) (.ref C) (.str name tk) name v false)
      (fun fin s' => match fin with | .done f => R (.ok f) s' | .again c' => c'.quiet = true ∧ codeAny (model prog w) A c' R s') (fun e s' => R (.error e) s') ⟨hp, g, d, t, os⟩) :
    codeAny (model prog w) A (.call (.builtin "object.__setattr__") ⟨[.ref x, .str name tk, v], []⟩) R ⟨hp, g, d, t, os⟩ := by
  have S := F.store_object
  have inObj : PySem.W.Looks (model prog w) hp (isInstance (.ref x) (.type "object")) true := by
    refine I.type.andThen (PySem.W.looks_mroIn X ?_)
    unfold PySem.W.mroIn
    rw [hcd, Option.bind_some, hm]
    show (if _ then _ else _) = _
    rw [if_neg (by simp), List.contains_cons, B.hB, Bool.or_true]
  have along : PySem.W.Looks (model prog w) hp (mroOf (.ref C)) cd.mro := (PySem.W.looks_clsIn X hcd).andThen .now
  have none_ : PySem.W.Looks (model prog w) hp (storeTaker? none) none := .now
  refine codeAny_call_builtin S.slot.plain S.entry ?_
  refine PySem.W.check_slot (M := model prog w) (s := ⟨hp, g, d, t, os⟩) (i := "object.__setattr__") (owner := "object") (n := "__setattr__") (self := .ref x) (rest := [.str name tk, v]) (kw := []) S.kind S.split inObj (S.args (.ref x) (.str name tk) v) ?_
  rw [PySem.W.osa_eq, refuse_eq]
  refine wpAny_bind (wpAny_bind (I.type.at (wpAny_bind (along.at ?_))))
  rw [hm, refuseLoop_ref, B.pass]
  refine wpAny_pure (wpAny_bind (I.type.at ?_))
  refine wpAny_bind ((PySem.W.looks_findIn X ha).at ?_)
  exact wpAny_bind (none_.at q)
/-- the first field -/
theorem xset_new {fv : Array Value} (B : XBase O newId bm) (X : K.In hp) (hx : hp.get? x = some { cls := .ref C, data := .fields fv }) (hcd : PySem.W.clsIn K C = some cd) (hm : cd.mro = .ref C :: bm) (hh : cd.hasDict = true) (ha : PySem.W.findIn K (.ref C) name = some none)
    (hq : ∀ h' tk' dx, (∀ b o, b ≠ x → hp.get? b = some o → h'.get? b = some o) → hp.objs.size ≤ dx → h'.get? x = some { cls := .ref C, dict := some dx, data := .fields fv } →
      h'.Ns1 dx (fun y => if y = name then some v else none) → R (.ok (.ret .none)) ⟨h', g, d, tk', os⟩) :
    codeAny (model prog w) A (.call (.builtin "object.__setattr__") ⟨[.ref x, .str name tk, v], []⟩) R ⟨hp, g, d, t, os⟩ := by
  refine xset_head B X (ox := { cls := .ref C, data := .fields fv }) (od := none) ⟨hx, rfl, rfl, trivial⟩ hcd hm ha ?_
  have look : PySem.W.Looks (model prog w) hp (classData C) cd := PySem.W.looks_clsIn X hcd
  have far : hp.objs.size ≠ x := Nat.ne_of_gt (Heap.lt_size hx)
  have hx1 : (hp.push { cls := .type "dict", data := .dict #[] }).get? x = some { cls := .ref C, data := .fields fv } := Heap.get?_push_of_some _ hx
  cases cd
  subst hh
  unfold storeInOwnDict ownDictForStores
  repeat (first | (with_reducible refine HandSPX.store_in_new ?ns ?rest) | (with_reducible refine wpAny_loadPart_at hx ?_) | (with_reducible refine look.at ?_) | wp_step)
  case ns => exact ⟨_, #[], _, (Heap.get?_update_ne _ _ _ _ far).trans (Heap.get?_push_at rfl rfl), rfl, fun e he => absurd he (by simp), fun _ => rfl⟩
  case rest =>
    intro h' tk' hn' hs
    refine hq h' tk' hp.objs.size (fun b o hb ho => ?_) (Nat.le_refl _) ?_ hn'
    · rw [hs.2 b (Nat.ne_of_lt (Heap.lt_size ho)), Heap.get?_update_ne _ _ _ _ hb]
      exact Heap.get?_push_of_some _ ho
    · rw [hs.2 x far.symm]
      exact Heap.get?_update_self _ hx1 rfl
/-- a further field -/
theorem xset_old {fv : Array Value} {dx : Addr} {m0 : Str → Option Value} {nl : List Str} (B : XBase O newId bm) (X : K.In hp) (hx : hp.get? x = some { cls := .ref C, dict := some dx, data := .fields fv }) (hns : hp.Ns1 dx m0) (hw : Within m0 nl) (hz : nl.length ≤ 1000)
    (hcd : PySem.W.clsIn K C = some cd) (hm : cd.mro = .ref C :: bm) (hh : cd.hasDict = true) (ha : PySem.W.findIn K (.ref C) name = some none)
    (hq : ∀ h' tk', (∀ b o, b ≠ dx → hp.get? b = some o → h'.get? b = some o) → h'.Ns1 dx (fun y => if y = name then some v else m0 y) → R (.ok (.ret .none)) ⟨h', g, d, tk', os⟩) :
    codeAny (model prog w) A (.call (.builtin "object.__setattr__") ⟨[.ref x, .str name tk, v], []⟩) R ⟨hp, g, d, t, os⟩ := by
  obtain ⟨od, _, _, hod, _, _⟩ := hns.count hw
  refine xset_head B X (ox := { cls := .ref C, dict := some dx, data := .fields fv }) (od := some od) ⟨hx, rfl, rfl, hod⟩ hcd hm ha ?_
  have look : PySem.W.Looks (model prog w) hp (classData C) cd := PySem.W.looks_clsIn X hcd
  cases cd
  subst hh
  unfold storeInOwnDict ownDictForStores
  repeat (first | (with_reducible refine OEX.store_in_old hns hw hz ?rest) | (with_reducible refine wpAny_loadPart_at hx ?_) | (with_reducible refine look.at ?_) | wp_step)
  case rest =>
    intro h' tk' hn' hs
    exact hq h' tk' (fun b o hb ho => by rw [hs.2 b hb]; exact ho) hn'
end
/-! ### in the hand layer -/
theorem upd_comm' {H : Hp} {a b : Addr} {o u : HO} (h : b ≠ a) : upd (upd H a o) b u = upd (upd H b u) a o := by
  funext c
  by_cases h1 : c = b
  · subst h1
    rw [upd_same, upd_ne h, upd_same]
  · by_cases h2 : c = a
    · subst h2
      rw [upd_ne h1, upd_same, upd_same]
    · rw [upd_ne h1, upd_ne h2, upd_ne h2, upd_ne h1]
structure OexG (K : PySem.W.Frag) (C : Addr) (newId : String) (bm : List Value) : Prop where
  cls : ∃ nm q N bs sn sub ab col dd k0 k1 k2 k3 k5, K.lookup C = some (excClassObj nm q C N bs bm true sn sub ab col dd k0 k1 k2 k3 k5 newId)
  sa : PySem.W.findIn K (.ref C) "__setattr__" = some (some (.builtin "object.__setattr__"))
  exC : PySem.W.subIn K (.ref C) (.type "BaseException") = some true
  tyC : PySem.W.typeIn K (.ref C) = some (.type "type")
  kC : PySem.W.keepIn K (.ref C) = true
theorem OexG.data {K : PySem.W.Frag} {C : Addr} {newId : String} {bm : List Value} (T : OexG K C newId bm) : ∃ cd, PySem.W.clsIn K C = some cd ∧ cd.mro = .ref C :: bm ∧ cd.hasDict = true := by
  obtain ⟨nm, q, N, bs, sn, sub, ab, col, dd, k0, k1, k2, k3, k5, hC⟩ := T.cls
  refine ⟨{ name := nm, bases := bs, mro := .ref C :: bm, ns := N, qualname := q, hasDict := true, slotNames := sn, subclasses := sub, abstract := ab, collection := col, hasDel := false }, ?_, rfl, rfl⟩
  unfold PySem.W.clsIn
  rw [hC] <;> rfl
section
variable {X : Cx} {pins : List (Addr × Obj)} {σ : L2.St} {H : Hp} {s : Shared} {a C dx : Addr} {f : Str} {y : V} {u : Value} {fs : List (Str × V)} {Q : Unit → Shared → Prop} {E : Value → Shared → Prop} {A : Around} {O newId : String} {bm : List Value}
theorem xst_new (B : XBase O newId bm) (T : OexG X.K C newId bm) (I : Inv X pins σ H s) (e : H a = some (exo a C none)) (hno : PySem.W.findIn X.K (.ref C) f = some none) (ry : RelV y u)
    (h : ∀ dx s', H dx = none → dx ≠ a → Inv X pins σ (upd (upd H dx (exd dx [(f, y)])) a (exo a C (some dx))) s' → Q () s') : wpAny (model X.prog X.w) A (setAttr (.ref a) f u) Q E s := by
  obtain ⟨cd, hcl, hm, hh⟩ := T.data
  obtain ⟨t1, ho⟩ := exo_at I.hok e
  obtain ⟨hp, g, d, t, os⟩ := s
  refine PySem.W.set_plain I.kIn (od := none) (ox := { cls := .ref C, dict := none, data := .fields #[.ref t1, .none, .none, .none, .bool false, .none] }) ⟨ho, rfl, rfl, trivial⟩ T.sa ?_
  refine xset_new B I.kIn ho hcl hm hh hno fun h' tk' dx k dn hx hn => ?_
  have hnd : H dx = none := I.hok.fresh dn
  have dne : dx ≠ a := fun z => by rw [z, e] at hnd; cases hnd
  -- the heap without the new dict
  obtain ⟨G, g1, g2⟩ := restrict h' fun b => decide (b ≠ dx)
  have gk : ∀ b, b ≠ dx → G.get? b = h'.get? b := fun b hb => g1 b (decide_eq_true hb)
  have ga := (gk a dne.symm).trans hx
  have J : Inv X pins σ (upd H a (exo a C (some dx))) ⟨G, g, d, tk', os⟩ :=
    I.write (t' := tk') (x := a) (e := a) (by rw [e]; exact True.intro) (.inl rfl) (fun b o hb q => (gk b (Nat.ne_of_lt (Nat.lt_of_lt_of_le (Heap.lt_size q) dn))).trans (k b o hb q)) ⟨_, ga⟩ (exo_ok ga)
  have J2 := J.laidN (t' := tk') (a := dx) (o := exd dx [(f, y)]) (h' := h') (fun b o q => by
      by_cases hb : b = dx
      · rw [hb, g2 dx (by simp)] at q; cases q
      · rw [← gk b hb]; exact q) (g2 dx (by simp)) (by rw [upd_ne dne]; exact hnd) (exd_ok hn (relO_put (fs := []) ry fun _ => True.intro))
  rw [show upd (upd H a (exo a C (some dx))) dx (exd dx [(f, y)]) = upd (upd H dx (exd dx [(f, y)])) a (exo a C (some dx)) from upd_comm' dne] at J2
  exact h dx _ hnd dne J2
theorem xst_old (B : XBase O newId bm) (T : OexG X.K C newId bm) (I : Inv X pins σ H s) (e : H a = some (exo a C (some dx))) (ed : H dx = some (exd dx fs)) (hl : fs.length ≤ 900) (hno : PySem.W.findIn X.K (.ref C) f = some none) (ry : RelV y u)
    (h : ∀ s', Inv X pins σ (upd H dx (exd dx ((f, y) :: fs))) s' → Q () s') : wpAny (model X.prog X.w) A (setAttr (.ref a) f u) Q E s := by
  obtain ⟨cd, hcl, hm, hh⟩ := T.data
  obtain ⟨t1, ho⟩ := exo_at I.hok e
  obtain ⟨mA, hns, rel⟩ := exd_at I.hok ed
  have hw := within_of rel
  obtain ⟨hp, g, d, t, os⟩ := s
  obtain ⟨od, _, _, hod, _, _⟩ := hns.count hw
  refine PySem.W.set_plain I.kIn (od := some od) (ox := { cls := .ref C, dict := some dx, data := .fields #[.ref t1, .none, .none, .none, .bool false, .none] }) ⟨ho, rfl, rfl, hod⟩ T.sa ?_
  refine xset_old B I.kIn ho hns hw (by rw [List.length_map]; omega) hcl hm hh hno fun h' tk' k hn => ?_
  obtain ⟨o2, _, _, e2, _⟩ := id hn
  exact h _ (I.write (t' := tk') (x := dx) (e := dx) (by rw [ed]; exact True.intro) (.inl rfl) k ⟨o2, e2⟩ (exd_ok hn (relO_put ry rel)))
end
/-- self.f = e -/
def tOstG (K : PySem.W.Frag) (f : Str) (to te : TE) : TS := fun D σ H => te σ H fun y H1 => to σ H1 fun x H2 => ∃ (a C : Addr) (O newId : String) (bm : List Value), x = .ref a ∧ XBase O newId bm ∧ OexG K C newId bm ∧ PySem.W.findIn K (.ref C) f = some none ∧
  ((H2 a = some (exo a C none) ∧ ∀ dx, H2 dx = none → dx ≠ a → D.nx σ (upd (upd H2 dx (exd dx [(f, y)])) a (exo a C (some dx)))) ∨
    ∃ (dx : Addr) (fs : List (Str × V)), H2 a = some (exo a C (some dx)) ∧ H2 dx = some (exd dx fs) ∧ fs.length ≤ 900 ∧ D.nx σ (upd H2 dx (exd dx ((f, y) :: fs))))
theorem ps_ostG {X : Cx} {o e : Expr} {to te : TE} {f : Str} {p' pos : Pos} (ho : PE X o to) (he : PE X e te) (hs : swapsWith e (some (.Attribute o f p')) pos.line X.env = pure false := by rfl) : PS X (.Assign [.Attribute o f p'] e pos) (tOstG X.K f to te) := by
  refine ⟨fun pins s σ H D I h => plainObj_wpAny_Assign_Attribute (thn (he.run pins s σ H _ I h) ?_) hs⟩
  rintro v s1 ⟨y, H1, I1, r1, q1⟩
  refine thn (ho.run pins s1 σ H1 _ I1 q1) ?_
  rintro w s2 ⟨x, H2, I2, r2, a, C, O, newId, bm, rfl, B, T, hno, q⟩
  obtain rfl : w = Value.ref a := r2
  rcases q with ⟨ea, q⟩ | ⟨dx, fs, ea, ed, hl, q⟩
  · exact xst_new B T I2 ea hno r1 fun dx s' n ne J => ⟨σ, _, J, q dx n ne⟩
  · exact xst_old B T I2 ea ed hl hno r1 fun s' J => ⟨σ, _, J, q⟩
end Sil
set_option Elab.async false
set_option linter.all false
set_option maxRecDepth 100000
set_option maxHeartbeats 2000000
/-! P29: C(..) of such a class. -/
namespace Sil
open PySem L2 PySem.Spec
section
variable {prog : Program} {w : World} {A : Around} {E : Value → Shared → Prop} {R : Result → Shared → Prop} {h : Heap} {g : Array GenState} {d : Drawn} {t : Nat} {os : OsState}
variable {nm q : Str} {C N : Addr} {bs bm : List Value} {sn : List Str} {sub : List Value} {ab : Bool} {col : Option Bool} {dd : Option Addr} {k0 k1 k2 k3 k5 : Option Value} {O newId : String} {us : List Value}
/-- the call of what makes it is let through -/
theorem xnew_check (B : XBase O newId bm) {Q : Unit → Shared → Prop} (hC : h.get? C = some (excClassObj nm q C N bs bm true sn sub ab col dd k0 k1 k2 k3 k5 newId)) (k : Q () ⟨h, g, d, t, os⟩) :
    wpAny (model prog w) A (checkBuiltinCall newId ⟨.ref C :: us, []⟩) Q E ⟨h, g, d, t, os⟩ := by
  obtain ⟨_, _, F⟩ := B.own
  have mem : (Value.ref C :: bm).contains (.type O) = true := by rw [List.contains_cons, B.hO, Bool.or_true]
  have plain := F.noStar
  simp only [checkBuiltinCall, F.newKind, F.newSplit, F.newRow]
  repeat (first
    | refine wpAny_loadPart_at hC ?_
    | (refine wpAny_isSubtype_exc hC ?_; rw [mem])
    | refine wpAny_staticBase_exc hC ?_
    | refine wpAny_madeBy_exc hC ?_
    | simp only [bne_self_eq_false, Bool.false_eq_true, if_false]
    | wp_step)
  exact k
/-- what it makes -/
theorem xnew_run (B : XBase O newId bm) (hC : h.get? C = some (excClassObj nm q C N bs bm true sn sub ab col dd k0 k1 k2 k3 k5 newId)) (hl : us.length ≤ sizeLine)
    (k : R (.ok (.ret (.ref (h.objs.size + 1)))) ⟨(h.push (PySem.W.kdv_tup us)).push (HandSPX.excO C h.objs.size), g, d, t, os⟩) : codeAny (model prog w) A (.builtin newId ⟨.ref C :: us, []⟩) R ⟨h, g, d, t, os⟩ := by
  obtain ⟨_, _, F⟩ := B.own
  have ends := F.ends
  have m1 : (Value.ref C :: bm).contains (.type O) = true := by rw [List.contains_cons, B.hO, Bool.or_true]
  have m2 : (Value.ref C :: bm).contains (.type "AttributeError") = false := by rw [List.contains_cons, B.hA]; rfl
  have m3 : (Value.ref C :: bm).contains (.type "NameError") = false := by rw [List.contains_cons, B.hN]; rfl
  refine codeAny_builtinAt F.entry ?_
  unfold Builtin.«BaseException.__new__»
  refine wpAt_bind ?_
  show wpAt _ _ _ (stack >>= _) _ _ _
  refine wpAt_bind (wpAt_stack fun p below => wpAt_of_wpAny ?_)
  wp_walk
  refine wpAt_of_wpAny ?_
  rw [F.owner]
  repeat (first
    | with_reducible refine wpAny_madeHere_exc F.canon hC ?_
    | with_reducible refine wpAny_loadPart_at hC ?_
    | (with_reducible refine wpAny_isSubtype_exc hC ?_; first | rw [m1] | rw [m2] | rw [m3])
    | wp_step)
  show R _ _
  rw [Heap.size_push]
  exact k
/-- C(..): made, then its own __init__ -/
theorem xcall (B : XBase O newId bm) {fI : Addr} (hC : h.get? C = some (excClassObj nm q C N bs bm true sn sub ab col dd k0 k1 k2 k3 k5 newId)) (hi : PySem.W.Looks (model prog w) h (typeLookup (.ref C) "__init__") (some (.ref fI)))
    (hb : ∀ self, PySem.W.Looks (model prog w) h (bindSpecial (.ref fI) self) (.ref fI, [self])) (hl : us.length ≤ sizeLine)
    (k : codeAny (model prog w) (A.under (.builtin "type.__call__" ⟨.ref C :: us, []⟩)) (.call (.ref fI) ⟨.ref (h.objs.size + 1) :: us, []⟩) (PySem.W.InitBack (h.objs.size + 1) R)
      ⟨(h.push (PySem.W.kdv_tup us)).push (HandSPX.excO C h.objs.size), g, d, t, os⟩) : codeAny (model prog w) A (.call (.ref C) ⟨us, []⟩) R ⟨h, g, d, t, os⟩ := by
  obtain ⟨_, _, F⟩ := id B.own
  have f1 := tc_lookup
  have f2 := tc_bind (.ref C)
  have isT : (⟨h, g, d, t, os⟩ : Shared).TypeIs (.ref C) "type" := ⟨_, hC, rfl⟩
  have keep : ∀ b o, h.get? b = some o → ((h.push (PySem.W.kdv_tup us)).push (HandSPX.excO C h.objs.size)).get? b = some o := fun b o e => Heap.get?_push_of_some _ (Heap.get?_push_of_some _ e)
  have there : ((h.push (PySem.W.kdv_tup us)).push (HandSPX.excO C h.objs.size)).get? (h.objs.size + 1) = some (HandSPX.excO C h.objs.size) := by heap_get
  have hC2 := keep _ _ hC
  have self_ : (Value.ref C :: bm).contains (.ref C) = true := by simp
  have i2 := hi.keeps keep
  have b2 := (hb (.ref (h.objs.size + 1))).keeps keep
  refine codeAny_of_tree ?_
  show wpAny _ _ (callAny (.ref C) _) _ _ _
  repeat (any_goals (first | assumption | with_reducible refine wpAny_loadPart_at hC ?_ | wp_step))
  refine ⟨rfl, codeAny_call_builtin_at (Code.quiet_builtin _ (by decide +kernel)) entry_typeCall (wpAny_check_type_call_sub hC ?_)⟩
  show wpAny (model prog w) (A.under (.builtin "type.__call__" ⟨.ref C :: us, []⟩)) (Builtin.«type.__call__» ⟨.ref C :: us, []⟩) _ _ ⟨h, g, d, t, os⟩
  repeat (first | with_reducible refine wpAny_loadPart_at hC ?_ | with_reducible refine wpAny_madeBy_exc hC ?_ | wp_step)
  refine codeAny_call_builtin_code (Code.quiet_builtin _ F.quiet) (xnew_check B hC (xnew_run B hC hl ?_))
  show wpAny _ _ _ _ _ _
  unfold isInstance
  repeat (first | with_reducible refine wpAny_loadPart_at there ?_ | (with_reducible refine wpAny_isSubtype_exc hC2 ?_; rw [self_]) | wp_step)
  show wpAny _ _ (typeLookup (.ref C) _) _ _ _
  refine i2.at (wpAny_holding (wpAny_bind (b2.at (wpAny_bind (wpAny_call (codeAny_mono k fun r s' z => ?_))))))
  rcases r with e | (v | _ | _ | _) <;> first | exact z | exact z.elim | skip
  obtain ⟨rfl, z⟩ := z
  first
    | exact wpAny_pure (wpAny_pure z)
    | (wp_walk; exact z)
end
end Sil
set_option Elab.async false
set_option linter.all false
set_option maxRecDepth 100000
set_option maxHeartbeats 2000000
/-! P30: raise C(..) of such a class; several clauses 'except x as n'. -/
namespace Sil
open PySem L2 PySem.Spec PyProof.Rows
section
variable {X : Cx} {O newId : String} {bm : List Value} {C fI : Addr} {k : Nat} {fd : FuncData} {ps : List Str} {sp : Sp} {x : Str} {e : Expr} {es : List Expr} {ta : TA} {p pos : Pos}
/-- C(e, ..), where nothing is handled -/
theorem pmk_oexG {CX : CXT} (B : XBase O newId bm) (T : OexG X.K C newId bm) (iC : PySem.W.findIn X.K (.ref C) "__init__" = some (some (.ref fI))) (tI : PySem.W.typeIn X.K (.ref fI) = some (.type "function"))
    (F1 : FnOk X.prog X.w X.K X.mg X.base CX k fI fd ps sp) (hr : Room (k + 1) X.A) (hb : Binds X.K fd ps []) (hx : Passes CX X (fun _ _ _ => False)) (hg : Gl X x) (hm : X.mg x = some (.ref C)) (ha : PA X (e :: es) ta)
    (hdb : (x == ("__debug__" : Str)) = false := by decide) (he : starEach (e :: es) X.env = (false, eval e X.env) :: starEach es X.env := by rfl) (hpl : (backTo pos (starEach es X.env)).any (·.1) = false := by rfl) :
    L2N.PMk X (.Call (.Name x p) (e :: es) [] pos) (tMkO C sp [] ta) := by
  intro pins s σ H Q I h
  obtain ⟨nm, q, N, bs, sn, sub, ab, col, dd, k0, k1, k2, k3, k5, hC⟩ := T.cls
  refine wpAny_Call_Name_kw (ld_glob I hg hm (PySem.W.callWith_K (h₀ := X.base) I.ok.mod.kin T.kC (thn (ha.run pos pins s σ H _ I h) ?_) he hpl) hdb)
  rintro us ⟨hp, g, dr, tk, os⟩ ⟨vs, H1, I1, r1, hz, q1⟩
  refine ⟨I1.kIn, ?_⟩
  show wpAny _ _ (call (.ref C) us) _ _ _
  -- the object that is made
  let new : Addr := hp.objs.size + 1
  let hp2 : Heap := (hp.push (PySem.W.kdv_tup us)).push (HandSPX.excO C hp.objs.size)
  have up : ∀ b o, hp.get? b = some o → hp2.get? b = some o := fun b o z => Heap.get?_push_of_some _ (Heap.get?_push_of_some _ z)
  have hnew : hp2.get? new = some (HandSPX.excO C hp.objs.size) := by
    show ((hp.push (PySem.W.kdv_tup us)).push (HandSPX.excO C hp.objs.size)).get? (hp.objs.size + 1) = _
    heap_get
  have le1 : hp.objs.size ≤ new := Nat.le_succ _
  have hq := q1 new (I1.hok.fresh le1)
  have I2 : Inv X pins σ (upd H1 new (exo new C none)) ⟨hp2, g, dr, tk, os⟩ := I1.laid (t' := tk) up le1 (exo_ok hnew)
  have rr : Vals (V.ref new :: (vs ++ [])) (Value.ref new :: us) := by rw [List.append_nil]; exact .cons rfl r1
  have hl : (Value.ref new :: us ++ []).length = ps.length := by rw [List.append_nil, ← rr.length]; exact F1.len _ _ _ _ hq
  have hbb := hb ⟨hp2, g, dr, tk, os⟩ (Value.ref new :: us) I2.kIn hl
  rw [List.append_nil] at hbb
  have run := F1.run _ X.stack _ _ ⟨Value.ref new :: us, []⟩ (Value.ref new :: us) _ _ (fun _ _ _ => False) (hr.make C us []) (I2.env0.make C us []) hbb rr hq
  have small : us.length ≤ sizeLine := by rw [← Paired.length r1, sizeLine_eq]; omega
  refine wpAny_call (xcall B (I1.kIn _ _ hC) (PySem.W.looks_findIn I1.kIn iC) (fun self => PySem.W.bind_fn I1.kIn self tI) small (codeAny_mono run ?_))
  rintro (er | fl) s' z
  · exact hx pins σ _ _ er s' I2 z
  · cases fl with
    | ret u =>
      obtain ⟨v, H2, os2, bare2, un2, hok2, rv, rfl, d, fs, ea, ed, hd1, q2⟩ := z
      obtain ⟨h2, g2, d2, t2, os3⟩ := s'
      obtain ⟨t0, G, J, kG, ge, hoe, na⟩ := mk_end0 (d2 := d2) (t2 := t2) I1 le1 up un2 hok2 os2 bare2 ea ed hd1
      exact ⟨rv, new, _, _, ⟨G, g2, d2, t2, os3⟩, _, .ref C, some d, rfl, J, kG, ge, hoe, ⟨rfl, rfl, fun vs z => by cases z; rfl⟩, rfl, rfl, na, rfl, bare2, raises_own T.exC T.tyC, q2⟩
    | next => exact z.elim
    | brk => exact z.elim
    | cont => exact z.elim
/-- C(), an own class of errors without __init__ -/
theorem pmkN_own0 {bmB : List Value} {B initId : String} (F : ExcBaseFacts B newId initId bmB) (q : PySem.W.excIn X.K C bmB newId = true) (gC : X.mg x = some (.ref C))
    (kC : PySem.W.keepIn X.K (.ref C) = true) (r : Raises X (.ref C)) (hg : Gl X x) (hdb : (x == ("__debug__" : Str)) = false := by decide) :
    L2N.PMk X (.Call (.Name x p) [] [] pos) (fun _ H Q => Q (.ref C) none H) := by
  intro pins s σ H Q I h
  refine wpAny_Call_Name_kw (ld_glob I hg gC (PySem.W.callWith_K0 I.kIn kC ?_) hdb)
  obtain ⟨_, _, _, _, _, _, _, _, _, _, _, _, _, _, _, _, _, hC, hN, hni, T⟩ := exc_obj I.kIn q
  exact wpAny_call_exc_subT F T hC hN hni (fun h' e hm => L2N.mk_of I hm r h (I.hok.gone hm.new)) (Nat.zero_le _)
end
/-! ### several clauses -/
abbrev ClauseT := Value × (Addr → Value → Option Addr → TS)
def wAsM (K : PySem.W.Frag) (i : Nat) (Wout : WX) (D : Ends) : List ClauseT → WX
  | [] => Wout
  | (c, ts) :: r => wAs K c i ts (wAsM K i Wout D r) D
inductive AsOk (X : Cx) (n : Str) : List ExceptHandler → List ClauseT → Prop
  | nil : AsOk X n [] []
  | cons {x : Str} {c : Value} {ts : Addr → Value → Option Addr → TS} {b₀ : Stmt} {su : List Stmt} {np pos' : Pos} {hds : List ExceptHandler} {l : List ClauseT} (hc : L2.Names X x c)
      (hsu : ∀ (a : Addr) (oe : Obj) (cls : Value) (d : Option Addr) (pn : List (Addr × Obj)), L2N.Zn cls d oe → (∃ vs, oe.data = .fields vs) → PSs (X.suite a ((a, oe) :: pn)) (b₀ :: su) (ts a cls d)) (r : AsOk X n hds l) :
      AsOk X n (.ExceptHandler (some (.Name x np)) (some n) (b₀ :: su) pos' :: hds) ((c, ts) :: l)
section
variable {X : Cx} {n : Str} {i : Nat} {body : List Stmt} {h₀ : ExceptHandler} {hds : List ExceptHandler} {l : List ClauseT} {pos : Pos} {tb : WX → TS} {Wout : WX}
theorem ps_try_asM (hs : X.stack = X.env :: X.outer) (hf : X.env.frame = some X.env.locals) (hN : X.N.Nodup) (hi : X.N[i]? = some n) (hln : X.env.kindOf n = some .local) (tk : L2N.Takes X Wout)
    (hb : ∀ (W : WX) (pn : List (Addr × Obj)) (xe : Value → Shared → Prop), L2N.Takes (X.tr pn xe) W → PassesOwn (model X.prog X.w) X.A X.env xe → PSs (X.tr pn xe) body (tb W))
    (hh : AsOk X n (h₀ :: hds) l) : PS X (.Try body (h₀ :: hds) [] [] pos) (fun D σ H => tb (wAsM X.K i Wout D l) D σ H) := by
  refine ⟨fun pins s σ H D I h => wpAny_Try_except ?_⟩
  have ok := I.ok
  have fr : X.A.frames = some (X.env :: X.outer) := ok.frames.trans (congrArg some hs)
  refine wpAny_mono ((hb (wAsM X.K i Wout D l) (X.pn ++ pins) _ ?_ PassesOwn.looking).run [] s σ H D (I.toTry _) h) (fun f s1 z => ?_) (fun _ _ z => z)
  · -- an exception comes
    rintro u s' ⟨a, B, sI, pins', σ', H', cls, d, rfl, J', nb, up, sky, na, os, ag, wish⟩
    have J : Inv X pins σ' H' sI := J'.ofTry ok
    rw [show (X.tr (X.pn ++ pins) _).stack = X.env :: X.outer from hs] at sky
    show wpAny (model X.prog X.w) X.A (noteFrame (.ref a) X.env) _ _ _
    refine L2N.Sky.land L2N.Zn.steady fr hf sky fun h3 fl up3 => ?_
    have J3 : Inv X pins σ' H' { s' with heap := h3 } := J.landed nb fl.1 (up.trans up3) os ag
    obtain ⟨oe, vs, he, hz, hd⟩ := fl.there
    have apart : a ∉ frs (X.env :: X.outer) := fun hm => by
      obtain ⟨_, o', e', hnf⟩ := fl.2.2.1.mem hm
      rw [he] at e'; cases e'
      exact hnf _ hd
    have nL : a ≠ X.env.locals := fun z => apart (List.mem_filterMap.mpr ⟨_, List.mem_cons_self, by rw [hf, z]⟩)
    have nF : a ∉ X.fs := fun hm => by
      obtain ⟨y, hy, q⟩ := List.mem_filterMap.mp hm
      exact apart (List.mem_filterMap.mpr ⟨y, List.mem_cons_of_mem _ hy, q⟩)
    have S3 := J3.suite he hd na nL nF
    have typ : PySem.W.Looks (model X.prog X.w) h3 (typeOf (.ref a)) cls := fun A Q E s k q => wpAny_typeOf_ref (k _ _ he) (by rw [hz.1]; exact q)
    suffices go : ∀ {hds' : List ExceptHandler} {l' : List ClauseT}, AsOk X n hds' l' → wAsM X.K i Wout D l' cls d σ' H' →
        wpAny (model X.prog X.w) X.A (handleBy (.ref a) X.env hds') (SP X pins D) X.xe { s' with heap := h3 } from go hh wish
    intro hds' l' hk
    induction hk with
    | nil =>
      intro wish
      obtain ⟨_, _, _, oe', vs', T, _, _, he', _, hd', h1, _⟩ := id fl
      refine wpAny_handleBy_nil ?_
      unfold PySem.passOn
      refine wpAny_bind (wpAny_field he' hd' h1 ?_)
      rw [if_neg (show ¬ ((Value.ref T == Value.none) = true) by simp)]
      have out : wpAny (model X.prog X.w) X.A (setFlight (.ref a) X.env.frame) (fun _ s4 => wpAny (model X.prog X.w) X.A (throw (.ref a) : Sem Flow) (SP X pins D) X.xe s4) X.xe { s' with heap := h3 } := by
        rw [hf]
        exact HandSPX.setFlight_upZ fl fun h4 hh4 up4 => wpAny_throw (tk _ _ ⟨a, B, sI, pins, σ', H', cls, d, rfl, J, nb, (up.trans up3).trans up4, .inr (.inr (by rw [hs]; exact hh4)), na, os, ag, wish⟩)
      first
        | exact wpAny_bind (wpAny_pure (wpAny_bind out))
        | exact wpAny_bind out
    | @cons x c ts b₀ su np pos' hds2 l2 hc hsu r ih =>
      rintro ⟨b, hb1, yes, no⟩
      refine wpAny_handleBy_cons (codeAny_handlers_test ?_) (by intro q; cases q)
      have named : ∀ {Q : Value → Shared → Prop} {E : Value → Shared → Prop}, Q c { s' with heap := h3 } → wpAny (model X.prog X.w) (X.A.mark (some (.ref a))) (eval (.Name x np) X.env) Q E { s' with heap := h3 } := fun {Q E} q => by
        obtain ⟨g1, g2, g3 | ⟨g3, g4, g5⟩⟩ := hc
        · exact ld_glob (X := X.suite a ((a, oe) :: (X.pn ++ pins))) S3 g1 g3 q g2
        · exact ld_blt (X := X.suite a ((a, oe) :: (X.pn ++ pins))) S3 g1 g3 g4 q g5 g2
      refine named ((PySem.W.exm_one (M := model X.prog X.w) J3.kIn typ hb1).here ?_)
      cases b with
      | false => exact ih (no rfl)
      | true =>
        refine codeAny_handlers_suite_as (HandSPX.lands_againZ fl fun h4 fl4 up4 => ?_)
        have J4 : Inv X pins σ' H' { s' with heap := h4 } := J.landed nb fl4.1 ((up.trans up3).trans up4) os ag
        obtain ⟨oe4, _, he4, hz4, hd4⟩ := fl4.there
        refine store_ok (X := X.suite a ((a, oe4) :: (X.pn ++ pins))) (v := .ref a) (J4.suite he4 hd4 na nL nF) hN hi (.inl hln) rfl (fun s5 S5 => ?_) (.inr hln)
        refine wpAny_mono ((hsu a oe4 cls d (X.pn ++ pins) hz4 ⟨_, hd4⟩).run [] s5 _ H' _ S5 (yes rfl a na)) (fun f s6 z => ?_) (fun _ _ z => z.elim)
        have away : ∀ {σ6 : L2.St} {H6 : Hp} {Q : Shared → Prop}, Inv (X.suite a ((a, oe4) :: (X.pn ++ pins))) [] σ6 H6 s6 → (∀ s7, Inv X pins (σ6.set i none) H6 s7 → Q s7) →
            wpAny (model X.prog X.w) X.A (do bindName X.env n .none; unbindBehindTheSuite X.env n pos') (fun _ s7 => Q s7) X.xe s6 := fun {σ6 H6 Q} S6 q => gone_ok (S6.unsuite ok) hN hi hln q
        cases f with
        | ret u =>
          obtain ⟨v6, σ6, H6, S6, r6, q6⟩ := z
          exact away S6 fun s7 J7 => ⟨v6, _, _, J7, r6, q6⟩
        | _ =>
          obtain ⟨σ6, H6, S6, q6⟩ := z
          exact away S6 fun s7 J7 => ⟨_, _, J7, q6⟩
  · cases f with
    | ret u =>
      obtain ⟨v, σ', H', J', r, q⟩ := z
      exact ⟨v, σ', H', J'.ofTry ok, r, q⟩
    | next =>
      obtain ⟨σ', H', J', q⟩ := z
      exact wpAny_execs_nil ⟨σ', H', J'.ofTry ok, q⟩
    | _ =>
      obtain ⟨σ', H', J', q⟩ := z
      exact ⟨σ', H', J'.ofTry ok, q⟩
end
end Sil
set_option Elab.async false
set_option linter.all false
set_option maxRecDepth 100000
set_option maxHeartbeats 2000000
/-! P31: while an exception is handled: a comprehension over a text; isinstance of it in a def that it is handed to. -/
namespace Sil
open PySem L2 PySem.Spec PyProof.Rows HotX
/-! ### a text's iterator at its end -/
section
variable {prog : Program} {w : World} {A : Around} {E : Value → Shared → Prop} {s : Shared}
theorem text_end_hot {it x1 : Addr} {x : Str} {t : Tok} {i : Nat} {Q : Option Value → Shared → Prop} (hot : HotAt A x1 s.heap) (nx : x1 ≠ it) (hit : s.heap.IsStrIter it "str_ascii_iterator" x t i) (hx : x.cps[i]? = none)
    (k : ∀ h', (∀ b o, b ≠ it → s.heap.get? b = some o → h'.get? b = some o) → Q none { s with heap := h' }) : wpAny (model prog w) A (pyNext (.ref it)) Q E s := by
  obtain ⟨hh, o1, vs1, g1, d1, c1⟩ := hot
  obtain ⟨o, ho, hc, hd⟩ := id hit
  unfold pyNext
  refine wpAny_bind (wpAny_attempt (wpAny_callSpecial?_slot (name := Str.ofString "__next__") hit.typeIs F.slot_str_ascii_iterator_next ?_))
  refine wpAny_call_entry F.slot_str_ascii_iterator_next hit.typeIs F.entry_str_ascii_iterator_next ?_ (F.args_str_ascii_iterator_next_1 _)
  show wpAny _ _ (field (.ref it) 0 >>= _) _ _ s
  refine wpAny_bind (wpAny_field ho hd (x := .str x t) rfl ?_)
  show wpAny _ _ (field (.ref it) 1 >>= _) _ _ s
  refine wpAny_bind (wpAny_field ho hd (x := .int i 0) rfl ?_)
  simp only [Int.toNat_natCast, hx]
  refine wpAny_bind (wpAny_rule (wpAny_bind (wpAny_setField ho hd (by simp) (wpAny_bind (wpAny_letGo ?_)))))
  show wpAny _ _ (newExc (.type "StopIteration") [] >>= _) _ _ _
  refine wpAny_bind ?_
  simp only [newExc, newTuple]
  refine wpAny_bind (wpAny_newObj_type ?_ (by size_fits))
  refine wpAny_bind (m := firstArgMember _ _) (wpAny_of_eq (a := Value.none) (by first | rfl | (simp only [firstArgMember]; rfl)) ?_)
  refine wpAny_newObj_type ?_ (by size_fits)
  have kept : ∀ {f : Obj → Obj} {o1 o2 : Obj} {b : Addr} {ob : Obj}, b ≠ it → s.heap.get? b = some ob → (((s.heap.update it f).push o1).push o2).get? b = some ob := fun {f o1 o2 b ob} hb e =>
    Heap.get?_push_of_some _ (Heap.get?_push_of_some _ (by rw [Heap.get?_update_other _ _ (Ne.symm hb)]; exact e))
  have less : ∀ {f : Obj → Obj} {o1 : Obj} {b : Addr} {ob : Obj}, b ≠ it → s.heap.get? b = some ob → b < ((s.heap.update it f).push o1).objs.size := fun {f o1 b ob} hb e =>
    Heap.lt_size (Heap.get?_push_of_some _ (by rw [Heap.get?_update_other _ _ (Ne.symm hb)]; exact e))
  refine raiseNew_hot ⟨hh, o1, vs1, kept nx g1, d1, c1⟩ (Nat.ne_of_lt (less nx g1)) (Heap.get?_push_size _ rfl) rfl (by first | (simp; done) | (simp; omega) | (simp only [Array.size_append]; simp; omega)) ?_
  refine wpAny_bind (wpAny_isInstance (T := "StopIteration") (b := true) ⟨_, Heap.get?_update_self _ (Heap.get?_push_size _ rfl) rfl, rfl⟩ isSubtype_stop ?_)
  refine wpAny_pure (k _ fun b ob hb e => ?_)
  rw [Heap.get?_update_other _ _ (Nat.ne_of_gt (less hb e))]
  exact kept hb e
end
/-! ### [e for n in text] -/
def tLcH (te0 : TE) (g : TG) (te : TE) (vs : List Nat) : TE := fun σ H Q => te0 σ H fun v H1 => ∃ x : Str, v = .str x ∧ x.cps.all (· < 128) = true ∧ ∀ D, H1 D = none → ∃ W : Nat → Hp → Prop, W 0 (upd H1 D (.lst [])) ∧
  ∀ i H, W i H → (x.cps.size ≤ i → Q (.ref D) H) ∧ ∀ c, x.cps[i]? = some c → g (.str ⟨#[c]⟩) (wipe σ vs) H fun σ2 H2 => wipe σ2 vs = wipe σ vs ∧ te σ2 H2 fun y H4 => ∃ acc, H4 D = some (.lst acc) ∧ acc.length < sizeLine ∧ W (i + 1) (upd H4 D (.lst (acc ++ [y])))
section
variable {X : Cx} {elt tg iter : Expr} {scope : Scope} {own : List (Str × Nat)} {pos : Pos} {te0 : TE} {g : TG} {te : TE}
theorem pe_lcH (hot : L2H.HotC X) (hN : X.N.Nodup) (h0 : PE X iter te0) (ok : BlkOk X.N X.env.scope scope own)
    (hg : ∀ (s : Shared) (H : Hp) (C : Addr) (cl : List (Str × Addr)) (fp : List Addr), PG (X.blk s H scope (compEnvC scope cl C X.env) fp) tg g)
    (he : ∀ (s : Shared) (H : Hp) (C : Addr) (cl : List (Str × Addr)) (fp : List Addr), PE (X.blk s H scope (compEnvC scope cl C X.env) fp) elt te) (hs : ∀ x, foldedSetIterable iter X.env x = pure x := by intro _; rfl) :
    PE X (.ListComp elt [⟨tg, iter, [], 0⟩] scope pos) (tLcH te0 g te (own.map (·.2))) := by
  refine ⟨fun pins s σ H Q I h => ?_⟩
  rw [eval_ListComp]
  have frees : ∀ y ∈ scope.names, y.2 = .free → ∃ c, X.env.cells.lookup y.1 = some c := fun y hy e => (ok.free y hy e).elim (fun k => I.ok.has _ (.inl k)) (fun k => I.ok.has _ (.inr k))
  refine wpAny_comprehension_free rfl hs (closure_ok frees) ok.kind (fun y hy e => by rw [ok.uniq y hy, e]) (thn (h0.run pins s σ H _ I h) ?_)
  rintro v s1 ⟨y, H1, I1, r1, x, rfl, asc, goal⟩
  obtain ⟨tok, rfl⟩ := r1
  refine wpAny_pyIter_ascii asc ?_
  obtain ⟨p, ⟨hh, pv, pd, pc⟩, hp⟩ := hot
  generalize hit : s1.heap.objs.size = it
  have n1 : H1 it = none := I1.hok.fresh (Nat.le_of_eq hit)
  have fp1 : FpOk X pins H1 it := I1.fpOk (Nat.le_of_eq hit) n1
  generalize ho : ({ cls := .type "str_ascii_iterator", data := .fields #[.str x tok, .int 0 0] } : Obj) = oi
  have I2 : Inv X pins σ H1 { s1 with heap := s1.heap.push oi } := I1.kept (t' := s1.toks) fun b o e => Heap.get?_push_of_some _ e
  have st2 : (s1.heap.push oi).IsStrIter it "str_ascii_iterator" x tok 0 := by
    rw [← hit, ← ho]
    exact ⟨_, Heap.get?_push_size _ rfl, rfl, rfl⟩
  generalize hs2 : ({ s1 with heap := s1.heap.push oi } : Shared) = s2 at I2 ⊢
  have st2 : s2.heap.IsStrIter it "str_ascii_iterator" x tok 0 := by rw [← hs2]; exact st2
  refine wpAny_newObj_type (newEnv_comp ?_) (by show 0 ≤ sizeLine; decide)
  generalize hD : s2.heap.objs.size = D
  have hDn : H1 D = none := I2.hok.fresh (Nat.le_of_eq hD)
  obtain ⟨W, w0, turn⟩ := goal D hDn
  have itD : it < D := by
    obtain ⟨o, e, _⟩ := st2
    rw [← hD]; exact Heap.lt_size e
  generalize hs3 : ({ s2 with heap := s2.heap.push { cls := .type "list", data := .seq ([] : List Value).toArray } } : Shared) = s3
  have k23 : ∀ b o, s2.heap.get? b = some o → s3.heap.get? b = some o := fun b o e => by rw [← hs3]; exact Heap.get?_push_of_some _ e
  have I3 : Inv X pins σ (upd H1 D (.lst [])) s3 := by
    rw [← hs3]
    refine I2.laid (t' := s2.toks) (fun b o e => Heap.get?_push_of_some _ e) (Nat.le_of_eq hD) ⟨Nat.zero_le _, [], 0, .nil, ?_⟩
    rw [← hD]
    exact Heap.get?_push_size _ rfl
  have fp3 : FpOk X pins (upd H1 D (.lst [])) it := ⟨by rw [upd_ne (Nat.ne_of_lt itD)]; exact n1, fp1.2⟩
  have lt3 : it < s3.heap.objs.size := by
    obtain ⟨o, e, _⟩ := st2
    exact Heap.lt_size (k23 _ _ e)
  have st3 : s3.heap.IsStrIter it "str_ascii_iterator" x tok 0 := by
    obtain ⟨o, e, r⟩ := st2
    exact ⟨o, k23 _ _ e, r⟩
  have P3 := I3.pin p (List.mem_append_left _ hp)
  have pit : p.1 ≠ it := fun z => (fp3.2.2.2.2.2 p (List.mem_append_left _ hp)) (by rw [z])
  have I4 := block_start I3 ok hN (fp := [it]) fun b hb => by rw [List.mem_singleton] at hb; subst hb; exact ⟨fp3, lt3⟩
  have pg := hg s3 (upd H1 D (.lst [])) s3.heap.objs.size (cellsFrom (s3.heap.objs.size + 1) scope.names (cloFrom X.env.cells scope.names [])) [it]
  have pe := he s3 (upd H1 D (.lst [])) s3.heap.objs.size (cellsFrom (s3.heap.objs.size + 1) scope.names (cloFrom X.env.cells scope.names [])) [it]
  show codeAny _ _ (.compStart _ 0 (.ref it) (.ref D) (compEnvC scope (cellsFrom (s3.heap.objs.size + 1) scope.names (cloFrom X.env.cells scope.names [])) s3.heap.objs.size X.env)) (compPost (model X.prog X.w) X.A X.xe none (EP X pins σ Q) (.ref D) s3.heap.objs.size) { s3 with heap := pushCells (s3.heap.push { cls := .type "dict", data := .dict #[] }) scope.names }
  generalize hce : compEnvC scope (cellsFrom (s3.heap.objs.size + 1) scope.names (cloFrom X.env.cells scope.names [])) s3.heap.objs.size X.env = ce at I4 pg pe ⊢
  have cL : ce.locals = s3.heap.objs.size := by subst hce; rfl
  generalize hH3 : upd H1 D (.lst []) = H3 at I3 I4 pg pe w0 fp3 P3
  generalize hs4 : ({ s3 with heap := pushCells (s3.heap.push { cls := .type "dict", data := .dict #[] }) scope.names } : Shared) = s4 at I4 ⊢
  have st4 : s4.heap.IsStrIter it "str_ascii_iterator" x tok 0 := by
    obtain ⟨o, e, r⟩ := st3
    exact ⟨o, by rw [← hs4]; exact pushCells_keeps _ _ _ _ (Heap.get?_push_of_some _ e), r⟩
  have noStack : p.1 ∉ frs X.stack := fun hm => (List.mem_cons.mp (I3.stkSub p.1 hm)).elim P3.2.2.1 P3.2.2.2.1
  have stat : ∀ {σ' : L2.St} {H' : Hp} {s' : Shared}, Inv (X.blk s3 H3 scope ce [it]) [] σ' H' s' → H' it = none → FpOk (X.blk s3 H3 scope ce [it]) [] H' it := fun {σ' H' s'} I' hn =>
    ⟨hn, (I'.ok.exf it (by simp)).1, I'.ok.exfs it (by simp), .inl (by simp), fun y c e => (I'.ok.exf it (by simp)).2 y c e, fun q hq => absurd (show q ∈ ([] : List (Addr × Obj)) ++ [] from hq) (by simp)⟩
  have loop : codeAny (model X.prog X.w) X.A (.compLoop (.ListComp elt [⟨tg, iter, [], 0⟩] scope pos) 0 (.ref it) (.ref D) ce) (compPost (model X.prog X.w) X.A X.xe none (EP X pins σ Q) (.ref D) s3.heap.objs.size) s4 := by
    refine compLoop_any (fun n s' => ∃ i H', n = x.cps.size - i ∧ Inv (X.blk s3 H3 scope ce [it]) [] (wipe σ (own.map (·.2))) H' s' ∧ s'.heap.IsStrIter it "str_ascii_iterator" x tok i ∧ H' it = none ∧ W i H') ?_ _ ⟨0, H3, rfl, I4, st4, fp3.1, w0⟩
    rintro n s5 ⟨i, H5, rfl, I5, st5, n5, w5⟩
    obtain ⟨f0, f1, f2, f3, f4, f5⟩ := stat I5 n5
    obtain ⟨stop, step⟩ := turn i H5 w5
    have pin5 : s5.heap.get? p.1 = some p.2 := I5.base.keep p.1 p.2 P3.1 P3.2.1 noStack (by rw [List.mem_singleton]; exact pit)
    cases hx : x.cps[i]? with
    | none =>
      refine text_end_hot ⟨hh, p.2, pv, pin5, pd, pc⟩ pit st5 hx fun h' kk => ?_
      have I6 : Inv (X.blk s3 H3 scope ce [it]) [] (wipe σ (own.map (·.2))) H5 { s5 with heap := h' } := I5.turned (t' := s5.toks) kk f0 f1 f3 f4 f5
      have I7 : Inv X pins σ H5 { s5 with heap := h' } := I3.call' (ch := [it]) I6.os I6.base I6.hok I6.bare fun b hb => by
        rw [List.mem_singleton] at hb
        subst hb
        exact ⟨fp3.2.2.2.1, fp3.2.1, fp3.2.2.2.2.1, fp3.2.2.2.2.2⟩
      have nC : H5 s3.heap.objs.size = none := by rw [← cL]; exact I6.free
      obtain ⟨m, hn, _⟩ := I6.loc
      have hn : Heap.Ns h' ce.locals m := hn
      rw [cL] at hn
      obtain ⟨c0, c1, c2, c3, c4, c5⟩ := I3.fpOk (Nat.le_refl _) nC
      exact ⟨m, hn, fun h2 sb => ⟨.ref D, H5, I7.turned (t' := s5.toks) (fun b o hb e => (sb.2 b hb).trans e) c0 c1 c3 c4 c5, rfl, stop (by rw [Array.getElem?_eq_none_iff] at hx; exact hx)⟩⟩
    | some c =>
      refine wpAny_pyNext_ascii_item st5 hx fun h' st6 sb => ?_
      have I6 : Inv (X.blk s3 H3 scope ce [it]) [] (wipe σ (own.map (·.2))) H5 { s5 with heap := h', toks := s5.toks + 1 } := I5.turned (fun b o hb e => (sb.2 b hb).trans e) f0 f1 f3 f4 f5
      obtain ⟨oi6, e6, c6, d6⟩ := id st6
      refine go_of (s := { s5 with heap := h', toks := s5.toks + 1 }) e6 c6 d6 (by decide) ?_
      have I6' := I6.pinned (fp := [it]) (fun b hb => by rw [List.mem_singleton] at hb; subst hb; exact stat I6 n5) (fun b hb => by
        rw [List.mem_singleton] at hb; subst hb
        exact ⟨oi6, e6, fun v z => by rw [d6] at z; cases z⟩)
      refine thnF (pg.run _ _ _ H5 (.str ⟨#[c]⟩) _ _ I6' ⟨_, rfl⟩ (step c hx)) fun _ s8 ⟨σ8, H8, I8, hw8, q8⟩ => ?_
      refine wpAny_tests_nil ?_
      show wpAny _ _ (eval elt ce) _ _ _
      refine thnF (pe.run _ s8 σ8 H8 _ I8 q8) fun z s10 ⟨yv, H10, I10, r10, acc, hD10, hz10, nx⟩ => ?_
      refine app_ok (X := X.blk s3 H3 scope ce [it]) I10 hD10 hz10 r10 fun s11 I11 => ?_
      have hlt : i < x.cps.size := (Array.getElem?_eq_some_iff.mp hx).1
      have pinIt := I11.pin (it, oi6) (List.mem_append_right _ (List.mem_append_right _ (mem_pinsAt (by simp) e6)))
      refine ⟨x.cps.size - (i + 1), by omega, i + 1, _, rfl, (I11.unpinned (pins := [])).weak (by rw [← hw8, wipe_length]) (fun j v e => ?_), ⟨oi6, pinIt.1, c6, d6⟩, pinIt.2.1, nx⟩
      rw [← hw8] at e
      exact (wipe_some e).1
  exact codeAny_compStart_list loop (wpAny_pyIter_striter_ascii st4 loop)
end
end Sil
set_option Elab.async false
set_option linter.all false
set_option maxRecDepth 100000
set_option maxHeartbeats 2000000
/-! P32: a def that the handled exception is handed to. -/
namespace Sil
open PySem L2 PySem.Spec PyProof.Rows HotX
/-! ### isinstance of it -/
/-- the dict of the exception is tracked, where it has one -/
def DctOk (d : Option Addr) (H : Hp) : Prop := ∀ dd, d = some dd → ∃ fs, H dd = some (.xd fs)
theorem DctOk.same {d : Option Addr} {H H' : Hp} (s : Same H H') (h : DctOk d H) : DctOk d H' := fun dd e => let ⟨fs, q⟩ := h dd e; ⟨fs, s _ _ q⟩
def rIsP (K : PySem.W.Frag) (D a : Addr) (d : Option Addr) : List V → Hp → VK → Prop := fun xs H Q => ∃ (c : V) (cv : Value) (b : Bool), xs = [.ref a, c] ∧ ClsV c cv ∧ PySem.W.kitOne K (.ref D) cv = some b ∧ DctOk d H ∧ Q (.bl b) H
theorem inst_pin {X : Cx} {a D : Addr} {oe : Obj} {pins : List (Addr × Obj)} {σ : L2.St} {H : Hp} {s : Shared} (hp : (a, oe) ∈ X.pn) (hz : oe.cls = .ref D) (hf : ∃ vs, oe.data = .fields vs) (I : Inv X pins σ H s) (dk : DctOk oe.dict H) :
    ∃ od, PySem.W.InstAt s.heap a oe D od := by
  obtain ⟨vs, hv⟩ := hf
  have get := (I.pin (a, oe) (List.mem_append_left _ hp)).1
  have no : PySem.W.notCls oe = true := by unfold PySem.W.notCls; rw [hv]
  cases e : oe.dict with
  | none => exact ⟨none, get, hz, no, by rw [e]; trivial⟩
  | some dd =>
    obtain ⟨fs, hx⟩ := dk dd e
    obtain ⟨mA, hns, _⟩ := (show ObjOk X.prog X.w H s.heap dd (.xd fs) from I.hok dd _ hx)
    obtain ⟨od, ho, _⟩ := lookIn_ns hns
    exact ⟨some od, get, hz, no, by rw [e]; exact ho⟩
theorem k_isP {X : Cx} {a D : Addr} {oe : Obj} (K : PySem.W.Frag) (C : ExcC K D) (hp : (a, oe) ∈ X.pn) (hz : oe.cls = .ref D) (hf : ∃ vs, oe.data = .fields vs) (hK : X.K = K := by rfl) : CallR X (.builtin "isinstance") (rIsP K D a oe.dict) := by
  subst hK
  intro pins s σ H xs us Q I r h
  obtain ⟨c, cv, b, rfl, hcv, e, dk, q⟩ := h
  obtain ⟨u1, u2, rfl, r1, r2⟩ := vals2 r
  cases r1
  have ec := hcv.eq r2
  subst ec
  obtain ⟨od, J⟩ := inst_pin hp hz hf I dk
  have hcl : (PySem.W.clsIn X.K D).isSome = true := by
    obtain ⟨cd, hc, _⟩ := PySem.W.any_some C.hd
    rw [hc]; rfl
  exact PySem.W.kia_one (PySem.W.kitx_exc hcl C.hg C.hk C.hs C.ha C.hn C.ht C.hm) I.kIn J e (fun z => nomatch z) fun tk => ⟨.bl b, H, I.kept (t' := tk) fun _ _ z => z, rfl, q⟩
/-! ### such a def -/
structure FnX (P : Program) (w : World) (K : PySem.W.Frag) (mg : Str → Option Value) (base : Heap) (k : Nat) (f D : Addr) (r : V) : Prop where
  run : ∀ (A : Around) (outer : List Env) (s : Shared) (H : Hp) (Q : VK) (p : Addr × Obj), L2H.RoomH k A → L2H.Hot1 A p → L2H.PinOk outer H s p → p.2.cls = .ref D → DctOk p.2.dict H → Env0 P w K mg base A outer s H → (∀ H', Same H H' → Q r H') →
    codeAny (model P w) A (.call (.ref f) ⟨[.ref p.1], []⟩) (CR CX0 outer P w H s Q (fun _ _ _ => False)) s
section
variable {P : Program} {w : World} {K : PySem.W.Frag} {mg : Str → Option Value} {base : Heap} {k : Nat} {f D : Addr} {r : V}
theorem fnX_of {x qual e : Str} {st : Stmt} {fd : FuncData} {N : List Str} (F : Fun K x qual st f fd) (S : FnScope N [e] (defScope st)) (hb : Binds K fd [e] [])
    (hbody : ∀ (cdv : Value) (A : Around) (outer : List Env) (s : Shared) (H : Hp) (Q : VK) (p : Addr × Obj), L2H.Hot1 A p → p.2.cls = .ref D → DctOk p.2.dict H → L2H.RoomH k (A.deeper (envOfC qual (defScope st) s.heap.objs.size f cdv)) → (∀ H', Same H H' → Q r H') →
      ∃ t, PSs (L2H.cxH CX0 P w K mg base N qual (defScope st) f cdv A outer s H (fun _ _ _ => False) p) (defBody st) t ∧ t { nx := fun _ H' => Q .non H', rt := Q } (start N [.ref p.1]) H) : FnX P w K mg base (k + 1) f D r := by
  obtain ⟨oc, od, kV, doc, pm, an, cdv, ct, osl, rfl, lk, hcd⟩ := F.ex
  refine ⟨fun A outer s H Q p hr hot hpin hz dk e0 q => ?_⟩
  have KX : K.In s.heap := e0.mod.kin.keeps fun b o e => (e0.bs b o e).1
  have lim : s.heap.NoLimit := e0.mod.nolimit.keeps fun b o e => (e0.bs b o e).1
  have kinds : ∀ y ∈ [e].zip [Value.ref p.1], (defScope st).names.lookup y.1 = some .local ∨ ((defScope st).names.lookup y.1 = some .cell ∧ ((cellsFrom (s.heap.objs.size + 1) (defScope st).names []).lookup y.1).isSome = true) := fun ⟨n, v⟩ hy =>
    (S.par n (List.of_mem_zip hy).1).imp id fun q => ⟨q, PySem.W.cellsFrom_some _ _ _ (.inl q)⟩
  have b1 := hb s [.ref p.1] KX rfl
  refine codeAny_call_function hr.depth (KX _ _ lk) rfl S.co S.gen rfl (PySem.W.codeRec_of KX hcd) (b1 _ _ _ _ (wpAny_newFunctionEnv_cells S.kind kinds ?_))
  rintro env rfl s1 x1
  refine ⟨lim.keeps x1.toInCall.keep, codeAny_func ?_⟩
  obtain ⟨t, ht, go⟩ := hbody cdv A outer s H Q p hot hz dk (hr.deeper _) q
  have I := L2H.inv_startH (CX := CX0) (E := fun _ _ _ => False) (K := K) (mg := mg) (base := base) (w := w) (P := P) (A := A) S hpin e0 (vs := [.ref p.1]) rfl (.cons rfl .nil) x1
  refine wpAny_mono (ht.run [] s1 _ H _ I go) (fun fl s' z => ?_) fun _ _ z => z
  cases fl with
  | ret u =>
    obtain ⟨v, σ', H', J, rv, q⟩ := z
    exact ⟨v, H', J.os, J.bare, J.base, J.hok, rv, q⟩
  | next =>
    obtain ⟨σ', H', J, q⟩ := z
    exact ⟨V.non, H', J.os, J.bare, J.base, J.hok, rfl, q⟩
  | brk => exact z.elim fun _ z => z.elim fun _ z => z.2.elim
  | cont => exact z.elim fun _ z => z.elim fun _ z => z.2.elim
end
/-- f(e), e the exception that the suite holds -/
def tKind (a : Addr) (cls : Value) (d : Option Addr) (kd : Addr → V → Prop) (t : TA) : TE := fun σ H Q => t σ H fun vs H1 => ∃ (D : Addr) (r : V), vs = [.ref a] ∧ cls = .ref D ∧ kd D r ∧ DctOk d H1 ∧ ∀ H', Same H1 H' → Q r H'
theorem pe_kind {X : Cx} {a f : Addr} {oe : Obj} {cls : Value} {d : Option Addr} {pn : List (Addr × Obj)} {k : Nat} {kd : Addr → V → Prop} {x : Str} {e : Expr} {t : TA} {q pos : Pos} (F : ∀ D r, kd D r → FnX X.prog X.w X.K X.mg X.base k f D r) (hr : Room k X.A)
    (hz : L2N.Zn cls d oe) (hf : ∃ vs, oe.data = .fields vs) (hg : Gl X x) (hm : X.mg x = some (.ref f)) (hk : PySem.W.keepIn X.K (.ref f) = true) (ha : PA (X.suite a ((a, oe) :: pn)) [e] t)
    (hdb : (x == ("__debug__" : Str)) = false := by decide) (hst : starEach [e] X.env = (false, eval e X.env) :: starEach [] X.env := by rfl) (hpl : (backTo pos (starEach [] X.env)).any (·.1) = false := by rfl) :
    PE (X.suite a ((a, oe) :: pn)) (.Call (.Name x q) [e] [] pos) (tKind a cls d kd t) := by
  refine ⟨fun pins s σ H Q I h => ?_⟩
  refine wpAny_Call_Name_kw (ld_glob I hg hm ?_ hdb)
  refine PySem.W.callWith_K (h₀ := X.base) I.ok.mod.kin hk (thn (ha.run pos pins s σ H _ I h) ?_) hst hpl
  rintro us s1 ⟨vs, H1, I1, r1, D, r, rfl, ec, hkd, dk, q⟩
  refine ⟨I1.kIn, ?_⟩
  cases r1 with
  | cons r0 rr =>
    cases rr
    cases r0
    obtain ⟨vs, hv⟩ := hf
    have hot : L2H.Hot1 (X.suite a ((a, oe) :: pn)).A (a, oe) := ⟨rfl, vs, hv, hz.2.2 vs hv⟩
    have P1 := I1.pin (a, oe) (List.mem_append_left _ List.mem_cons_self)
    have hpin : L2H.PinOk X.stack H1 s1 (a, oe) := ⟨P1.1, P1.2.1, fun hm => (List.mem_cons.mp (I1.stkSub a hm)).elim P1.2.2.1 P1.2.2.2.1, P1.2.2.2.2⟩
    have run := (F D r hkd).run (X.suite a ((a, oe) :: pn)).A X.stack s1 H1 Q (a, oe) (L2H.roomH_mark hr _) hot hpin (hz.1.trans ec) (by rw [show (a, oe).2.dict = d from hz.2.1]; exact dk) I1.env0 q
    refine wpAny_call (codeAny_mono run fun re s' z => ?_)
    cases re with
    | error er => exact pass0 pins σ H1 s1 er s' I1 z
    | ok fl =>
      cases fl with
      | ret u => exact I1.after z
      | next => exact z.elim
      | brk => exact z.elim
      | cont => exact z.elim
/-! ### list.count, flat items -/
def rCountF (K : PySem.W.Frag) : V → List V → Hp → VK → Prop := fun x xs H Q => ∃ (a : Addr) (ys : List V) (y : V), x = V.ref a ∧ xs = [y] ∧ SqL K H a ys ∧ flatV y = true ∧ ys.all flatV = true ∧ Q (.int (ys.countP fun z => eqV z y)) H
theorem eqU_count {y : V} : ∀ {ys : List V} {us : List Value}, Vals ys us → ys.all flatV = true → us.countP (eqU y) = ys.countP fun z => eqV z y
  | _, _, .nil, _ => rfl
  | z :: ys, u :: us, .cons r rr, f => by
    rw [List.all_cons, Bool.and_eq_true] at f
    rw [List.countP_cons, List.countP_cons, eqU_count rr f.2, eqU_of r f.1]
theorem mt_countF {X : Cx} (K : PySem.W.Frag) (hK : X.K = K := by rfl) : MtR X "list.count" (rCountF K) := by
  subst hK
  intro pins s σ H x xs v us Q I rx rxs h
  obtain ⟨a, ys, y, rfl, rfl, hs, fy, fys, q⟩ := h
  cases rx
  obtain ⟨uy, rfl, ry⟩ := rxs.one
  obtain ⟨its, rv, ⟨⟨cls, dd, data, sl⟩, n, ho, hc, hdn, hd⟩, hlen⟩ := I.list hs
  simp only at hc hd
  subst hc hd
  refine call_meets PySem.F.slot_list_count ⟨_, ho, rfl⟩ PySem.F.entry_list_count (PySem.F.args_list_count_2 _ _) (SeqAt.list_countAt a its.toArray n dd sl uy (eqU y)) ⟨ho, fun u' hu' => mem_eqAt ry fy rv fys u' (by simpa using hu'), ?_⟩
  have ec : its.toArray.toList.countP (eqU y) = ys.countP fun z => eqV z y := eqU_count rv fys
  refine ⟨.int (ys.countP fun z => eqV z y : Nat), H, I.tok _, ⟨s.toks, ?_⟩, q⟩
  show Value.int ((its.toArray.toList.countP (eqU y) : Nat) : Int) s.toks = _
  rw [ec]
theorem k_index {X : Cx} (K : PySem.W.Frag) (hK : X.K = K := by rfl) : MtR X "list.index" (rIndex K) := by subst hK; exact mt_index
theorem k_eqDu {X : Cx} (K : PySem.W.Frag) (hu : X.A.units + 64 < cLine) (h : X.K = K := by rfl) : OpR X (compareOp .Eq) (rEqD K) := by subst h; exact op_eqD hu
end Sil
set_option Elab.async false
set_option linter.all false
set_option maxRecDepth 100000
set_option maxHeartbeats 2000000
/-! P33: the fifteen refusals: what the written part says of their classes. -/
namespace Sil
open PySem L2 PySem.Spec PyProof.Rows
def nmL : List String := ["NoBand", "NoWatch", "NoWord", "NoMinutes", "NoHistory", "NoText", "NoRow", "Stands", "NoHand", "NoLabel", "NoAsk", "NoBeat", "TooMany", "Open", "Bound"]
def tyL : List String := ["ValueError", "KeyError", "LookupError", "IndexError", "OverflowError", "RuntimeError"]
/-- which of the built-in classes stand above the j-th refusal -/
def upL : List (List Bool) := List.replicate 8 [true, false, false, false, false, false] ++ List.replicate 2 [false, true, true, false, false, false] ++
  [[false, false, true, false, false, false], [false, false, true, true, false, false], [false, false, false, false, true, false], [false, false, false, false, false, true], [false, false, false, false, false, true]]
def upB (j t : Nat) : Bool := (upL.getD j []).getD t false
def err1B (K : PySem.W.Frag) (D : Addr) : Bool := PySem.W.keepIn K (.ref D) && (decide (PySem.W.subIn K (.ref D) (.type "BaseException") = some true) && (decide (PySem.W.typeIn K (.ref D) = some (.type "type")) && (PySem.W.hasDictIn K D &&
  (decide (PySem.W.findIn K (.ref D) "__getattribute__" = some (some (.builtin "BaseException.__getattribute__"))) && (decide (PySem.W.findIn K (.ref D) "__getattr__" = some none) &&
  (decide (PySem.W.findIn K (.ref D) "__class__" = some (some (.builtin "object.__class__"))) && (decide (PySem.W.specialIn K (.builtin "object.__class__") "__get__" = some (some (.builtin "getset_descriptor.__get__"))) &&
  (decide (PySem.W.takesIn K (.builtin "object.__class__") = some true) && decide (PySem.W.mroIn K D (.type "object") = some true)))))))))
structure Err1 (K : PySem.W.Frag) (D : Addr) : Prop where
  kp : PySem.W.keepIn K (.ref D) = true
  ty : PySem.W.typeIn K (.ref D) = some (.type "type")
  is : ExcC K D
theorem err1_ok {K : PySem.W.Frag} {D : Addr} (h : err1B K D = true) : Err1 K D := by
  unfold err1B at h
  simp only [Bool.and_eq_true, decide_eq_true_eq] at h
  obtain ⟨h1, h2, h3, h4, h5, h6, h7, h8, h9, h10⟩ := h
  exact ⟨h1, h3, ⟨h5, h6, h2, h4, h7, h8, h9, h10⟩⟩
def kindsB (K : PySem.W.Frag) (cs : List Addr) : Bool := decide (cs.length = 15) && (cs.all (err1B K) && ((List.range 15).all (fun j => (List.range 15).all fun i => decide (PySem.W.subIn K (.ref (cs.getD j 0)) (.ref (cs.getD i 0)) = some (decide (i = j)))) &&
  (List.range 15).all fun j => (List.range 6).all fun t => decide (PySem.W.subIn K (.ref (cs.getD j 0)) (.type (tyL.getD t "")) = some (upB j t))))
structure Kinds (K : PySem.W.Frag) (cs : List Addr) : Prop where
  err : ∀ j, j < 15 → Err1 K (cs.getD j 0)
  sub : ∀ j i, j < 15 → i < 15 → PySem.W.subIn K (.ref (cs.getD j 0)) (.ref (cs.getD i 0)) = some (decide (i = j))
  up : ∀ j t, j < 15 → t < 6 → PySem.W.subIn K (.ref (cs.getD j 0)) (.type (tyL.getD t "")) = some (upB j t)
theorem kinds_ok {K : PySem.W.Frag} {cs : List Addr} (h : kindsB K cs = true) : Kinds K cs := by
  unfold kindsB at h
  rw [Bool.and_eq_true, Bool.and_eq_true, Bool.and_eq_true, decide_eq_true_eq] at h
  obtain ⟨hl, h1, h2, h3⟩ := h
  refine ⟨fun j hj => err1_ok (List.all_eq_true.mp h1 _ ?_), fun j i hj hi => ?_, fun j t hj ht => ?_⟩
  · rw [List.getD_eq_getElem?_getD, List.getElem?_eq_getElem (by omega)]
    exact List.getElem_mem _
  · exact of_decide_eq_true (List.all_eq_true.mp (List.all_eq_true.mp h2 j (List.mem_range.mpr hj)) i (List.mem_range.mpr hi))
  · exact of_decide_eq_true (List.all_eq_true.mp (List.all_eq_true.mp h3 j (List.mem_range.mpr hj)) t (List.mem_range.mpr ht))
section
variable {K : PySem.W.Frag} {cs : List Addr} (T : Kinds K cs)
include T
theorem Kinds.cls {j : Nat} (hj : j < 15) : (PySem.W.clsIn K (cs.getD j 0)).isSome = true := by
  obtain ⟨cd, hc, _⟩ := PySem.W.any_some (T.err j hj).is.hd
  rw [hc]; rfl
/-- isinstance of one of the refusals -/
theorem Kinds.own {j i : Nat} (hj : j < 15) (hi : i < 15) : PySem.W.kitOne K (.ref (cs.getD j 0)) (.ref (cs.getD i 0)) = some (decide (i = j)) := by
  by_cases e : i = j
  · subst e
    unfold PySem.W.kitOne
    rw [if_pos (by simp), decide_eq_true rfl]
  · have ne : ((Value.ref (cs.getD j 0)) == (Value.ref (cs.getD i 0))) = false := by
      refine beq_eq_false_iff_ne.mpr fun q => ?_
      have q : cs.getD j 0 = cs.getD i 0 := Value.ref.inj q
      have a := T.sub j i hj hi
      have b := T.sub j j hj hj
      rw [← q, b, decide_eq_false e, decide_eq_true rfl] at a
      cases a
    have e2 : ((PySem.W.clsIn K (cs.getD i 0)).isSome && PySem.W.typeIn K (.ref (cs.getD i 0)) == some (.type "type")) = true := by
      rw [T.cls hi, (T.err i hi).ty] <;> rfl
    unfold PySem.W.kitOne PySem.W.kitCls
    rw [ne, if_neg Bool.false_ne_true]
    show (if ((PySem.W.clsIn K (cs.getD i 0)).isSome && PySem.W.typeIn K (.ref (cs.getD i 0)) == some (.type "type")) = true then _ else _) = _
    rw [if_pos e2]
    exact T.sub j i hj hi
theorem Kinds.above {j t : Nat} (hj : j < 15) (ht : t < 6) (hm : PySem.W.kitMeta (tyL.getD t "") = true) : PySem.W.kitOne K (.ref (cs.getD j 0)) (.type (tyL.getD t "")) = some (upB j t) := by
  unfold PySem.W.kitOne PySem.W.kitCls
  rw [if_neg (by intro z; exact nomatch (beq_iff_eq.mp z))]
  show (if PySem.W.kitMeta (tyL.getD t "") = true then _ else _) = _
  rw [if_pos hm]
  exact T.up j t hj ht
/-- except, of one of the refusals -/
theorem Kinds.exm {j i : Nat} (hj : j < 15) (hi : i < 15) : PySem.W.exmOne K (.ref (cs.getD j 0)) (.ref (cs.getD i 0)) = some (decide (i = j)) :=
  PySem.W.exm_ref (T.err i hi).is.hs (T.err i hi).is.hd (T.err i hi).ty (T.sub j i hj hi)
theorem Kinds.xf {j : Nat} (hj : j < 15) : XfC K (cs.getD j 0) := ⟨(T.err j hj).is.hg, (T.err j hj).is.hk, (T.err j hj).is.hs, (T.err j hj).is.hd⟩
end
/-! ### a class with an own __init__ -/
def oexB (K : PySem.W.Frag) (C : Addr) (newId : String) (bm : List Value) : Bool :=
  (match K.lookup C with
    | some ⟨.type "type", _, .cls cd, sl⟩ => decide (cd.mro = .ref C :: bm) && (cd.hasDict && (!cd.hasDel && (match sl.toList with
      | [_, _, _, _, some (.builtin n), _] => n == newId
      | _ => false)))
    | _ => false) && (decide (PySem.W.findIn K (.ref C) "__setattr__" = some (some (.builtin "object.__setattr__"))) && (decide (PySem.W.subIn K (.ref C) (.type "BaseException") = some true) && (decide (PySem.W.typeIn K (.ref C) = some (.type "type")) && PySem.W.keepIn K (.ref C))))
theorem oexB_ok {K : PySem.W.Frag} {C : Addr} {newId : String} {bm : List Value} (h : oexB K C newId bm = true) : OexG K C newId bm := by
  unfold oexB at h
  simp only [Bool.and_eq_true, decide_eq_true_eq] at h
  obtain ⟨h0, h1, h2, h3, h4⟩ := h
  refine ⟨?_, h1, h2, h3, h4⟩
  split at h0
  · rename_i dd cd sl ho
    simp only [Bool.and_eq_true, decide_eq_true_eq, Bool.not_eq_true'] at h0
    obtain ⟨e1, e2, e3, e4⟩ := h0
    split at e4
    · rename_i k0 k1 k2 k3 n k5 hs
      rw [beq_iff_eq] at e4
      subst e4
      obtain ⟨nm, bs, mro, ns, qn, hd, sn, sub, ab, col, del⟩ := cd
      dsimp only at e1 e2 e3
      subst e1 e2 e3
      obtain ⟨l⟩ := sl
      have hs : l = _ := hs
      subst hs
      exact ⟨nm, qn, ns, bs, sn, sub, ab, col, dd, k0, k1, k2, k3, k5, ho⟩
    · cases e4
  · cases h0
theorem takesN0 {X : Cx} : L2N.Takes X (fun _ _ _ _ => False) := fun _ _ ⟨_, _, _, _, _, _, _, _, _, _, _, _, _, _, _, _, w⟩ => w.elim
/-! ### readings -/
section
variable {K : PySem.W.Frag} {σ : L2.St} {H : Hp} {Q : VK} {D : Ends} {f : Str} {to te ty tx : TE} {ta : TA}
theorem w_ostG (k : te σ H fun y H1 => to σ H1 fun x H2 => ∃ (a C : Addr) (O newId : String) (bm : List Value), x = .ref a ∧ XBase O newId bm ∧ OexG K C newId bm ∧ PySem.W.findIn K (.ref C) f = some none ∧
  ((H2 a = some (exo a C none) ∧ ∀ dx, H2 dx = none → dx ≠ a → D.nx σ (upd (upd H2 dx (exd dx [(f, y)])) a (exo a C (some dx)))) ∨
    ∃ (dx : Addr) (fs : List (Str × V)), H2 a = some (exo a C (some dx)) ∧ H2 dx = some (exd dx fs) ∧ fs.length ≤ 900 ∧ D.nx σ (upd H2 dx (exd dx ((f, y) :: fs))))) : tOstG K f to te D σ H := k
theorem w_kind {a : Addr} {cls : Value} {d : Option Addr} {kd : Addr → V → Prop} (k : ta σ H fun vs H1 => ∃ (D : Addr) (r : V), vs = [.ref a] ∧ cls = .ref D ∧ kd D r ∧ DctOk d H1 ∧ ∀ H', Same H1 H' → Q r H') : tKind a cls d kd ta σ H Q := k
theorem w_xf {a C : Addr} {cls : Value} {d : Option Addr} (k : te σ H fun x H1 => x = .ref a ∧ cls = .ref C ∧ ∃ (dd : Addr) (fs : List (Str × V)) (v : V), d = some dd ∧ H1 dd = some (.xd fs) ∧ fs.lookup f = some v ∧ Q v H1) : tXf a cls d C f te σ H Q := k
theorem w_dget2 (k : te σ H fun x H1 => ∃ a, x = .ref a ∧ IsD H1 a ∧ ty σ H1 fun y H2 => tx σ H2 fun z H3 => ∃ o, DGet H3 a y o ∧ Q (o.getD z) H3) : tDGet2 te ty tx σ H Q := k
/-- the end of C(..): what its __init__ is told -/
def kMkO (C : Addr) (sp : Sp) (vs : List V) (H1 : Hp) (R : XK) : Prop := vs.length ≤ 1000 ∧ ∀ a, H1 a = none → sp (.ref a :: (vs ++ [])) (upd H1 a (exo a C none))
  (fun v H2 => v = .non ∧ ∃ (d : Addr) (fs : List (Str × V)), H2 a = some (exo a C (some d)) ∧ H2 d = some (exd d fs) ∧ H1 d = none ∧ R (.ref C) (some d) (upd (del H2 a) d (.xd fs))) (fun _ _ _ => False)
theorem w_mkO {C : Addr} {sp : Sp} {R : XK} (k : ta σ H fun vs H1 => kMkO C sp vs H1 R) : tMkO C sp [] ta σ H R := k
def spInit (C : Addr) (n : Nat) (fld : List V → List (Str × V)) : Sp := fun vs H Q _ => ∃ (a : Addr) (ws : List V), vs = .ref a :: ws ∧ ws.length = n ∧ H a = some (exo a C none) ∧
  ∀ dx H2, H dx = none → dx ≠ a → H2 a = some (exo a C (some dx)) → H2 dx = some (exd dx (fld ws)) → (∀ b, b ≠ a → b ≠ dx → H2 b = H b) → Q .non H2
theorem k_mkO {C : Addr} {n : Nat} {fld : List V → List (Str × V)} {ws : List V} {H1 : Hp} {R : XK} (hl : ws.length = n) (hn : n ≤ 1000) (k : ∀ d H3, H1 d = none → Same H1 H3 → H3 d = some (.xd (fld ws)) → R (.ref C) (some d) H3) : kMkO C (spInit C n fld) ws H1 R := by
  refine ⟨by omega, fun a na => ⟨a, ws, by rw [List.append_nil], hl, upd_same, fun dx H2 n1 n2 e1 e2 keep => ⟨rfl, dx, fld ws, e1, e2, ?_, ?_⟩⟩⟩
  · rw [upd_ne n2] at n1; exact n1
  · rw [upd_ne n2] at n1
    refine k dx _ n1 (fun b o hb => ?_) upd_same
    have ba : b ≠ a := fun z => by rw [z, na] at hb; cases hb
    have bd : b ≠ dx := fun z => by rw [z, n1] at hb; cases hb
    rw [upd_ne bd, del_ne ba, keep b ba bd, upd_ne ba]
    exact hb
theorem ws1 {ws : List V} (h : ws.length = 1) : ∃ v0, ws = [v0] := by
  match ws, h with
  | [v], _ => exact ⟨v, rfl⟩
theorem ws2 {ws : List V} (h : ws.length = 2) : ∃ v0 v1, ws = [v0, v1] := by
  match ws, h with
  | [v, u], _ => exact ⟨v, u, rfl⟩
theorem as_no {c : Value} {i : Nat} {ts : Addr → Value → Option Addr → TS} {Wout : WX} {cls : Value} {d : Option Addr} (h : PySem.W.exmOne K cls c = some false) (k : Wout cls d σ H) : wAs K c i ts Wout D cls d σ H := ⟨false, h, nofun, fun _ => k⟩
theorem as_yes {c : Value} {i : Nat} {ts : Addr → Value → Option Addr → TS} {Wout : WX} {cls : Value} {d : Option Addr} (h : PySem.W.exmOne K cls c = some true)
    (k : ∀ a, H a = none → ts a cls d { nx := fun σ' H' => D.nx (σ'.set i none) H', rt := D.rt, bk := fun σ' H' => D.bk (σ'.set i none) H', ct := fun σ' H' => D.ct (σ'.set i none) H' } (σ.set i (some (.ref a))) H) : wAs K c i ts Wout D cls d σ H := ⟨true, h, fun _ => k, nofun⟩
/-! ### the comprehension, by what is made -/
def kLcH (v : V) (g : TG) (te : TE) (vs : List Nat) (σ : L2.St) (H1 : Hp) (Q : VK) : Prop := ∃ x : Str, v = .str x ∧ x.cps.all (· < 128) = true ∧ ∀ D, H1 D = none → ∃ W : Nat → Hp → Prop, W 0 (upd H1 D (.lst [])) ∧
  ∀ i H, W i H → (x.cps.size ≤ i → Q (.ref D) H) ∧ ∀ c, x.cps[i]? = some c → g (.str ⟨#[c]⟩) (wipe σ vs) H fun σ2 H2 => wipe σ2 vs = wipe σ vs ∧ te σ2 H2 fun y H4 => ∃ acc, H4 D = some (.lst acc) ∧ acc.length < sizeLine ∧ W (i + 1) (upd H4 D (.lst (acc ++ [y])))
theorem w_lcH {te0 : TE} {g : TG} {vs : List Nat} (k : te0 σ H fun v H1 => kLcH v g te vs σ H1 Q) : tLcH te0 g te vs σ H Q := k
theorem k_lcH {x : Str} {g : TG} {vs : List Nat} (m : Nat → V) (asc : x.cps.all (· < 128) = true) (hz : x.cps.size ≤ 1000)
    (step : ∀ c H', Same H H' → ∀ R : L2.St → Hp → Prop, (∀ σ2, wipe σ2 vs = wipe σ vs → (∀ H2, Same H' H2 → ∀ Q' : VK, Q' (m c) H2 → te σ2 H2 Q') → R σ2 H') → g (.str ⟨#[c]⟩) (wipe σ vs) H' R)
    (k : ∀ D H2, H D = none → Same H H2 → H2 D = some (.lst (x.cps.toList.map m)) → Q (.ref D) H2) : kLcH (.str x) g te vs σ H Q := by
  refine ⟨x, rfl, asc, fun D nD => ⟨fun i G => i ≤ x.cps.size ∧ G D = some (.lst ((x.cps.toList.take i).map m)) ∧ Same H (off [D] G), ⟨Nat.zero_le _, upd_same, by rw [off_upd, off_new nD]; exact Same.refl _⟩, ?_⟩⟩
  rintro i G ⟨hi, hD, hs⟩
  have s0 : Same H G := hs.trans off_sub
  refine ⟨fun hle => ?_, fun c hc => ?_⟩
  · rw [List.take_of_length_le (by rw [Array.length_toList]; exact hle)] at hD
    exact k D G nD s0 hD
  · have hlt : i < x.cps.size := (Array.getElem?_eq_some_iff.mp hc).1
    refine step c G s0 _ fun σ2 hw ev => ⟨hw, ev G (Same.refl _) _ ⟨_, hD, ?_, hlt, ?_, ?_⟩⟩
    · rw [List.length_map, List.length_take]
      exact Nat.lt_of_le_of_lt (Nat.min_le_left _ _) (Nat.lt_of_lt_of_le (Nat.lt_of_lt_of_le hlt hz) (by decide))
    · rw [upd_same, take_snoc (show x.cps.toList[i]? = some c by rw [Array.getElem?_toList]; exact hc), List.map_append]; rfl
    · rw [off_upd]; exact hs
end
end Sil
set_option Elab.async false
set_option linter.all false
set_option maxRecDepth 100000
set_option maxHeartbeats 2000000
/-! P34: tame data is shown, laid and compared; two lists joined. -/
namespace Sil
open PySem L2 PySem.Spec PyProof.Rows
theorem bndAll_len : ∀ ds : List PyData, 2 * ds.length ≤ bndAll ds
  | [] => Nat.le_refl _
  | x :: r => by
    have := bndAll_len r
    show 2 * (r.length + 1) ≤ bnd x + 2 + bndAll r
    omega
/-- tame things stay so -/
theorem Tm.sub {m : Nat} {ds es : List PyData} (h : Tm m (.tuple ds)) (s : ∀ e ∈ es, e ∈ ds) : Tm m (.tuple es) ∧ Tm m (.list es) := by
  cases h with
  | tup n _ h => exact ⟨.tup n _ fun d md => h d (s d md), .lst n _ fun d md => h d (s d md)⟩
theorem layAll : ∀ {ds : List PyData}, (∀ d ∈ ds, PyData.canLay0 d = true) → PyData.canLayAll0 ds = true
  | [], _ => rfl
  | x :: r, h => by
    show (PyData.canLay0 x && PyData.canLayAll0 r) = true
    rw [h x List.mem_cons_self, layAll fun d md => h d (List.mem_cons_of_mem _ md)]; rfl
theorem depAll {n : Nat} : ∀ {ds : List PyData}, (∀ d ∈ ds, d.depth ≤ n) → PyData.depthAll ds ≤ n
  | [], _ => Nat.zero_le _
  | x :: r, h => by
    have a := h x List.mem_cons_self
    have b := depAll (ds := r) fun d md => h d (List.mem_cons_of_mem _ md)
    show max x.depth (PyData.depthAll r) ≤ n
    omega
theorem showAll : ∀ {ds : List PyData}, (∀ d ∈ ds, d.showable = true) → PyData.showableAll ds = true
  | [], _ => rfl
  | x :: r, h => by
    show (PyData.showable x && PyData.showableAll r) = true
    rw [h x List.mem_cons_self, showAll fun d md => h d (List.mem_cons_of_mem _ md)]; rfl
theorem nodAll : ∀ {ds : List PyData}, (∀ d ∈ ds, d.hasDict = false) → PyData.hasDictAll ds = false
  | [], _ => rfl
  | x :: r, h => by
    show (PyData.hasDict x || PyData.hasDictAll r) = false
    rw [h x List.mem_cons_self, nodAll fun d md => h d (List.mem_cons_of_mem _ md)]; rfl
theorem Tm.good {n : Nat} {d : PyData} (h : Tm n d) : d.canLay0 = true ∧ d.depth ≤ n ∧ d.showable = true ∧ d.hasDict = false := by
  induction h with
  | non n => exact ⟨rfl, Nat.zero_le _, rfl, rfl⟩
  | bl n b => exact ⟨rfl, Nat.zero_le _, rfl, rfl⟩
  | int n i h => exact ⟨rfl, Nat.zero_le _, showable_int (Nat.lt_of_le_of_lt h (by decide)), rfl⟩
  | str n x h => exact ⟨h.lay, Nat.zero_le _, rfl, rfl⟩
  | lst n ds h ih => exact ⟨layAll fun d md => (ih d md).1, Nat.succ_le_succ (depAll fun d md => (ih d md).2.1), showAll fun d md => (ih d md).2.2.1, nodAll fun d md => (ih d md).2.2.2⟩
  | tup n ds h ih => exact ⟨layAll fun d md => (ih d md).1, Nat.succ_le_succ (depAll fun d md => (ih d md).2.1), showAll fun d md => (ih d md).2.2.1, nodAll fun d md => (ih d md).2.2.2⟩
theorem Tm.shaped {n : Nat} {d : PyData} (h : Tm n d) (hn : n ≤ 64) : SeqAt.shaped d = true := by
  unfold SeqAt.shaped
  rw [h.good.1, decide_eq_true (Nat.le_trans h.good.2.1 hn)]; rfl
theorem Tm.len {n : Nat} {d : PyData} (h : Tm n d) : ∀ x, d = .str x → x.length ≤ 1000 := by
  intro x e
  subst e
  cases h with
  | str _ _ h => exact h.len
theorem Tm.elt {n : Nat} {ds : List PyData} (h : Tm n (.tuple ds)) : ∀ d ∈ ds, Tm n d := by
  cases h with
  | tup n _ h => exact fun d m => (h d m).mono (Nat.le_succ _)
def tmB : Nat → PyData → Bool
  | _, .none => true
  | _, .bool _ => true
  | _, .int i => decide (i.natAbs ≤ 10 ^ 30)
  | _, .str x => decide (x.length ≤ 1000) && decide ((reprText x).length ≤ 1000) && PyData.canLay0 (.str x)
  | n + 1, .list ds => ds.all (tmB n)
  | n + 1, .tuple ds => ds.all (tmB n)
  | _, _ => false
theorem tm_of : ∀ (n : Nat) (d : PyData), tmB n d = true → Tm n d := by
  intro n
  induction n with
  | zero =>
    intro d h
    cases d with
    | none => exact .non _
    | bool b => exact .bl _ b
    | int i => exact .int _ i (of_decide_eq_true h)
    | str x =>
      have h : (decide (x.length ≤ 1000) && decide ((reprText x).length ≤ 1000) && PyData.canLay0 (.str x)) = true := h
      rw [Bool.and_eq_true, Bool.and_eq_true, decide_eq_true_iff, decide_eq_true_iff] at h
      exact .str _ x ⟨h.1.1, h.1.2, h.2⟩
    | list ds => cases h
    | tuple ds => cases h
    | dict _ => cases h
  | succ n ih =>
    intro d h
    cases d with
    | none => exact .non _
    | bool b => exact .bl _ b
    | int i => exact .int _ i (of_decide_eq_true h)
    | str x =>
      have h : (decide (x.length ≤ 1000) && decide ((reprText x).length ≤ 1000) && PyData.canLay0 (.str x)) = true := h
      rw [Bool.and_eq_true, Bool.and_eq_true, decide_eq_true_iff, decide_eq_true_iff] at h
      exact .str _ x ⟨h.1.1, h.1.2, h.2⟩
    | list ds => exact .lst n ds fun d md => ih d (List.all_eq_true.mp h d md)
    | tuple ds => exact .tup n ds fun d md => ih d (List.all_eq_true.mp h d md)
    | dict _ => cases h
def sD (x : String) : PyData := .str (Str.ofString x)
section
variable {K : PySem.W.Frag}
theorem dpAll_at {H : Hp} {xs : List V} {ds : List PyData} (h : DpAll K H xs ds) {j : Int} (h0 : 0 ≤ j) (h1 : j < xs.length) : ∃ x d, atI xs j = some x ∧ d ∈ ds ∧ Dp K H x d := by
  have hl : j.toNat < xs.length := by omega
  have e : atI xs j = some xs[j.toNat] := by
    unfold atI ixN
    rw [if_pos h0, if_pos h1]
    show xs[j.toNat]? = _
    rw [List.getElem?_eq_getElem hl]
  obtain ⟨d, hd, hx⟩ := dpAll_get h (List.getElem?_eq_getElem hl)
  exact ⟨_, d, e, List.mem_of_getElem? hd, hx⟩
theorem w_cat {a c : Addr} {xs ys : List V} {H : Hp} {Q : VK} (h1 : H a = some (.lst xs)) (h2 : H c = some (.lst ys)) (hl : xs.length + ys.length ≤ 100000) (k : ∀ p H2, H p = none → Same H H2 → H2 p = some (.lst (xs ++ ys)) → Q (.ref p) H2) : rCat (.ref a) (.ref c) H Q :=
  ⟨a, c, xs, ys, rfl, rfl, h1, h2, Nat.le_trans hl (by decide), fun p np => k p _ np (same_new np) upd_same⟩
/-- one sign in a text -/
def rInS1 : R2 := fun x y H Q => ∃ (c : Nat) (z : Str), x = .str ⟨#[c]⟩ ∧ y = .str z ∧ Q (.bl (decide (c ∈ z.cps.toList))) H
theorem op_inS1 {X : Cx} : OpR X (compareOp .In) rInS1 := op_in_sign
theorem w_inS1 {c : Nat} {z : Str} {H : Hp} {Q : VK} (k : Q (.bl (decide (c ∈ z.cps.toList))) H) : rInS1 (.str ⟨#[c]⟩) (.str z) H Q := ⟨c, z, rfl, rfl, k⟩
theorem thing_repr {H : Hp} {Q : VK} {v : V} {d : PyData} {n : Nat} (h : Dp K H v d) (ht : Tm n d) (hn : n ≤ 40) (hb : bnd d ≤ 300000) (k : Q (.str d.shown) H) : rRepr K [v] H Q :=
  w_repr h ht.good.2.2.1 ht.good.2.2.2 (Nat.le_trans ht.good.2.1 hn) (Nat.le_trans hb (by decide)) k
theorem NameOk.strOk {x : Str} (h : NameOk x) : StrOk x := ⟨Nat.le_trans h.len (by decide), h.rep, h.lay⟩
theorem strOk_lit {x : Str} (h : tmB 0 (.str x) = true) : StrOk x := by
  have h := tm_of 0 _ h
  cases h
  assumption
end
end Sil
set_option Elab.async false
set_option linter.all false
set_option maxRecDepth 100000
set_option maxHeartbeats 1000000
namespace Sil
open PySem L2
def top (i : Nat) : Stmt := PySem.Challenge.pw_silencetells_k68_refusals_made.main.body.getD i (.Pass ⟨0, 0, 0, 0⟩)
local macro_rules | `(tactic| walk_at "g1") => `(tactic| first
  | (with_reducible refine w_seq ?_)
  | ((with_reducible refine' w_var ?hv ?_); (case hv => rfl))
  | (with_reducible refine w_c ?_)
  | (with_reducible refine w_cons ?_)
  | (with_reducible refine w_nil ?_)
  | (with_reducible refine w_op ?_)
  | (with_reducible refine w_I0 ?_)
  | (with_reducible refine w_asg ?_)
  | (with_reducible refine w_name ?_)
  | (with_reducible refine w_ifS ?_)
  | (with_reducible refine w_test ?_)
  | (with_reducible refine w_B ?_)
  | (with_reducible refine w_cb ?_)
  | (with_reducible refine w_ret ?_)
  | (with_reducible refine w_un ?_)
  | (with_reducible refine w_U ?_)
  | (with_reducible refine w_call ?_)
  | (with_reducible refine w_make ?_)
  | (with_reducible refine w_tup ?_)
  | (with_reducible refine w_lst ?_)
  | (with_reducible refine w_if ?_)
  | (with_reducible refine w_and ?_)
  | (with_reducible refine w_or ?_)
  | (with_reducible refine w_not ?_)
  | (with_reducible refine w_andV ?_)
  | (with_reducible refine w_orV ?_)
  | (with_reducible refine w_notV ?_)
  | (with_reducible refine w_chain ?_)
  | (with_reducible refine w_par ?_)
  | (with_reducible refine w_drop ?_)
  | (with_reducible refine w_next ?_)
  | (with_reducible refine w_cont ?_)
  | (with_reducible refine w_fld ?_)
  | (with_reducible refine w_ckw ?_)
  | (with_reducible refine w_sub ?_)
  | (with_reducible refine w_meth ?_)
  | (with_reducible refine w_some ?_)
  | (with_reducible refine w_lcT ?_)
  | (with_reducible refine w_lcL ?_)
  | (with_reducible refine w_lcR ?_)
  | (with_reducible refine w_forT ?_)
  | (with_reducible refine w_forL ?_)
  | (with_reducible refine w_forR ?_)
  | (with_reducible refine w_gcons ?_)
  | (with_reducible refine w_gnil ?_)
  | (with_reducible refine w_isN ?_)
  | (with_reducible refine w_notN ?_)
  | (with_reducible refine w_abs ?_)
  | (with_reducible refine w_max2 ?_)
  | (with_reducible refine w_min2 ?_)
  | (with_reducible refine w_makeK0 ?_)
  | (with_reducible refine w_makeS ?_)
  | (with_reducible refine w_join ?_)
  | (with_reducible refine w_js ?_)
  | (with_reducible refine w_jsN ?_)
  | (with_reducible refine w_fmtN ?_)
  | (with_reducible refine w_fmtO ?_)
  | (with_reducible refine w_dget ?_)
  | (with_reducible refine w_dput ?_)
  | (with_reducible refine w_sl ?_)
  | (with_reducible refine w_part ?_)
  | (with_reducible refine k_part ?_)
  | (with_reducible refine w_noPart ?_)
  | (with_reducible refine w_yes ?_)
  | (with_reducible refine w_bm ?_)
  | (with_reducible refine k_bmS ?_)
  | (with_reducible refine w_pc ?_)
  | (with_reducible refine w_pn ?_)
  | (with_reducible refine w_revT ?_)
  | (with_reducible refine w_revL ?_)
  | (with_reducible refine w_lenSet ?_)
  | (with_reducible refine w_lstRg ?_)
  | (with_reducible refine w_lcS ?_)
  | (with_reducible refine w_lcZ ?_)
  | (with_reducible refine w_ifT ?_)
  | (with_reducible refine w_ostG ?_)
  | (with_reducible refine w_kind ?_)
  | (with_reducible refine w_xf ?_)
  | (with_reducible refine w_mkO ?_)
  | (with_reducible refine w_dget2 ?_)
  | (with_reducible refine w_lcH ?_))
local macro_rules | `(tactic| walk_at "go") => `(tactic| repeat (walk_at "g1"))
abbrev s_NoWord_init : Stmt := inClass (top 3) 0
theorem sc_NoWord_init : FnScope ["self", "name"] ["self", "name"] (defScope s_NoWord_init) :=
  ⟨rfl, rfl, rfl, by decide +kernel, rfl, by decide +kernel, by decide +kernel⟩
abbrev s_NoMinutes_init : Stmt := inClass (top 4) 0
theorem sc_NoMinutes_init : FnScope ["self", "at"] ["self", "at"] (defScope s_NoMinutes_init) :=
  ⟨rfl, rfl, rfl, by decide +kernel, rfl, by decide +kernel, by decide +kernel⟩
abbrev s_NoHistory_init : Stmt := inClass (top 5) 0
theorem sc_NoHistory_init : FnScope ["self", "at"] ["self", "at"] (defScope s_NoHistory_init) :=
  ⟨rfl, rfl, rfl, by decide +kernel, rfl, by decide +kernel, by decide +kernel⟩
abbrev s_NoText_init : Stmt := inClass (top 6) 0
theorem sc_NoText_init : FnScope ["self", "row", "place"] ["self", "row", "place"] (defScope s_NoText_init) :=
  ⟨rfl, rfl, rfl, by decide +kernel, rfl, by decide +kernel, by decide +kernel⟩
abbrev s_NoRow_init : Stmt := inClass (top 7) 0
theorem sc_NoRow_init : FnScope ["self", "place"] ["self", "place"] (defScope s_NoRow_init) :=
  ⟨rfl, rfl, rfl, by decide +kernel, rfl, by decide +kernel, by decide +kernel⟩
abbrev s_Stands_init : Stmt := inClass (top 8) 0
theorem sc_Stands_init : FnScope ["self", "name"] ["self", "name"] (defScope s_Stands_init) :=
  ⟨rfl, rfl, rfl, by decide +kernel, rfl, by decide +kernel, by decide +kernel⟩
abbrev s_NoHand_init : Stmt := inClass (top 9) 0
theorem sc_NoHand_init : FnScope ["self", "name"] ["self", "name"] (defScope s_NoHand_init) :=
  ⟨rfl, rfl, rfl, by decide +kernel, rfl, by decide +kernel, by decide +kernel⟩
abbrev s_NoLabel_init : Stmt := inClass (top 10) 0
theorem sc_NoLabel_init : FnScope ["self", "label"] ["self", "label"] (defScope s_NoLabel_init) :=
  ⟨rfl, rfl, rfl, by decide +kernel, rfl, by decide +kernel, by decide +kernel⟩
abbrev s_NoBeat_init : Stmt := inClass (top 12) 0
theorem sc_NoBeat_init : FnScope ["self", "at"] ["self", "at"] (defScope s_NoBeat_init) :=
  ⟨rfl, rfl, rfl, by decide +kernel, rfl, by decide +kernel, by decide +kernel⟩
abbrev s_TooMany_init : Stmt := inClass (top 13) 0
theorem sc_TooMany_init : FnScope ["self", "most"] ["self", "most"] (defScope s_TooMany_init) :=
  ⟨rfl, rfl, rfl, by decide +kernel, rfl, by decide +kernel, by decide +kernel⟩
abbrev s_Bound_init : Stmt := inClass (top 15) 0
theorem sc_Bound_init : FnScope ["self", "label"] ["self", "label"] (defScope s_Bound_init) :=
  ⟨rfl, rfl, rfl, by decide +kernel, rfl, by decide +kernel, by decide +kernel⟩
abbrev s_l_bag : Stmt := top 17
theorem sc_l_bag : FnScope ["_law_script", "_law_at", "_law_primes", "_law_cell", "_law_great", "_law_mixed"] ["_law_script", "_law_at"] (defScope s_l_bag) :=
  ⟨rfl, rfl, rfl, by decide +kernel, rfl, by decide +kernel, by decide +kernel⟩
abbrev s_l_take : Stmt := top 18
theorem sc_l_take : FnScope ["_law_bag_here", "_law_many", "_law_digit"] ["_law_bag_here", "_law_many"] (defScope s_l_take) :=
  ⟨rfl, rfl, rfl, by decide +kernel, rfl, by decide +kernel, by decide +kernel⟩
abbrev s_l_names : Stmt := top 19
theorem sc_l_names : FnScope ["_law_bag_here", "_law_many", "_law_signs", "_law_size", "_law_stem", "_law_spot", "_law_first_here", "_law_pace", "_law_own", "_law_k", "_law_sign"] ["_law_bag_here", "_law_many"] (defScope s_l_names) :=
  ⟨rfl, rfl, rfl, by decide +kernel, rfl, by decide +kernel, by decide +kernel⟩
abbrev s_l_kind : Stmt := top 20
theorem sc_l_kind : FnScope ["_law_e", "_law_words", "_law_kinds", "_law_word", "_law_above", "_law_due", "_law_sign"] ["_law_e"] (defScope s_l_kind) :=
  ⟨rfl, rfl, rfl, by decide +kernel, rfl, by decide +kernel, by decide +kernel⟩
abbrev s_l_any : Stmt := top 21
theorem sc_l_any : FnScope ["_law_bag_here", "_law_hand", "_law_some"] ["_law_bag_here", "_law_hand"] (defScope s_l_any) :=
  ⟨rfl, rfl, rfl, by decide +kernel, rfl, by decide +kernel, by decide +kernel⟩
abbrev s_l_first : Stmt := top 22
theorem sc_l_first : FnScope ["_law_one", "_law_other", "_law_way", "_law_e"] ["_law_one", "_law_other", "_law_way"] (defScope s_l_first) :=
  ⟨rfl, rfl, rfl, by decide +kernel, rfl, by decide +kernel, by decide +kernel⟩
abbrev s_l_second : Stmt := top 23
theorem sc_l_second : FnScope ["_law_one", "_law_way", "_law_e"] ["_law_one", "_law_way"] (defScope s_l_second) :=
  ⟨rfl, rfl, rfl, by decide +kernel, rfl, by decide +kernel, by decide +kernel⟩
abbrev s_l_third : Stmt := top 24
theorem sc_l_third : FnScope ["_law_way", "_law_e"] ["_law_way"] (defScope s_l_third) :=
  ⟨rfl, rfl, rfl, by decide +kernel, rfl, by decide +kernel, by decide +kernel⟩
abbrev s_law : Stmt := top 25
theorem sc_law : FnScope ["_law_script", "_law_words", "_law_others", "_law_at", "_law_bag_here", "_law_hand", "_law_way", "_law_one", "_law_other"] ["_law_script"] (defScope s_law) :=
  ⟨rfl, rfl, rfl, by decide +kernel, rfl, by decide +kernel, by decide +kernel⟩
structure Gs where
  c_NoBand : Addr
  c_NoWatch : Addr
  c_NoWord : Addr
  c_NoMinutes : Addr
  c_NoHistory : Addr
  c_NoText : Addr
  c_NoRow : Addr
  c_Stands : Addr
  c_NoHand : Addr
  c_NoLabel : Addr
  c_NoAsk : Addr
  c_NoBeat : Addr
  c_TooMany : Addr
  c_Open : Addr
  c_Bound : Addr
  f_NoWord_init : Addr
  d_NoWord_init : FuncData
  f_NoMinutes_init : Addr
  d_NoMinutes_init : FuncData
  f_NoHistory_init : Addr
  d_NoHistory_init : FuncData
  f_NoText_init : Addr
  d_NoText_init : FuncData
  f_NoRow_init : Addr
  d_NoRow_init : FuncData
  f_Stands_init : Addr
  d_Stands_init : FuncData
  f_NoHand_init : Addr
  d_NoHand_init : FuncData
  f_NoLabel_init : Addr
  d_NoLabel_init : FuncData
  f_NoBeat_init : Addr
  d_NoBeat_init : FuncData
  f_TooMany_init : Addr
  d_TooMany_init : FuncData
  f_Bound_init : Addr
  d_Bound_init : FuncData
  f_l_bag : Addr
  d_l_bag : FuncData
  f_l_take : Addr
  d_l_take : FuncData
  f_l_names : Addr
  d_l_names : FuncData
  f_l_kind : Addr
  d_l_kind : FuncData
  f_l_any : Addr
  d_l_any : FuncData
  f_l_first : Addr
  d_l_first : FuncData
  f_l_second : Addr
  d_l_second : FuncData
  f_l_third : Addr
  d_l_third : FuncData
  f_law : Addr
  d_law : FuncData
def gcs (g : Gs) : List Addr := [g.c_NoBand, g.c_NoWatch, g.c_NoWord, g.c_NoMinutes, g.c_NoHistory, g.c_NoText, g.c_NoRow, g.c_Stands, g.c_NoHand, g.c_NoLabel, g.c_NoAsk, g.c_NoBeat, g.c_TooMany, g.c_Open, g.c_Bound]
structure Gk (K : PySem.W.Frag) (mg : Str → Option Value) (g : Gs) : Prop where
  m_NoBand : mg "NoBand" = some (.ref g.c_NoBand)
  xi_NoBand : PySem.W.excIn K g.c_NoBand [.type "ValueError", .type "Exception", .type "BaseException", .type "object"] "ValueError.__new__" = true
  m_NoWatch : mg "NoWatch" = some (.ref g.c_NoWatch)
  xi_NoWatch : PySem.W.excIn K g.c_NoWatch [.type "ValueError", .type "Exception", .type "BaseException", .type "object"] "ValueError.__new__" = true
  m_NoWord : mg "NoWord" = some (.ref g.c_NoWord)
  x_NoWord : OexG K g.c_NoWord "ValueError.__new__" bmV
  i_NoWord : PySem.W.findIn K (.ref g.c_NoWord) "__init__" = some (some (.ref g.f_NoWord_init))
  ti_NoWord : PySem.W.typeIn K (.ref g.f_NoWord_init) = some (.type "function")
  nf_NoWord_name : PySem.W.findIn K (.ref g.c_NoWord) "name" = some none
  m_NoMinutes : mg "NoMinutes" = some (.ref g.c_NoMinutes)
  x_NoMinutes : OexG K g.c_NoMinutes "ValueError.__new__" bmV
  i_NoMinutes : PySem.W.findIn K (.ref g.c_NoMinutes) "__init__" = some (some (.ref g.f_NoMinutes_init))
  ti_NoMinutes : PySem.W.typeIn K (.ref g.f_NoMinutes_init) = some (.type "function")
  nf_NoMinutes_at : PySem.W.findIn K (.ref g.c_NoMinutes) "at" = some none
  m_NoHistory : mg "NoHistory" = some (.ref g.c_NoHistory)
  x_NoHistory : OexG K g.c_NoHistory "ValueError.__new__" bmV
  i_NoHistory : PySem.W.findIn K (.ref g.c_NoHistory) "__init__" = some (some (.ref g.f_NoHistory_init))
  ti_NoHistory : PySem.W.typeIn K (.ref g.f_NoHistory_init) = some (.type "function")
  nf_NoHistory_at : PySem.W.findIn K (.ref g.c_NoHistory) "at" = some none
  m_NoText : mg "NoText" = some (.ref g.c_NoText)
  x_NoText : OexG K g.c_NoText "ValueError.__new__" bmV
  i_NoText : PySem.W.findIn K (.ref g.c_NoText) "__init__" = some (some (.ref g.f_NoText_init))
  ti_NoText : PySem.W.typeIn K (.ref g.f_NoText_init) = some (.type "function")
  nf_NoText_row : PySem.W.findIn K (.ref g.c_NoText) "row" = some none
  nf_NoText_place : PySem.W.findIn K (.ref g.c_NoText) "place" = some none
  m_NoRow : mg "NoRow" = some (.ref g.c_NoRow)
  x_NoRow : OexG K g.c_NoRow "ValueError.__new__" bmV
  i_NoRow : PySem.W.findIn K (.ref g.c_NoRow) "__init__" = some (some (.ref g.f_NoRow_init))
  ti_NoRow : PySem.W.typeIn K (.ref g.f_NoRow_init) = some (.type "function")
  nf_NoRow_place : PySem.W.findIn K (.ref g.c_NoRow) "place" = some none
  m_Stands : mg "Stands" = some (.ref g.c_Stands)
  x_Stands : OexG K g.c_Stands "ValueError.__new__" bmV
  i_Stands : PySem.W.findIn K (.ref g.c_Stands) "__init__" = some (some (.ref g.f_Stands_init))
  ti_Stands : PySem.W.typeIn K (.ref g.f_Stands_init) = some (.type "function")
  nf_Stands_name : PySem.W.findIn K (.ref g.c_Stands) "name" = some none
  m_NoHand : mg "NoHand" = some (.ref g.c_NoHand)
  x_NoHand : OexG K g.c_NoHand "LookupError.__new__" bmK
  i_NoHand : PySem.W.findIn K (.ref g.c_NoHand) "__init__" = some (some (.ref g.f_NoHand_init))
  ti_NoHand : PySem.W.typeIn K (.ref g.f_NoHand_init) = some (.type "function")
  nf_NoHand_name : PySem.W.findIn K (.ref g.c_NoHand) "name" = some none
  m_NoLabel : mg "NoLabel" = some (.ref g.c_NoLabel)
  x_NoLabel : OexG K g.c_NoLabel "LookupError.__new__" bmK
  i_NoLabel : PySem.W.findIn K (.ref g.c_NoLabel) "__init__" = some (some (.ref g.f_NoLabel_init))
  ti_NoLabel : PySem.W.typeIn K (.ref g.f_NoLabel_init) = some (.type "function")
  nf_NoLabel_label : PySem.W.findIn K (.ref g.c_NoLabel) "label" = some none
  m_NoAsk : mg "NoAsk" = some (.ref g.c_NoAsk)
  xi_NoAsk : PySem.W.excIn K g.c_NoAsk [.type "LookupError", .type "Exception", .type "BaseException", .type "object"] "LookupError.__new__" = true
  m_NoBeat : mg "NoBeat" = some (.ref g.c_NoBeat)
  x_NoBeat : OexG K g.c_NoBeat "IndexError.__new__" bmI
  i_NoBeat : PySem.W.findIn K (.ref g.c_NoBeat) "__init__" = some (some (.ref g.f_NoBeat_init))
  ti_NoBeat : PySem.W.typeIn K (.ref g.f_NoBeat_init) = some (.type "function")
  nf_NoBeat_at : PySem.W.findIn K (.ref g.c_NoBeat) "at" = some none
  m_TooMany : mg "TooMany" = some (.ref g.c_TooMany)
  x_TooMany : OexG K g.c_TooMany "OverflowError.__new__" bmO
  i_TooMany : PySem.W.findIn K (.ref g.c_TooMany) "__init__" = some (some (.ref g.f_TooMany_init))
  ti_TooMany : PySem.W.typeIn K (.ref g.f_TooMany_init) = some (.type "function")
  nf_TooMany_most : PySem.W.findIn K (.ref g.c_TooMany) "most" = some none
  m_Open : mg "Open" = some (.ref g.c_Open)
  xi_Open : PySem.W.excIn K g.c_Open [.type "RuntimeError", .type "Exception", .type "BaseException", .type "object"] "RuntimeError.__new__" = true
  m_Bound : mg "Bound" = some (.ref g.c_Bound)
  x_Bound : OexG K g.c_Bound "RuntimeError.__new__" bmR
  i_Bound : PySem.W.findIn K (.ref g.c_Bound) "__init__" = some (some (.ref g.f_Bound_init))
  ti_Bound : PySem.W.typeIn K (.ref g.f_Bound_init) = some (.type "function")
  nf_Bound_label : PySem.W.findIn K (.ref g.c_Bound) "label" = some none
  kinds : Kinds K (gcs g)
  F_NoWord_init : Fun K "__init__" "NoWord.__init__" s_NoWord_init g.f_NoWord_init g.d_NoWord_init
  b_NoWord_init : Binds K g.d_NoWord_init ["self", "name"] []
  F_NoMinutes_init : Fun K "__init__" "NoMinutes.__init__" s_NoMinutes_init g.f_NoMinutes_init g.d_NoMinutes_init
  b_NoMinutes_init : Binds K g.d_NoMinutes_init ["self", "at"] []
  F_NoHistory_init : Fun K "__init__" "NoHistory.__init__" s_NoHistory_init g.f_NoHistory_init g.d_NoHistory_init
  b_NoHistory_init : Binds K g.d_NoHistory_init ["self", "at"] []
  F_NoText_init : Fun K "__init__" "NoText.__init__" s_NoText_init g.f_NoText_init g.d_NoText_init
  b_NoText_init : Binds K g.d_NoText_init ["self", "row", "place"] []
  F_NoRow_init : Fun K "__init__" "NoRow.__init__" s_NoRow_init g.f_NoRow_init g.d_NoRow_init
  b_NoRow_init : Binds K g.d_NoRow_init ["self", "place"] []
  F_Stands_init : Fun K "__init__" "Stands.__init__" s_Stands_init g.f_Stands_init g.d_Stands_init
  b_Stands_init : Binds K g.d_Stands_init ["self", "name"] []
  F_NoHand_init : Fun K "__init__" "NoHand.__init__" s_NoHand_init g.f_NoHand_init g.d_NoHand_init
  b_NoHand_init : Binds K g.d_NoHand_init ["self", "name"] []
  F_NoLabel_init : Fun K "__init__" "NoLabel.__init__" s_NoLabel_init g.f_NoLabel_init g.d_NoLabel_init
  b_NoLabel_init : Binds K g.d_NoLabel_init ["self", "label"] []
  F_NoBeat_init : Fun K "__init__" "NoBeat.__init__" s_NoBeat_init g.f_NoBeat_init g.d_NoBeat_init
  b_NoBeat_init : Binds K g.d_NoBeat_init ["self", "at"] []
  F_TooMany_init : Fun K "__init__" "TooMany.__init__" s_TooMany_init g.f_TooMany_init g.d_TooMany_init
  b_TooMany_init : Binds K g.d_TooMany_init ["self", "most"] []
  F_Bound_init : Fun K "__init__" "Bound.__init__" s_Bound_init g.f_Bound_init g.d_Bound_init
  b_Bound_init : Binds K g.d_Bound_init ["self", "label"] []
  F_l_bag : Fun K "_law_bag" "_law_bag" s_l_bag g.f_l_bag g.d_l_bag
  b_l_bag : Binds K g.d_l_bag ["_law_script", "_law_at"] []
  m_l_bag : mg "_law_bag" = some (.ref g.f_l_bag)
  F_l_take : Fun K "_law_take" "_law_take" s_l_take g.f_l_take g.d_l_take
  b_l_take : Binds K g.d_l_take ["_law_bag_here", "_law_many"] []
  m_l_take : mg "_law_take" = some (.ref g.f_l_take)
  F_l_names : Fun K "_law_names" "_law_names" s_l_names g.f_l_names g.d_l_names
  b_l_names : Binds K g.d_l_names ["_law_bag_here", "_law_many"] []
  m_l_names : mg "_law_names" = some (.ref g.f_l_names)
  F_l_kind : Fun K "_law_kind" "_law_kind" s_l_kind g.f_l_kind g.d_l_kind
  b_l_kind : Binds K g.d_l_kind ["_law_e"] []
  m_l_kind : mg "_law_kind" = some (.ref g.f_l_kind)
  F_l_any : Fun K "_law_any" "_law_any" s_l_any g.f_l_any g.d_l_any
  b_l_any : Binds K g.d_l_any ["_law_bag_here", "_law_hand"] []
  m_l_any : mg "_law_any" = some (.ref g.f_l_any)
  F_l_first : Fun K "_law_first" "_law_first" s_l_first g.f_l_first g.d_l_first
  b_l_first : Binds K g.d_l_first ["_law_one", "_law_other", "_law_way"] []
  m_l_first : mg "_law_first" = some (.ref g.f_l_first)
  F_l_second : Fun K "_law_second" "_law_second" s_l_second g.f_l_second g.d_l_second
  b_l_second : Binds K g.d_l_second ["_law_one", "_law_way"] []
  m_l_second : mg "_law_second" = some (.ref g.f_l_second)
  F_l_third : Fun K "_law_third" "_law_third" s_l_third g.f_l_third g.d_l_third
  b_l_third : Binds K g.d_l_third ["_law_way"] []
  m_l_third : mg "_law_third" = some (.ref g.f_l_third)
  F_law : Fun K "law" "law" s_law g.f_law g.d_law
  b_law : Binds K g.d_law ["_law_script"] []
  m_law : mg "law" = some (.ref g.f_law)
  z_len : mg "len" = none
  z_abs : mg "abs" = none
  z_max : mg "max" = none
  z_min : mg "min" = none
  z_isinstance : mg "isinstance" = none
  z_range : mg "range" = none
  z_sorted : mg "sorted" = none
  z_tuple : mg "tuple" = none
  z_repr : mg "repr" = none
  z_ValueError : mg "ValueError" = none
  z_KeyError : mg "KeyError" = none
  z_LookupError : mg "LookupError" = none
  z_IndexError : mg "IndexError" = none
  z_OverflowError : mg "OverflowError" = none
  z_RuntimeError : mg "RuntimeError" = none
section
variable {P : Program} {w : World} {K : PySem.W.Frag} {mg : Str → Option Value} {base : Heap} {g : Gs}
/-! ### the bag -/
def spTake : Sp := fun vs H Q _ => ∃ (b : Addr) (many : Int), vs = [.ref b, .int many] ∧ Bag H b ∧ 0 < many ∧ many < 2 ^ 200 ∧
  ∀ (d : Int) (H' : Hp), 0 ≤ d → d < many → Step b H H' → Q (.int d) H'
theorem use_take {b : Addr} {many : Int} {H : Hp} {Q : VK} {E : XK} (hb : Bag H b) (h0 : 0 < many) (h1 : many < 2 ^ 200)
    (k : ∀ (d : Int) (H' : Hp), 0 ≤ d → d < many → Step b H H' → Q (.int d) H') : spTake ([.ref b, .int many] ++ []) H Q E := ⟨b, many, rfl, hb, h0, h1, k⟩
theorem ok_l_take (T : Gk K mg g) : FnOk P w K mg base CX0 1 g.f_l_take g.d_l_take ["_law_bag_here", "_law_many"] spTake := by
  refine T.F_l_take.ok sc_l_take (fun vs H Q E h => ?_) (fun cdv A outer s H vs Q E hr h => ?_)
  · obtain ⟨b, many, rfl, _⟩ := h; rfl
  · obtain ⟨b, many, rfl, ⟨n, m, hn, hm, hb⟩, h0, h1, k⟩ := h
    refine ⟨_, (pss_cons (ps_if (pt_cmpR op_gt (pe_ix (k_ixL K) (pv 0) pe_int (fun _ _ => rfl)) pe_int (nomark _)) (pss_cons (ps_set (i := 2) sc_l_take.nd rfl (Or.inl rfl) (pe_op op_mod (pe_ix (k_ixL K) (pv 0) pe_int (fun _ _ => rfl)) (pv 1)))
      (pss_cons (ps_asg (pe_op op_fdivW (pe_ix (k_ixL K) (pv 0) pe_int (fun _ _ => rfl)) (pv 1)) (pg_sub (pv 0) pe_int set_list))
      (pss_one (ps_ret (pv 2))))) pss_nil)
      (pss_cons (ps_asg (pe_op op_mod (pe_op op_add (pe_op op_mul (pe_ix (k_ixL K) (pv 0) pe_int (fun _ _ => rfl)) pe_int) pe_int) pe_int) (pg_sub (pv 0) pe_int set_list))
      (pss_one (ps_ret (pe_op op_mod (pe_op op_mod (pe_op op_pow (pe_op op_fdiv (pe_ix (k_ixL K) (pv 0) pe_int (fun _ _ => rfl)) pe_int) pe_int) pe_int) (pv 1)))))), ?_⟩
    have sq : SqL K H b [.int n, .int m] := SqL.of hb
    have step : ∀ (n' m' : Int), 0 ≤ n' → 0 ≤ m' → Step b H (upd H b (.lst [.int n', .int m'])) := fun n' m' a c =>
      ⟨⟨n', m', a, c, upd_same⟩, fun x o hx => by
        obtain ⟨e1, e2⟩ := off_get hx
        refine off_mk ?_ e2
        rw [upd_ne (by simpa using e2)]; exact e1⟩
    walk_at "go"
    refine w_ixL sq rfl ?_
    walk_at "go"
    refine ite_b (fun hc => ?_) (fun hc => ?_)
    · have hc := of_decide_eq_true hc
      walk_at "go"
      refine w_ixL sq rfl ?_
      walk_at "go"
      refine w_I h0 ?_
      walk_at "go"
      refine w_ixL sq rfl ?_
      walk_at "go"
      refine w_I (wide_div (b := 200) h0 (by omega) (by decide) (by decide)) ?_
      walk_at "go"
      refine w_setL hb rfl ?_
      walk_at "go"
      exact k _ _ (Int.emod_nonneg _ (by omega)) (Int.emod_lt_of_pos _ h0) (step _ _ (Int.ediv_nonneg hn (by omega)) hm)
    · walk_at "go"
      refine w_ixL sq rfl ?_
      walk_at "go"
      refine w_I (Or.inr ⟨by decide, by decide⟩) ?_
      walk_at "go"
      refine w_I (by decide) ?_
      walk_at "go"
      refine w_setL hb rfl ?_
      walk_at "go"
      refine w_ixL (SqL.at upd_same) rfl ?_
      walk_at "go"
      refine w_I ⟨by decide, by decide⟩ ?_
      walk_at "go"
      have m0 : 0 ≤ (m * 48271 + 11) % 2147483647 := Int.emod_nonneg _ (by decide)
      have m1 : (m * 48271 + 11) % 2147483647 < 2147483647 := Int.emod_lt_of_pos _ (by decide)
      refine w_I ⟨by decide, by decide, by omega⟩ ?_
      walk_at "go"
      refine w_I (by decide) ?_
      walk_at "go"
      refine w_I h0 ?_
      exact k _ _ (Int.emod_nonneg _ (by omega)) (Int.emod_lt_of_pos _ h0) (step _ _ hn m0)
/-- _law_bag: a bag, new -/
def spBag (K : PySem.W.Frag) : Sp := fun vs H Q _ => ∃ (a : Addr) (ns : List Int) (j : Nat), vs = [.ref a, .int j] ∧ SqL K H a (ns.map V.int) ∧ ns.length ≤ 63 ∧ j < 8 ∧
  ∀ (b : Addr) (H' : Hp), H b = none → Same H H' → Bag H' b → Q (.ref b) H'
theorem prime_at : ∀ j : Nat, j < 8 → ∃ p : Int, 0 < p ∧ atI [V.int 2147483629, .int 2147483587, .int 2147483579, .int 2147483563, .int 2147483549, .int 2147483543, .int 2147483497, .int 2147483489] ((j : Int) % 8) = some (.int p) ∧ p < 2147483648
  | 0, _ => ⟨_, by decide, rfl, by decide⟩
  | 1, _ => ⟨_, by decide, rfl, by decide⟩
  | 2, _ => ⟨_, by decide, rfl, by decide⟩
  | 3, _ => ⟨_, by decide, rfl, by decide⟩
  | 4, _ => ⟨_, by decide, rfl, by decide⟩
  | 5, _ => ⟨_, by decide, rfl, by decide⟩
  | 6, _ => ⟨_, by decide, rfl, by decide⟩
  | 7, _ => ⟨_, by decide, rfl, by decide⟩
  | n + 8, h => absurd h (by omega)
theorem ok_l_bag (T : Gk K mg g) : FnOk P w K mg base CX0 1 g.f_l_bag g.d_l_bag ["_law_script", "_law_at"] (spBag K) := by
  refine T.F_l_bag.ok sc_l_bag (fun vs H Q E h => ?_) (fun cdv A outer s H vs Q E hr h => ?_)
  · obtain ⟨a, ns, j, rfl, _⟩ := h; rfl
  · obtain ⟨a, ns, j, rfl, hS, hlen, hj, k⟩ := h
    refine ⟨_, (pss_cons (ps_set (i := 2) sc_l_bag.nd rfl (Or.inl rfl) (pe_lst (pa_cons pe_int (pa_cons pe_int (pa_cons pe_int (pa_cons pe_int (pa_cons pe_int (pa_cons pe_int (pa_cons pe_int (pa_cons pe_int pa_nil))))))))))
      (pss_cons (ps_set (i := 3) sc_l_bag.nd rfl (Or.inl rfl) (pe_ifExp (pt_cmpR op_lt (pv 1) (pe_callB (k_len K) (by rfl) T.z_len (by decide +kernel) (pa_cons (pv 0) pa_nil)) (nomark _)) (pe_ix (k_ixL K) (pv 0) (pv 1) (fun _ _ => rfl)) pe_int))
      (pss_cons (ps_set (i := 4) sc_l_bag.nd rfl (Or.inl rfl) (pe_ifExp (pt_cmpR op_ge (pe_callB k_abs (by rfl) T.z_abs (by decide +kernel) (pa_cons (pv 3) pa_nil)) (pe_op op_pow pe_int pe_int) (nomark _)) (pe_callB k_abs (by rfl) T.z_abs (by decide +kernel) (pa_cons (pv 3) pa_nil)) pe_int))
      (pss_cons (ps_set (i := 5) sc_l_bag.nd rfl (Or.inl rfl) (pe_op op_mod (pe_op op_pow (pe_op op_add (pe_op op_add (pe_op op_mod (pv 3) pe_int) (pe_op op_mul pe_int (pv 1))) pe_int) pe_int) (pe_ix (k_ixL K) (pv 2) (pe_op op_mod (pv 1) pe_int) (fun _ _ => rfl))))
      (pss_one (ps_ret (pe_lst (pa_cons (pv 4) (pa_cons (pe_op op_mod (pe_op op_pow (pe_op op_add (pe_op op_add (pe_op op_mul (pv 5) pe_int) (pe_op op_mul pe_int (pv 1))) pe_int) pe_int) pe_int) pa_nil))))))))), ?_⟩
    walk_at "go"
    refine k_lst (by show 8 ≤ sizeLine; decide) fun pr H1 np s1 hp => ?_
    have hS1 := s1.seq hS
    walk_at "go"
    refine ⟨a, _, rfl, .inl hS1, ?_⟩
    walk_at "go"
    refine if_join (fun v H' => H1 = H' ∧ ∃ c : Int, v = .int c) (fun hc Q' kQ => ?_) (fun _ Q' kQ => ?_) ?_
    · have hc := of_decide_eq_true hc
      rw [List.length_map] at hc
      walk_at "go"
      have hl : j < ns.length := by omega
      refine w_ixL hS1 (atI_nat (by rw [List.getElem?_map, List.getElem?_eq_getElem hl]; rfl)) ?_
      exact kQ _ _ ⟨rfl, _, rfl⟩
    · walk_at "go"
      exact kQ _ _ ⟨rfl, _, rfl⟩
    · rintro v H' ⟨rfl, cell, rfl⟩
      walk_at "go"
      refine w_I ⟨by decide, by decide, by decide⟩ ?_
      walk_at "go"
      refine if_join (fun v H' => H1 = H' ∧ ∃ c : Int, v = .int c ∧ 0 ≤ c) (fun hc Q' kQ => ?_) (fun _ Q' kQ => ?_) ?_
      · walk_at "go"
        refine kQ _ _ ⟨rfl, _, rfl, ?_⟩
        split <;> omega
      · walk_at "go"
        exact kQ _ _ ⟨rfl, _, rfl, Int.le_refl 0⟩
      · rintro v H' ⟨rfl, great, rfl, g0⟩
        walk_at "go"
        refine w_I (by decide) ?_
        walk_at "go"
        refine w_I (Or.inl ⟨by decide, by decide⟩) ?_
        walk_at "go"
        have c0 : 0 ≤ cell % 2147483647 := Int.emod_nonneg _ (by decide)
        have c1 : cell % 2147483647 < 2147483647 := Int.emod_lt_of_pos _ (by decide)
        have e64 : (2 : Nat) ^ 64 = 18446744073709551616 := by decide
        refine w_I ⟨by decide, by decide, by rw [e64]; omega⟩ ?_
        walk_at "go"
        refine w_I (by decide) ?_
        obtain ⟨p, p0, pe, p1⟩ := prime_at j hj
        refine w_ixL (SqL.at hp) pe ?_
        refine w_I p0 ?_
        walk_at "go"
        generalize hm : (cell % 2147483647 + 104729 * (j : Int) + 7) ^ (5 : Int).toNat % p = mixed
        have m0 : 0 ≤ mixed := hm ▸ Int.emod_nonneg _ (by omega)
        have m1 : mixed < p := hm ▸ Int.emod_lt_of_pos _ p0
        refine w_I (Or.inr ⟨by decide, by decide⟩) ?_
        walk_at "go"
        refine w_I (Or.inl ⟨by decide, by decide⟩) ?_
        walk_at "go"
        refine w_I ⟨by decide, by decide, by rw [e64]; omega⟩ ?_
        walk_at "go"
        refine w_I (by decide) ?_
        walk_at "go"
        refine k_lst (by show 2 ≤ sizeLine; decide) fun b H2 nb s2 hb => ?_
        exact k b H2 (s1.free nb) (s1.trans s2) ⟨_, _, g0, Int.emod_nonneg _ (by decide), hb⟩
theorem use_bag {a : Addr} {ns : List Int} {j : Nat} {H : Hp} {Q : VK} {E : XK} (hS : SqL K H a (ns.map V.int)) (hl : ns.length ≤ 63) (hj : j < 8)
    (k : ∀ (b : Addr) (H' : Hp), H b = none → Same H H' → Bag H' b → Q (.ref b) H') : spBag K ([.ref a, .int j] ++ []) H Q E := ⟨a, ns, j, rfl, hS, hl, hj, k⟩
/-! ### drawn names -/
theorem ok_l_names (T : Gk K mg g) : FnOk P w K mg base CX0 2 g.f_l_names g.d_l_names ["_law_bag_here", "_law_many"] spNames := by
  refine T.F_l_names.ok sc_l_names (fun vs H Q E h => ?_) (fun cdv A outer s H vs Q E hr h => ?_)
  · obtain ⟨b, many, rfl, _⟩ := h; rfl
  · obtain ⟨b, many, rfl, hb, hm1, hm2, k⟩ := h
    have O_l_take := ok_l_take (P := P) (w := w) (base := base) T
    have hr_1 : Room 1 _ := hr.mono (by decide)
    refine ⟨_, (pss_cons (ps_set (i := 2) sc_l_names.nd rfl (Or.inr rfl) pe_str)
      (pss_cons (ps_set (i := 3) sc_l_names.nd rfl (Or.inl rfl) (pe_ix (k_ixL K) (pe_lst (pa_cons pe_int (pa_cons pe_int (pa_cons pe_int (pa_cons pe_int (pa_cons pe_int pa_nil)))))) (pe_call O_l_take hr_1 rfl T.m_l_take T.F_l_take.kp T.b_l_take .nil pass0 (pa_cons (pv 0) (pa_cons pe_int pa_nil))) (fun _ _ => rfl)))
      (pss_cons (ps_set (i := 4) sc_l_names.nd rfl (Or.inr rfl) (pe_bmK K PySem.F.plainAttrs_str PySem.F.slot_str_join PySem.F.type_str_join (k_join K) pe_str (pa_cons (pe_lc (own := [("_law_k", 9)]) (g := (gName 9)) rfl sc_l_names.nd (pi_range1 (by rfl) T.z_range (pa_cons (pv 3) pa_nil)) (blkOk_by (N := ["_law_bag_here", "_law_many", "_law_signs", "_law_size", "_law_stem", "_law_spot", "_law_first_here", "_law_pace", "_law_own", "_law_k", "_law_sign"]) (sc := defScope s_l_names) (by decide +kernel)) (fun _ _ _ _ _ => pg_name (i := 9) sc_l_names.nd rfl (Or.inl rfl)) (fun _ _ _ _ _ => pts_nil) (fun _ _ _ _ _ => (pe_ix ix_str (pv 2) (pe_call O_l_take hr_1 rfl T.m_l_take T.F_l_take.kp T.b_l_take .nil pass0 (pa_cons (pv 0) (pa_cons pe_int pa_nil))) (fun _ _ => rfl)))) pa_nil)))
      (pss_cons (ps_asg (pe_tup (pa_cons (pe_call O_l_take hr_1 rfl T.m_l_take T.F_l_take.kp T.b_l_take .nil pass0 (pa_cons (pv 0) (pa_cons (pe_op op_add (pe_callB k_lenStr (by rfl) T.z_len (by decide +kernel) (pa_cons (pv 4) pa_nil)) pe_int) pa_nil))) (pa_cons (pe_call O_l_take hr_1 rfl T.m_l_take T.F_l_take.kp T.b_l_take .nil pass0 (pa_cons (pv 0) (pa_cons pe_int pa_nil))) pa_nil))) (pg_tup rfl (pgs_cons (pg_name (i := 5) sc_l_names.nd rfl (Or.inr rfl)) (pgs_cons (pg_name (i := 6) sc_l_names.nd rfl (Or.inr rfl)) pgs_nil))))
      (pss_cons (ps_set (i := 7) sc_l_names.nd rfl (Or.inr rfl) (pe_ix (k_ixL K) (pe_lst (pa_cons pe_int (pa_cons pe_int (pa_cons pe_int (pa_cons pe_int pa_nil))))) (pe_call O_l_take hr_1 rfl T.m_l_take T.F_l_take.kp T.b_l_take .nil pass0 (pa_cons (pv 0) (pa_cons pe_int pa_nil))) (fun _ _ => rfl)))
      (pss_cons (ps_setLc (i := 8) (own := [("_law_k", 9)]) (g := (gName 9)) rfl sc_l_names.nd rfl rfl (sw_true rfl rfl rfl (by decide +kernel)) (pi_range1 (by rfl) T.z_range (pa_cons (pv 1) pa_nil)) (blkOk_by (N := ["_law_bag_here", "_law_many", "_law_signs", "_law_size", "_law_stem", "_law_spot", "_law_first_here", "_law_pace", "_law_own", "_law_k", "_law_sign"]) (sc := defScope s_l_names) (by decide +kernel)) (fun _ _ _ _ _ => pg_name (i := 9) sc_l_names.nd rfl (Or.inl rfl)) (fun _ _ _ _ _ => pts_nil) (fun _ _ _ _ _ => (pe_ix ix_str (pv 2) (pe_op op_mod (pe_op op_add (pv 6) (pe_op op_mul (pv 7) (pv 9))) pe_int) (fun _ _ => rfl))))
      (pss_one (ps_ret (pe_callTy (k_tuple K) (by rfl) T.z_tuple (by decide +kernel) (pa_cons (pe_callB (k_sortedS K) (by rfl) T.z_sorted (by decide +kernel) (pa_cons (pe_lc (own := [("_law_sign", 10)]) (g := (gName 10)) rfl sc_l_names.nd (pi_listK K (pv 8)) (blkOk_by (N := ["_law_bag_here", "_law_many", "_law_signs", "_law_size", "_law_stem", "_law_spot", "_law_first_here", "_law_pace", "_law_own", "_law_k", "_law_sign"]) (sc := defScope s_l_names) (by decide +kernel)) (fun _ _ _ _ _ => pg_name (i := 10) sc_l_names.nd rfl (Or.inl rfl)) (fun _ _ _ _ _ => pts_nil) (fun _ _ _ _ _ => (pe_op k_addS (pe_op k_addS (pe_slice sl_str (pv 4) po_none (po_some (pv 5))) (pv 10)) (pe_slice sl_str (pv 4) (po_some (pv 5)) po_none)))) pa_nil)) pa_nil)))))))))), ?_⟩
    walk_at "go"
    refine k_lst (by show 5 ≤ sizeLine; decide) fun l1 H1 nl1 s1 hl1 => ?_
    walk_at "go"
    have hb1 := hb.mono s1
    have nb1 := bag_new hb nl1
    refine use_take hb1 (by decide) (by decide) fun d1 H2 d10 d11 s2 => ?_
    obtain ⟨size, es, hsz⟩ := size_at d10 d11
    refine w_ixL (SqL.at (s2.at hl1 nb1)) es ?_
    have st2 : Step b H H2 := (Step.same hb s1).trans s2
    walk_at "go"
    refine ⟨_, rfl, by omega, by omega, ?_⟩
    rw [Int.toNat_natCast]
    refine b_lcR (n := size) (El := fun _ y _ => ∃ c, y = V.str ⟨#[c]⟩ ∧ 97 ≤ c ∧ c ≤ 122) st2.1 (ElOk.flat fun _ y => ∃ c, y = V.str ⟨#[c]⟩ ∧ 97 ≤ c ∧ c ≤ 122) (by omega)
      (fun i G hi st => turnB_name (fun _ => rfl) fun R Ny kR => ?_) fun D acc H3 nD hD st3 hacc => ?_
    · walk_at "go"
      refine iteT ?_
      walk_at "go"
      refine use_take st.1 (by decide) (by decide) fun d G' d0 d1' s' => ?_
      refine w_ixS (by decide) (abc_at d0 d1') ?_
      exact kR _ _ s' ⟨_, rfl, by omega, by omega⟩
    obtain ⟨ys, rfl, hy⟩ := stem_of fun j y e => hacc.2 j y e
    have hys : ys.length = size := by have := hacc.1; rwa [List.length_map, List.length_map] at this
    walk_at "go"
    refine ⟨_, D, _, rfl, rfl, .inl (SqL.at hD), ?_, ?_⟩
    · rw [sum_ones, List.length_map]
      have : (Str.ofString "").length = 0 := rfl
      rw [this]; omega
    generalize hst : Txt.join (Str.ofString "") (ys.map fun c => (⟨#[c]⟩ : Str)) = stem
    have tls : TL.tl stem = ys := by rw [← hst]; exact tl_stem ys
    have stl : stem.length = size := by rw [TL.len_tl, tls, hys]
    have sts : ∀ x ∈ TL.tl stem, 97 ≤ x ∧ x ≤ 122 := by rw [tls]; exact hy
    have st3 := st2.trans st3
    walk_at "go"
    refine w_lenS (by rw [stl]; exact Nat.le_trans hsz (by decide)) ?_
    walk_at "go"
    refine use_take st3.1 (by omega) (by rw [stl]; exact Int.lt_of_le_of_lt (b := 8) (by omega) (by decide)) fun spot H4 p0 p1 s4 => ?_
    walk_at "go"
    refine use_take s4.1 (by decide) (by decide) fun first H5 f0 f1 s5 => ?_
    have st5 := (st3.trans s4).trans s5
    walk_at "go"
    refine k_tup (by show 2 ≤ sizeLine; decide) fun t H6 nt s6 ht => ?_
    walk_at "go"
    refine w_gtup (K := K) (SqT.at ht) rfl ?_
    have st6 := st5.more s6
    walk_at "go"
    refine k_lst (by show 4 ≤ sizeLine; decide) fun l7 H7 nl7 s7 hl7 => ?_
    have st7 := st6.more s7
    have nb7 := bag_new st6.1 nl7
    walk_at "go"
    refine use_take st7.1 (by decide) (by decide) fun d8 H8 d80 d81 s8 => ?_
    obtain ⟨pace, ep, hp⟩ := pace_at d80 d81
    refine w_ixL (SqL.at (s8.at hl7 nb7)) ep ?_
    have st8 := st7.trans s8
    walk_at "go"
    refine ⟨_, rfl, by omega, by omega, ?_⟩
    rw [Int.toNat_natCast]
    refine i_lcR (n := many) (fun _ => true) (fun i => .str ⟨#[letter first pace i]⟩) (by omega) (fun i hi => turn_name (fun _ => rfl) ?_ ?_) fun D9 H9 nD9 s9 hD9 => ?_
    · intro H' s' Q' k'
      walk_at "go"
      exact k' _ (Same.refl _)
    · intro _ H' s' Q' k'
      walk_at "go"
      refine w_I (Or.inl (by rcases hp with rfl | rfl | rfl | rfl <;> decide)) ?_
      walk_at "go"
      refine w_I (by decide) ?_
      refine w_ixS (by decide) (abc_at (Int.emod_nonneg _ (by decide)) (Int.emod_lt_of_pos _ (by decide))) ?_
      exact k' _ (Same.refl _)
    rw [madeI_all] at hD9
    walk_at "go"
    obtain ⟨n, rfl⟩ : ∃ n : Nat, spot = (n : Int) := ⟨spot.toNat, by omega⟩
    have hn : n ≤ stem.length := by omega
    refine ⟨D9, rfl, ⟨_, SqL.at hD9⟩, ?_⟩
    refine i_lcL (fun _ => true) (fun i => .str (nameAt stem n (letter first pace i))) (by rw [List.length_map, List.length_range]; omega) (SqL.at hD9) (fun i x hi => ?_) fun D10 H10 nD10 s10 hD10 => ?_
    · obtain ⟨hlt, rfl⟩ : i < many ∧ x = V.str ⟨#[letter first pace i]⟩ := by
        obtain ⟨h1, h2⟩ := List.getElem?_eq_some_iff.mp hi
        rw [List.length_map, List.length_range] at h1
        refine ⟨h1, ?_⟩
        rw [← h2, List.getElem_map, List.getElem_range]
      refine turn_name (fun _ => rfl) ?_ ?_
      · intro H' s' Q' k'
        walk_at "go"
        exact k' _ (Same.refl _)
      · intro _ H' s' Q' k'
        have c1 : (cutS stem none (some (n : Int))).length ≤ 7 := by
          rw [TL.len_tl, tl_cut1 hn, List.length_take, ← TL.len_tl]; omega
        have c2 : (cutS stem (some (n : Int)) none).length ≤ 7 := by
          rw [TL.len_tl, tl_cut2 hn, List.length_drop, ← TL.len_tl]; omega
        have c3 : (⟨#[letter first pace i]⟩ : Str).length = 1 := rfl
        walk_at "go"
        refine w_slS (by omega) ?_
        walk_at "go"
        refine w_addS (Nat.le_trans (m := 8) (by omega) (by decide)) ?_
        walk_at "go"
        refine w_slS (by omega) ?_
        refine w_addS (Nat.le_trans (m := 15) (by rw [app_len]; omega) (by decide)) ?_
        exact k' _ (Same.refl _)
    rw [madeI_all, List.length_map, List.length_range] at hD10
    walk_at "go"
    have eD : (List.range many).map (fun i => V.str (nameAt stem n (letter first pace i))) = ((List.range many).map fun i => nameAt stem n (letter first pace i)).map V.str := by rw [List.map_map]; rfl
    rw [eD] at hD10
    refine ⟨D10, _, rfl, SqL.at hD10, by rw [List.length_map, List.length_range]; omega, fun zs p hper hso np => ?_⟩
    obtain ⟨nm, nl⟩ := names_raw hn (by omega) sts hp hm2 hper hso
    walk_at "go"
    refine w_tupleL (SqL.at upd_same) fun t2 H12 nt2 s12 ht2 => ?_
    have st12 : Step b H H12 := ((((st8.more s9).more s10).more (same_new np))).more s12
    exact k t2 zs H12 nm nl (((((st8.more s9).more s10).more (same_new np))).free hb nt2) st12 ht2
def fld_NoWord : List V → List (Str × V) := fun ws => [("name", ws.getD 0 .non)]
theorem ok_NoWord_init (T : Gk K mg g) : FnOk P w K mg base CX0 1 g.f_NoWord_init g.d_NoWord_init ["self", "name"] (spInit g.c_NoWord 1 fld_NoWord) := by
  refine T.F_NoWord_init.ok sc_NoWord_init (fun vs H Q E h => ?_) (fun cdv A outer s H vs Q E hr h => ?_)
  · obtain ⟨a, ws, rfl, hl, _⟩ := h
    show ws.length + 1 = _
    rw [hl]; rfl
  · obtain ⟨a, ws, rfl, hl, ea, k⟩ := h
    obtain ⟨v0, rfl⟩ := ws1 hl
    refine ⟨_, (pss_one (ps_ostG (pv 0) (pv 1))), ?_⟩
    walk_at "go"
    refine ⟨a, g.c_NoWord, _, _, _, rfl, xb_V, T.x_NoWord, T.nf_NoWord_name, .inl ⟨ea, fun dx n1 n2 => ?_⟩⟩
    exact k dx _ n1 n2 upd_same (by rw [upd_ne n2, upd_same]; rfl) (fun b h1 h2 => by rw [upd_ne h1, upd_ne h2])

def fld_NoMinutes : List V → List (Str × V) := fun ws => [("at", ws.getD 0 .non)]
theorem ok_NoMinutes_init (T : Gk K mg g) : FnOk P w K mg base CX0 1 g.f_NoMinutes_init g.d_NoMinutes_init ["self", "at"] (spInit g.c_NoMinutes 1 fld_NoMinutes) := by
  refine T.F_NoMinutes_init.ok sc_NoMinutes_init (fun vs H Q E h => ?_) (fun cdv A outer s H vs Q E hr h => ?_)
  · obtain ⟨a, ws, rfl, hl, _⟩ := h
    show ws.length + 1 = _
    rw [hl]; rfl
  · obtain ⟨a, ws, rfl, hl, ea, k⟩ := h
    obtain ⟨v0, rfl⟩ := ws1 hl
    refine ⟨_, (pss_one (ps_ostG (pv 0) (pv 1))), ?_⟩
    walk_at "go"
    refine ⟨a, g.c_NoMinutes, _, _, _, rfl, xb_V, T.x_NoMinutes, T.nf_NoMinutes_at, .inl ⟨ea, fun dx n1 n2 => ?_⟩⟩
    exact k dx _ n1 n2 upd_same (by rw [upd_ne n2, upd_same]; rfl) (fun b h1 h2 => by rw [upd_ne h1, upd_ne h2])

def fld_NoHistory : List V → List (Str × V) := fun ws => [("at", ws.getD 0 .non)]
theorem ok_NoHistory_init (T : Gk K mg g) : FnOk P w K mg base CX0 1 g.f_NoHistory_init g.d_NoHistory_init ["self", "at"] (spInit g.c_NoHistory 1 fld_NoHistory) := by
  refine T.F_NoHistory_init.ok sc_NoHistory_init (fun vs H Q E h => ?_) (fun cdv A outer s H vs Q E hr h => ?_)
  · obtain ⟨a, ws, rfl, hl, _⟩ := h
    show ws.length + 1 = _
    rw [hl]; rfl
  · obtain ⟨a, ws, rfl, hl, ea, k⟩ := h
    obtain ⟨v0, rfl⟩ := ws1 hl
    refine ⟨_, (pss_one (ps_ostG (pv 0) (pv 1))), ?_⟩
    walk_at "go"
    refine ⟨a, g.c_NoHistory, _, _, _, rfl, xb_V, T.x_NoHistory, T.nf_NoHistory_at, .inl ⟨ea, fun dx n1 n2 => ?_⟩⟩
    exact k dx _ n1 n2 upd_same (by rw [upd_ne n2, upd_same]; rfl) (fun b h1 h2 => by rw [upd_ne h1, upd_ne h2])

def fld_NoText : List V → List (Str × V) := fun ws => [("place", ws.getD 1 .non), ("row", ws.getD 0 .non)]
theorem ok_NoText_init (T : Gk K mg g) : FnOk P w K mg base CX0 1 g.f_NoText_init g.d_NoText_init ["self", "row", "place"] (spInit g.c_NoText 2 fld_NoText) := by
  refine T.F_NoText_init.ok sc_NoText_init (fun vs H Q E h => ?_) (fun cdv A outer s H vs Q E hr h => ?_)
  · obtain ⟨a, ws, rfl, hl, _⟩ := h
    show ws.length + 1 = _
    rw [hl]; rfl
  · obtain ⟨a, ws, rfl, hl, ea, k⟩ := h
    obtain ⟨v0, v1, rfl⟩ := ws2 hl
    refine ⟨_, (pss_cons (ps_ostG (pv 0) (pv 1))
      (pss_one (ps_ostG (pv 0) (pv 2)))), ?_⟩
    walk_at "go"
    refine ⟨a, g.c_NoText, _, _, _, rfl, xb_V, T.x_NoText, T.nf_NoText_row, .inl ⟨ea, fun dx n1 n2 => ?_⟩⟩
    walk_at "go"
    refine ⟨a, g.c_NoText, _, _, _, rfl, xb_V, T.x_NoText, T.nf_NoText_place, .inr ⟨dx, _, upd_same, by rw [upd_ne n2, upd_same], by show 1 ≤ 900; decide, ?_⟩⟩
    refine k dx _ n1 n2 (by rw [upd_ne n2.symm, upd_same]) upd_same (fun b h1 h2 => by rw [upd_ne h2, upd_ne h1, upd_ne h2])

def fld_NoRow : List V → List (Str × V) := fun ws => [("place", ws.getD 0 .non)]
theorem ok_NoRow_init (T : Gk K mg g) : FnOk P w K mg base CX0 1 g.f_NoRow_init g.d_NoRow_init ["self", "place"] (spInit g.c_NoRow 1 fld_NoRow) := by
  refine T.F_NoRow_init.ok sc_NoRow_init (fun vs H Q E h => ?_) (fun cdv A outer s H vs Q E hr h => ?_)
  · obtain ⟨a, ws, rfl, hl, _⟩ := h
    show ws.length + 1 = _
    rw [hl]; rfl
  · obtain ⟨a, ws, rfl, hl, ea, k⟩ := h
    obtain ⟨v0, rfl⟩ := ws1 hl
    refine ⟨_, (pss_one (ps_ostG (pv 0) (pv 1))), ?_⟩
    walk_at "go"
    refine ⟨a, g.c_NoRow, _, _, _, rfl, xb_V, T.x_NoRow, T.nf_NoRow_place, .inl ⟨ea, fun dx n1 n2 => ?_⟩⟩
    exact k dx _ n1 n2 upd_same (by rw [upd_ne n2, upd_same]; rfl) (fun b h1 h2 => by rw [upd_ne h1, upd_ne h2])

def fld_Stands : List V → List (Str × V) := fun ws => [("name", ws.getD 0 .non)]
theorem ok_Stands_init (T : Gk K mg g) : FnOk P w K mg base CX0 1 g.f_Stands_init g.d_Stands_init ["self", "name"] (spInit g.c_Stands 1 fld_Stands) := by
  refine T.F_Stands_init.ok sc_Stands_init (fun vs H Q E h => ?_) (fun cdv A outer s H vs Q E hr h => ?_)
  · obtain ⟨a, ws, rfl, hl, _⟩ := h
    show ws.length + 1 = _
    rw [hl]; rfl
  · obtain ⟨a, ws, rfl, hl, ea, k⟩ := h
    obtain ⟨v0, rfl⟩ := ws1 hl
    refine ⟨_, (pss_one (ps_ostG (pv 0) (pv 1))), ?_⟩
    walk_at "go"
    refine ⟨a, g.c_Stands, _, _, _, rfl, xb_V, T.x_Stands, T.nf_Stands_name, .inl ⟨ea, fun dx n1 n2 => ?_⟩⟩
    exact k dx _ n1 n2 upd_same (by rw [upd_ne n2, upd_same]; rfl) (fun b h1 h2 => by rw [upd_ne h1, upd_ne h2])

def fld_NoHand : List V → List (Str × V) := fun ws => [("name", ws.getD 0 .non)]
theorem ok_NoHand_init (T : Gk K mg g) : FnOk P w K mg base CX0 1 g.f_NoHand_init g.d_NoHand_init ["self", "name"] (spInit g.c_NoHand 1 fld_NoHand) := by
  refine T.F_NoHand_init.ok sc_NoHand_init (fun vs H Q E h => ?_) (fun cdv A outer s H vs Q E hr h => ?_)
  · obtain ⟨a, ws, rfl, hl, _⟩ := h
    show ws.length + 1 = _
    rw [hl]; rfl
  · obtain ⟨a, ws, rfl, hl, ea, k⟩ := h
    obtain ⟨v0, rfl⟩ := ws1 hl
    refine ⟨_, (pss_one (ps_ostG (pv 0) (pv 1))), ?_⟩
    walk_at "go"
    refine ⟨a, g.c_NoHand, _, _, _, rfl, xb_K, T.x_NoHand, T.nf_NoHand_name, .inl ⟨ea, fun dx n1 n2 => ?_⟩⟩
    exact k dx _ n1 n2 upd_same (by rw [upd_ne n2, upd_same]; rfl) (fun b h1 h2 => by rw [upd_ne h1, upd_ne h2])

def fld_NoLabel : List V → List (Str × V) := fun ws => [("label", ws.getD 0 .non)]
theorem ok_NoLabel_init (T : Gk K mg g) : FnOk P w K mg base CX0 1 g.f_NoLabel_init g.d_NoLabel_init ["self", "label"] (spInit g.c_NoLabel 1 fld_NoLabel) := by
  refine T.F_NoLabel_init.ok sc_NoLabel_init (fun vs H Q E h => ?_) (fun cdv A outer s H vs Q E hr h => ?_)
  · obtain ⟨a, ws, rfl, hl, _⟩ := h
    show ws.length + 1 = _
    rw [hl]; rfl
  · obtain ⟨a, ws, rfl, hl, ea, k⟩ := h
    obtain ⟨v0, rfl⟩ := ws1 hl
    refine ⟨_, (pss_one (ps_ostG (pv 0) (pv 1))), ?_⟩
    walk_at "go"
    refine ⟨a, g.c_NoLabel, _, _, _, rfl, xb_K, T.x_NoLabel, T.nf_NoLabel_label, .inl ⟨ea, fun dx n1 n2 => ?_⟩⟩
    exact k dx _ n1 n2 upd_same (by rw [upd_ne n2, upd_same]; rfl) (fun b h1 h2 => by rw [upd_ne h1, upd_ne h2])

def fld_NoBeat : List V → List (Str × V) := fun ws => [("at", ws.getD 0 .non)]
theorem ok_NoBeat_init (T : Gk K mg g) : FnOk P w K mg base CX0 1 g.f_NoBeat_init g.d_NoBeat_init ["self", "at"] (spInit g.c_NoBeat 1 fld_NoBeat) := by
  refine T.F_NoBeat_init.ok sc_NoBeat_init (fun vs H Q E h => ?_) (fun cdv A outer s H vs Q E hr h => ?_)
  · obtain ⟨a, ws, rfl, hl, _⟩ := h
    show ws.length + 1 = _
    rw [hl]; rfl
  · obtain ⟨a, ws, rfl, hl, ea, k⟩ := h
    obtain ⟨v0, rfl⟩ := ws1 hl
    refine ⟨_, (pss_one (ps_ostG (pv 0) (pv 1))), ?_⟩
    walk_at "go"
    refine ⟨a, g.c_NoBeat, _, _, _, rfl, xb_I, T.x_NoBeat, T.nf_NoBeat_at, .inl ⟨ea, fun dx n1 n2 => ?_⟩⟩
    exact k dx _ n1 n2 upd_same (by rw [upd_ne n2, upd_same]; rfl) (fun b h1 h2 => by rw [upd_ne h1, upd_ne h2])

def fld_TooMany : List V → List (Str × V) := fun ws => [("most", ws.getD 0 .non)]
theorem ok_TooMany_init (T : Gk K mg g) : FnOk P w K mg base CX0 1 g.f_TooMany_init g.d_TooMany_init ["self", "most"] (spInit g.c_TooMany 1 fld_TooMany) := by
  refine T.F_TooMany_init.ok sc_TooMany_init (fun vs H Q E h => ?_) (fun cdv A outer s H vs Q E hr h => ?_)
  · obtain ⟨a, ws, rfl, hl, _⟩ := h
    show ws.length + 1 = _
    rw [hl]; rfl
  · obtain ⟨a, ws, rfl, hl, ea, k⟩ := h
    obtain ⟨v0, rfl⟩ := ws1 hl
    refine ⟨_, (pss_one (ps_ostG (pv 0) (pv 1))), ?_⟩
    walk_at "go"
    refine ⟨a, g.c_TooMany, _, _, _, rfl, xb_O, T.x_TooMany, T.nf_TooMany_most, .inl ⟨ea, fun dx n1 n2 => ?_⟩⟩
    exact k dx _ n1 n2 upd_same (by rw [upd_ne n2, upd_same]; rfl) (fun b h1 h2 => by rw [upd_ne h1, upd_ne h2])

def fld_Bound : List V → List (Str × V) := fun ws => [("label", ws.getD 0 .non)]
theorem ok_Bound_init (T : Gk K mg g) : FnOk P w K mg base CX0 1 g.f_Bound_init g.d_Bound_init ["self", "label"] (spInit g.c_Bound 1 fld_Bound) := by
  refine T.F_Bound_init.ok sc_Bound_init (fun vs H Q E h => ?_) (fun cdv A outer s H vs Q E hr h => ?_)
  · obtain ⟨a, ws, rfl, hl, _⟩ := h
    show ws.length + 1 = _
    rw [hl]; rfl
  · obtain ⟨a, ws, rfl, hl, ea, k⟩ := h
    obtain ⟨v0, rfl⟩ := ws1 hl
    refine ⟨_, (pss_one (ps_ostG (pv 0) (pv 1))), ?_⟩
    walk_at "go"
    refine ⟨a, g.c_Bound, _, _, _, rfl, xb_R, T.x_Bound, T.nf_Bound_label, .inl ⟨ea, fun dx n1 n2 => ?_⟩⟩
    exact k dx _ n1 n2 upd_same (by rw [upd_ne n2, upd_same]; rfl) (fun b h1 h2 => by rw [upd_ne h1, upd_ne h2])

/-! ### _law_kind -/
def bits (j : Nat) : List V := (List.range 15).map fun i => V.bl (decide (i = j))
def wordsV : List V := nmL.map fun n => V.str (Str.ofString n)
def dueKv : List (L2.Key × V) := [(.inr (Str.ofString "NoHand"), .str (Str.ofString "KL")), (.inr (Str.ofString "NoLabel"), .str (Str.ofString "KL")), (.inr (Str.ofString "NoAsk"), .str (Str.ofString "L")), (.inr (Str.ofString "NoBeat"), .str (Str.ofString "LI")),
  (.inr (Str.ofString "TooMany"), .str (Str.ofString "O")), (.inr (Str.ofString "Open"), .str (Str.ofString "R")), (.inr (Str.ofString "Bound"), .str (Str.ofString "R"))]
def dueS (j : Nat) : Str := Str.ofString (["V", "V", "V", "V", "V", "V", "V", "V", "KL", "KL", "L", "LI", "O", "R", "R"].getD j "")
def nmS (j : Nat) : Str := Str.ofString (nmL.getD j "")
theorem bits_count : ∀ j : Fin 15, (bits j.1).countP (fun z => eqV z (.bl true)) = 1 := by decide +kernel
theorem bits_at {j : Nat} (hj : j < 15) : (bits j)[j]? = some (.bl true) := by
  unfold bits
  rw [List.getElem?_map, List.getElem?_range hj, Option.map_some, decide_eq_true rfl]
theorem bits_no {j : Nat} (hj : j < 15) : ∀ (m : Nat) (z' : V), m < j → (bits j)[m]? = some z' → eqV z' (.bl true) = false := by
  intro m z' hm e
  unfold bits at e
  rw [List.getElem?_map, List.getElem?_range (by omega), Option.map_some, decide_eq_false (by omega)] at e
  cases e
  rfl
theorem words_at {j : Nat} (hj : j < 15) : atI wordsV (j : Int) = some (.str (nmS j)) := by
  have h : (j : Int).toNat = j := rfl
  unfold atI ixN
  rw [if_pos (by omega), if_pos (by show (j : Int) < ((15 : Nat) : Int); omega)]
  show wordsV[(j : Int).toNat]? = _
  rw [h]
  unfold wordsV nmS
  rw [List.getElem?_map, List.getD_eq_getElem?_getD, List.getElem?_eq_getElem (show j < nmL.length from hj)]
  rfl
theorem due_merge : mergeK [] dueKv = dueKv := by decide +kernel
theorem due_get : ∀ j : Fin 15, (valV dueKv (.inr (nmS j.1))).getD (.str (Str.ofString "V")) = .str (dueS j.1) := by decide +kernel
theorem due_ok : ∀ j : Fin 15, ((Str.ofString "VKLIOR").cps.toList.map fun c => decide (c ∈ (dueS j.1).cps.toList)) = (List.range 6).map (upB j.1) := by decide +kernel
theorem dpAll_bls {H : Hp} : ∀ bs : List Bool, DpAll K H (bs.map V.bl) (bs.map PyData.bool)
  | [] => .nil
  | b :: r => .cons (.bl b) (dpAll_bls r)
theorem eqv_bls : ∀ bs : List Bool, PyData.eqvAll (bs.map PyData.bool) (bs.map PyData.bool) = true
  | [] => by simp [PyData.eqvAll]
  | b :: r => by
    have ih := eqv_bls r
    simp only [List.map_cons, PyData.eqvAll, ih, Bool.and_true]
    simp [PyData.eqv]
theorem shaped_bls (bs : List Bool) : SeqAt.shaped (.list (bs.map PyData.bool)) = true := by
  have h : Tm 1 (.list (bs.map PyData.bool)) := .lst 0 _ fun d md => by
    obtain ⟨b, _, rfl⟩ := List.mem_map.mp md
    exact .bl 0 b
  exact h.shaped (by decide)
def KindOf (g : Gs) (D : Addr) (r : V) : Prop := ∃ j, j < 15 ∧ D = (gcs g).getD j 0 ∧ r = .str (nmS j)
theorem is_own {a : Addr} {d : Option Addr} {H : Hp} {Q : VK} {j : Nat} (T : Kinds K (gcs g)) (hj : j < 15) (i : Nat) (hi : i < 15) (dk : DctOk d H) (k : Q (.bl (decide (i = j))) H) : rIsP K ((gcs g).getD j 0) a d [.ref a, .ref ((gcs g).getD i 0)] H Q :=
  ⟨_, _, _, rfl, .own _, T.own hj hi, dk, k⟩
theorem is_up {a : Addr} {d : Option Addr} {H : Hp} {Q : VK} {j : Nat} (T : Kinds K (gcs g)) (hj : j < 15) (t : Nat) (ht : t < 6) (hm : PySem.W.kitMeta (tyL.getD t "") = true) (dk : DctOk d H) (k : Q (.bl (upB j t)) H) : rIsP K ((gcs g).getD j 0) a d [.ref a, .ty (tyL.getD t "")] H Q :=
  ⟨_, _, _, rfl, .ty _, T.above hj ht hm, dk, k⟩
theorem ok_l_kind (T : Gk K mg g) : ∀ D r, KindOf g D r → FnX P w K mg base 1 g.f_l_kind D r := by
  rintro D r ⟨j, hj, rfl, rfl⟩
  refine fnX_of T.F_l_kind sc_l_kind T.b_l_kind fun cdv A outer s H Q p hot1 hz dk hr k => ?_
  obtain ⟨hh, pvs, hv, hc⟩ := id hot1
  have hf : ∃ vs, p.2.data = .fields vs := ⟨pvs, hv⟩
  have hot : ∀ X : Cx, X.A.handled = some (.ref p.1) → p ∈ X.pn → L2H.HotC X := fun X h1 h2 => ⟨p, ⟨h1, pvs, hv, hc⟩, h2⟩
  have hu : (A.deeper (PyProof.Rows.envOfC "_law_kind" (defScope s_l_kind) s.heap.objs.size g.f_l_kind cdv)).units + 1 < cLine := by have := hr.un; omega
  have hu64 : (A.deeper (PyProof.Rows.envOfC "_law_kind" (defScope s_l_kind) s.heap.objs.size g.f_l_kind cdv)).units + 64 < cLine := by have := hr.un; omega
  refine ⟨_, (pss_cons (ps_set (i := 1) sc_l_kind.nd rfl (Or.inl rfl) (pe_lst (pa_cons pe_str (pa_cons pe_str (pa_cons pe_str (pa_cons pe_str (pa_cons pe_str (pa_cons pe_str (pa_cons pe_str (pa_cons pe_str pa_nil))))))))))
      (pss_cons (ps_set (i := 1) sc_l_kind.nd rfl (Or.inl rfl) (pe_op op_cat (pv 1) (pe_lst (pa_cons pe_str (pa_cons pe_str (pa_cons pe_str (pa_cons pe_str (pa_cons pe_str (pa_cons pe_str (pa_cons pe_str pa_nil))))))))))
      (pss_cons (ps_set (i := 2) sc_l_kind.nd rfl (Or.inl rfl) (pe_lst (pa_cons (pe_callB (k_isP K (T.kinds.err j hj).is (List.mem_singleton.mpr rfl) hz hf) (by rfl) T.z_isinstance (by decide +kernel) (pa_cons (pv 0) (pa_cons (pe_glob (v := .ref g.c_NoBand) rfl T.m_NoBand rfl) pa_nil))) (pa_cons (pe_callB (k_isP K (T.kinds.err j hj).is (List.mem_singleton.mpr rfl) hz hf) (by rfl) T.z_isinstance (by decide +kernel) (pa_cons (pv 0) (pa_cons (pe_glob (v := .ref g.c_NoWatch) rfl T.m_NoWatch rfl) pa_nil))) (pa_cons (pe_callB (k_isP K (T.kinds.err j hj).is (List.mem_singleton.mpr rfl) hz hf) (by rfl) T.z_isinstance (by decide +kernel) (pa_cons (pv 0) (pa_cons (pe_glob (v := .ref g.c_NoWord) rfl T.m_NoWord rfl) pa_nil))) (pa_cons (pe_callB (k_isP K (T.kinds.err j hj).is (List.mem_singleton.mpr rfl) hz hf) (by rfl) T.z_isinstance (by decide +kernel) (pa_cons (pv 0) (pa_cons (pe_glob (v := .ref g.c_NoMinutes) rfl T.m_NoMinutes rfl) pa_nil))) pa_nil))))))
      (pss_cons (ps_set (i := 2) sc_l_kind.nd rfl (Or.inl rfl) (pe_op op_cat (pv 2) (pe_lst (pa_cons (pe_callB (k_isP K (T.kinds.err j hj).is (List.mem_singleton.mpr rfl) hz hf) (by rfl) T.z_isinstance (by decide +kernel) (pa_cons (pv 0) (pa_cons (pe_glob (v := .ref g.c_NoHistory) rfl T.m_NoHistory rfl) pa_nil))) (pa_cons (pe_callB (k_isP K (T.kinds.err j hj).is (List.mem_singleton.mpr rfl) hz hf) (by rfl) T.z_isinstance (by decide +kernel) (pa_cons (pv 0) (pa_cons (pe_glob (v := .ref g.c_NoText) rfl T.m_NoText rfl) pa_nil))) (pa_cons (pe_callB (k_isP K (T.kinds.err j hj).is (List.mem_singleton.mpr rfl) hz hf) (by rfl) T.z_isinstance (by decide +kernel) (pa_cons (pv 0) (pa_cons (pe_glob (v := .ref g.c_NoRow) rfl T.m_NoRow rfl) pa_nil))) (pa_cons (pe_callB (k_isP K (T.kinds.err j hj).is (List.mem_singleton.mpr rfl) hz hf) (by rfl) T.z_isinstance (by decide +kernel) (pa_cons (pv 0) (pa_cons (pe_glob (v := .ref g.c_Stands) rfl T.m_Stands rfl) pa_nil))) pa_nil)))))))
      (pss_cons (ps_set (i := 2) sc_l_kind.nd rfl (Or.inl rfl) (pe_op op_cat (pv 2) (pe_lst (pa_cons (pe_callB (k_isP K (T.kinds.err j hj).is (List.mem_singleton.mpr rfl) hz hf) (by rfl) T.z_isinstance (by decide +kernel) (pa_cons (pv 0) (pa_cons (pe_glob (v := .ref g.c_NoHand) rfl T.m_NoHand rfl) pa_nil))) (pa_cons (pe_callB (k_isP K (T.kinds.err j hj).is (List.mem_singleton.mpr rfl) hz hf) (by rfl) T.z_isinstance (by decide +kernel) (pa_cons (pv 0) (pa_cons (pe_glob (v := .ref g.c_NoLabel) rfl T.m_NoLabel rfl) pa_nil))) (pa_cons (pe_callB (k_isP K (T.kinds.err j hj).is (List.mem_singleton.mpr rfl) hz hf) (by rfl) T.z_isinstance (by decide +kernel) (pa_cons (pv 0) (pa_cons (pe_glob (v := .ref g.c_NoAsk) rfl T.m_NoAsk rfl) pa_nil))) (pa_cons (pe_callB (k_isP K (T.kinds.err j hj).is (List.mem_singleton.mpr rfl) hz hf) (by rfl) T.z_isinstance (by decide +kernel) (pa_cons (pv 0) (pa_cons (pe_glob (v := .ref g.c_NoBeat) rfl T.m_NoBeat rfl) pa_nil))) pa_nil)))))))
      (pss_cons (ps_set (i := 2) sc_l_kind.nd rfl (Or.inl rfl) (pe_op op_cat (pv 2) (pe_lst (pa_cons (pe_callB (k_isP K (T.kinds.err j hj).is (List.mem_singleton.mpr rfl) hz hf) (by rfl) T.z_isinstance (by decide +kernel) (pa_cons (pv 0) (pa_cons (pe_glob (v := .ref g.c_TooMany) rfl T.m_TooMany rfl) pa_nil))) (pa_cons (pe_callB (k_isP K (T.kinds.err j hj).is (List.mem_singleton.mpr rfl) hz hf) (by rfl) T.z_isinstance (by decide +kernel) (pa_cons (pv 0) (pa_cons (pe_glob (v := .ref g.c_Open) rfl T.m_Open rfl) pa_nil))) (pa_cons (pe_callB (k_isP K (T.kinds.err j hj).is (List.mem_singleton.mpr rfl) hz hf) (by rfl) T.z_isinstance (by decide +kernel) (pa_cons (pv 0) (pa_cons (pe_glob (v := .ref g.c_Bound) rfl T.m_Bound rfl) pa_nil))) pa_nil))))))
      (pss_cons (ps_if (pt_cmpR op_ne (pe_bmK K PySem.F.plainAttrs_list PySem.F.slot_list_count PySem.F.type_list_count (mt_countF K) (pv 2) (pa_cons pe_bl pa_nil)) pe_int (nomark _)) (pss_one (ps_ret pe_str)) pss_nil)
      (pss_cons (ps_set (i := 3) sc_l_kind.nd rfl (Or.inr rfl) (pe_ix (k_ixL K) (pv 1) (pe_bmK K PySem.F.plainAttrs_list PySem.F.slot_list_index PySem.F.type_list_index (k_index K) (pv 2) (pa_cons pe_bl pa_nil)) (fun _ _ => rfl)))
      (pss_cons (ps_set (i := 4) sc_l_kind.nd rfl (Or.inl rfl) (pe_lst (pa_cons (pe_callB (k_isP K (T.kinds.err j hj).is (List.mem_singleton.mpr rfl) hz hf) (by rfl) T.z_isinstance (by decide +kernel) (pa_cons (pv 0) (pa_cons (pe_bltn (v := .ty "ValueError") (by rfl) T.z_ValueError (by decide +kernel) rfl) pa_nil))) (pa_cons (pe_callB (k_isP K (T.kinds.err j hj).is (List.mem_singleton.mpr rfl) hz hf) (by rfl) T.z_isinstance (by decide +kernel) (pa_cons (pv 0) (pa_cons (pe_bltn (v := .ty "KeyError") (by rfl) T.z_KeyError (by decide +kernel) rfl) pa_nil))) (pa_cons (pe_callB (k_isP K (T.kinds.err j hj).is (List.mem_singleton.mpr rfl) hz hf) (by rfl) T.z_isinstance (by decide +kernel) (pa_cons (pv 0) (pa_cons (pe_bltn (v := .ty "LookupError") (by rfl) T.z_LookupError (by decide +kernel) rfl) pa_nil))) pa_nil)))))
      (pss_cons (ps_set (i := 4) sc_l_kind.nd rfl (Or.inl rfl) (pe_op op_cat (pv 4) (pe_lst (pa_cons (pe_callB (k_isP K (T.kinds.err j hj).is (List.mem_singleton.mpr rfl) hz hf) (by rfl) T.z_isinstance (by decide +kernel) (pa_cons (pv 0) (pa_cons (pe_bltn (v := .ty "IndexError") (by rfl) T.z_IndexError (by decide +kernel) rfl) pa_nil))) (pa_cons (pe_callB (k_isP K (T.kinds.err j hj).is (List.mem_singleton.mpr rfl) hz hf) (by rfl) T.z_isinstance (by decide +kernel) (pa_cons (pv 0) (pa_cons (pe_bltn (v := .ty "OverflowError") (by rfl) T.z_OverflowError (by decide +kernel) rfl) pa_nil))) pa_nil)))))
      (pss_cons (ps_expr (pe_bmK K PySem.F.plainAttrs_list PySem.F.slot_list_append PySem.F.type_list_append mt_append (pv 4) (pa_cons (pe_callB (k_isP K (T.kinds.err j hj).is (List.mem_singleton.mpr rfl) hz hf) (by rfl) T.z_isinstance (by decide +kernel) (pa_cons (pv 0) (pa_cons (pe_bltn (v := .ty "RuntimeError") (by rfl) T.z_RuntimeError (by decide +kernel) rfl) pa_nil))) pa_nil)))
      (pss_cons (ps_set (i := 5) sc_l_kind.nd rfl (Or.inr rfl) (pe_disp (pps_cons pe_str pe_str (pps_cons pe_str pe_str (pps_cons pe_str pe_str (pps_cons pe_str pe_str (pps_cons pe_str pe_str (pps_cons pe_str pe_str (pps_cons pe_str pe_str pps_nil))))))) rfl rfl (by simp) (by decide)))
      (pss_one (ps_ret (pe_ifExp (pt_cmpR (k_eqDu K hu64) (pv 4) (pe_lcH (own := [("_law_sign", 6)]) (g := (gName 6)) (hot _ hh (List.mem_singleton.mpr rfl)) sc_l_kind.nd pe_str (blkOk_by (N := ["_law_e", "_law_words", "_law_kinds", "_law_word", "_law_above", "_law_due", "_law_sign"]) (sc := defScope s_l_kind) (by decide +kernel)) (fun _ _ _ _ _ => pg_name (i := 6) sc_l_kind.nd rfl (Or.inl rfl)) (fun _ _ _ _ _ => (pe_cmpR op_inS1 (pv 6) (pe_dget2 hu (pv 5) (pv 3) pe_str ⟨by rfl, by rfl, by rfl, by rfl⟩) (by rfl)))) (nomark _)) (pv 3) pe_str))))))))))))))), ?_⟩
  have TK := T.kinds
  walk_at "go"
  refine k_lst (by show 8 ≤ sizeLine; decide) fun l1 H1 n1 s1 h1 => ?_
  walk_at "go"
  refine k_lst (by show 7 ≤ sizeLine; decide) fun l2 H2 n2 s2 h2 => ?_
  refine w_cat (s2 _ _ h1) h2 (by show 15 ≤ 100000; decide) fun l3 H3 n3 s3 h3 => ?_
  have t3 := s1.trans (s2.trans s3)
  have d3 := dk.same t3
  walk_at "go"
  refine is_own TK hj 0 (by decide) d3 ?_
  walk_at "go"
  refine is_own TK hj 1 (by decide) d3 ?_
  walk_at "go"
  refine is_own TK hj 2 (by decide) d3 ?_
  walk_at "go"
  refine is_own TK hj 3 (by decide) d3 ?_
  walk_at "go"
  refine k_lst (by show 4 ≤ sizeLine; decide) fun l4 H4 n4 s4 h4 => ?_
  have d4 := d3.same s4
  walk_at "go"
  refine is_own TK hj 4 (by decide) d4 ?_
  walk_at "go"
  refine is_own TK hj 5 (by decide) d4 ?_
  walk_at "go"
  refine is_own TK hj 6 (by decide) d4 ?_
  walk_at "go"
  refine is_own TK hj 7 (by decide) d4 ?_
  walk_at "go"
  refine k_lst (by show 4 ≤ sizeLine; decide) fun l5 H5 n5 s5 h5 => ?_
  refine w_cat (s5 _ _ h4) h5 (by show 8 ≤ 100000; decide) fun l6 H6 n6 s6 h6 => ?_
  have d6 := d4.same (s5.trans s6)
  walk_at "go"
  refine is_own TK hj 8 (by decide) d6 ?_
  walk_at "go"
  refine is_own TK hj 9 (by decide) d6 ?_
  walk_at "go"
  refine is_own TK hj 10 (by decide) d6 ?_
  walk_at "go"
  refine is_own TK hj 11 (by decide) d6 ?_
  walk_at "go"
  refine k_lst (by show 4 ≤ sizeLine; decide) fun l7 H7 n7 s7 h7 => ?_
  refine w_cat (s7 _ _ h6) h7 (by show 12 ≤ 100000; decide) fun l8 H8 n8 s8 h8 => ?_
  have d8 := d6.same (s7.trans s8)
  walk_at "go"
  refine is_own TK hj 12 (by decide) d8 ?_
  walk_at "go"
  refine is_own TK hj 13 (by decide) d8 ?_
  walk_at "go"
  refine is_own TK hj 14 (by decide) d8 ?_
  walk_at "go"
  refine k_lst (by show 3 ≤ sizeLine; decide) fun l9 H9 n9 s9 h9 => ?_
  refine w_cat (s9 _ _ h8) h9 (by show 15 ≤ 100000; decide) fun l10 H10 n10 s10 h10 => ?_
  have t10 := t3.trans (s4.trans (s5.trans (s6.trans (s7.trans (s8.trans (s9.trans s10))))))
  have h10 : H10 l10 = some (.lst (bits j)) := h10
  have h3 : H10 l3 = some (.lst wordsV) := (s4.trans (s5.trans (s6.trans (s7.trans (s8.trans (s9.trans s10)))))) _ _ h3
  have d10 := dk.same t10
  have fl : (bits j).all flatV = true := by
    refine List.all_eq_true.mpr fun x hx => ?_
    obtain ⟨i, _, rfl⟩ := List.mem_map.mp hx
    rfl
  walk_at "go"
  refine k_bmL (SqL.at h10) ?_
  walk_at "go"
  refine ⟨l10, _, _, rfl, rfl, SqL.at h10, rfl, fl, ?_⟩
  rw [bits_count ⟨j, hj⟩]
  walk_at "go"
  refine w_ne rfl ?_
  rw [show decide (V.int ((1 : Nat) : Int) = V.int 1) = true from decide_eq_true rfl]
  walk_at "go"
  refine iteF ?_
  walk_at "go"
  refine k_bmL (SqL.at h10) ?_
  walk_at "go"
  refine ⟨l10, _, _, j, _, rfl, rfl, SqL.at h10, rfl, fl, bits_at hj, rfl, bits_no hj, ?_⟩
  refine w_ixL (SqL.at h3) (words_at hj) ?_
  walk_at "go"
  refine is_up TK hj 0 (by decide) (by decide +kernel) d10 ?_
  walk_at "go"
  refine is_up TK hj 1 (by decide) (by decide +kernel) d10 ?_
  walk_at "go"
  refine is_up TK hj 2 (by decide) (by decide +kernel) d10 ?_
  walk_at "go"
  refine k_lst (by show 3 ≤ sizeLine; decide) fun l11 H11 n11 s11 h11 => ?_
  have d11 := d10.same s11
  walk_at "go"
  refine is_up TK hj 3 (by decide) (by decide +kernel) d11 ?_
  walk_at "go"
  refine is_up TK hj 4 (by decide) (by decide +kernel) d11 ?_
  walk_at "go"
  refine k_lst (by show 2 ≤ sizeLine; decide) fun l12 H12 n12 s12 h12 => ?_
  refine w_cat (s12 _ _ h11) h12 (by show 5 ≤ 100000; decide) fun l13 H13 n13 s13 h13 => ?_
  have t13 := t10.trans (s11.trans (s12.trans s13))
  have d13 := dk.same t13
  walk_at "go"
  refine k_bmL (SqL.at h13) ?_
  walk_at "go"
  refine is_up TK hj 5 (by decide) (by decide +kernel) d13 ?_
  walk_at "go"
  refine w_append h13 (by show 5 < 1000; decide) ?_
  have nl13 : H l13 = none := (t10.trans (s11.trans s12)).free n13
  have t14 : Same H (upd H13 l13 (.lst ([V.bl (upB j 0), .bl (upB j 1), .bl (upB j 2)] ++ [V.bl (upB j 3), .bl (upB j 4)] ++ [V.bl (upB j 5)]))) := fun b o e => by
    rw [upd_ne (ne_of_none e nl13)]
    exact t13 _ _ e
  have h14 : upd H13 l13 (.lst ([V.bl (upB j 0), .bl (upB j 1), .bl (upB j 2)] ++ [V.bl (upB j 3), .bl (upB j 4)] ++ [V.bl (upB j 5)])) l13 = some (.lst (((List.range 6).map (upB j)).map V.bl)) := upd_same
  generalize upd H13 l13 (.lst ([V.bl (upB j 0), .bl (upB j 1), .bl (upB j 2)] ++ [V.bl (upB j 3), .bl (upB j 4)] ++ [V.bl (upB j 5)])) = H14 at *
  walk_at "go"
  refine w_disp fun l15 n15 => ?_
  walk_at "go"
  refine ⟨upd_same, dueKv, rfl, by decide, ?_⟩
  rw [due_merge]
  have s15 : Same H14 (upd (upd H14 l15 (.dK [])) l15 (.dK dueKv)) := fun b o e => by
    rw [upd_ne (ne_of_none e n15), upd_ne (ne_of_none e n15)]
    exact e
  have h15 : upd (upd H14 l15 (.dK [])) l15 (.dK dueKv) l15 = some (.dK dueKv) := upd_same
  generalize upd (upd H14 l15 (.dK [])) l15 (.dK dueKv) = H15 at *
  walk_at "go"
  have hdue := due_get ⟨j, hj⟩
  refine k_lcH (fun c => .bl (decide (c ∈ (dueS j).cps.toList))) (by decide +kernel) (by decide) (fun c H' s' R k' => ?_) fun D16 H16 n16 s16 h16 => ?_
  · refine w_name ?_
    refine k' _ rfl fun H2 s2 Q' q => ?_
    walk_at "go"
    refine ⟨l15, rfl, .inl ⟨_, .inl ((s'.trans s2) _ _ h15)⟩, ?_⟩
    walk_at "go"
    refine ⟨_, DGet.k (k := .inr (nmS j)) ((s'.trans s2) _ _ h15), ?_⟩
    rw [hdue]
    exact w_inS1 q
  rw [show ((Str.ofString "VKLIOR").cps.toList.map fun c => V.bl (decide (c ∈ (dueS j).cps.toList))) = (((List.range 6).map (upB j)).map V.bl) from by rw [← due_ok ⟨j, hj⟩, List.map_map]; rfl] at h16
  refine w_eqD (.lst (SqL.at ((s15.trans s16) _ _ h14)) (dpAll_bls _)) (.lst (SqL.at h16) (dpAll_bls _)) (shaped_bls _) (shaped_bls _) ?_
  rw [show PyData.eqv (.list (((List.range 6).map (upB j)).map PyData.bool)) (.list (((List.range 6).map (upB j)).map PyData.bool)) = true from by rw [PyData.eqv]; exact eqv_bls _]
  walk_at "go"
  refine iteT ?_
  walk_at "go"
  exact k _ (t14.trans (s15.trans s16))
/-! ### each refusal raised -/
def spFirst : Sp := fun vs H Q _ => ∃ (one other : V) (n : Nat), vs = [one, other, .int n] ∧ n < 6 ∧ ∀ p H', H p = none → Same H H' → H' p = some (.tup [.str (nmS (n + 2)), one, other]) → Q (.ref p) H'
theorem use_first {one other : V} {n : Nat} {H : Hp} {Q : VK} {E : XK} (hn : n < 6) (k : ∀ p H', H p = none → Same H H' → H' p = some (.tup [.str (nmS (n + 2)), one, other]) → Q (.ref p) H') : spFirst ([one, other, .int n] ++ []) H Q E := ⟨one, other, n, rfl, hn, k⟩
def idx2 (n : Nat) : Nat := [8, 9, 11, 12, 14].getD n 0
def spSecond : Sp := fun vs H Q _ => ∃ (one : V) (n : Nat), vs = [one, .int n] ∧ n < 5 ∧ ∀ p H', H p = none → Same H H' → H' p = some (.tup [.str (nmS (idx2 n)), one]) → Q (.ref p) H'
theorem use_second {one : V} {n : Nat} {H : Hp} {Q : VK} {E : XK} (hn : n < 5) (k : ∀ p H', H p = none → Same H H' → H' p = some (.tup [.str (nmS (idx2 n)), one]) → Q (.ref p) H') : spSecond ([one, .int n] ++ []) H Q E := ⟨one, n, rfl, hn, k⟩
def idx3 (n : Nat) : Nat := [0, 1, 10, 13].getD n 0
def spThird : Sp := fun vs H Q _ => ∃ n : Nat, vs = [.int n] ∧ n < 4 ∧ ∀ H', Same H H' → Q (.str (nmS (idx3 n))) H'
theorem use_third {n : Nat} {H : Hp} {Q : VK} {E : XK} (hn : n < 4) (k : ∀ H', Same H H' → Q (.str (nmS (idx3 n))) H') : spThird ([.int n] ++ []) H Q E := ⟨n, rfl, hn, k⟩
theorem int_no {a b : Int} (h : ¬ a = b) : decide (V.int a = V.int b) = false := decide_eq_false fun q => h (by injection q)
local macro_rules | `(tactic| walk_at "no") => `(tactic| (walk_at "go"; refine w_eq rfl ?_; walk_at "go"; refine w_iteF (int_no (by decide)) ?_))
local macro_rules | `(tactic| walk_at "yes") => `(tactic| (walk_at "go"; refine w_eq rfl ?_; walk_at "go"; refine w_iteT (decide_eq_true rfl) ?_))
theorem ok_l_first (T : Gk K mg g) : FnOk P w K mg base CX0 3 g.f_l_first g.d_l_first ["_law_one", "_law_other", "_law_way"] spFirst := by
  refine T.F_l_first.ok sc_l_first (fun vs H Q E h => ?_) (fun cdv A outer s H vs Q E hr h => ?_)
  · obtain ⟨one, other, n, rfl, _⟩ := h; rfl
  · obtain ⟨one, other, n, rfl, hn, k⟩ := h
    have O_NoHistory_init := ok_NoHistory_init (P := P) (w := w) (base := base) T
    have O_NoMinutes_init := ok_NoMinutes_init (P := P) (w := w) (base := base) T
    have O_NoRow_init := ok_NoRow_init (P := P) (w := w) (base := base) T
    have O_NoText_init := ok_NoText_init (P := P) (w := w) (base := base) T
    have O_NoWord_init := ok_NoWord_init (P := P) (w := w) (base := base) T
    have O_Stands_init := ok_Stands_init (P := P) (w := w) (base := base) T
    have O_l_kind := ok_l_kind (P := P) (w := w) (base := base) T
    have hr_1 : Room 1 _ := hr.mono (by decide)
    have hr_2 : Room 2 _ := hr.mono (by decide)
    refine ⟨_, (pss_one (ps_try_asM (i := 3) rfl rfl sc_l_first.nd rfl rfl takesN0
      (fun W pn xe tk _ => (pss_cons (ps_if (pt_cmpR op_eq (pv 2) pe_int (nomark _)) (pss_one (L2N.ps_raise rfl tk (pmk_oexG xb_V T.x_NoWord T.i_NoWord T.ti_NoWord O_NoWord_init hr_2 T.b_NoWord_init pass0 rfl T.m_NoWord (pa_cons (pv 0) pa_nil)))) pss_nil)
      (pss_cons (ps_if (pt_cmpR op_eq (pv 2) pe_int (nomark _)) (pss_one (L2N.ps_raise rfl tk (pmk_oexG xb_V T.x_NoMinutes T.i_NoMinutes T.ti_NoMinutes O_NoMinutes_init hr_2 T.b_NoMinutes_init pass0 rfl T.m_NoMinutes (pa_cons (pv 0) pa_nil)))) pss_nil)
      (pss_cons (ps_if (pt_cmpR op_eq (pv 2) pe_int (nomark _)) (pss_one (L2N.ps_raise rfl tk (pmk_oexG xb_V T.x_NoHistory T.i_NoHistory T.ti_NoHistory O_NoHistory_init hr_2 T.b_NoHistory_init pass0 rfl T.m_NoHistory (pa_cons (pv 0) pa_nil)))) pss_nil)
      (pss_cons (ps_if (pt_cmpR op_eq (pv 2) pe_int (nomark _)) (pss_one (L2N.ps_raise rfl tk (pmk_oexG xb_V T.x_NoText T.i_NoText T.ti_NoText O_NoText_init hr_2 T.b_NoText_init pass0 rfl T.m_NoText (pa_cons (pv 0) (pa_cons (pv 1) pa_nil))))) pss_nil)
      (pss_cons (ps_if (pt_cmpR op_eq (pv 2) pe_int (nomark _)) (pss_one (L2N.ps_raise rfl tk (pmk_oexG xb_V T.x_NoRow T.i_NoRow T.ti_NoRow O_NoRow_init hr_2 T.b_NoRow_init pass0 rfl T.m_NoRow (pa_cons (pv 0) pa_nil)))) pss_nil)
      (pss_one (L2N.ps_raise rfl tk (pmk_oexG xb_V T.x_Stands T.i_Stands T.ti_Stands O_Stands_init hr_2 T.b_Stands_init pass0 rfl T.m_Stands (pa_cons (pv 0) pa_nil))))))))))
      (.cons ⟨rfl, by decide, .inl T.m_NoWord⟩ (fun a oe cls d pn hz hf => (pss_one (ps_ret (pe_tup (pa_cons (pe_kind O_l_kind hr_1 hz hf rfl T.m_l_kind T.F_l_kind.kp (pa_cons (pv 3) pa_nil)) (pa_cons (pe_xf (C := g.c_NoWord) (T.kinds.xf (j := 2) (by decide)) T.nf_NoWord_name hz.zc hf (pv 3)) (pa_cons (pv 1) pa_nil)))))))
      (.cons ⟨rfl, by decide, .inl T.m_NoMinutes⟩ (fun a oe cls d pn hz hf => (pss_one (ps_ret (pe_tup (pa_cons (pe_kind O_l_kind hr_1 hz hf rfl T.m_l_kind T.F_l_kind.kp (pa_cons (pv 3) pa_nil)) (pa_cons (pe_xf (C := g.c_NoMinutes) (T.kinds.xf (j := 3) (by decide)) T.nf_NoMinutes_at hz.zc hf (pv 3)) (pa_cons (pv 1) pa_nil)))))))
      (.cons ⟨rfl, by decide, .inl T.m_NoHistory⟩ (fun a oe cls d pn hz hf => (pss_one (ps_ret (pe_tup (pa_cons (pe_kind O_l_kind hr_1 hz hf rfl T.m_l_kind T.F_l_kind.kp (pa_cons (pv 3) pa_nil)) (pa_cons (pe_xf (C := g.c_NoHistory) (T.kinds.xf (j := 4) (by decide)) T.nf_NoHistory_at hz.zc hf (pv 3)) (pa_cons (pv 1) pa_nil)))))))
      (.cons ⟨rfl, by decide, .inl T.m_NoText⟩ (fun a oe cls d pn hz hf => (pss_one (ps_ret (pe_tup (pa_cons (pe_kind O_l_kind hr_1 hz hf rfl T.m_l_kind T.F_l_kind.kp (pa_cons (pv 3) pa_nil)) (pa_cons (pe_xf (C := g.c_NoText) (T.kinds.xf (j := 5) (by decide)) T.nf_NoText_row hz.zc hf (pv 3)) (pa_cons (pe_xf (C := g.c_NoText) (T.kinds.xf (j := 5) (by decide)) T.nf_NoText_place hz.zc hf (pv 3)) pa_nil)))))))
      (.cons ⟨rfl, by decide, .inl T.m_NoRow⟩ (fun a oe cls d pn hz hf => (pss_one (ps_ret (pe_tup (pa_cons (pe_kind O_l_kind hr_1 hz hf rfl T.m_l_kind T.F_l_kind.kp (pa_cons (pv 3) pa_nil)) (pa_cons (pe_xf (C := g.c_NoRow) (T.kinds.xf (j := 6) (by decide)) T.nf_NoRow_place hz.zc hf (pv 3)) (pa_cons (pv 1) pa_nil)))))))
      (.cons ⟨rfl, by decide, .inl T.m_Stands⟩ (fun a oe cls d pn hz hf => (pss_one (ps_ret (pe_tup (pa_cons (pe_kind O_l_kind hr_1 hz hf rfl T.m_l_kind T.F_l_kind.kp (pa_cons (pv 3) pa_nil)) (pa_cons (pe_xf (C := g.c_Stands) (T.kinds.xf (j := 7) (by decide)) T.nf_Stands_name hz.zc hf (pv 3)) (pa_cons (pv 1) pa_nil)))))))
      .nil)))))))), ?_⟩
    have TK := T.kinds
    have hc : n = 0 ∨ n = 1 ∨ n = 2 ∨ n = 3 ∨ n = 4 ∨ n = 5 := by omega
    rcases hc with rfl | rfl | rfl | rfl | rfl | rfl
    · walk_at "yes"
      walk_at "go"
      refine k_mkO rfl (by decide) fun dd H1 nd s1 hd => ?_
      refine as_yes (TK.exm (j := 2) (i := 2) (by decide) (by decide)) fun a na => ?_
      walk_at "go"
      refine ⟨_, _, rfl, rfl, ⟨2, by decide, rfl, rfl⟩, fun _ e => ⟨_, by cases e; exact hd⟩, fun H2 s2 => ?_⟩
      walk_at "go"
      refine ⟨rfl, rfl, dd, _, _, rfl, s2 _ _ hd, rfl, ?_⟩
      walk_at "go"
      refine k_tup (by show 3 ≤ sizeLine; decide) fun p H3 np s3 hp => ?_
      exact k p H3 ((s1.trans s2).free np) (s1.trans (s2.trans s3)) hp
    · walk_at "no"
      walk_at "yes"
      walk_at "go"
      refine k_mkO rfl (by decide) fun dd H1 nd s1 hd => ?_
      refine as_no (TK.exm (j := 3) (i := 2) (by decide) (by decide)) ?_
      refine as_yes (TK.exm (j := 3) (i := 3) (by decide) (by decide)) fun a na => ?_
      walk_at "go"
      refine ⟨_, _, rfl, rfl, ⟨3, by decide, rfl, rfl⟩, fun _ e => ⟨_, by cases e; exact hd⟩, fun H2 s2 => ?_⟩
      walk_at "go"
      refine ⟨rfl, rfl, dd, _, _, rfl, s2 _ _ hd, rfl, ?_⟩
      walk_at "go"
      refine k_tup (by show 3 ≤ sizeLine; decide) fun p H3 np s3 hp => ?_
      exact k p H3 ((s1.trans s2).free np) (s1.trans (s2.trans s3)) hp
    · walk_at "no"
      walk_at "no"
      walk_at "yes"
      walk_at "go"
      refine k_mkO rfl (by decide) fun dd H1 nd s1 hd => ?_
      refine as_no (TK.exm (j := 4) (i := 2) (by decide) (by decide)) ?_
      refine as_no (TK.exm (j := 4) (i := 3) (by decide) (by decide)) ?_
      refine as_yes (TK.exm (j := 4) (i := 4) (by decide) (by decide)) fun a na => ?_
      walk_at "go"
      refine ⟨_, _, rfl, rfl, ⟨4, by decide, rfl, rfl⟩, fun _ e => ⟨_, by cases e; exact hd⟩, fun H2 s2 => ?_⟩
      walk_at "go"
      refine ⟨rfl, rfl, dd, _, _, rfl, s2 _ _ hd, rfl, ?_⟩
      walk_at "go"
      refine k_tup (by show 3 ≤ sizeLine; decide) fun p H3 np s3 hp => ?_
      exact k p H3 ((s1.trans s2).free np) (s1.trans (s2.trans s3)) hp
    · walk_at "no"
      walk_at "no"
      walk_at "no"
      walk_at "yes"
      walk_at "go"
      refine k_mkO rfl (by decide) fun dd H1 nd s1 hd => ?_
      refine as_no (TK.exm (j := 5) (i := 2) (by decide) (by decide)) ?_
      refine as_no (TK.exm (j := 5) (i := 3) (by decide) (by decide)) ?_
      refine as_no (TK.exm (j := 5) (i := 4) (by decide) (by decide)) ?_
      refine as_yes (TK.exm (j := 5) (i := 5) (by decide) (by decide)) fun a na => ?_
      walk_at "go"
      refine ⟨_, _, rfl, rfl, ⟨5, by decide, rfl, rfl⟩, fun _ e => ⟨_, by cases e; exact hd⟩, fun H2 s2 => ?_⟩
      walk_at "go"
      refine ⟨rfl, rfl, dd, _, _, rfl, s2 _ _ hd, rfl, ?_⟩
      walk_at "go"
      refine ⟨rfl, rfl, dd, _, _, rfl, s2 _ _ hd, rfl, ?_⟩
      walk_at "go"
      refine k_tup (by show 3 ≤ sizeLine; decide) fun p H3 np s3 hp => ?_
      exact k p H3 ((s1.trans s2).free np) (s1.trans (s2.trans s3)) hp
    · walk_at "no"
      walk_at "no"
      walk_at "no"
      walk_at "no"
      walk_at "yes"
      walk_at "go"
      refine k_mkO rfl (by decide) fun dd H1 nd s1 hd => ?_
      refine as_no (TK.exm (j := 6) (i := 2) (by decide) (by decide)) ?_
      refine as_no (TK.exm (j := 6) (i := 3) (by decide) (by decide)) ?_
      refine as_no (TK.exm (j := 6) (i := 4) (by decide) (by decide)) ?_
      refine as_no (TK.exm (j := 6) (i := 5) (by decide) (by decide)) ?_
      refine as_yes (TK.exm (j := 6) (i := 6) (by decide) (by decide)) fun a na => ?_
      walk_at "go"
      refine ⟨_, _, rfl, rfl, ⟨6, by decide, rfl, rfl⟩, fun _ e => ⟨_, by cases e; exact hd⟩, fun H2 s2 => ?_⟩
      walk_at "go"
      refine ⟨rfl, rfl, dd, _, _, rfl, s2 _ _ hd, rfl, ?_⟩
      walk_at "go"
      refine k_tup (by show 3 ≤ sizeLine; decide) fun p H3 np s3 hp => ?_
      exact k p H3 ((s1.trans s2).free np) (s1.trans (s2.trans s3)) hp
    · walk_at "no"
      walk_at "no"
      walk_at "no"
      walk_at "no"
      walk_at "no"
      walk_at "go"
      refine k_mkO rfl (by decide) fun dd H1 nd s1 hd => ?_
      refine as_no (TK.exm (j := 7) (i := 2) (by decide) (by decide)) ?_
      refine as_no (TK.exm (j := 7) (i := 3) (by decide) (by decide)) ?_
      refine as_no (TK.exm (j := 7) (i := 4) (by decide) (by decide)) ?_
      refine as_no (TK.exm (j := 7) (i := 5) (by decide) (by decide)) ?_
      refine as_no (TK.exm (j := 7) (i := 6) (by decide) (by decide)) ?_
      refine as_yes (TK.exm (j := 7) (i := 7) (by decide) (by decide)) fun a na => ?_
      walk_at "go"
      refine ⟨_, _, rfl, rfl, ⟨7, by decide, rfl, rfl⟩, fun _ e => ⟨_, by cases e; exact hd⟩, fun H2 s2 => ?_⟩
      walk_at "go"
      refine ⟨rfl, rfl, dd, _, _, rfl, s2 _ _ hd, rfl, ?_⟩
      walk_at "go"
      refine k_tup (by show 3 ≤ sizeLine; decide) fun p H3 np s3 hp => ?_
      exact k p H3 ((s1.trans s2).free np) (s1.trans (s2.trans s3)) hp
theorem ok_l_second (T : Gk K mg g) : FnOk P w K mg base CX0 3 g.f_l_second g.d_l_second ["_law_one", "_law_way"] spSecond := by
  refine T.F_l_second.ok sc_l_second (fun vs H Q E h => ?_) (fun cdv A outer s H vs Q E hr h => ?_)
  · obtain ⟨one, n, rfl, _⟩ := h; rfl
  · obtain ⟨one, n, rfl, hn, k⟩ := h
    have O_Bound_init := ok_Bound_init (P := P) (w := w) (base := base) T
    have O_NoBeat_init := ok_NoBeat_init (P := P) (w := w) (base := base) T
    have O_NoHand_init := ok_NoHand_init (P := P) (w := w) (base := base) T
    have O_NoLabel_init := ok_NoLabel_init (P := P) (w := w) (base := base) T
    have O_TooMany_init := ok_TooMany_init (P := P) (w := w) (base := base) T
    have O_l_kind := ok_l_kind (P := P) (w := w) (base := base) T
    have hr_1 : Room 1 _ := hr.mono (by decide)
    have hr_2 : Room 2 _ := hr.mono (by decide)
    refine ⟨_, (pss_one (ps_try_asM (i := 2) rfl rfl sc_l_second.nd rfl rfl takesN0
      (fun W pn xe tk _ => (pss_cons (ps_if (pt_cmpR op_eq (pv 1) pe_int (nomark _)) (pss_one (L2N.ps_raise rfl tk (pmk_oexG xb_K T.x_NoHand T.i_NoHand T.ti_NoHand O_NoHand_init hr_2 T.b_NoHand_init pass0 rfl T.m_NoHand (pa_cons (pv 0) pa_nil)))) pss_nil)
      (pss_cons (ps_if (pt_cmpR op_eq (pv 1) pe_int (nomark _)) (pss_one (L2N.ps_raise rfl tk (pmk_oexG xb_K T.x_NoLabel T.i_NoLabel T.ti_NoLabel O_NoLabel_init hr_2 T.b_NoLabel_init pass0 rfl T.m_NoLabel (pa_cons (pv 0) pa_nil)))) pss_nil)
      (pss_cons (ps_if (pt_cmpR op_eq (pv 1) pe_int (nomark _)) (pss_one (L2N.ps_raise rfl tk (pmk_oexG xb_I T.x_NoBeat T.i_NoBeat T.ti_NoBeat O_NoBeat_init hr_2 T.b_NoBeat_init pass0 rfl T.m_NoBeat (pa_cons (pv 0) pa_nil)))) pss_nil)
      (pss_cons (ps_if (pt_cmpR op_eq (pv 1) pe_int (nomark _)) (pss_one (L2N.ps_raise rfl tk (pmk_oexG xb_O T.x_TooMany T.i_TooMany T.ti_TooMany O_TooMany_init hr_2 T.b_TooMany_init pass0 rfl T.m_TooMany (pa_cons (pv 0) pa_nil)))) pss_nil)
      (pss_one (L2N.ps_raise rfl tk (pmk_oexG xb_R T.x_Bound T.i_Bound T.ti_Bound O_Bound_init hr_2 T.b_Bound_init pass0 rfl T.m_Bound (pa_cons (pv 0) pa_nil)))))))))
      (.cons ⟨rfl, by decide, .inl T.m_NoHand⟩ (fun a oe cls d pn hz hf => (pss_one (ps_ret (pe_tup (pa_cons (pe_kind O_l_kind hr_1 hz hf rfl T.m_l_kind T.F_l_kind.kp (pa_cons (pv 2) pa_nil)) (pa_cons (pe_xf (C := g.c_NoHand) (T.kinds.xf (j := 8) (by decide)) T.nf_NoHand_name hz.zc hf (pv 2)) pa_nil))))))
      (.cons ⟨rfl, by decide, .inl T.m_NoLabel⟩ (fun a oe cls d pn hz hf => (pss_one (ps_ret (pe_tup (pa_cons (pe_kind O_l_kind hr_1 hz hf rfl T.m_l_kind T.F_l_kind.kp (pa_cons (pv 2) pa_nil)) (pa_cons (pe_xf (C := g.c_NoLabel) (T.kinds.xf (j := 9) (by decide)) T.nf_NoLabel_label hz.zc hf (pv 2)) pa_nil))))))
      (.cons ⟨rfl, by decide, .inl T.m_NoBeat⟩ (fun a oe cls d pn hz hf => (pss_one (ps_ret (pe_tup (pa_cons (pe_kind O_l_kind hr_1 hz hf rfl T.m_l_kind T.F_l_kind.kp (pa_cons (pv 2) pa_nil)) (pa_cons (pe_xf (C := g.c_NoBeat) (T.kinds.xf (j := 11) (by decide)) T.nf_NoBeat_at hz.zc hf (pv 2)) pa_nil))))))
      (.cons ⟨rfl, by decide, .inl T.m_TooMany⟩ (fun a oe cls d pn hz hf => (pss_one (ps_ret (pe_tup (pa_cons (pe_kind O_l_kind hr_1 hz hf rfl T.m_l_kind T.F_l_kind.kp (pa_cons (pv 2) pa_nil)) (pa_cons (pe_xf (C := g.c_TooMany) (T.kinds.xf (j := 12) (by decide)) T.nf_TooMany_most hz.zc hf (pv 2)) pa_nil))))))
      (.cons ⟨rfl, by decide, .inl T.m_Bound⟩ (fun a oe cls d pn hz hf => (pss_one (ps_ret (pe_tup (pa_cons (pe_kind O_l_kind hr_1 hz hf rfl T.m_l_kind T.F_l_kind.kp (pa_cons (pv 2) pa_nil)) (pa_cons (pe_xf (C := g.c_Bound) (T.kinds.xf (j := 14) (by decide)) T.nf_Bound_label hz.zc hf (pv 2)) pa_nil))))))
      .nil))))))), ?_⟩
    have TK := T.kinds
    have hc : n = 0 ∨ n = 1 ∨ n = 2 ∨ n = 3 ∨ n = 4 := by omega
    rcases hc with rfl | rfl | rfl | rfl | rfl
    · walk_at "yes"
      walk_at "go"
      refine k_mkO rfl (by decide) fun dd H1 nd s1 hd => ?_
      refine as_yes (TK.exm (j := 8) (i := 8) (by decide) (by decide)) fun a na => ?_
      walk_at "go"
      refine ⟨_, _, rfl, rfl, ⟨8, by decide, rfl, rfl⟩, fun _ e => ⟨_, by cases e; exact hd⟩, fun H2 s2 => ?_⟩
      walk_at "go"
      refine ⟨rfl, rfl, dd, _, _, rfl, s2 _ _ hd, rfl, ?_⟩
      walk_at "go"
      refine k_tup (by show 2 ≤ sizeLine; decide) fun p H3 np s3 hp => ?_
      exact k p H3 ((s1.trans s2).free np) (s1.trans (s2.trans s3)) hp
    · walk_at "no"
      walk_at "yes"
      walk_at "go"
      refine k_mkO rfl (by decide) fun dd H1 nd s1 hd => ?_
      refine as_no (TK.exm (j := 9) (i := 8) (by decide) (by decide)) ?_
      refine as_yes (TK.exm (j := 9) (i := 9) (by decide) (by decide)) fun a na => ?_
      walk_at "go"
      refine ⟨_, _, rfl, rfl, ⟨9, by decide, rfl, rfl⟩, fun _ e => ⟨_, by cases e; exact hd⟩, fun H2 s2 => ?_⟩
      walk_at "go"
      refine ⟨rfl, rfl, dd, _, _, rfl, s2 _ _ hd, rfl, ?_⟩
      walk_at "go"
      refine k_tup (by show 2 ≤ sizeLine; decide) fun p H3 np s3 hp => ?_
      exact k p H3 ((s1.trans s2).free np) (s1.trans (s2.trans s3)) hp
    · walk_at "no"
      walk_at "no"
      walk_at "yes"
      walk_at "go"
      refine k_mkO rfl (by decide) fun dd H1 nd s1 hd => ?_
      refine as_no (TK.exm (j := 11) (i := 8) (by decide) (by decide)) ?_
      refine as_no (TK.exm (j := 11) (i := 9) (by decide) (by decide)) ?_
      refine as_yes (TK.exm (j := 11) (i := 11) (by decide) (by decide)) fun a na => ?_
      walk_at "go"
      refine ⟨_, _, rfl, rfl, ⟨11, by decide, rfl, rfl⟩, fun _ e => ⟨_, by cases e; exact hd⟩, fun H2 s2 => ?_⟩
      walk_at "go"
      refine ⟨rfl, rfl, dd, _, _, rfl, s2 _ _ hd, rfl, ?_⟩
      walk_at "go"
      refine k_tup (by show 2 ≤ sizeLine; decide) fun p H3 np s3 hp => ?_
      exact k p H3 ((s1.trans s2).free np) (s1.trans (s2.trans s3)) hp
    · walk_at "no"
      walk_at "no"
      walk_at "no"
      walk_at "yes"
      walk_at "go"
      refine k_mkO rfl (by decide) fun dd H1 nd s1 hd => ?_
      refine as_no (TK.exm (j := 12) (i := 8) (by decide) (by decide)) ?_
      refine as_no (TK.exm (j := 12) (i := 9) (by decide) (by decide)) ?_
      refine as_no (TK.exm (j := 12) (i := 11) (by decide) (by decide)) ?_
      refine as_yes (TK.exm (j := 12) (i := 12) (by decide) (by decide)) fun a na => ?_
      walk_at "go"
      refine ⟨_, _, rfl, rfl, ⟨12, by decide, rfl, rfl⟩, fun _ e => ⟨_, by cases e; exact hd⟩, fun H2 s2 => ?_⟩
      walk_at "go"
      refine ⟨rfl, rfl, dd, _, _, rfl, s2 _ _ hd, rfl, ?_⟩
      walk_at "go"
      refine k_tup (by show 2 ≤ sizeLine; decide) fun p H3 np s3 hp => ?_
      exact k p H3 ((s1.trans s2).free np) (s1.trans (s2.trans s3)) hp
    · walk_at "no"
      walk_at "no"
      walk_at "no"
      walk_at "no"
      walk_at "go"
      refine k_mkO rfl (by decide) fun dd H1 nd s1 hd => ?_
      refine as_no (TK.exm (j := 14) (i := 8) (by decide) (by decide)) ?_
      refine as_no (TK.exm (j := 14) (i := 9) (by decide) (by decide)) ?_
      refine as_no (TK.exm (j := 14) (i := 11) (by decide) (by decide)) ?_
      refine as_no (TK.exm (j := 14) (i := 12) (by decide) (by decide)) ?_
      refine as_yes (TK.exm (j := 14) (i := 14) (by decide) (by decide)) fun a na => ?_
      walk_at "go"
      refine ⟨_, _, rfl, rfl, ⟨14, by decide, rfl, rfl⟩, fun _ e => ⟨_, by cases e; exact hd⟩, fun H2 s2 => ?_⟩
      walk_at "go"
      refine ⟨rfl, rfl, dd, _, _, rfl, s2 _ _ hd, rfl, ?_⟩
      walk_at "go"
      refine k_tup (by show 2 ≤ sizeLine; decide) fun p H3 np s3 hp => ?_
      exact k p H3 ((s1.trans s2).free np) (s1.trans (s2.trans s3)) hp
theorem ok_l_third (T : Gk K mg g) : FnOk P w K mg base CX0 2 g.f_l_third g.d_l_third ["_law_way"] spThird := by
  refine T.F_l_third.ok sc_l_third (fun vs H Q E h => ?_) (fun cdv A outer s H vs Q E hr h => ?_)
  · obtain ⟨n, rfl, _⟩ := h; rfl
  · obtain ⟨n, rfl, hn, k⟩ := h
    have O_l_kind := ok_l_kind (P := P) (w := w) (base := base) T
    have hr_1 : Room 1 _ := hr.mono (by decide)
    refine ⟨_, (pss_one (ps_try_asM (i := 1) rfl rfl sc_l_third.nd rfl rfl takesN0
      (fun W pn xe tk _ => (pss_cons (ps_if (pt_cmpR op_eq (pv 0) pe_int (nomark _)) (pss_one (L2N.ps_raise rfl tk (pmkN_own0 PySem.F.excBase_ValueError T.xi_NoBand T.m_NoBand (T.kinds.err 0 (by decide)).kp (raises_own (T.kinds.err 0 (by decide)).is.hs (T.kinds.err 0 (by decide)).ty) rfl))) pss_nil)
      (pss_cons (ps_if (pt_cmpR op_eq (pv 0) pe_int (nomark _)) (pss_one (L2N.ps_raise rfl tk (pmkN_own0 PySem.F.excBase_ValueError T.xi_NoWatch T.m_NoWatch (T.kinds.err 1 (by decide)).kp (raises_own (T.kinds.err 1 (by decide)).is.hs (T.kinds.err 1 (by decide)).ty) rfl))) pss_nil)
      (pss_cons (ps_if (pt_cmpR op_eq (pv 0) pe_int (nomark _)) (pss_one (L2N.ps_raise rfl tk (pmkN_own0 PySem.F.excBase_LookupError T.xi_NoAsk T.m_NoAsk (T.kinds.err 10 (by decide)).kp (raises_own (T.kinds.err 10 (by decide)).is.hs (T.kinds.err 10 (by decide)).ty) rfl))) pss_nil)
      (pss_one (L2N.ps_raise rfl tk (pmkN_own0 PySem.F.excBase_RuntimeError T.xi_Open T.m_Open (T.kinds.err 13 (by decide)).kp (raises_own (T.kinds.err 13 (by decide)).is.hs (T.kinds.err 13 (by decide)).ty) rfl)))))))
      (.cons ⟨rfl, by decide, .inl T.m_NoBand⟩ (fun a oe cls d pn hz hf => (pss_one (ps_ret (pe_kind O_l_kind hr_1 hz hf rfl T.m_l_kind T.F_l_kind.kp (pa_cons (pv 1) pa_nil)))))
      (.cons ⟨rfl, by decide, .inl T.m_NoWatch⟩ (fun a oe cls d pn hz hf => (pss_one (ps_ret (pe_kind O_l_kind hr_1 hz hf rfl T.m_l_kind T.F_l_kind.kp (pa_cons (pv 1) pa_nil)))))
      (.cons ⟨rfl, by decide, .inl T.m_NoAsk⟩ (fun a oe cls d pn hz hf => (pss_one (ps_ret (pe_kind O_l_kind hr_1 hz hf rfl T.m_l_kind T.F_l_kind.kp (pa_cons (pv 1) pa_nil)))))
      (.cons ⟨rfl, by decide, .inl T.m_Open⟩ (fun a oe cls d pn hz hf => (pss_one (ps_ret (pe_kind O_l_kind hr_1 hz hf rfl T.m_l_kind T.F_l_kind.kp (pa_cons (pv 1) pa_nil)))))
      .nil)))))), ?_⟩
    have TK := T.kinds
    have hc : n = 0 ∨ n = 1 ∨ n = 2 ∨ n = 3 := by omega
    rcases hc with rfl | rfl | rfl | rfl
    · walk_at "yes"
      walk_at "go"
      refine as_yes (TK.exm (j := 0) (i := 0) (by decide) (by decide)) fun a na => ?_
      walk_at "go"
      exact ⟨_, _, rfl, rfl, ⟨0, by decide, rfl, rfl⟩, fun _ e => (nomatch e), fun H2 s2 => k H2 s2⟩
    · walk_at "no"
      walk_at "yes"
      walk_at "go"
      refine as_no (TK.exm (j := 1) (i := 0) (by decide) (by decide)) ?_
      refine as_yes (TK.exm (j := 1) (i := 1) (by decide) (by decide)) fun a na => ?_
      walk_at "go"
      exact ⟨_, _, rfl, rfl, ⟨1, by decide, rfl, rfl⟩, fun _ e => (nomatch e), fun H2 s2 => k H2 s2⟩
    · walk_at "no"
      walk_at "no"
      walk_at "yes"
      walk_at "go"
      refine as_no (TK.exm (j := 10) (i := 0) (by decide) (by decide)) ?_
      refine as_no (TK.exm (j := 10) (i := 1) (by decide) (by decide)) ?_
      refine as_yes (TK.exm (j := 10) (i := 10) (by decide) (by decide)) fun a na => ?_
      walk_at "go"
      exact ⟨_, _, rfl, rfl, ⟨10, by decide, rfl, rfl⟩, fun _ e => (nomatch e), fun H2 s2 => k H2 s2⟩
    · walk_at "no"
      walk_at "no"
      walk_at "no"
      walk_at "go"
      dsimp only
      refine as_no (TK.exm (j := 13) (i := 0) (by decide) (by decide)) ?_
      refine as_no (TK.exm (j := 13) (i := 1) (by decide) (by decide)) ?_
      refine as_no (TK.exm (j := 13) (i := 10) (by decide) (by decide)) ?_
      refine as_yes (TK.exm (j := 13) (i := 13) (by decide) (by decide)) fun a na => ?_
      walk_at "go"
      exact ⟨_, _, rfl, rfl, ⟨13, by decide, rfl, rfl⟩, fun _ e => (nomatch e), fun H2 s2 => k H2 s2⟩
/-! ### any things, the law -/
def anyD8 (x : Str) : List PyData := [.none, .int 0, .int 7, .int (10 ^ Int.toNat 30 - 1), .str x, sD "", .bool true, .tuple [.str x], .list [.str x]]
theorem any8_ok {x : Str} (h : StrOk x) : ∀ d ∈ anyD8 x, Tm 1 d ∧ bnd d ≤ 2000 := by
  have hr := h.rep
  have h0 : StrOk (Str.ofString "") := strOk_lit (by decide +kernel)
  intro d md
  rcases List.mem_cons.mp md with rfl | md
  · exact ⟨.non _, by show 4 ≤ 2000; decide⟩
  rcases List.mem_cons.mp md with rfl | md
  · exact ⟨.int _ _ (by decide), by show 1921 ≤ 2000; decide⟩
  rcases List.mem_cons.mp md with rfl | md
  · exact ⟨.int _ _ (by decide), by show 1921 ≤ 2000; decide⟩
  rcases List.mem_cons.mp md with rfl | md
  · exact ⟨.int _ _ (by decide +kernel), by show 1921 ≤ 2000; decide⟩
  rcases List.mem_cons.mp md with rfl | md
  · exact ⟨.str _ _ h, by show (reprText x).length ≤ 2000; omega⟩
  rcases List.mem_cons.mp md with rfl | md
  · exact ⟨.str _ _ h0, by show (reprText (Str.ofString "")).length ≤ 2000; have := h0.rep; omega⟩
  rcases List.mem_cons.mp md with rfl | md
  · exact ⟨.bl _ _, by show 5 ≤ 2000; decide⟩
  rcases List.mem_cons.mp md with rfl | md
  · exact ⟨.tup 0 _ fun e me => by rw [List.mem_singleton] at me; subst me; exact .str _ _ h, by show (reprText x).length + 2 + 0 + 3 ≤ 2000; omega⟩
  · rw [List.mem_singleton] at md
    subst md
    exact ⟨.lst 0 _ fun e me => by rw [List.mem_singleton] at me; subst me; exact .str _ _ h, by show (reprText x).length + 2 + 0 + 2 ≤ 2000; omega⟩
def spAny8 (K : PySem.W.Frag) : Sp := fun vs H Q _ => ∃ (b : Addr) (x : Str), vs = [.ref b, .str x] ∧ StrOk x ∧ Bag H b ∧ ∀ v d H', Dp K (off [b] H') v d → Tm 1 d → bnd d ≤ 2000 → Step b H H' → Q v H'
theorem use_any8 {b : Addr} {x : Str} {H : Hp} {Q : VK} {E : XK} (hx : StrOk x) (hb : Bag H b) (k : ∀ v d H', Dp K (off [b] H') v d → Tm 1 d → bnd d ≤ 2000 → Step b H H' → Q v H') : spAny8 K ([.ref b, .str x] ++ []) H Q E := ⟨b, x, rfl, hx, hb, k⟩
theorem ok_l_any (T : Gk K mg g) : FnOk P w K mg base CX0 2 g.f_l_any g.d_l_any ["_law_bag_here", "_law_hand"] (spAny8 K) := by
  refine T.F_l_any.ok sc_l_any (fun vs H Q E h => ?_) (fun cdv A outer s H vs Q E hr h => ?_)
  · obtain ⟨b, x, rfl, _⟩ := h; rfl
  · obtain ⟨b, x, rfl, hx, hb, k⟩ := h
    have O_l_take := ok_l_take (P := P) (w := w) (base := base) T
    have hr_1 : Room 1 _ := hr.mono (by decide)
    refine ⟨_, (pss_cons (ps_set (i := 2) sc_l_any.nd rfl (Or.inl rfl) (pe_lst (pa_cons pe_non (pa_cons pe_int (pa_cons pe_int (pa_cons (pe_op op_sub (pe_op op_pow pe_int pe_int) pe_int) (pa_cons (pv 1) (pa_cons pe_str (pa_cons pe_bl (pa_cons (pe_tup (pa_cons (pv 1) pa_nil)) (pa_cons (pe_lst (pa_cons (pv 1) pa_nil)) pa_nil)))))))))))
      (pss_one (ps_ret (pe_ix (k_ixL K) (pv 2) (pe_call O_l_take hr_1 rfl T.m_l_take T.F_l_take.kp T.b_l_take .nil pass0 (pa_cons (pv 0) (pa_cons pe_int pa_nil))) (fun _ _ => rfl))))), ?_⟩
    walk_at "go"
    refine w_I ⟨by decide, by decide, by decide⟩ ?_
    walk_at "go"
    refine k_tup (by show 1 ≤ sizeLine; decide) fun t1 H1 n1 s1 h1 => ?_
    walk_at "go"
    refine k_lst (by show 1 ≤ sizeLine; decide) fun t2 H2 n2 s2 h2 => ?_
    walk_at "go"
    refine k_lst (by show 9 ≤ sizeLine; decide) fun L H3 nL s3 hL => ?_
    have st1 := Step.same hb s1
    have st2 := st1.more s2
    have st3 := st2.more s3
    have b1 := bag_new hb n1
    have b2 := bag_new st1.1 n2
    have bL := bag_new st2.1 nL
    have hall : DpAll K (off [b] H3) [V.non, .int 0, .int 7, .int (10 ^ Int.toNat 30 - 1), .str x, .str (Str.ofString ""), .bl true, .ref t1, .ref t2] (anyD8 x) :=
      .cons .non (.cons (.int _) (.cons (.int _) (.cons (.int _) (.cons (.str _) (.cons (.str _) (.cons (.bl _) (.cons (.tup (SqT.at (off_mk ((s2.trans s3) _ _ h1) (by rw [List.mem_singleton]; exact b1))) (.cons (.str _) .nil))
        (.cons (.lst (SqL.at (off_mk (s3 _ _ h2) (by rw [List.mem_singleton]; exact b2))) (.cons (.str _) .nil)) .nil))))))))
    walk_at "go"
    refine use_take st3.1 (by decide) (by decide) fun j G j0 j1 sG => ?_
    obtain ⟨y, d, ey, md, hy⟩ := dpAll_at (DpAll.mono sG.2 hall) j0 (by show j < 9; exact j1)
    obtain ⟨hd1, hd2⟩ := any8_ok hx d md
    refine w_ixL (SqL.at (sG.at hL bL)) ey ?_
    exact k y d G hy hd1 hd2 (st3.trans sG)
def wdL : List V := [2, 3, 4, 5, 6, 7].map fun j => V.str (nmS j)
def otL : List V := [8, 9, 11, 12, 14].map fun j => V.str (nmS j)
theorem wd_at {n : Nat} (h : n < 6) : atI wdL (n : Int) = some (.str (nmS (n + 2))) := by
  have hc : n = 0 ∨ n = 1 ∨ n = 2 ∨ n = 3 ∨ n = 4 ∨ n = 5 := by omega
  rcases hc with rfl | rfl | rfl | rfl | rfl | rfl <;> rfl
theorem ot_at {n : Nat} (h : n < 5) : atI otL (n : Int) = some (.str (nmS (idx2 n))) := by
  have hc : n = 0 ∨ n = 1 ∨ n = 2 ∨ n = 3 ∨ n = 4 := by omega
  rcases hc with rfl | rfl | rfl | rfl | rfl <;> rfl
theorem nm_ok : ∀ j : Fin 15, tmB 0 (.str (nmS j.1)) = true := by decide +kernel
theorem nmS_ok {j : Nat} (h : j < 15) : StrOk (nmS j) := strOk_lit (nm_ok ⟨j, h⟩)
theorem idx2_lt {n : Nat} (h : n < 5) : idx2 n < 15 := by
  have hc : n = 0 ∨ n = 1 ∨ n = 2 ∨ n = 3 ∨ n = 4 := by omega
  rcases hc with rfl | rfl | rfl | rfl | rfl <;> decide
theorem tup_ok {x : Str} {ds : List PyData} (hx : StrOk x) (h : ∀ d ∈ ds, Tm 1 d ∧ bnd d ≤ 2000) (hl : ds.length ≤ 2) : Tm 2 (.tuple (.str x :: ds)) ∧ bnd (.tuple (.str x :: ds)) ≤ 300000 := by
  refine ⟨.tup 1 _ fun d md => ?_, ?_⟩
  · rcases List.mem_cons.mp md with rfl | md
    · exact .str _ _ hx
    · exact (h d md).1
  · have hr := hx.rep
    show (reprText x).length + 2 + bndAll ds + 3 ≤ 300000
    have hb : bndAll ds ≤ 2002 * ds.length := by
      clear hl
      induction ds with
      | nil => exact Nat.le_refl _
      | cons d r ih =>
        have a := (h d List.mem_cons_self).2
        have b := ih fun e me => h e (List.mem_cons_of_mem _ me)
        show bnd d + 2 + bndAll r ≤ 2002 * (r.length + 1)
        omega
    omega
def spLaw (K : PySem.W.Frag) : Sp := fun vs H Q _ => ∃ (a : Addr) (ns : List Int), vs = [.ref a] ∧ SqL K H a (ns.map V.int) ∧ ns.length ≤ 63 ∧ ∀ H', Q (.bl true) H'
theorem spLaw_use (K : PySem.W.Frag) (H : Hp) (a : Addr) (ns : List Int) (hl : ns.length ≤ 63) (hS : SqL K H a (ns.map V.int)) : spLaw K [.ref a] H (fun v _ => v = .bl true) fun _ _ _ => False :=
  ⟨a, ns, rfl, hS, hl, fun _ => rfl⟩
theorem ok_law (T : Gk K mg g) : FnG P w K mg base CX0 4 g.f_law g.d_law ["_law_script"] (spLaw K) := by
  refine funG_ok T.F_law sc_law (fun vs H Q E h => ?_) (fun cdv A outer s H vs Q E hr hc h => ?_)
  · obtain ⟨a, ns, rfl, _⟩ := h; rfl
  · obtain ⟨a, ns0, rfl, hS, hlen, k⟩ := h
    have O_l_any := ok_l_any (P := P) (w := w) (base := base) T
    have O_l_bag := ok_l_bag (P := P) (w := w) (base := base) T
    have O_l_first := ok_l_first (P := P) (w := w) (base := base) T
    have O_l_names := ok_l_names (P := P) (w := w) (base := base) T
    have O_l_second := ok_l_second (P := P) (w := w) (base := base) T
    have O_l_third := ok_l_third (P := P) (w := w) (base := base) T
    have hr_1 : Room 1 _ := hr.mono (by decide)
    have hr_2 : Room 2 _ := hr.mono (by decide)
    have hr_3 : Room 3 _ := hr.mono (by decide)
    refine ⟨_, (pss_cons (ps_set (i := 1) sc_law.nd rfl (Or.inl rfl) (pe_lst (pa_cons pe_str (pa_cons pe_str (pa_cons pe_str (pa_cons pe_str (pa_cons pe_str (pa_cons pe_str pa_nil))))))))
      (pss_cons (ps_set (i := 2) sc_law.nd rfl (Or.inl rfl) (pe_lst (pa_cons pe_str (pa_cons pe_str (pa_cons pe_str (pa_cons pe_str (pa_cons pe_str pa_nil)))))))
      (pss_cons (ps_for PassesOwn.never rfl (pi_range1 (by rfl) T.z_range (pa_cons (pe_callB k_max2 (by rfl) T.z_max (by decide +kernel) (pa_cons pe_int (pa_cons (pe_callB k_min2 (by rfl) T.z_min (by decide +kernel) (pa_cons pe_int (pa_cons (pe_callB (k_len K) (by rfl) T.z_len (by decide +kernel) (pa_cons (pv 0) pa_nil)) pa_nil))) pa_nil))) pa_nil)) (pg_name (i := 3) sc_law.nd rfl (Or.inl rfl)) (pss_cons (ps_set (i := 4) sc_law.nd rfl (Or.inl rfl) (pe_call O_l_bag hr_1 rfl T.m_l_bag T.F_l_bag.kp T.b_l_bag .nil pass0 (pa_cons (pv 0) (pa_cons (pv 3) pa_nil))))
      (pss_cons (ps_set (i := 5) sc_law.nd rfl (Or.inl rfl) (pe_ix (k_ixT K) (pe_call O_l_names hr_2 rfl T.m_l_names T.F_l_names.kp T.b_l_names .nil pass0 (pa_cons (pv 4) (pa_cons pe_int pa_nil))) pe_int (fun _ _ => rfl)))
      (pss_cons (ps_for PassesOwn.never rfl (pi_range1 (by rfl) T.z_range (pa_cons pe_int pa_nil)) (pg_name (i := 6) sc_law.nd rfl (Or.inl rfl)) (pss_cons (ps_par (i := 7) (j := 8) (by rfl) sc_law.nd rfl rfl (by decide) rfl rfl (pa_cons (pe_call O_l_any hr_2 rfl T.m_l_any T.F_l_any.kp T.b_l_any .nil pass0 (pa_cons (pv 4) (pa_cons (pv 5) pa_nil))) (pa_cons (pe_call O_l_any hr_2 rfl T.m_l_any T.F_l_any.kp T.b_l_any .nil pass0 (pa_cons (pv 4) (pa_cons (pv 5) pa_nil))) pa_nil)) (by rfl))
      (pss_one (ps_if (pt_cmpR op_ne (pe_callB (k_repr K hr hc) (by rfl) T.z_repr (by decide +kernel) (pa_cons (pe_call O_l_first hr_3 rfl T.m_l_first T.F_l_first.kp T.b_l_first .nil pass0 (pa_cons (pv 7) (pa_cons (pv 8) (pa_cons (pv 6) pa_nil)))) pa_nil)) (pe_callB (k_repr K hr hc) (by rfl) T.z_repr (by decide +kernel) (pa_cons (pe_tup (pa_cons (pe_ix (k_ixL K) (pv 1) (pv 6) (fun _ _ => rfl)) (pa_cons (pv 7) (pa_cons (pv 8) pa_nil)))) pa_nil)) (nomark _)) (pss_one (ps_ret pe_bl)) pss_nil))))
      (pss_one (ps_for PassesOwn.never rfl (pi_range1 (by rfl) T.z_range (pa_cons pe_int pa_nil)) (pg_name (i := 6) sc_law.nd rfl (Or.inl rfl)) (pss_cons (ps_set (i := 7) sc_law.nd rfl (Or.inl rfl) (pe_call O_l_any hr_2 rfl T.m_l_any T.F_l_any.kp T.b_l_any .nil pass0 (pa_cons (pv 4) (pa_cons (pv 5) pa_nil))))
      (pss_one (ps_if (pt_cmpR op_ne (pe_callB (k_repr K hr hc) (by rfl) T.z_repr (by decide +kernel) (pa_cons (pe_call O_l_second hr_3 rfl T.m_l_second T.F_l_second.kp T.b_l_second .nil pass0 (pa_cons (pv 7) (pa_cons (pv 6) pa_nil))) pa_nil)) (pe_callB (k_repr K hr hc) (by rfl) T.z_repr (by decide +kernel) (pa_cons (pe_tup (pa_cons (pe_ix (k_ixL K) (pv 2) (pv 6) (fun _ _ => rfl)) (pa_cons (pv 7) pa_nil))) pa_nil)) (nomark _)) (pss_one (ps_ret pe_bl)) pss_nil)))))))))
      (pss_one (ps_ret (pe_cmpR (k_eqD K hr) (pe_lc (own := [("_law_way", 6)]) (g := (gName 6)) rfl sc_law.nd (pi_range1 (by rfl) T.z_range (pa_cons pe_int pa_nil)) (blkOk_by (N := ["_law_script", "_law_words", "_law_others", "_law_at", "_law_bag_here", "_law_hand", "_law_way", "_law_one", "_law_other"]) (sc := defScope s_law) (by decide +kernel)) (fun _ _ _ _ _ => pg_name (i := 6) sc_law.nd rfl (Or.inl rfl)) (fun _ _ _ _ _ => pts_nil) (fun _ _ _ _ _ => (pe_call O_l_third hr_2 rfl T.m_l_third T.F_l_third.kp T.b_l_third .nil pass0 (pa_cons (pv 6) pa_nil)))) (pe_lst (pa_cons pe_str (pa_cons pe_str (pa_cons pe_str (pa_cons pe_str pa_nil))))) (nomark _))))))), ?_⟩
    walk_at "go"
    refine k_lst (by show 6 ≤ sizeLine; decide) fun lw H1 n1 s1 h1 => ?_
    walk_at "go"
    refine k_lst (by show 5 ≤ sizeLine; decide) fun lo H2 n2 s2 h2 => ?_
    have h1 : H2 lw = some (.lst wdL) := s2 _ _ h1
    have h2 : H2 lo = some (.lst otL) := h2
    have hS := (s1.trans s2).seq hS
    clear s1 s2 n1 n2
    walk_at "go"
    refine w_lenL hS ?_
    walk_at "go"
    rw [List.length_map]
    refine ⟨_, rfl, by split <;> split <;> omega, by split <;> split <;> omega, ?_⟩
    refine k_forR (fun i σ H' => (∃ v3 v4 v5 v6 v7 v8 : Option V, σ = [some (.ref a), some (.ref lw), some (.ref lo), v3, v4, v5, v6, v7, v8]) ∧ Same H2 H') ⟨⟨_, _, _, _, _, _, rfl⟩, Same.refl _⟩ ?_ ?_
    · rintro at_ σ H3 hat ⟨⟨v3, v4, v5, v6, v7, v8, rfl⟩, s3⟩
      have hat8 : at_ < 8 := by
        revert hat
        split <;> split <;> omega
      walk_at "go"
      refine use_bag (s3.seq hS) hlen hat8 fun b H4 nb s4 hb => ?_
      walk_at "go"
      refine use_names (many := 1) hb (by decide) (by decide) fun t xs H5 nm nl nt s5 ht => ?_
      obtain ⟨x, rfl⟩ : ∃ x, xs = [x] := by
        match xs, nl with
        | [x], _ => exact ⟨x, rfl⟩
      have hx := (nm.ok x List.mem_cons_self).strOk
      refine w_ixT (SqT.at ht) rfl ?_
      walk_at "go"
      refine ⟨_, rfl, by decide, by decide, ?_⟩
      have e1 : H4 lw = some (.lst wdL) := s4 _ _ (s3 _ _ h1)
      have e2 : H4 lo = some (.lst otL) := s4 _ _ (s3 _ _ h2)
      have nbw : lw ≠ b := ne_of_none (s3 _ _ h1) nb
      have nbo : lo ≠ b := ne_of_none (s3 _ _ h2) nb
      refine k_forR (fun i σ H' => (∃ v6 v7 v8 : Option V, σ = [some (.ref a), some (.ref lw), some (.ref lo), some (.int at_), some (.ref b), some (.str x), v6, v7, v8]) ∧ Step b H4 H') ⟨⟨_, _, _, rfl⟩, s5⟩ ?_ ?_
      · rintro way σ H6 hw ⟨⟨v6, v7, v8, rfl⟩, s6⟩
        have hw : way < 6 := hw
        walk_at "go"
        refine use_any8 hx s6.1 fun u1 d1 H7 hu1 t1 b1 s7 => ?_
        walk_at "go"
        have st7 := s6.trans s7
        refine use_any8 hx st7.1 fun u2 d2 H8 hu2 t2 b2 s8 => ?_
        have st8 := st7.trans s8
        refine ⟨_, _, rfl, ?_⟩
        walk_at "go"
        refine use_first hw fun p H9 np s9 hp => ?_
        have st9 := st8.more s9
        have f1 := Dp.mono off_sub (Dp.mono (s8.more s9).2 hu1)
        have f2 := Dp.mono off_sub (Dp.mono (Step.same st8.1 s9).2 hu2)
        obtain ⟨tm, bb⟩ := tup_ok (nmS_ok (show way + 2 < 15 by omega)) (ds := [d1, d2]) (fun d md => by
          rcases List.mem_cons.mp md with rfl | md
          · exact ⟨t1, b1⟩
          · rw [List.mem_singleton] at md
            subst md
            exact ⟨t2, b2⟩) (Nat.le_refl _)
        walk_at "go"
        refine thing_repr (.tup (SqT.at hp) (.cons (.str _) (.cons f1 (.cons f2 .nil)))) tm (by decide) bb ?_
        walk_at "go"
        refine w_ixL (SqL.at (st9.at e1 nbw)) (wd_at hw) ?_
        walk_at "go"
        refine k_tup (by show 3 ≤ sizeLine; decide) fun q H10 nq s10 hq => ?_
        walk_at "go"
        refine thing_repr (.tup (SqT.at hq) (.cons (.str _) (.cons (Dp.mono s10 f1) (.cons (Dp.mono s10 f2) .nil)))) tm (by decide) bb ?_
        refine w_ne rfl ?_
        rw [decide_eq_true rfl]
        walk_at "go"
        refine iteF ?_
        walk_at "go"
        exact ⟨⟨_, _, _, rfl⟩, st9.more s10⟩
      · rintro σ H6 ⟨⟨v6, v7, v8, rfl⟩, s6⟩
        walk_at "go"
        refine ⟨_, rfl, by decide, by decide, ?_⟩
        refine k_forR (fun i σ H' => (∃ v6 v7 v8 : Option V, σ = [some (.ref a), some (.ref lw), some (.ref lo), some (.int at_), some (.ref b), some (.str x), v6, v7, v8]) ∧ Step b H4 H') ⟨⟨_, _, _, rfl⟩, s6⟩ ?_ ?_
        · rintro way σ H7 hw ⟨⟨v6, v7, v8, rfl⟩, s7⟩
          have hw : way < 5 := hw
          walk_at "go"
          refine use_any8 hx s7.1 fun u1 d1 H8 hu1 t1 b1 s8 => ?_
          walk_at "go"
          have st8 := s7.trans s8
          refine use_second hw fun p H9 np s9 hp => ?_
          have st9 := st8.more s9
          have f1 := Dp.mono off_sub (Dp.mono (Step.same st8.1 s9).2 hu1)
          obtain ⟨tm, bb⟩ := tup_ok (nmS_ok (idx2_lt hw)) (ds := [d1]) (fun d md => by
            rw [List.mem_singleton] at md
            subst md
            exact ⟨t1, b1⟩) (by show 1 ≤ 2; decide)
          walk_at "go"
          refine thing_repr (.tup (SqT.at hp) (.cons (.str _) (.cons f1 .nil))) tm (by decide) bb ?_
          walk_at "go"
          refine w_ixL (SqL.at (st9.at e2 nbo)) (ot_at hw) ?_
          walk_at "go"
          refine k_tup (by show 2 ≤ sizeLine; decide) fun q H10 nq s10 hq => ?_
          walk_at "go"
          refine thing_repr (.tup (SqT.at hq) (.cons (.str _) (.cons (Dp.mono s10 f1) .nil))) tm (by decide) bb ?_
          refine w_ne rfl ?_
          rw [decide_eq_true rfl]
          walk_at "go"
          refine iteF ?_
          walk_at "go"
          exact ⟨⟨_, _, _, rfl⟩, st9.more s10⟩
        · rintro σ H7 ⟨⟨v6, v7, v8, rfl⟩, s7⟩
          exact ⟨⟨_, _, _, _, _, _, rfl⟩, s3.trans (s7.old s4 nb)⟩
    · rintro σ H3 ⟨⟨v3, v4, v5, v6, v7, v8, rfl⟩, s3⟩
      walk_at "go"
      refine ⟨_, rfl, by decide, by decide, ?_⟩
      refine i_lcR (n := 4) (fun _ => true) (fun i => .str (nmS (idx3 i))) (by decide) (fun i hi => turn_name (fun _ => rfl) ?_ ?_) fun D H4 nD s4 hD => ?_
      · intro H' s' Q' k'
        walk_at "go"
        exact k' _ (Same.refl _)
      · intro _ H' s' Q' k'
        walk_at "go"
        refine use_third hi fun H5 s5 => ?_
        exact k' _ s5
      rw [madeI_all] at hD
      walk_at "go"
      refine k_lst (by show 4 ≤ sizeLine; decide) fun L H5 nL s5 hL => ?_
      have sh : ∀ (ds : List PyData), ds = ([0, 1, 10, 13].map fun j => PyData.str (nmS j)) → SeqAt.shaped (.list ds) = true := fun ds e => (Tm.lst 0 ds fun d md => by
        subst e
        obtain ⟨j, mj, rfl⟩ := List.mem_map.mp md
        exact .str _ _ (nmS_ok (by
          simp only [List.mem_cons, List.mem_nil_iff, or_false] at mj
          omega))).shaped (by decide)
      refine w_eqD (d := .list ([0, 1, 10, 13].map fun j => PyData.str (nmS j))) (e := .list ([0, 1, 10, 13].map fun j => PyData.str (nmS j))) (.lst (SqL.at (s5 _ _ hD)) (.cons (.str _) (.cons (.str _) (.cons (.str _) (.cons (.str _) .nil))))) (.lst (SqL.at hL) (.cons (.str _) (.cons (.str _) (.cons (.str _) (.cons (.str _) .nil))))) (sh _ rfl) (sh _ rfl) ?_
      rw [show PyData.eqv (.list ([0, 1, 10, 13].map fun j => PyData.str (nmS j))) (.list ([0, 1, 10, 13].map fun j => PyData.str (nmS j))) = true from by decide +kernel]
      exact k _
end
theorem all_mk {P : Program} {w : World} {K : PySem.W.Frag} {h : Heap} {mg : Str → Option Value} {fa : Addr} (X : K.In h) (G : h.Ns mainGlobals mg) (hfa : mg "law" = some (.ref fa))
    {c_NoBand : Addr}
    {c_NoWatch : Addr}
    {c_NoWord : Addr}
    {c_NoMinutes : Addr}
    {c_NoHistory : Addr}
    {c_NoText : Addr}
    {c_NoRow : Addr}
    {c_Stands : Addr}
    {c_NoHand : Addr}
    {c_NoLabel : Addr}
    {c_NoAsk : Addr}
    {c_NoBeat : Addr}
    {c_TooMany : Addr}
    {c_Open : Addr}
    {c_Bound : Addr}
    {f_NoWord_init : Addr} {od_NoWord_init an_NoWord_init : Option Addr} {sl_NoWord_init : Array (Option Value)} {oc_NoWord_init kV_NoWord_init dc_NoWord_init pm_NoWord_init cd_NoWord_init ct_NoWord_init : Value}
    {f_NoMinutes_init : Addr} {od_NoMinutes_init an_NoMinutes_init : Option Addr} {sl_NoMinutes_init : Array (Option Value)} {oc_NoMinutes_init kV_NoMinutes_init dc_NoMinutes_init pm_NoMinutes_init cd_NoMinutes_init ct_NoMinutes_init : Value}
    {f_NoHistory_init : Addr} {od_NoHistory_init an_NoHistory_init : Option Addr} {sl_NoHistory_init : Array (Option Value)} {oc_NoHistory_init kV_NoHistory_init dc_NoHistory_init pm_NoHistory_init cd_NoHistory_init ct_NoHistory_init : Value}
    {f_NoText_init : Addr} {od_NoText_init an_NoText_init : Option Addr} {sl_NoText_init : Array (Option Value)} {oc_NoText_init kV_NoText_init dc_NoText_init pm_NoText_init cd_NoText_init ct_NoText_init : Value}
    {f_NoRow_init : Addr} {od_NoRow_init an_NoRow_init : Option Addr} {sl_NoRow_init : Array (Option Value)} {oc_NoRow_init kV_NoRow_init dc_NoRow_init pm_NoRow_init cd_NoRow_init ct_NoRow_init : Value}
    {f_Stands_init : Addr} {od_Stands_init an_Stands_init : Option Addr} {sl_Stands_init : Array (Option Value)} {oc_Stands_init kV_Stands_init dc_Stands_init pm_Stands_init cd_Stands_init ct_Stands_init : Value}
    {f_NoHand_init : Addr} {od_NoHand_init an_NoHand_init : Option Addr} {sl_NoHand_init : Array (Option Value)} {oc_NoHand_init kV_NoHand_init dc_NoHand_init pm_NoHand_init cd_NoHand_init ct_NoHand_init : Value}
    {f_NoLabel_init : Addr} {od_NoLabel_init an_NoLabel_init : Option Addr} {sl_NoLabel_init : Array (Option Value)} {oc_NoLabel_init kV_NoLabel_init dc_NoLabel_init pm_NoLabel_init cd_NoLabel_init ct_NoLabel_init : Value}
    {f_NoBeat_init : Addr} {od_NoBeat_init an_NoBeat_init : Option Addr} {sl_NoBeat_init : Array (Option Value)} {oc_NoBeat_init kV_NoBeat_init dc_NoBeat_init pm_NoBeat_init cd_NoBeat_init ct_NoBeat_init : Value}
    {f_TooMany_init : Addr} {od_TooMany_init an_TooMany_init : Option Addr} {sl_TooMany_init : Array (Option Value)} {oc_TooMany_init kV_TooMany_init dc_TooMany_init pm_TooMany_init cd_TooMany_init ct_TooMany_init : Value}
    {f_Bound_init : Addr} {od_Bound_init an_Bound_init : Option Addr} {sl_Bound_init : Array (Option Value)} {oc_Bound_init kV_Bound_init dc_Bound_init pm_Bound_init cd_Bound_init ct_Bound_init : Value}
    {f_l_bag : Addr} {od_l_bag an_l_bag : Option Addr} {sl_l_bag : Array (Option Value)} {oc_l_bag kV_l_bag dc_l_bag pm_l_bag cd_l_bag ct_l_bag : Value}
    {f_l_take : Addr} {od_l_take an_l_take : Option Addr} {sl_l_take : Array (Option Value)} {oc_l_take kV_l_take dc_l_take pm_l_take cd_l_take ct_l_take : Value}
    {f_l_names : Addr} {od_l_names an_l_names : Option Addr} {sl_l_names : Array (Option Value)} {oc_l_names kV_l_names dc_l_names pm_l_names cd_l_names ct_l_names : Value}
    {f_l_kind : Addr} {od_l_kind an_l_kind : Option Addr} {sl_l_kind : Array (Option Value)} {oc_l_kind kV_l_kind dc_l_kind pm_l_kind cd_l_kind ct_l_kind : Value}
    {f_l_any : Addr} {od_l_any an_l_any : Option Addr} {sl_l_any : Array (Option Value)} {oc_l_any kV_l_any dc_l_any pm_l_any cd_l_any ct_l_any : Value}
    {f_l_first : Addr} {od_l_first an_l_first : Option Addr} {sl_l_first : Array (Option Value)} {oc_l_first kV_l_first dc_l_first pm_l_first cd_l_first ct_l_first : Value}
    {f_l_second : Addr} {od_l_second an_l_second : Option Addr} {sl_l_second : Array (Option Value)} {oc_l_second kV_l_second dc_l_second pm_l_second cd_l_second ct_l_second : Value}
    {f_l_third : Addr} {od_l_third an_l_third : Option Addr} {sl_l_third : Array (Option Value)} {oc_l_third kV_l_third dc_l_third pm_l_third cd_l_third ct_l_third : Value}
    {f_law : Addr} {od_law an_law : Option Addr} {sl_law : Array (Option Value)} {oc_law kV_law dc_law pm_law cd_law ct_law : Value}
    (a_NoBand : PySem.W.nsIn K mainGlobals "NoBand" = some (some (.ref c_NoBand)))
    (xi_NoBand : PySem.W.excIn K c_NoBand [.type "ValueError", .type "Exception", .type "BaseException", .type "object"] "ValueError.__new__" = true)
    (a_NoWatch : PySem.W.nsIn K mainGlobals "NoWatch" = some (some (.ref c_NoWatch)))
    (xi_NoWatch : PySem.W.excIn K c_NoWatch [.type "ValueError", .type "Exception", .type "BaseException", .type "object"] "ValueError.__new__" = true)
    (a_NoWord : PySem.W.nsIn K mainGlobals "NoWord" = some (some (.ref c_NoWord)))
    (xo_NoWord : oexB K c_NoWord "ValueError.__new__" bmV = true)
    (nf_NoWord_name : PySem.W.findIn K (.ref c_NoWord) "name" = some none)
    (a_NoMinutes : PySem.W.nsIn K mainGlobals "NoMinutes" = some (some (.ref c_NoMinutes)))
    (xo_NoMinutes : oexB K c_NoMinutes "ValueError.__new__" bmV = true)
    (nf_NoMinutes_at : PySem.W.findIn K (.ref c_NoMinutes) "at" = some none)
    (a_NoHistory : PySem.W.nsIn K mainGlobals "NoHistory" = some (some (.ref c_NoHistory)))
    (xo_NoHistory : oexB K c_NoHistory "ValueError.__new__" bmV = true)
    (nf_NoHistory_at : PySem.W.findIn K (.ref c_NoHistory) "at" = some none)
    (a_NoText : PySem.W.nsIn K mainGlobals "NoText" = some (some (.ref c_NoText)))
    (xo_NoText : oexB K c_NoText "ValueError.__new__" bmV = true)
    (nf_NoText_row : PySem.W.findIn K (.ref c_NoText) "row" = some none)
    (nf_NoText_place : PySem.W.findIn K (.ref c_NoText) "place" = some none)
    (a_NoRow : PySem.W.nsIn K mainGlobals "NoRow" = some (some (.ref c_NoRow)))
    (xo_NoRow : oexB K c_NoRow "ValueError.__new__" bmV = true)
    (nf_NoRow_place : PySem.W.findIn K (.ref c_NoRow) "place" = some none)
    (a_Stands : PySem.W.nsIn K mainGlobals "Stands" = some (some (.ref c_Stands)))
    (xo_Stands : oexB K c_Stands "ValueError.__new__" bmV = true)
    (nf_Stands_name : PySem.W.findIn K (.ref c_Stands) "name" = some none)
    (a_NoHand : PySem.W.nsIn K mainGlobals "NoHand" = some (some (.ref c_NoHand)))
    (xo_NoHand : oexB K c_NoHand "LookupError.__new__" bmK = true)
    (nf_NoHand_name : PySem.W.findIn K (.ref c_NoHand) "name" = some none)
    (a_NoLabel : PySem.W.nsIn K mainGlobals "NoLabel" = some (some (.ref c_NoLabel)))
    (xo_NoLabel : oexB K c_NoLabel "LookupError.__new__" bmK = true)
    (nf_NoLabel_label : PySem.W.findIn K (.ref c_NoLabel) "label" = some none)
    (a_NoAsk : PySem.W.nsIn K mainGlobals "NoAsk" = some (some (.ref c_NoAsk)))
    (xi_NoAsk : PySem.W.excIn K c_NoAsk [.type "LookupError", .type "Exception", .type "BaseException", .type "object"] "LookupError.__new__" = true)
    (a_NoBeat : PySem.W.nsIn K mainGlobals "NoBeat" = some (some (.ref c_NoBeat)))
    (xo_NoBeat : oexB K c_NoBeat "IndexError.__new__" bmI = true)
    (nf_NoBeat_at : PySem.W.findIn K (.ref c_NoBeat) "at" = some none)
    (a_TooMany : PySem.W.nsIn K mainGlobals "TooMany" = some (some (.ref c_TooMany)))
    (xo_TooMany : oexB K c_TooMany "OverflowError.__new__" bmO = true)
    (nf_TooMany_most : PySem.W.findIn K (.ref c_TooMany) "most" = some none)
    (a_Open : PySem.W.nsIn K mainGlobals "Open" = some (some (.ref c_Open)))
    (xi_Open : PySem.W.excIn K c_Open [.type "RuntimeError", .type "Exception", .type "BaseException", .type "object"] "RuntimeError.__new__" = true)
    (a_Bound : PySem.W.nsIn K mainGlobals "Bound" = some (some (.ref c_Bound)))
    (xo_Bound : oexB K c_Bound "RuntimeError.__new__" bmR = true)
    (nf_Bound_label : PySem.W.findIn K (.ref c_Bound) "label" = some none)
    (kk_all : kindsB K [c_NoBand, c_NoWatch, c_NoWord, c_NoMinutes, c_NoHistory, c_NoText, c_NoRow, c_Stands, c_NoHand, c_NoLabel, c_NoAsk, c_NoBeat, c_TooMany, c_Open, c_Bound] = true)
    (a_NoWord_init : PySem.W.findIn K (.ref c_NoWord) "__init__" = some (some (.ref f_NoWord_init)))
    (i_NoWord_init : PySem.W.isFn K (.ref f_NoWord_init) = true)
    (l_NoWord_init : K.lookup f_NoWord_init = some ⟨oc_NoWord_init, od_NoWord_init, .func (PySem.W.fnOf "__init__" "NoWord.__init__" (defArgs s_NoWord_init) (defBody s_NoWord_init) (defScope s_NoWord_init) .none kV_NoWord_init dc_NoWord_init pm_NoWord_init an_NoWord_init cd_NoWord_init ct_NoWord_init), sl_NoWord_init⟩)
    (c_NoWord_init : PySem.W.codeIn K cd_NoWord_init "NoWord.__init__" = true)
    (k_NoWord_init : PySem.W.keepIn K (.ref f_NoWord_init) = true)
    (ti_NoWord : PySem.W.typeIn K (.ref f_NoWord_init) = some (.type "function"))
    (a_NoMinutes_init : PySem.W.findIn K (.ref c_NoMinutes) "__init__" = some (some (.ref f_NoMinutes_init)))
    (i_NoMinutes_init : PySem.W.isFn K (.ref f_NoMinutes_init) = true)
    (l_NoMinutes_init : K.lookup f_NoMinutes_init = some ⟨oc_NoMinutes_init, od_NoMinutes_init, .func (PySem.W.fnOf "__init__" "NoMinutes.__init__" (defArgs s_NoMinutes_init) (defBody s_NoMinutes_init) (defScope s_NoMinutes_init) .none kV_NoMinutes_init dc_NoMinutes_init pm_NoMinutes_init an_NoMinutes_init cd_NoMinutes_init ct_NoMinutes_init), sl_NoMinutes_init⟩)
    (c_NoMinutes_init : PySem.W.codeIn K cd_NoMinutes_init "NoMinutes.__init__" = true)
    (k_NoMinutes_init : PySem.W.keepIn K (.ref f_NoMinutes_init) = true)
    (ti_NoMinutes : PySem.W.typeIn K (.ref f_NoMinutes_init) = some (.type "function"))
    (a_NoHistory_init : PySem.W.findIn K (.ref c_NoHistory) "__init__" = some (some (.ref f_NoHistory_init)))
    (i_NoHistory_init : PySem.W.isFn K (.ref f_NoHistory_init) = true)
    (l_NoHistory_init : K.lookup f_NoHistory_init = some ⟨oc_NoHistory_init, od_NoHistory_init, .func (PySem.W.fnOf "__init__" "NoHistory.__init__" (defArgs s_NoHistory_init) (defBody s_NoHistory_init) (defScope s_NoHistory_init) .none kV_NoHistory_init dc_NoHistory_init pm_NoHistory_init an_NoHistory_init cd_NoHistory_init ct_NoHistory_init), sl_NoHistory_init⟩)
    (c_NoHistory_init : PySem.W.codeIn K cd_NoHistory_init "NoHistory.__init__" = true)
    (k_NoHistory_init : PySem.W.keepIn K (.ref f_NoHistory_init) = true)
    (ti_NoHistory : PySem.W.typeIn K (.ref f_NoHistory_init) = some (.type "function"))
    (a_NoText_init : PySem.W.findIn K (.ref c_NoText) "__init__" = some (some (.ref f_NoText_init)))
    (i_NoText_init : PySem.W.isFn K (.ref f_NoText_init) = true)
    (l_NoText_init : K.lookup f_NoText_init = some ⟨oc_NoText_init, od_NoText_init, .func (PySem.W.fnOf "__init__" "NoText.__init__" (defArgs s_NoText_init) (defBody s_NoText_init) (defScope s_NoText_init) .none kV_NoText_init dc_NoText_init pm_NoText_init an_NoText_init cd_NoText_init ct_NoText_init), sl_NoText_init⟩)
    (c_NoText_init : PySem.W.codeIn K cd_NoText_init "NoText.__init__" = true)
    (k_NoText_init : PySem.W.keepIn K (.ref f_NoText_init) = true)
    (ti_NoText : PySem.W.typeIn K (.ref f_NoText_init) = some (.type "function"))
    (a_NoRow_init : PySem.W.findIn K (.ref c_NoRow) "__init__" = some (some (.ref f_NoRow_init)))
    (i_NoRow_init : PySem.W.isFn K (.ref f_NoRow_init) = true)
    (l_NoRow_init : K.lookup f_NoRow_init = some ⟨oc_NoRow_init, od_NoRow_init, .func (PySem.W.fnOf "__init__" "NoRow.__init__" (defArgs s_NoRow_init) (defBody s_NoRow_init) (defScope s_NoRow_init) .none kV_NoRow_init dc_NoRow_init pm_NoRow_init an_NoRow_init cd_NoRow_init ct_NoRow_init), sl_NoRow_init⟩)
    (c_NoRow_init : PySem.W.codeIn K cd_NoRow_init "NoRow.__init__" = true)
    (k_NoRow_init : PySem.W.keepIn K (.ref f_NoRow_init) = true)
    (ti_NoRow : PySem.W.typeIn K (.ref f_NoRow_init) = some (.type "function"))
    (a_Stands_init : PySem.W.findIn K (.ref c_Stands) "__init__" = some (some (.ref f_Stands_init)))
    (i_Stands_init : PySem.W.isFn K (.ref f_Stands_init) = true)
    (l_Stands_init : K.lookup f_Stands_init = some ⟨oc_Stands_init, od_Stands_init, .func (PySem.W.fnOf "__init__" "Stands.__init__" (defArgs s_Stands_init) (defBody s_Stands_init) (defScope s_Stands_init) .none kV_Stands_init dc_Stands_init pm_Stands_init an_Stands_init cd_Stands_init ct_Stands_init), sl_Stands_init⟩)
    (c_Stands_init : PySem.W.codeIn K cd_Stands_init "Stands.__init__" = true)
    (k_Stands_init : PySem.W.keepIn K (.ref f_Stands_init) = true)
    (ti_Stands : PySem.W.typeIn K (.ref f_Stands_init) = some (.type "function"))
    (a_NoHand_init : PySem.W.findIn K (.ref c_NoHand) "__init__" = some (some (.ref f_NoHand_init)))
    (i_NoHand_init : PySem.W.isFn K (.ref f_NoHand_init) = true)
    (l_NoHand_init : K.lookup f_NoHand_init = some ⟨oc_NoHand_init, od_NoHand_init, .func (PySem.W.fnOf "__init__" "NoHand.__init__" (defArgs s_NoHand_init) (defBody s_NoHand_init) (defScope s_NoHand_init) .none kV_NoHand_init dc_NoHand_init pm_NoHand_init an_NoHand_init cd_NoHand_init ct_NoHand_init), sl_NoHand_init⟩)
    (c_NoHand_init : PySem.W.codeIn K cd_NoHand_init "NoHand.__init__" = true)
    (k_NoHand_init : PySem.W.keepIn K (.ref f_NoHand_init) = true)
    (ti_NoHand : PySem.W.typeIn K (.ref f_NoHand_init) = some (.type "function"))
    (a_NoLabel_init : PySem.W.findIn K (.ref c_NoLabel) "__init__" = some (some (.ref f_NoLabel_init)))
    (i_NoLabel_init : PySem.W.isFn K (.ref f_NoLabel_init) = true)
    (l_NoLabel_init : K.lookup f_NoLabel_init = some ⟨oc_NoLabel_init, od_NoLabel_init, .func (PySem.W.fnOf "__init__" "NoLabel.__init__" (defArgs s_NoLabel_init) (defBody s_NoLabel_init) (defScope s_NoLabel_init) .none kV_NoLabel_init dc_NoLabel_init pm_NoLabel_init an_NoLabel_init cd_NoLabel_init ct_NoLabel_init), sl_NoLabel_init⟩)
    (c_NoLabel_init : PySem.W.codeIn K cd_NoLabel_init "NoLabel.__init__" = true)
    (k_NoLabel_init : PySem.W.keepIn K (.ref f_NoLabel_init) = true)
    (ti_NoLabel : PySem.W.typeIn K (.ref f_NoLabel_init) = some (.type "function"))
    (a_NoBeat_init : PySem.W.findIn K (.ref c_NoBeat) "__init__" = some (some (.ref f_NoBeat_init)))
    (i_NoBeat_init : PySem.W.isFn K (.ref f_NoBeat_init) = true)
    (l_NoBeat_init : K.lookup f_NoBeat_init = some ⟨oc_NoBeat_init, od_NoBeat_init, .func (PySem.W.fnOf "__init__" "NoBeat.__init__" (defArgs s_NoBeat_init) (defBody s_NoBeat_init) (defScope s_NoBeat_init) .none kV_NoBeat_init dc_NoBeat_init pm_NoBeat_init an_NoBeat_init cd_NoBeat_init ct_NoBeat_init), sl_NoBeat_init⟩)
    (c_NoBeat_init : PySem.W.codeIn K cd_NoBeat_init "NoBeat.__init__" = true)
    (k_NoBeat_init : PySem.W.keepIn K (.ref f_NoBeat_init) = true)
    (ti_NoBeat : PySem.W.typeIn K (.ref f_NoBeat_init) = some (.type "function"))
    (a_TooMany_init : PySem.W.findIn K (.ref c_TooMany) "__init__" = some (some (.ref f_TooMany_init)))
    (i_TooMany_init : PySem.W.isFn K (.ref f_TooMany_init) = true)
    (l_TooMany_init : K.lookup f_TooMany_init = some ⟨oc_TooMany_init, od_TooMany_init, .func (PySem.W.fnOf "__init__" "TooMany.__init__" (defArgs s_TooMany_init) (defBody s_TooMany_init) (defScope s_TooMany_init) .none kV_TooMany_init dc_TooMany_init pm_TooMany_init an_TooMany_init cd_TooMany_init ct_TooMany_init), sl_TooMany_init⟩)
    (c_TooMany_init : PySem.W.codeIn K cd_TooMany_init "TooMany.__init__" = true)
    (k_TooMany_init : PySem.W.keepIn K (.ref f_TooMany_init) = true)
    (ti_TooMany : PySem.W.typeIn K (.ref f_TooMany_init) = some (.type "function"))
    (a_Bound_init : PySem.W.findIn K (.ref c_Bound) "__init__" = some (some (.ref f_Bound_init)))
    (i_Bound_init : PySem.W.isFn K (.ref f_Bound_init) = true)
    (l_Bound_init : K.lookup f_Bound_init = some ⟨oc_Bound_init, od_Bound_init, .func (PySem.W.fnOf "__init__" "Bound.__init__" (defArgs s_Bound_init) (defBody s_Bound_init) (defScope s_Bound_init) .none kV_Bound_init dc_Bound_init pm_Bound_init an_Bound_init cd_Bound_init ct_Bound_init), sl_Bound_init⟩)
    (c_Bound_init : PySem.W.codeIn K cd_Bound_init "Bound.__init__" = true)
    (k_Bound_init : PySem.W.keepIn K (.ref f_Bound_init) = true)
    (ti_Bound : PySem.W.typeIn K (.ref f_Bound_init) = some (.type "function"))
    (a_l_bag : PySem.W.nsIn K mainGlobals "_law_bag" = some (some (.ref f_l_bag)))
    (l_l_bag : K.lookup f_l_bag = some ⟨oc_l_bag, od_l_bag, .func (PySem.W.fnOf "_law_bag" "_law_bag" (defArgs s_l_bag) (defBody s_l_bag) (defScope s_l_bag) .none kV_l_bag dc_l_bag pm_l_bag an_l_bag cd_l_bag ct_l_bag), sl_l_bag⟩)
    (c_l_bag : PySem.W.codeIn K cd_l_bag "_law_bag" = true)
    (k_l_bag : PySem.W.keepIn K (.ref f_l_bag) = true)
    (a_l_take : PySem.W.nsIn K mainGlobals "_law_take" = some (some (.ref f_l_take)))
    (l_l_take : K.lookup f_l_take = some ⟨oc_l_take, od_l_take, .func (PySem.W.fnOf "_law_take" "_law_take" (defArgs s_l_take) (defBody s_l_take) (defScope s_l_take) .none kV_l_take dc_l_take pm_l_take an_l_take cd_l_take ct_l_take), sl_l_take⟩)
    (c_l_take : PySem.W.codeIn K cd_l_take "_law_take" = true)
    (k_l_take : PySem.W.keepIn K (.ref f_l_take) = true)
    (a_l_names : PySem.W.nsIn K mainGlobals "_law_names" = some (some (.ref f_l_names)))
    (l_l_names : K.lookup f_l_names = some ⟨oc_l_names, od_l_names, .func (PySem.W.fnOf "_law_names" "_law_names" (defArgs s_l_names) (defBody s_l_names) (defScope s_l_names) .none kV_l_names dc_l_names pm_l_names an_l_names cd_l_names ct_l_names), sl_l_names⟩)
    (c_l_names : PySem.W.codeIn K cd_l_names "_law_names" = true)
    (k_l_names : PySem.W.keepIn K (.ref f_l_names) = true)
    (a_l_kind : PySem.W.nsIn K mainGlobals "_law_kind" = some (some (.ref f_l_kind)))
    (l_l_kind : K.lookup f_l_kind = some ⟨oc_l_kind, od_l_kind, .func (PySem.W.fnOf "_law_kind" "_law_kind" (defArgs s_l_kind) (defBody s_l_kind) (defScope s_l_kind) .none kV_l_kind dc_l_kind pm_l_kind an_l_kind cd_l_kind ct_l_kind), sl_l_kind⟩)
    (c_l_kind : PySem.W.codeIn K cd_l_kind "_law_kind" = true)
    (k_l_kind : PySem.W.keepIn K (.ref f_l_kind) = true)
    (a_l_any : PySem.W.nsIn K mainGlobals "_law_any" = some (some (.ref f_l_any)))
    (l_l_any : K.lookup f_l_any = some ⟨oc_l_any, od_l_any, .func (PySem.W.fnOf "_law_any" "_law_any" (defArgs s_l_any) (defBody s_l_any) (defScope s_l_any) .none kV_l_any dc_l_any pm_l_any an_l_any cd_l_any ct_l_any), sl_l_any⟩)
    (c_l_any : PySem.W.codeIn K cd_l_any "_law_any" = true)
    (k_l_any : PySem.W.keepIn K (.ref f_l_any) = true)
    (a_l_first : PySem.W.nsIn K mainGlobals "_law_first" = some (some (.ref f_l_first)))
    (l_l_first : K.lookup f_l_first = some ⟨oc_l_first, od_l_first, .func (PySem.W.fnOf "_law_first" "_law_first" (defArgs s_l_first) (defBody s_l_first) (defScope s_l_first) .none kV_l_first dc_l_first pm_l_first an_l_first cd_l_first ct_l_first), sl_l_first⟩)
    (c_l_first : PySem.W.codeIn K cd_l_first "_law_first" = true)
    (k_l_first : PySem.W.keepIn K (.ref f_l_first) = true)
    (a_l_second : PySem.W.nsIn K mainGlobals "_law_second" = some (some (.ref f_l_second)))
    (l_l_second : K.lookup f_l_second = some ⟨oc_l_second, od_l_second, .func (PySem.W.fnOf "_law_second" "_law_second" (defArgs s_l_second) (defBody s_l_second) (defScope s_l_second) .none kV_l_second dc_l_second pm_l_second an_l_second cd_l_second ct_l_second), sl_l_second⟩)
    (c_l_second : PySem.W.codeIn K cd_l_second "_law_second" = true)
    (k_l_second : PySem.W.keepIn K (.ref f_l_second) = true)
    (a_l_third : PySem.W.nsIn K mainGlobals "_law_third" = some (some (.ref f_l_third)))
    (l_l_third : K.lookup f_l_third = some ⟨oc_l_third, od_l_third, .func (PySem.W.fnOf "_law_third" "_law_third" (defArgs s_l_third) (defBody s_l_third) (defScope s_l_third) .none kV_l_third dc_l_third pm_l_third an_l_third cd_l_third ct_l_third), sl_l_third⟩)
    (c_l_third : PySem.W.codeIn K cd_l_third "_law_third" = true)
    (k_l_third : PySem.W.keepIn K (.ref f_l_third) = true)
    (a_law : PySem.W.nsIn K mainGlobals "law" = some (some (.ref f_law)))
    (l_law : K.lookup f_law = some ⟨oc_law, od_law, .func (PySem.W.fnOf "law" "law" (defArgs s_law) (defBody s_law) (defScope s_law) .none kV_law dc_law pm_law an_law cd_law ct_law), sl_law⟩)
    (c_law : PySem.W.codeIn K cd_law "law" = true)
    (k_law : PySem.W.keepIn K (.ref f_law) = true)
    (z_len : PySem.W.nsIn K mainGlobals "len" = some none)
    (z_abs : PySem.W.nsIn K mainGlobals "abs" = some none)
    (z_max : PySem.W.nsIn K mainGlobals "max" = some none)
    (z_min : PySem.W.nsIn K mainGlobals "min" = some none)
    (z_isinstance : PySem.W.nsIn K mainGlobals "isinstance" = some none)
    (z_range : PySem.W.nsIn K mainGlobals "range" = some none)
    (z_sorted : PySem.W.nsIn K mainGlobals "sorted" = some none)
    (z_tuple : PySem.W.nsIn K mainGlobals "tuple" = some none)
    (z_repr : PySem.W.nsIn K mainGlobals "repr" = some none)
    (z_ValueError : PySem.W.nsIn K mainGlobals "ValueError" = some none)
    (z_KeyError : PySem.W.nsIn K mainGlobals "KeyError" = some none)
    (z_LookupError : PySem.W.nsIn K mainGlobals "LookupError" = some none)
    (z_IndexError : PySem.W.nsIn K mainGlobals "IndexError" = some none)
    (z_OverflowError : PySem.W.nsIn K mainGlobals "OverflowError" = some none)
    (z_RuntimeError : PySem.W.nsIn K mainGlobals "RuntimeError" = some none)
    : ∃ fd : FuncData, (∀ (s : Shared) (v : Value), BindsTo s fd ⟨[v], []⟩ [("_law_script", v)]) ∧ ∀ base : Heap, K.In base → base.Ns mainGlobals mg → FnG P w K mg base CX0 4 fa fd ["_law_script"] (spLaw K) := by
  have e := hfa.symm.trans (PySem.W.mg_of X G a_law)
  have e2 : f_law = fa := by injection e with e; injection e with e; exact e.symm
  subst e2
  have F_NoWord_init := fun_mk (st := s_NoWord_init) l_NoWord_init c_NoWord_init k_NoWord_init
  have b_NoWord_init := F_NoWord_init.binds (ps := ["self", "name"]) fun _ _ _ _ _ _ us hl => match us, hl with | [_, _], _ => rfl
  have F_NoMinutes_init := fun_mk (st := s_NoMinutes_init) l_NoMinutes_init c_NoMinutes_init k_NoMinutes_init
  have b_NoMinutes_init := F_NoMinutes_init.binds (ps := ["self", "at"]) fun _ _ _ _ _ _ us hl => match us, hl with | [_, _], _ => rfl
  have F_NoHistory_init := fun_mk (st := s_NoHistory_init) l_NoHistory_init c_NoHistory_init k_NoHistory_init
  have b_NoHistory_init := F_NoHistory_init.binds (ps := ["self", "at"]) fun _ _ _ _ _ _ us hl => match us, hl with | [_, _], _ => rfl
  have F_NoText_init := fun_mk (st := s_NoText_init) l_NoText_init c_NoText_init k_NoText_init
  have b_NoText_init := F_NoText_init.binds (ps := ["self", "row", "place"]) fun _ _ _ _ _ _ us hl => match us, hl with | [_, _, _], _ => rfl
  have F_NoRow_init := fun_mk (st := s_NoRow_init) l_NoRow_init c_NoRow_init k_NoRow_init
  have b_NoRow_init := F_NoRow_init.binds (ps := ["self", "place"]) fun _ _ _ _ _ _ us hl => match us, hl with | [_, _], _ => rfl
  have F_Stands_init := fun_mk (st := s_Stands_init) l_Stands_init c_Stands_init k_Stands_init
  have b_Stands_init := F_Stands_init.binds (ps := ["self", "name"]) fun _ _ _ _ _ _ us hl => match us, hl with | [_, _], _ => rfl
  have F_NoHand_init := fun_mk (st := s_NoHand_init) l_NoHand_init c_NoHand_init k_NoHand_init
  have b_NoHand_init := F_NoHand_init.binds (ps := ["self", "name"]) fun _ _ _ _ _ _ us hl => match us, hl with | [_, _], _ => rfl
  have F_NoLabel_init := fun_mk (st := s_NoLabel_init) l_NoLabel_init c_NoLabel_init k_NoLabel_init
  have b_NoLabel_init := F_NoLabel_init.binds (ps := ["self", "label"]) fun _ _ _ _ _ _ us hl => match us, hl with | [_, _], _ => rfl
  have F_NoBeat_init := fun_mk (st := s_NoBeat_init) l_NoBeat_init c_NoBeat_init k_NoBeat_init
  have b_NoBeat_init := F_NoBeat_init.binds (ps := ["self", "at"]) fun _ _ _ _ _ _ us hl => match us, hl with | [_, _], _ => rfl
  have F_TooMany_init := fun_mk (st := s_TooMany_init) l_TooMany_init c_TooMany_init k_TooMany_init
  have b_TooMany_init := F_TooMany_init.binds (ps := ["self", "most"]) fun _ _ _ _ _ _ us hl => match us, hl with | [_, _], _ => rfl
  have F_Bound_init := fun_mk (st := s_Bound_init) l_Bound_init c_Bound_init k_Bound_init
  have b_Bound_init := F_Bound_init.binds (ps := ["self", "label"]) fun _ _ _ _ _ _ us hl => match us, hl with | [_, _], _ => rfl
  have F_l_bag := fun_mk (st := s_l_bag) l_l_bag c_l_bag k_l_bag
  have b_l_bag := F_l_bag.binds (ps := ["_law_script", "_law_at"]) fun _ _ _ _ _ _ us hl => match us, hl with | [_, _], _ => rfl
  have F_l_take := fun_mk (st := s_l_take) l_l_take c_l_take k_l_take
  have b_l_take := F_l_take.binds (ps := ["_law_bag_here", "_law_many"]) fun _ _ _ _ _ _ us hl => match us, hl with | [_, _], _ => rfl
  have F_l_names := fun_mk (st := s_l_names) l_l_names c_l_names k_l_names
  have b_l_names := F_l_names.binds (ps := ["_law_bag_here", "_law_many"]) fun _ _ _ _ _ _ us hl => match us, hl with | [_, _], _ => rfl
  have F_l_kind := fun_mk (st := s_l_kind) l_l_kind c_l_kind k_l_kind
  have b_l_kind := F_l_kind.binds (ps := ["_law_e"]) fun _ _ _ _ _ _ us hl => match us, hl with | [_], _ => rfl
  have F_l_any := fun_mk (st := s_l_any) l_l_any c_l_any k_l_any
  have b_l_any := F_l_any.binds (ps := ["_law_bag_here", "_law_hand"]) fun _ _ _ _ _ _ us hl => match us, hl with | [_, _], _ => rfl
  have F_l_first := fun_mk (st := s_l_first) l_l_first c_l_first k_l_first
  have b_l_first := F_l_first.binds (ps := ["_law_one", "_law_other", "_law_way"]) fun _ _ _ _ _ _ us hl => match us, hl with | [_, _, _], _ => rfl
  have F_l_second := fun_mk (st := s_l_second) l_l_second c_l_second k_l_second
  have b_l_second := F_l_second.binds (ps := ["_law_one", "_law_way"]) fun _ _ _ _ _ _ us hl => match us, hl with | [_, _], _ => rfl
  have F_l_third := fun_mk (st := s_l_third) l_l_third c_l_third k_l_third
  have b_l_third := F_l_third.binds (ps := ["_law_way"]) fun _ _ _ _ _ _ us hl => match us, hl with | [_], _ => rfl
  have F_law := fun_mk (st := s_law) l_law c_law k_law
  have b_law := F_law.binds (ps := ["_law_script"]) fun _ _ _ _ _ _ us hl => match us, hl with | [_], _ => rfl
  have T : Gk K mg ⟨c_NoBand, c_NoWatch, c_NoWord, c_NoMinutes, c_NoHistory, c_NoText, c_NoRow, c_Stands, c_NoHand, c_NoLabel, c_NoAsk, c_NoBeat, c_TooMany, c_Open, c_Bound, f_NoWord_init, _, f_NoMinutes_init, _, f_NoHistory_init, _, f_NoText_init, _, f_NoRow_init, _, f_Stands_init, _, f_NoHand_init, _, f_NoLabel_init, _, f_NoBeat_init, _, f_TooMany_init, _, f_Bound_init, _, f_l_bag, _, f_l_take, _, f_l_names, _, f_l_kind, _, f_l_any, _, f_l_first, _, f_l_second, _, f_l_third, _, f_law, _⟩ := {
    m_NoBand := PySem.W.mg_of X G a_NoBand,
    xi_NoBand := xi_NoBand,
    m_NoWatch := PySem.W.mg_of X G a_NoWatch,
    xi_NoWatch := xi_NoWatch,
    m_NoWord := PySem.W.mg_of X G a_NoWord,
    x_NoWord := oexB_ok xo_NoWord,
    i_NoWord := a_NoWord_init,
    ti_NoWord := ti_NoWord,
    nf_NoWord_name := nf_NoWord_name,
    m_NoMinutes := PySem.W.mg_of X G a_NoMinutes,
    x_NoMinutes := oexB_ok xo_NoMinutes,
    i_NoMinutes := a_NoMinutes_init,
    ti_NoMinutes := ti_NoMinutes,
    nf_NoMinutes_at := nf_NoMinutes_at,
    m_NoHistory := PySem.W.mg_of X G a_NoHistory,
    x_NoHistory := oexB_ok xo_NoHistory,
    i_NoHistory := a_NoHistory_init,
    ti_NoHistory := ti_NoHistory,
    nf_NoHistory_at := nf_NoHistory_at,
    m_NoText := PySem.W.mg_of X G a_NoText,
    x_NoText := oexB_ok xo_NoText,
    i_NoText := a_NoText_init,
    ti_NoText := ti_NoText,
    nf_NoText_row := nf_NoText_row,
    nf_NoText_place := nf_NoText_place,
    m_NoRow := PySem.W.mg_of X G a_NoRow,
    x_NoRow := oexB_ok xo_NoRow,
    i_NoRow := a_NoRow_init,
    ti_NoRow := ti_NoRow,
    nf_NoRow_place := nf_NoRow_place,
    m_Stands := PySem.W.mg_of X G a_Stands,
    x_Stands := oexB_ok xo_Stands,
    i_Stands := a_Stands_init,
    ti_Stands := ti_Stands,
    nf_Stands_name := nf_Stands_name,
    m_NoHand := PySem.W.mg_of X G a_NoHand,
    x_NoHand := oexB_ok xo_NoHand,
    i_NoHand := a_NoHand_init,
    ti_NoHand := ti_NoHand,
    nf_NoHand_name := nf_NoHand_name,
    m_NoLabel := PySem.W.mg_of X G a_NoLabel,
    x_NoLabel := oexB_ok xo_NoLabel,
    i_NoLabel := a_NoLabel_init,
    ti_NoLabel := ti_NoLabel,
    nf_NoLabel_label := nf_NoLabel_label,
    m_NoAsk := PySem.W.mg_of X G a_NoAsk,
    xi_NoAsk := xi_NoAsk,
    m_NoBeat := PySem.W.mg_of X G a_NoBeat,
    x_NoBeat := oexB_ok xo_NoBeat,
    i_NoBeat := a_NoBeat_init,
    ti_NoBeat := ti_NoBeat,
    nf_NoBeat_at := nf_NoBeat_at,
    m_TooMany := PySem.W.mg_of X G a_TooMany,
    x_TooMany := oexB_ok xo_TooMany,
    i_TooMany := a_TooMany_init,
    ti_TooMany := ti_TooMany,
    nf_TooMany_most := nf_TooMany_most,
    m_Open := PySem.W.mg_of X G a_Open,
    xi_Open := xi_Open,
    m_Bound := PySem.W.mg_of X G a_Bound,
    x_Bound := oexB_ok xo_Bound,
    i_Bound := a_Bound_init,
    ti_Bound := ti_Bound,
    nf_Bound_label := nf_Bound_label,
    kinds := kinds_ok kk_all,
    F_NoWord_init := F_NoWord_init,
    b_NoWord_init := b_NoWord_init,
    F_NoMinutes_init := F_NoMinutes_init,
    b_NoMinutes_init := b_NoMinutes_init,
    F_NoHistory_init := F_NoHistory_init,
    b_NoHistory_init := b_NoHistory_init,
    F_NoText_init := F_NoText_init,
    b_NoText_init := b_NoText_init,
    F_NoRow_init := F_NoRow_init,
    b_NoRow_init := b_NoRow_init,
    F_Stands_init := F_Stands_init,
    b_Stands_init := b_Stands_init,
    F_NoHand_init := F_NoHand_init,
    b_NoHand_init := b_NoHand_init,
    F_NoLabel_init := F_NoLabel_init,
    b_NoLabel_init := b_NoLabel_init,
    F_NoBeat_init := F_NoBeat_init,
    b_NoBeat_init := b_NoBeat_init,
    F_TooMany_init := F_TooMany_init,
    b_TooMany_init := b_TooMany_init,
    F_Bound_init := F_Bound_init,
    b_Bound_init := b_Bound_init,
    F_l_bag := F_l_bag,
    b_l_bag := b_l_bag,
    m_l_bag := PySem.W.mg_of X G a_l_bag,
    F_l_take := F_l_take,
    b_l_take := b_l_take,
    m_l_take := PySem.W.mg_of X G a_l_take,
    F_l_names := F_l_names,
    b_l_names := b_l_names,
    m_l_names := PySem.W.mg_of X G a_l_names,
    F_l_kind := F_l_kind,
    b_l_kind := b_l_kind,
    m_l_kind := PySem.W.mg_of X G a_l_kind,
    F_l_any := F_l_any,
    b_l_any := b_l_any,
    m_l_any := PySem.W.mg_of X G a_l_any,
    F_l_first := F_l_first,
    b_l_first := b_l_first,
    m_l_first := PySem.W.mg_of X G a_l_first,
    F_l_second := F_l_second,
    b_l_second := b_l_second,
    m_l_second := PySem.W.mg_of X G a_l_second,
    F_l_third := F_l_third,
    b_l_third := b_l_third,
    m_l_third := PySem.W.mg_of X G a_l_third,
    F_law := F_law,
    b_law := b_law,
    m_law := PySem.W.mg_of X G a_law,
    z_len := PySem.W.mg_none_of X G z_len,
    z_abs := PySem.W.mg_none_of X G z_abs,
    z_max := PySem.W.mg_none_of X G z_max,
    z_min := PySem.W.mg_none_of X G z_min,
    z_isinstance := PySem.W.mg_none_of X G z_isinstance,
    z_range := PySem.W.mg_none_of X G z_range,
    z_sorted := PySem.W.mg_none_of X G z_sorted,
    z_tuple := PySem.W.mg_none_of X G z_tuple,
    z_repr := PySem.W.mg_none_of X G z_repr,
    z_ValueError := PySem.W.mg_none_of X G z_ValueError,
    z_KeyError := PySem.W.mg_none_of X G z_KeyError,
    z_LookupError := PySem.W.mg_none_of X G z_LookupError,
    z_IndexError := PySem.W.mg_none_of X G z_IndexError,
    z_OverflowError := PySem.W.mg_none_of X G z_OverflowError,
    z_RuntimeError := PySem.W.mg_none_of X G z_RuntimeError }
  exact ⟨_, fun s v => .of_eq rfl, fun base _ _ => ok_law T⟩
end Sil
open PySem PySem.W PyProof.Rows
set_option maxRecDepth 100000 in
set_option maxHeartbeats 0 in
theorem PySem.Challenge.cw_silencetells_k68_refusals_made_holds : PySem.Challenge.rw_silencetells_k68_refusals_made.Holds := by
  w_on; o_law; k_head; (case hw => w_witness2)
  k_fill
  refine Sil.walkG (l := PySem.Challenge.rw_silencetells_k68_refusals_made) (k := 4) (sp := Sil.spLaw) (x := "_law_script") rfl rfl ⟨rfl, by decide, by decide⟩ (fun w h Y => PySem.W.kIn_of Y) ?F Sil.spLaw_use
  case F =>
    intro w mg fa h KX G hmg
    refine' Sil.all_mk KX G hmg ?a_NoBand ?xi_NoBand ?a_NoWatch ?xi_NoWatch ?a_NoWord ?xo_NoWord ?nf_NoWord_name ?a_NoMinutes ?xo_NoMinutes ?nf_NoMinutes_at ?a_NoHistory ?xo_NoHistory ?nf_NoHistory_at ?a_NoText ?xo_NoText ?nf_NoText_row ?nf_NoText_place ?a_NoRow ?xo_NoRow ?nf_NoRow_place ?a_Stands ?xo_Stands ?nf_Stands_name ?a_NoHand ?xo_NoHand ?nf_NoHand_name ?a_NoLabel ?xo_NoLabel ?nf_NoLabel_label ?a_NoAsk ?xi_NoAsk ?a_NoBeat ?xo_NoBeat ?nf_NoBeat_at ?a_TooMany ?xo_TooMany ?nf_TooMany_most ?a_Open ?xi_Open ?a_Bound ?xo_Bound ?nf_Bound_label ?kk_all ?a_NoWord_init ?i_NoWord_init ?l_NoWord_init ?c_NoWord_init ?k_NoWord_init ?ti_NoWord ?a_NoMinutes_init ?i_NoMinutes_init ?l_NoMinutes_init ?c_NoMinutes_init ?k_NoMinutes_init ?ti_NoMinutes ?a_NoHistory_init ?i_NoHistory_init ?l_NoHistory_init ?c_NoHistory_init ?k_NoHistory_init ?ti_NoHistory ?a_NoText_init ?i_NoText_init ?l_NoText_init ?c_NoText_init ?k_NoText_init ?ti_NoText ?a_NoRow_init ?i_NoRow_init ?l_NoRow_init ?c_NoRow_init ?k_NoRow_init ?ti_NoRow ?a_Stands_init ?i_Stands_init ?l_Stands_init ?c_Stands_init ?k_Stands_init ?ti_Stands ?a_NoHand_init ?i_NoHand_init ?l_NoHand_init ?c_NoHand_init ?k_NoHand_init ?ti_NoHand ?a_NoLabel_init ?i_NoLabel_init ?l_NoLabel_init ?c_NoLabel_init ?k_NoLabel_init ?ti_NoLabel ?a_NoBeat_init ?i_NoBeat_init ?l_NoBeat_init ?c_NoBeat_init ?k_NoBeat_init ?ti_NoBeat ?a_TooMany_init ?i_TooMany_init ?l_TooMany_init ?c_TooMany_init ?k_TooMany_init ?ti_TooMany ?a_Bound_init ?i_Bound_init ?l_Bound_init ?c_Bound_init ?k_Bound_init ?ti_Bound ?a_l_bag ?l_l_bag ?c_l_bag ?k_l_bag ?a_l_take ?l_l_take ?c_l_take ?k_l_take ?a_l_names ?l_l_names ?c_l_names ?k_l_names ?a_l_kind ?l_l_kind ?c_l_kind ?k_l_kind ?a_l_any ?l_l_any ?c_l_any ?k_l_any ?a_l_first ?l_l_first ?c_l_first ?k_l_first ?a_l_second ?l_l_second ?c_l_second ?k_l_second ?a_l_third ?l_l_third ?c_l_third ?k_l_third ?a_law ?l_law ?c_law ?k_law ?z_len ?z_abs ?z_max ?z_min ?z_isinstance ?z_range ?z_sorted ?z_tuple ?z_repr ?z_ValueError ?z_KeyError ?z_LookupError ?z_IndexError ?z_OverflowError ?z_RuntimeError
    (case a_NoBand => k_is); (case xi_NoBand => k_exc); (case a_NoWatch => k_is); (case xi_NoWatch => k_exc); (case a_NoWord => k_is); (case xo_NoWord => kernel_rfl); (case nf_NoWord_name => k_is); (case a_NoMinutes => k_is); (case xo_NoMinutes => kernel_rfl); (case nf_NoMinutes_at => k_is); (case a_NoHistory => k_is); (case xo_NoHistory => kernel_rfl); (case nf_NoHistory_at => k_is); (case a_NoText => k_is); (case xo_NoText => kernel_rfl); (case nf_NoText_row => k_is); (case nf_NoText_place => k_is); (case a_NoRow => k_is); (case xo_NoRow => kernel_rfl); (case nf_NoRow_place => k_is); (case a_Stands => k_is); (case xo_Stands => kernel_rfl); (case nf_Stands_name => k_is); (case a_NoHand => k_is); (case xo_NoHand => kernel_rfl); (case nf_NoHand_name => k_is); (case a_NoLabel => k_is); (case xo_NoLabel => kernel_rfl); (case nf_NoLabel_label => k_is); (case a_NoAsk => k_is); (case xi_NoAsk => k_exc); (case a_NoBeat => k_is); (case xo_NoBeat => kernel_rfl); (case nf_NoBeat_at => k_is); (case a_TooMany => k_is); (case xo_TooMany => kernel_rfl); (case nf_TooMany_most => k_is); (case a_Open => k_is); (case xi_Open => k_exc); (case a_Bound => k_is); (case xo_Bound => kernel_rfl); (case nf_Bound_label => k_is); (case kk_all => kernel_rfl); (case a_NoWord_init => k_is); (case i_NoWord_init => k_is); (case l_NoWord_init => k_is); (case c_NoWord_init => k_is); (case k_NoWord_init => k_is); (case ti_NoWord => k_is); (case a_NoMinutes_init => k_is); (case i_NoMinutes_init => k_is); (case l_NoMinutes_init => k_is); (case c_NoMinutes_init => k_is); (case k_NoMinutes_init => k_is); (case ti_NoMinutes => k_is); (case a_NoHistory_init => k_is); (case i_NoHistory_init => k_is); (case l_NoHistory_init => k_is); (case c_NoHistory_init => k_is); (case k_NoHistory_init => k_is); (case ti_NoHistory => k_is); (case a_NoText_init => k_is); (case i_NoText_init => k_is); (case l_NoText_init => k_is); (case c_NoText_init => k_is); (case k_NoText_init => k_is); (case ti_NoText => k_is); (case a_NoRow_init => k_is); (case i_NoRow_init => k_is); (case l_NoRow_init => k_is); (case c_NoRow_init => k_is); (case k_NoRow_init => k_is); (case ti_NoRow => k_is); (case a_Stands_init => k_is); (case i_Stands_init => k_is); (case l_Stands_init => k_is); (case c_Stands_init => k_is); (case k_Stands_init => k_is); (case ti_Stands => k_is); (case a_NoHand_init => k_is); (case i_NoHand_init => k_is); (case l_NoHand_init => k_is); (case c_NoHand_init => k_is); (case k_NoHand_init => k_is); (case ti_NoHand => k_is); (case a_NoLabel_init => k_is); (case i_NoLabel_init => k_is); (case l_NoLabel_init => k_is); (case c_NoLabel_init => k_is); (case k_NoLabel_init => k_is); (case ti_NoLabel => k_is); (case a_NoBeat_init => k_is); (case i_NoBeat_init => k_is); (case l_NoBeat_init => k_is); (case c_NoBeat_init => k_is); (case k_NoBeat_init => k_is); (case ti_NoBeat => k_is); (case a_TooMany_init => k_is); (case i_TooMany_init => k_is); (case l_TooMany_init => k_is); (case c_TooMany_init => k_is); (case k_TooMany_init => k_is); (case ti_TooMany => k_is); (case a_Bound_init => k_is); (case i_Bound_init => k_is); (case l_Bound_init => k_is); (case c_Bound_init => k_is); (case k_Bound_init => k_is); (case ti_Bound => k_is); (case a_l_bag => k_is); (case l_l_bag => k_is); (case c_l_bag => k_is); (case k_l_bag => k_is); (case a_l_take => k_is); (case l_l_take => k_is); (case c_l_take => k_is); (case k_l_take => k_is); (case a_l_names => k_is); (case l_l_names => k_is); (case c_l_names => k_is); (case k_l_names => k_is); (case a_l_kind => k_is); (case l_l_kind => k_is); (case c_l_kind => k_is); (case k_l_kind => k_is); (case a_l_any => k_is); (case l_l_any => k_is); (case c_l_any => k_is); (case k_l_any => k_is); (case a_l_first => k_is); (case l_l_first => k_is); (case c_l_first => k_is); (case k_l_first => k_is); (case a_l_second => k_is); (case l_l_second => k_is); (case c_l_second => k_is); (case k_l_second => k_is); (case a_l_third => k_is); (case l_l_third => k_is); (case c_l_third => k_is); (case k_l_third => k_is); (case a_law => k_is); (case l_law => k_is); (case c_law => k_is); (case k_law => k_is); (case z_len => k_is); (case z_abs => k_is); (case z_max => k_is); (case z_min => k_is); (case z_isinstance => k_is); (case z_range => k_is); (case z_sorted => k_is); (case z_tuple => k_is); (case z_repr => k_is); (case z_ValueError => k_is); (case z_KeyError => k_is); (case z_LookupError => k_is); (case z_IndexError => k_is); (case z_OverflowError => k_is); (case z_RuntimeError => k_is)
#print axioms PySem.Challenge.cw_silencetells_k68_refusals_made_holds
