import PyProof.Rows.All
import Wide.All
import OpenK.AllK
import Wide.FinOn
import HandS.ForMost
import HandS.SortKw
import HandS.IsInst
import HandS.Defaults
import HandS.MakeKw
import HandS.ForExc
import HandS.ExcIs
import HandS.MakeKwOnly
import HandS.Style
import KE.KFmtOwn
import KE.KCallOwn
import PyProof.InstNe
import PyProof.FString2
import HandS.FStr
import HandS.RaiseMore
import HandS.Text
import HandS.Wide
import PySem.Challenge.RW_silencetells_k03_bands_alike_and_written
set_option Elab.async false
set_option linter.all false
set_option maxRecDepth 100000
set_option maxHeartbeats 1000000
/-! P1: defs that run where no repr is under way (guards told), repr of data, == by an own __eq__ with any answer, max and min with a default, sum with a start. -/
namespace Sil
open PySem L2 PySem.Spec PyProof.Rows

/-! ### no repr under way -/
def Calm (A : Around) : Prop := A.guards = some []

/-- FnOk, where no repr is under way at the call -/
structure FnG (P : Program) (w : World) (K : PySem.W.Frag) (mg : Str → Option Value) (base : Heap) (CX : CXT)
    (k : Nat) (f : Addr) (fd : FuncData) (ps : List Str) (sp : Sp) : Prop where
  len : ∀ vs H Q E, sp vs H Q E → vs.length = ps.length
  go : ∀ (A : Around) (outer : List Env) (s : Shared) (H : Hp) (args : Args) (us : List Value) (vs : List V) (Q : VK) (E : XK),
    Room k A → Calm A → Env0 P w K mg base A outer s H → BindsTo s fd args (ps.zip us) → Vals vs us → sp vs H Q E →
    codeAny (model P w) A (.call (.ref f) args) (CR CX outer P w H s Q E) s

section
variable {P : Program} {w : World} {K : PySem.W.Frag} {mg : Str → Option Value} {base : Heap} {CX : CXT} {k : Nat}
  {f : Addr} {fd : FuncData} {ps : List Str} {sp : Sp}
theorem FnG.of (F : FnOk P w K mg base CX k f fd ps sp) : FnG P w K mg base CX k f fd ps sp :=
  ⟨F.len, fun A o s H a us vs Q E hr _ => F.run A o s H a us vs Q E hr⟩
theorem FnG.up {j : Nat} (F : FnG P w K mg base CX j f fd ps sp) (h : j ≤ k) : FnG P w K mg base CX k f fd ps sp :=
  ⟨F.len, fun A o s H a us vs Q E hr => F.go A o s H a us vs Q E (hr.mono h)⟩

/-- the rule for a def by its body, where no repr is under way -/
theorem fnG_of {name qual : Str} {params : Arguments} {body : List Stmt} {scope : Scope} {dV kV doc pm cdv ct oc : Value} {an od : Option Addr}
    {osl : Array (Option Value)} {N : List Str}
    (lk : K.lookup f = some ⟨oc, od, .func (PySem.W.fnOf name qual params body scope dV kV doc pm an cdv ct), osl⟩)
    (hcd : PySem.W.codeIn K cdv qual = true) (S : FnScope N ps scope) (len : ∀ vs H Q E, sp vs H Q E → vs.length = ps.length)
    (hb : ∀ (A : Around) (outer : List Env) (s : Shared) (H : Hp) (vs : List V) (Q : VK) (E : XK),
      Room k (A.deeper (envOfC qual scope s.heap.objs.size f cdv)) → Calm (A.deeper (envOfC qual scope s.heap.objs.size f cdv)) → sp vs H Q E →
      ∃ t, PSs (cxOf CX P w K mg base N qual scope f cdv A outer s H E) body t ∧ t { nx := fun _ H' => Q .non H', rt := Q } (start N vs) H) :
    FnG P w K mg base CX (k + 1) f (PySem.W.fnOf name qual params body scope dV kV doc pm an cdv ct) ps sp := by
  refine ⟨len, fun A outer s H args us vs Q E hr hg e0 hbi r hsp => ?_⟩
  have kin : K.In s.heap := e0.mod.kin.keeps fun b o e => (e0.bs b o e).1
  have nolim : s.heap.NoLimit := e0.mod.nolimit.keeps fun b o e => (e0.bs b o e).1
  have kinds : ∀ y ∈ ps.zip us, scope.names.lookup y.1 = some .local ∨
      (scope.names.lookup y.1 = some .cell ∧ ((cellsFrom (s.heap.objs.size + 1) scope.names []).lookup y.1).isSome = true) := by
    rintro ⟨n, v⟩ hy
    exact (S.par n (List.of_mem_zip hy).1).imp id fun q => ⟨q, PySem.W.cellsFrom_some _ _ _ (.inl q)⟩
  refine codeAny_call_function hr.depth (kin _ _ lk) rfl S.co S.gen rfl (PySem.W.codeRec_of kin hcd) (hbi _ _ _ _ ?_)
  refine wpAny_newFunctionEnv_cells S.kind kinds fun env he s1 x => ?_
  cases he
  refine ⟨nolim.keeps x.toInCall.keep, codeAny_func ?_⟩
  obtain ⟨t, ht, hq⟩ := hb A outer s H vs Q E (hr.deeper _) hg hsp
  have I0 := inv_start (CX := CX) (E := E) (vs := vs) S hr.hd e0 (len _ _ _ _ hsp) r x
  refine wpAny_mono (ht.run [] s1 (start N vs) H _ I0 hq) (fun fl s' hs => ?_) fun e s' hs => hs
  cases fl with
  | ret u => obtain ⟨v, σ', H', J, rv, q⟩ := hs; exact ⟨v, H', J.os, J.bare, J.base, J.hok, rv, q⟩
  | next => obtain ⟨σ', H', J, q⟩ := hs; exact ⟨.non, H', J.os, J.bare, J.base, J.hok, rfl, q⟩
  | brk => obtain ⟨_, _, _, q⟩ := hs; exact q.elim
  | cont => obtain ⟨_, _, _, q⟩ := hs; exact q.elim
/-- .. of a def of the text from which no error comes -/
theorem funG_ok {x qual : Str} {st : Stmt} {N : List Str} (F : Fun K x qual st f fd) (S : FnScope N ps (defScope st))
    (len : ∀ vs H Q E, sp vs H Q E → vs.length = ps.length)
    (hb : ∀ (cdv : Value) (A : Around) (outer : List Env) (s : Shared) (H : Hp) (vs : List V) (Q : VK) (E : XK),
      Room k (A.deeper (envOfC qual (defScope st) s.heap.objs.size f cdv)) → Calm (A.deeper (envOfC qual (defScope st) s.heap.objs.size f cdv)) → sp vs H Q E →
      ∃ t, PSs (cxOf CX0 P w K mg base N qual (defScope st) f cdv A outer s H E).nox (defBody st) t ∧ t { nx := fun _ H' => Q .non H', rt := Q } (start N vs) H) :
    FnG P w K mg base CX0 (k + 1) f fd ps sp := by
  obtain ⟨oc, od, kV, doc, pm, an, cdv, ct, osl, rfl, lk, hcd⟩ := F.ex
  refine fnG_of lk hcd S len fun A outer s H vs Q E hr hg hsp => ?_
  obtain ⟨t, h, q⟩ := hb cdv A outer s H vs Q E hr hg hsp
  exact ⟨t, h.nox, q⟩
end

section
variable {X : Cx} {CX : CXT} {k : Nat} {f : Addr} {fd : FuncData} {ps : List Str} {sp : Sp} {dvs : List V} {ds : List Value} {E : XK}
  {x : Str} {p pos : Pos} {e : Expr} {es : List Expr} {t : TA}
theorem run_fnG {pins : List (Addr × Obj)} {σ : L2.St} {H : Hp} {s : Shared} {Q : VK} {us : List Value} {vs : List V}
    (F : FnG X.prog X.w X.K X.mg X.base CX k f fd ps sp) (hr : Room k X.A) (hg : Calm X.A) (hb : Binds X.K fd ps ds) (hd : Vals dvs ds) (hx : Passes CX X E)
    (I : Inv X pins σ H s) (r : Vals vs us) (h : sp (vs ++ dvs) H Q E) : wpAny (model X.prog X.w) X.A (call (.ref f) us) (EP X pins σ Q) X.xe s := by
  have r2 : Vals (vs ++ dvs) (us ++ ds) := r.append hd
  have hl : (us ++ ds).length = ps.length := r2.length ▸ F.len _ _ _ _ h
  refine wpAny_call (codeAny_mono (F.go X.A X.stack s H ⟨us, []⟩ (us ++ ds) (vs ++ dvs) Q E hr hg I.env0 (hb s us I.kIn hl) r2 h) ?_)
  rintro (e | fl) s' hq
  · exact hx pins σ H s e s' I hq
  · cases fl with
    | ret u => exact I.after hq
    | next => exact hq.elim
    | brk => exact hq.elim
    | cont => exact hq.elim
/-- f(e, ..), where no repr is under way -/
theorem pe_callG (F : FnG X.prog X.w X.K X.mg X.base CX k f fd ps sp) (hr : Room k X.A) (hc : Calm X.A) (hg : Gl X x) (hm : X.mg x = some (.ref f))
    (hk : PySem.W.keepIn X.K (.ref f) = true) (hb : Binds X.K fd ps ds) (hd : Vals dvs ds) (hx : Passes CX X E) (ha : PA X (e :: es) t)
    (hdb : (x == ("__debug__" : Str)) = false := by decide) (he : starEach (e :: es) X.env = (false, eval e X.env) :: starEach es X.env := by rfl)
    (hpl : (backTo pos (starEach es X.env)).any (·.1) = false := by rfl) : PE X (.Call (.Name x p) (e :: es) [] pos) (tCall sp dvs E t) := by
  refine ⟨fun pins s σ H Q I h => wpAny_Call_Name_kw (ld_glob I hg hm ?_ hdb)⟩
  refine PySem.W.callWith_K (h₀ := X.base) I.ok.mod.kin hk (thn (ha.run pos pins s σ H _ I h) ?_) he hpl
  rintro us s1 ⟨vs, H1, I1, r, q⟩
  exact ⟨I1.kIn, run_fnG F hr hc hb hd hx I1 r q⟩
end

/-! ### repr -/
def rRepr (K : PySem.W.Frag) : List V → Hp → VK → Prop := fun xs H Q => ∃ v d, xs = [v] ∧ Dp K H v d ∧ d.showable = true ∧ d.hasDict = false ∧
  d.depth ≤ 40 ∧ d.shown.length ≤ sizeLine ∧ Q (.str d.shown) H
theorem cr_repr {X : Cx} {k : Nat} (hr : Room k X.A) (hg : Calm X.A) : CallR X (.builtin "repr") (rRepr X.K) := by
  intro pins s σ H xs us Q I r h
  obtain ⟨v, d, rfl, hd, hs, hn, hdp, hz, q⟩ := h
  obtain ⟨u, rfl, ru⟩ := vals1 r
  obtain ⟨as, rd⟩ := Dp.reads I d v u hd ru
  have back : ∀ h' tk t, (∀ b o, s.heap.get? b = some o → h'.get? b = some o) → EP X pins σ Q (.str d.shown t) { s with heap := h', toks := tk } :=
    fun h' tk t hk => ⟨.str d.shown, H, I.kept hk, ⟨t, rfl⟩, q⟩
  have hu := hr.units
  cases hd with
  | lst _ _ =>
    cases ru
    exact repr_of_reads' rd hs (PyData.noDict_hsm hn) hg (by omega) (fun _ _ e => e) (fun h' t tk hk => back h' tk t hk) hz
  | tup _ _ =>
    cases ru
    exact repr_of_reads' rd hs (PyData.noDict_hsm hn) hg (by omega) (fun _ _ e => e) (fun h' t tk hk => back h' tk t hk) hz
  | non =>
    cases ru
    exact PySem.P.repr_of_none (back _ _ _ fun _ _ e => e)
  | bl b =>
    cases ru
    exact PySem.P.repr_of_bool (back _ _ _ fun _ _ e => e)
  | int i =>
    obtain ⟨t, rfl⟩ := ru
    exact PySem.P.repr_of_int (of_decide_eq_true hs) (back _ _ _ fun _ _ e => e)
  | str z =>
    obtain ⟨t, rfl⟩ := ru
    exact PySem.P.repr_of_str (back _ _ _ fun _ _ e => e) hz

/-! ### == by an own __eq__ -/
/-- what the compare by an own method asks: the left is an instance of C whose class says == by the def of the promise sp; the right one's type is told -/
def rOwn (K : PySem.W.Frag) (C : Addr) (sp : Sp) (E : XK) : R2 := fun x y H Q => ∃ a dx fs ty, x = .ref a ∧ H a = some (.ins C dx fs) ∧
  TyX K H y ty ∧ PySem.W.notFirst K C ty = true ∧ sp [x, y] H (fun v H' => (∃ b, v = .bl b) ∧ Q v H') E
theorem op_own {X : Cx} {CX : CXT} {k : Nat} {C f : Addr} {fd : FuncData} {ps : List Str} {sp : Sp} {E : XK} {op : CmpOp} {nm : Str} (hop : (cmpInfo op).2.1 = nm)
    (F : FnOk X.prog X.w X.K X.mg X.base CX k f fd ps sp)
    (hs : PySem.W.findIn X.K (.ref C) nm = some (some (.ref f))) (hf : PySem.W.isFn X.K (.ref f) = true) (hb : Binds X.K fd ps []) (hr : Room k X.A)
    (hx : Passes CX X E) (hcmp : ∀ u v, compareOp op u v = richCompare op u v) : OpR X (compareOp op) (rOwn X.K C sp E) := by
  intro pins s σ H x y v u Q I rx ry h
  obtain ⟨a, dx, fs, ty, rfl, ha, hty, hn, hsp⟩ := h
  cases rx
  obtain ⟨mA, J, _⟩ := ins_get I.hok ha
  obtain ⟨od, J, _⟩ := J.look
  obtain ⟨m, hF⟩ := I.fr
  obtain ⟨Pz, Z, pz, _⟩ := kit_of I ry hty
  rw [hcmp]
  refine PySem.W.cmp_K (op := op) (tb := ty) hr.units0 hF I.ok.mod.kin J (Z.ty _ _ I.kIn pz) hn (hop ▸ hs) hf ?_
  have r2 : Vals [V.ref a, y] [Value.ref a, u] := .cons rfl (.cons ry .nil)
  refine wpAny_mono (run_fn (dvs := []) (ds := []) (vs := [V.ref a, y]) F hr hb .nil hx I r2 hsp) ?_ fun _ _ z => z
  intro w s' hw
  obtain ⟨z, H', I', rz, hz, q⟩ := hw
  cases z with
  | bl b => cases rz; exact ⟨.bl b, H', I', rfl, q⟩
  | _ => exact hz.elim fun b hb => by cases hb

section
variable {prog : Program} {w : World} {A : Around} {E : Value → Shared → Prop} {s : Shared}
/-- a built-in called with keywords, that goes on by a loop of its own -/
theorem callTree_kw {id : String} {b : Builtin} {args : List Value} {kw : List (Str × Value)} {Q : Value → Shared → Prop} (hk : builtinKind id = none)
    (hp : plainId id = true) (hb : entryFor table id = some b) (ha : argsOk id ⟨args, kw⟩)
    (hc : wpAny (model prog w) A.in1 (b ⟨args, kw⟩) (fun fin s' => match fin with
      | .done f => (match (Except.ok f : Result) with | .ok (.ret v) => Q v s' | .ok _ => False | .error e => E e s')
      | .again c' => c'.quiet = true ∧
          codeAny (model prog w) A c' (fun r s' => match r with | .ok (.ret v) => Q v s' | .ok _ => False | .error e => E e s') s') E s) :
    wpAny (model prog w) A (call (.builtin id) args kw) Q E s := by
  refine wpAny_call (codeAny_call_builtin hp hb ?_)
  simp only [checkBuiltinCall, hk]
  cases hs : Manifest.signature? id with
  | none => exact wpAny_pure hc
  | some sg =>
    simp only [argsOk, hs] at ha
    have ok : Bind.checkArgs id sg ⟨args, kw⟩ = pure () := ha
    show wpAny _ A.in1 (Bind.checkArgs id sg ⟨args, kw⟩) _ _ s
    rw [ok]
    exact wpAny_pure hc
end

section
variable {prog : Program} {w : World} {A : Around} {R : Result → Shared → Prop} {I : Addr} {fp wr : List Addr} {n : Nat}
  {P : Nat → Value → Prop} {Sx : Nat → Heap → Prop}
/-- max's loop, whatever keywords go with it -/
theorem max_goes (W : Walks prog w A.in1 I fp wr n P Sx) (bt : Nat → Nat → Bool) (hc : CmpOf prog w A.in1 .Gt P bt) (S : Addr) (hS0 : S ∉ fp)
    (kw : List (Str × Value)) : ∀ (k j : Nat) (s : Shared) (best : Value) (c : Nat), n - (j + 1) = k → j + 1 ≤ n → Sx (j + 1) s.heap →
    P (argBest bt j) best → s.heap.get? S = some { cls := .type "list", dict := none, data := .seq #[best, best] c, slots := #[] } →
    (∀ v h' tk, P (argBest bt (n - 1)) v → (∀ b o, b ∉ wr → b ≠ S → s.heap.get? b = some o → h'.get? b = some o) →
      R (.ok (.ret v)) { s with heap := h', toks := tk }) →
    codeAny (model prog w) A (.builtin "max.loop" ⟨[.ref I, .none, .ref S], kw⟩) R s := by
  have nw : S ∉ wr := fun h => hS0 (W.sub _ h)
  have nm : (toString "max" ++ toString ".loop" : String) = "max.loop" := by decide
  intro k
  induction k with
  | zero =>
    intro j s best c hk hj st pb hS hR
    have en : j + 1 = n := by omega
    refine codeAny_builtin F.entry_max_loop ?_
    rw [Around.under_plainId F.plain_max_loop _]
    show wpAny _ A.in1 (seqItems? (.ref S) >>= _) _ _ s
    refine wpAny_bind (wpAny_seqItems hS rfl ?_)
    show wpAny _ A.in1 (tryCatch (pyNext (.ref I)) _ >>= _) _ _ s
    refine wpAny_bind (wpAny_tryCatch (W.done s _ _ (en ▸ st) fun h' tk kp => ?_))
    have hS2 := kp S _ nw hS
    show wpAny _ A.in1 (updateSeq S (fun _ => #[]) >>= _) _ _ _
    refine wpAny_bind (wpAny_updateSeq hS2 rfl (wpAny_bind (wpAny_letGo (wpAny_pure ?_))))
    exact hR best _ tk (en ▸ pb) fun b o b1 b2 e => (Heap.get?_update_other _ _ (Ne.symm b2)).trans (kp b o b1 e)
  | succ k ih =>
    intro j s best c hk hj st pb hS hR
    have lt : j + 1 < n := by omega
    refine codeAny_builtin F.entry_max_loop ?_
    rw [Around.under_plainId F.plain_max_loop _]
    show wpAny _ A.in1 (seqItems? (.ref S) >>= _) _ _ s
    refine wpAny_bind (wpAny_seqItems hS rfl ?_)
    show wpAny _ A.in1 (tryCatch (pyNext (.ref I)) _ >>= _) _ _ s
    refine wpAny_bind (wpAny_tryCatch (W.item (j + 1) s _ _ lt st fun v h' tk pv st2 kp => ?_))
    have hS2 := kp S _ nw hS
    show wpAny _ A.in1 (tryCatch (holding [v, v] (richCompare .Gt v best >>= _)) _ >>= _) _ _ _
    refine wpAny_bind (wpAny_tryCatch (wpAny_holding (wpAny_bind (hc (j + 1) (argBest bt j) v best _ _ _ pv pb ?_))))
    refine wpAny_bind (wpAny_holding (wpAny_truthy_bool (wpAny_bind (wpAny_letGo (wpAny_pure ?_)))))
    cases hb : bt (j + 1) (argBest bt j) with
    | true =>
      simp only [if_true]
      refine wpAny_bind (wpAny_updateSeq hS2 rfl (wpAny_bind (wpAny_letGo ?_)))
      rw [nm]
      have e1 : P (argBest bt (j + 1)) v := by simp only [argBest, hb, if_true]; exact pv
      have st3 : Sx (j + 1 + 1) (h'.update S (Obj.mapSeq fun _ => #[v, v])) :=
        W.frame _ _ _ st2 fun b hbf o e => (Heap.get?_update_other _ _ (fun h : S = b => hS0 (h ▸ hbf))).trans e
      refine wpAny_pure ⟨plainId_quiet F.plain_max_loop _, ih (j + 1) _ v _ (by omega) lt st3 e1 (Heap.get?_update_self _ hS2 rfl) ?_⟩
      intro v' h'' tk'' p' kp'
      exact hR v' h'' tk'' p' fun b o b1 b2 e => kp' b o b1 b2 ((Heap.get?_update_other _ _ (Ne.symm b2)).trans (kp b o b1 e))
    | false =>
      simp only [Bool.false_eq_true, if_false]
      refine wpAny_bind (wpAny_letGo ?_)
      rw [nm]
      have e1 : P (argBest bt (j + 1)) best := by simp only [argBest, hb, Bool.false_eq_true, if_false]; exact pb
      refine wpAny_pure ⟨plainId_quiet F.plain_max_loop _, ih (j + 1) _ best c (by omega) lt st2 e1 hS2 ?_⟩
      intro v' h'' tk'' p' kp'
      exact hR v' h'' tk'' p' fun b o b1 b2 e => kp' b o b1 b2 (kp b o b1 e)
end
section
variable {prog : Program} {w : World} {A : Around} {E : Value → Shared → Prop} {s : Shared}
theorem args_maxD (a d : Value) : argsOk "max" ⟨[a], [(Str.ofString "default", d)]⟩ := by unfold argsOk; kernel_rfl
/-- max(xs, default=d) of a list of ints -/
theorem max_dflt {l : Addr} {its : List Value} {ns : List Int} {d : Value} {Q : Value → Shared → Prop} (hh : A.handled = none)
    (hl : s.heap.IsList l its.toArray) (hi : IntsAre its ns)
    (h0 : ns = [] → ∀ h' tk, (∀ b o, s.heap.get? b = some o → h'.get? b = some o) → Q d { s with heap := h', toks := tk })
    (h1 : ∀ h' tk m t, (∀ b o, s.heap.get? b = some o → h'.get? b = some o) → m ∈ ns → (∀ y ∈ ns, y ≤ m) → Q (.int m t) { s with heap := h', toks := tk }) :
    wpAny (model prog w) A (call (.builtin "max") [.ref l] [(Str.ofString "default", d)]) Q E s := by
  have nm : (toString "max" ++ toString ".loop" : String) = "max.loop" := by decide
  obtain ⟨xs, e⟩ := hi.allInts.items
  have hn : numsOf (intItems xs).toList = ns := e ▸ hi.numsOf
  rw [nums_intItems] at hn
  subst hn
  rw [e] at hl
  refine callTree_kw F.kind_max F.plain_max F.entry_max (args_maxD _ _) ?_
  have eb : Builtin.Builtins.bindParams "max" ["key", "default"] 0 ⟨[], [(Str.ofString "default", d)]⟩ = pure [none, some d] := by kernel_rfl
  show wpAny _ A.in1 (Builtin.Builtins.bindParams "max" ["key", "default"] 0 ⟨[], [(Str.ofString "default", d)]⟩ >>= _) _ _ s
  refine wpAny_bind (wpAny_of_eq eb ?_)
  refine wpAny_bind (wpAny_pure ?_)
  refine wpAny_bind (iter_intList hl fun s₂ e2 st hfp hlI => ?_)
  subst e2
  refine wpAny_bind (wpAny_newObj_type ?_)
  have W := Walks.list (prog := prog) (w := w) (A := A.in1) hh _ l hlI (intItems xs)
  have hf : (s.heap.push { cls := .type "list_iterator", data := .fields #[.ref l, .int 0 0] }).objs.size ∉ [s.heap.objs.size, l] :=
    fun hm => Nat.lt_irrefl _ (hfp _ hm)
  rw [nm]
  generalize hZ : (s.heap.push { cls := .type "list_iterator", data := .fields #[.ref l, .int 0 0] }).objs.size = Z at hf ⊢
  refine wpAny_pure ⟨plainId_quiet F.plain_max_loop _, ?_⟩
  have st0 := W.frame _ _ _ st fun b _ o e => Heap.get?_push_of_some { cls := .type "list", data := .seq #[] } e
  have nw : Z ∉ [s.heap.objs.size] := fun h => hf (W.sub _ h)
  have hS : ((s.heap.push { cls := .type "list_iterator", data := .fields #[.ref l, .int 0 0] }).push { cls := .type "list", data := .seq #[] }).get?
      (s.heap.push { cls := .type "list_iterator", data := .fields #[.ref l, .int 0 0] }).objs.size = some { cls := .type "list", data := .seq #[] } := Heap.get?_push_size _ rfl
  rw [hZ] at hS
  have keep : ∀ b o, s.heap.get? b = some o → b ∉ [s.heap.objs.size] ∧ b ≠ Z := fun b o q => by
    have lb := Heap.lt_size q
    have sz : Z = s.heap.objs.size + 1 := by rw [← hZ, Heap.size_push]
    refine ⟨fun h => Nat.ne_of_lt lb (List.mem_singleton.mp h), ?_⟩
    rw [sz]
    exact Nat.ne_of_lt (Nat.lt_succ_of_lt lb)
  refine codeAny_builtin F.entry_max_loop ?_
  rw [Around.under_plainId F.plain_max_loop _]
  show wpAny _ A.in1 (seqItems? (.ref Z) >>= _) _ _ _
  refine wpAny_bind (wpAny_seqItems hS rfl ?_)
  show wpAny _ A.in1 (tryCatch (pyNext (.ref _)) _ >>= _) _ _ _
  by_cases hz : 0 < (intItems xs).size
  · refine wpAny_bind (wpAny_tryCatch (W.item 0 _ _ _ hz st0 fun v h' tk pv st2 kp => ?_))
    have hS2 := kp Z _ nw hS
    show wpAny _ A.in1 (updateSeq Z (fun _ => #[v, v]) >>= _) _ _ _
    refine wpAny_bind (wpAny_updateSeq hS2 rfl ?_)
    rw [nm]
    have st3 : h'.IsListIter s.heap.objs.size l (0 + 1) ∧ h'.IsList l (intItems xs) := st2
    refine wpAny_pure ⟨plainId_quiet F.plain_max_loop _, max_goes W _ (CmpOf.ints_gt (numAt xs) fun _ _ => intItems_at) Z hf _ _ 0 _ v _ rfl hz
      (W.frame _ _ _ st3 fun b hbf o e => (Heap.get?_update_other _ _ (fun h : Z = b => hf (h ▸ hbf))).trans e) pv (Heap.get?_update_self _ hS2 rfl) ?_⟩
    intro v' h'' tk'' p' kp'
    obtain ⟨t, rfl⟩ := intItems_at p'
    have hsz : 0 < xs.size := by simpa [intItems] using hz
    have hsz2 : (intItems xs).size - 1 = xs.size - 1 := by simp [intItems]
    obtain ⟨b1, b2⟩ := argBest_gt (numAt xs) (xs.size - 1)
    rw [hsz2] at p' ⊢
    refine h1 h'' tk'' _ t (fun b o q => ?_) ?_ ?_
    · obtain ⟨q1, q2⟩ := keep b o q
      exact kp' b o q1 q2 ((Heap.get?_update_other _ _ (Ne.symm q2)).trans (kp b o q1 (Heap.get?_push_of_some _ (Heap.get?_push_of_some _ q))))
    · rw [numAt_eq]
      exact PySem.getD_mem (by rw [List.length_map, Array.length_toList]; omega)
    · intro y hy
      obtain ⟨j, hj, rfl⟩ := mem_getD hy
      rw [List.length_map, Array.length_toList] at hj
      rw [← numAt_eq]
      exact b2 j (by omega)
  · have z0 : (intItems xs).size = 0 := by omega
    have z1 : xs.size = 0 := by simpa [intItems] using z0
    refine wpAny_bind (wpAny_tryCatch (W.done _ _ _ (by rw [z0]; exact st0) fun h' tk kp => ?_))
    show wpAny _ A.in1 (rule _ >>= _) _ _ _
    refine wpAny_bind (wpAny_rule ?_)
    refine wpAny_pure ?_
    refine h0 ?_ h' tk fun b o q => kp b o (keep b o q).1 (Heap.get?_push_of_some _ (Heap.get?_push_of_some _ q))
    have z2 : xs.toList = [] := by
      apply List.eq_nil_of_length_eq_zero
      rw [Array.length_toList]; exact z1
    rw [z2]; rfl
end
def rMaxD (K : PySem.W.Frag) : List V → List V → Hp → VK → Prop := fun vs zs H Q => ∃ (a : Addr) (ns : List Int) (d : V), vs = [V.ref a] ∧ zs = [d] ∧
  SqL K H a (ns.map V.int) ∧ (ns = [] → Q d H) ∧ ∀ m, m ∈ ns → (∀ y ∈ ns, y ≤ m) → Q (.int m) H
theorem cr_maxD {X : Cx} (hc : X.calm = true) : CallRK X (.builtin "max") [Str.ofString "default"] (rMaxD X.K) := by
  intro pins s σ H vs zs us ws Q I r rz h
  obtain ⟨a, ns, d, rfl, rfl, hs, q0, q1⟩ := h
  obtain ⟨its, rv, hl, _⟩ := I.list hs
  obtain ⟨u, rfl, ru⟩ := vals1 rz
  rw [Vals.ref1 r]
  refine max_dflt (I.ok.hd hc) hl.isList rv.ints (fun e h' tk hk => ?_) fun h' tk m t hk h1 h2 => ?_
  · exact ⟨d, H, I.kept hk, ru, q0 e⟩
  · exact ⟨.int m, H, I.kept hk, ⟨t, rfl⟩, q1 m h1 h2⟩

section
variable {prog : Program} {w : World} {A : Around} {R : Result → Shared → Prop} {I : Addr} {fp wr : List Addr} {n : Nat}
  {P : Nat → Value → Prop} {Sx : Nat → Heap → Prop}
/-- min's loop, whatever keywords go with it -/
theorem min_goes (W : Walks prog w A.in1 I fp wr n P Sx) (bt : Nat → Nat → Bool) (hc : CmpOf prog w A.in1 .Lt P bt) (S : Addr) (hS0 : S ∉ fp)
    (kw : List (Str × Value)) : ∀ (k j : Nat) (s : Shared) (best : Value) (c : Nat), n - (j + 1) = k → j + 1 ≤ n → Sx (j + 1) s.heap →
    P (argBest bt j) best → s.heap.get? S = some { cls := .type "list", dict := none, data := .seq #[best, best] c, slots := #[] } →
    (∀ v h' tk, P (argBest bt (n - 1)) v → (∀ b o, b ∉ wr → b ≠ S → s.heap.get? b = some o → h'.get? b = some o) →
      R (.ok (.ret v)) { s with heap := h', toks := tk }) →
    codeAny (model prog w) A (.builtin "min.loop" ⟨[.ref I, .none, .ref S], kw⟩) R s := by
  have nw : S ∉ wr := fun h => hS0 (W.sub _ h)
  have nm : (toString "min" ++ toString ".loop" : String) = "min.loop" := by decide
  intro k
  induction k with
  | zero =>
    intro j s best c hk hj st pb hS hR
    have en : j + 1 = n := by omega
    refine codeAny_builtin F.entry_min_loop ?_
    rw [Around.under_plainId F.plain_min_loop _]
    show wpAny _ A.in1 (seqItems? (.ref S) >>= _) _ _ s
    refine wpAny_bind (wpAny_seqItems hS rfl ?_)
    show wpAny _ A.in1 (tryCatch (pyNext (.ref I)) _ >>= _) _ _ s
    refine wpAny_bind (wpAny_tryCatch (W.done s _ _ (en ▸ st) fun h' tk kp => ?_))
    have hS2 := kp S _ nw hS
    show wpAny _ A.in1 (updateSeq S (fun _ => #[]) >>= _) _ _ _
    refine wpAny_bind (wpAny_updateSeq hS2 rfl (wpAny_bind (wpAny_letGo (wpAny_pure ?_))))
    exact hR best _ tk (en ▸ pb) fun b o b1 b2 e => (Heap.get?_update_other _ _ (Ne.symm b2)).trans (kp b o b1 e)
  | succ k ih =>
    intro j s best c hk hj st pb hS hR
    have lt : j + 1 < n := by omega
    refine codeAny_builtin F.entry_min_loop ?_
    rw [Around.under_plainId F.plain_min_loop _]
    show wpAny _ A.in1 (seqItems? (.ref S) >>= _) _ _ s
    refine wpAny_bind (wpAny_seqItems hS rfl ?_)
    show wpAny _ A.in1 (tryCatch (pyNext (.ref I)) _ >>= _) _ _ s
    refine wpAny_bind (wpAny_tryCatch (W.item (j + 1) s _ _ lt st fun v h' tk pv st2 kp => ?_))
    have hS2 := kp S _ nw hS
    show wpAny _ A.in1 (tryCatch (holding [v, v] (richCompare .Lt v best >>= _)) _ >>= _) _ _ _
    refine wpAny_bind (wpAny_tryCatch (wpAny_holding (wpAny_bind (hc (j + 1) (argBest bt j) v best _ _ _ pv pb ?_))))
    refine wpAny_bind (wpAny_holding (wpAny_truthy_bool (wpAny_bind (wpAny_letGo (wpAny_pure ?_)))))
    cases hb : bt (j + 1) (argBest bt j) with
    | true =>
      simp only [if_true]
      refine wpAny_bind (wpAny_updateSeq hS2 rfl (wpAny_bind (wpAny_letGo ?_)))
      rw [nm]
      have e1 : P (argBest bt (j + 1)) v := by simp only [argBest, hb, if_true]; exact pv
      have st3 : Sx (j + 1 + 1) (h'.update S (Obj.mapSeq fun _ => #[v, v])) :=
        W.frame _ _ _ st2 fun b hbf o e => (Heap.get?_update_other _ _ (fun h : S = b => hS0 (h ▸ hbf))).trans e
      refine wpAny_pure ⟨plainId_quiet F.plain_min_loop _, ih (j + 1) _ v _ (by omega) lt st3 e1 (Heap.get?_update_self _ hS2 rfl) ?_⟩
      intro v' h'' tk'' p' kp'
      exact hR v' h'' tk'' p' fun b o b1 b2 e => kp' b o b1 b2 ((Heap.get?_update_other _ _ (Ne.symm b2)).trans (kp b o b1 e))
    | false =>
      simp only [Bool.false_eq_true, if_false]
      refine wpAny_bind (wpAny_letGo ?_)
      rw [nm]
      have e1 : P (argBest bt (j + 1)) best := by simp only [argBest, hb, Bool.false_eq_true, if_false]; exact pb
      refine wpAny_pure ⟨plainId_quiet F.plain_min_loop _, ih (j + 1) _ best c (by omega) lt st2 e1 hS2 ?_⟩
      intro v' h'' tk'' p' kp'
      exact hR v' h'' tk'' p' fun b o b1 b2 e => kp' b o b1 b2 (kp b o b1 e)
end
section
variable {prog : Program} {w : World} {A : Around} {E : Value → Shared → Prop} {s : Shared}
theorem args_minD (a d : Value) : argsOk "min" ⟨[a], [(Str.ofString "default", d)]⟩ := by unfold argsOk; kernel_rfl
/-- min(xs, default=d) of a list of ints -/
theorem min_dflt {l : Addr} {its : List Value} {ns : List Int} {d : Value} {Q : Value → Shared → Prop} (hh : A.handled = none)
    (hl : s.heap.IsList l its.toArray) (hi : IntsAre its ns)
    (h0 : ns = [] → ∀ h' tk, (∀ b o, s.heap.get? b = some o → h'.get? b = some o) → Q d { s with heap := h', toks := tk })
    (h1 : ∀ h' tk m t, (∀ b o, s.heap.get? b = some o → h'.get? b = some o) → m ∈ ns → (∀ y ∈ ns, m ≤ y) → Q (.int m t) { s with heap := h', toks := tk }) :
    wpAny (model prog w) A (call (.builtin "min") [.ref l] [(Str.ofString "default", d)]) Q E s := by
  have nm : (toString "min" ++ toString ".loop" : String) = "min.loop" := by decide
  obtain ⟨xs, e⟩ := hi.allInts.items
  have hn : numsOf (intItems xs).toList = ns := e ▸ hi.numsOf
  rw [nums_intItems] at hn
  subst hn
  rw [e] at hl
  refine callTree_kw F.kind_min F.plain_min F.entry_min (args_minD _ _) ?_
  have eb : Builtin.Builtins.bindParams "min" ["key", "default"] 0 ⟨[], [(Str.ofString "default", d)]⟩ = pure [none, some d] := by kernel_rfl
  show wpAny _ A.in1 (Builtin.Builtins.bindParams "min" ["key", "default"] 0 ⟨[], [(Str.ofString "default", d)]⟩ >>= _) _ _ s
  refine wpAny_bind (wpAny_of_eq eb ?_)
  refine wpAny_bind (wpAny_pure ?_)
  refine wpAny_bind (iter_intList hl fun s₂ e2 st hfp hlI => ?_)
  subst e2
  refine wpAny_bind (wpAny_newObj_type ?_)
  have W := Walks.list (prog := prog) (w := w) (A := A.in1) hh _ l hlI (intItems xs)
  have hf : (s.heap.push { cls := .type "list_iterator", data := .fields #[.ref l, .int 0 0] }).objs.size ∉ [s.heap.objs.size, l] :=
    fun hm => Nat.lt_irrefl _ (hfp _ hm)
  rw [nm]
  generalize hZ : (s.heap.push { cls := .type "list_iterator", data := .fields #[.ref l, .int 0 0] }).objs.size = Z at hf ⊢
  refine wpAny_pure ⟨plainId_quiet F.plain_min_loop _, ?_⟩
  have st0 := W.frame _ _ _ st fun b _ o e => Heap.get?_push_of_some { cls := .type "list", data := .seq #[] } e
  have nw : Z ∉ [s.heap.objs.size] := fun h => hf (W.sub _ h)
  have hS : ((s.heap.push { cls := .type "list_iterator", data := .fields #[.ref l, .int 0 0] }).push { cls := .type "list", data := .seq #[] }).get?
      (s.heap.push { cls := .type "list_iterator", data := .fields #[.ref l, .int 0 0] }).objs.size = some { cls := .type "list", data := .seq #[] } := Heap.get?_push_size _ rfl
  rw [hZ] at hS
  have keep : ∀ b o, s.heap.get? b = some o → b ∉ [s.heap.objs.size] ∧ b ≠ Z := fun b o q => by
    have lb := Heap.lt_size q
    have sz : Z = s.heap.objs.size + 1 := by rw [← hZ, Heap.size_push]
    refine ⟨fun h => Nat.ne_of_lt lb (List.mem_singleton.mp h), ?_⟩
    rw [sz]
    exact Nat.ne_of_lt (Nat.lt_succ_of_lt lb)
  refine codeAny_builtin F.entry_min_loop ?_
  rw [Around.under_plainId F.plain_min_loop _]
  show wpAny _ A.in1 (seqItems? (.ref Z) >>= _) _ _ _
  refine wpAny_bind (wpAny_seqItems hS rfl ?_)
  show wpAny _ A.in1 (tryCatch (pyNext (.ref _)) _ >>= _) _ _ _
  by_cases hz : 0 < (intItems xs).size
  · refine wpAny_bind (wpAny_tryCatch (W.item 0 _ _ _ hz st0 fun v h' tk pv st2 kp => ?_))
    have hS2 := kp Z _ nw hS
    show wpAny _ A.in1 (updateSeq Z (fun _ => #[v, v]) >>= _) _ _ _
    refine wpAny_bind (wpAny_updateSeq hS2 rfl ?_)
    rw [nm]
    have st3 : h'.IsListIter s.heap.objs.size l (0 + 1) ∧ h'.IsList l (intItems xs) := st2
    refine wpAny_pure ⟨plainId_quiet F.plain_min_loop _, min_goes W _ (CmpOf.ints_lt (numAt xs) fun _ _ => intItems_at) Z hf _ _ 0 _ v _ rfl hz
      (W.frame _ _ _ st3 fun b hbf o e => (Heap.get?_update_other _ _ (fun h : Z = b => hf (h ▸ hbf))).trans e) pv (Heap.get?_update_self _ hS2 rfl) ?_⟩
    intro v' h'' tk'' p' kp'
    obtain ⟨t, rfl⟩ := intItems_at p'
    have hsz : 0 < xs.size := by simpa [intItems] using hz
    have hsz2 : (intItems xs).size - 1 = xs.size - 1 := by simp [intItems]
    obtain ⟨b1, b2⟩ := argBest_lt (numAt xs) (xs.size - 1)
    rw [hsz2] at p' ⊢
    refine h1 h'' tk'' _ t (fun b o q => ?_) ?_ ?_
    · obtain ⟨q1, q2⟩ := keep b o q
      exact kp' b o q1 q2 ((Heap.get?_update_other _ _ (Ne.symm q2)).trans (kp b o q1 (Heap.get?_push_of_some _ (Heap.get?_push_of_some _ q))))
    · rw [numAt_eq]
      exact PySem.getD_mem (by rw [List.length_map, Array.length_toList]; omega)
    · intro y hy
      obtain ⟨j, hj, rfl⟩ := mem_getD hy
      rw [List.length_map, Array.length_toList] at hj
      rw [← numAt_eq]
      exact b2 j (by omega)
  · have z0 : (intItems xs).size = 0 := by omega
    have z1 : xs.size = 0 := by simpa [intItems] using z0
    refine wpAny_bind (wpAny_tryCatch (W.done _ _ _ (by rw [z0]; exact st0) fun h' tk kp => ?_))
    show wpAny _ A.in1 (rule _ >>= _) _ _ _
    refine wpAny_bind (wpAny_rule ?_)
    refine wpAny_pure ?_
    refine h0 ?_ h' tk fun b o q => kp b o (keep b o q).1 (Heap.get?_push_of_some _ (Heap.get?_push_of_some _ q))
    have z2 : xs.toList = [] := by
      apply List.eq_nil_of_length_eq_zero
      rw [Array.length_toList]; exact z1
    rw [z2]; rfl
end
def rMinD (K : PySem.W.Frag) : List V → List V → Hp → VK → Prop := fun vs zs H Q => ∃ (a : Addr) (ns : List Int) (d : V), vs = [V.ref a] ∧ zs = [d] ∧
  SqL K H a (ns.map V.int) ∧ (ns = [] → Q d H) ∧ ∀ m, m ∈ ns → (∀ y ∈ ns, m ≤ y) → Q (.int m) H
theorem cr_minD {X : Cx} (hc : X.calm = true) : CallRK X (.builtin "min") [Str.ofString "default"] (rMinD X.K) := by
  intro pins s σ H vs zs us ws Q I r rz h
  obtain ⟨a, ns, d, rfl, rfl, hs, q0, q1⟩ := h
  obtain ⟨its, rv, hl, _⟩ := I.list hs
  obtain ⟨u, rfl, ru⟩ := vals1 rz
  rw [Vals.ref1 r]
  refine min_dflt (I.ok.hd hc) hl.isList rv.ints (fun e h' tk hk => ?_) fun h' tk m t hk h1 h2 => ?_
  · exact ⟨d, H, I.kept hk, ru, q0 e⟩
  · exact ⟨.int m, H, I.kept hk, ⟨t, rfl⟩, q1 m h1 h2⟩

/-! ### sum(xs, start=0) -/
section
variable {prog : Program} {w : World} {A : Around} {E : Value → Shared → Prop} {s : Shared}
theorem args_sumS (a d : Value) : argsOk "sum" ⟨[a], [(Str.ofString "start", d)]⟩ := by unfold argsOk; kernel_rfl
theorem sum_start {l : Addr} {its : List Value} {ns : List Int} {t0 : Tok} {Q : Value → Shared → Prop} (hh : A.handled = none)
    (hl : s.heap.IsList l its.toArray) (hi : IntsAre its ns)
    (h : ∀ h' tk t', (∀ b o, s.heap.get? b = some o → h'.get? b = some o) → Q (.int ns.sum t') { s with heap := h', toks := tk }) :
    wpAny (model prog w) A (call (.builtin "sum") [.ref l] [(Str.ofString "start", .int 0 t0)]) Q E s := by
  obtain ⟨xs, e⟩ := hi.allInts.items
  have hn : numsOf (intItems xs).toList = ns := e ▸ hi.numsOf
  rw [nums_intItems] at hn
  rw [e] at hl
  refine callTree_kw F.kind_sum F.plain_sum F.entry_sum (args_sumS _ _) ?_
  unfold Builtin.«sum»
  simp only [List.length_cons, List.length_nil]
  rw [if_neg (by decide)]
  have eb : Builtin.Builtins.bindParams "sum" ["start"] 0 ⟨[], [(Str.ofString "start", .int 0 t0)]⟩ = pure [some (.int 0 t0)] := by kernel_rfl
  refine wpAny_bind (wpAny_of_eq eb ?_)
  refine wpAny_bind (iter_intList hl fun s₂ e2 st hfp hlI => ?_)
  subst e2
  have W := Walks.list (prog := prog) (w := w) (A := A.in1) hh _ l hlI (intItems xs)
  refine wpAny_bind (wpAny_rule ?_)
  refine wpAny_bind (wpAny_mkInt (wpAny_bind (wpAny_pure ?_)))
  simp only [List.forIn_cons, List.forIn_nil]
  refine wpAny_bind (wpAny_bind (wpAny_bind (wpAny_isInstance (T := "int") (b := false) (typeIs_int _ _ _) PySem.sub_int_str ?_)))
  simp only [Bool.false_eq_true, if_false]
  refine wpAny_pure (wpAny_bind (wpAny_bind (wpAny_isInstance (T := "int") (b := false) (typeIs_int _ _ _) PySem.sub_int_bytes ?_)))
  simp only [Bool.false_eq_true, if_false]
  refine wpAny_pure (wpAny_bind (wpAny_bind (wpAny_isInstance (T := "int") (b := false) (typeIs_int _ _ _) PySem.sub_int_bytearray ?_)))
  simp only [Bool.false_eq_true, if_false]
  refine wpAny_pure (wpAny_pure ?_)
  refine wpAny_bind (wpAny_newObj_type ?_)
  refine wpAny_pure ⟨plainId_quiet F.plain_sum_loop _, codeAny_sum_loopG W (numAt xs) (fun _ _ => intItems_at) _ (fun hm => Nat.lt_irrefl _ (hfp _ hm)) _ 0 _ _ 0 0
    (Or.inl rfl) rfl (Nat.zero_le _) (W.frame _ _ _ st fun b _ o e => Heap.get?_push_of_some _ e) (Heap.get?_push_size _ rfl) fun h' tk t' hk => ?_⟩
  have q := h h' tk t' fun b o e => hk b o (fun hm => Nat.ne_of_lt (Heap.lt_size e) (List.mem_singleton.mp hm)) (by
      show b ≠ (s.heap.push _).objs.size
      rw [Heap.size_push]
      exact Nat.ne_of_lt (Nat.lt_succ_of_lt (Heap.lt_size e))) (Heap.get?_push_of_some _ (Heap.get?_push_of_some _ e))
  have e3 : (intItems xs).size = xs.size := by simp [intItems]
  rw [e3, preSum_eq, List.take_of_length_le (by simp), hn]
  exact q
end
def rSumS (K : PySem.W.Frag) : List V → List V → Hp → VK → Prop := fun vs zs H Q => ∃ (a : Addr) (ns : List Int), vs = [V.ref a] ∧ zs = [.int 0] ∧
  SqL K H a (ns.map V.int) ∧ Q (.int ns.sum) H
theorem cr_sumS {X : Cx} (hc : X.calm = true) : CallRK X (.builtin "sum") [Str.ofString "start"] (rSumS X.K) := by
  intro pins s σ H vs zs us ws Q I r rz h
  obtain ⟨a, ns, rfl, rfl, hs, q⟩ := h
  obtain ⟨its, rv, hl, _⟩ := I.list hs
  obtain ⟨u, rfl, t0, rfl⟩ := vals1 rz
  rw [Vals.ref1 r]
  exact sum_start (I.ok.hd hc) hl.isList rv.ints fun h' tk t' hk => ⟨.int _, H, I.kept hk, ⟨_, rfl⟩, q⟩
end Sil
set_option Elab.async false
set_option linter.all false
set_option maxRecDepth 100000
set_option maxHeartbeats 1000000
/-! P2: the end of a law whose def runs where no repr is under way. -/
namespace Sil
open PySem L2 PySem.Spec PyProof.Rows
section
variable {P : Program} {w : World} {K : PySem.W.Frag} {mg mb : Str → Option Value} {k : Nat} {fa a : Addr} {fd : FuncData} {x : Str} {sp : Sp}
  {s₁ : Shared} {vs : List Value} {ns : List Int}
/-- the law is called over an abstract heap H in which at most the script is tracked -/
theorem law_overH {H : Hp} (KX : K.In s₁.heap) (hns : s₁.heap.Ns mainGlobals mg) (hb : s₁.heap.Ns builtinsNs mb)
    (hbb : ∀ x : Str, x ≠ "__name__" → mb x = bootBuiltins x) (hlim : s₁.heap.NoLimit) (hg : s₁.gens = #[])
    (ha : s₁.heap.get? a = some { cls := .type "list", data := .seq vs.toArray }) (hr : Room k callerA)
    (F : ∀ base : Heap, K.In base → base.Ns mainGlobals mg → FnG P w K mg base CX0 k fa fd [x] sp)
    (hbind : ∀ (s : Shared) (u : Value), BindsTo s fd ⟨[u], []⟩ [(x, u)])
    (hO : Only H) (hok : HOk P w H s₁.heap) (hA : ∀ b, H b ≠ none → b = a) (hK : H a ≠ none → K.lookup a = none)
    (hsp : sp [.ref a] H (fun v _ => v = .bl true) fun _ _ _ => False) :
    codeAny (model P w) callerA (.call (.ref fa) ⟨[.ref a], []⟩)
      (fun r s' => r = .ok (.ret (.bool true)) ∧ OldK s₁.heap s'.heap ∧ s'.os = s₁.os ∧ AllBare s'.gens) s₁ := by
  have one : ∀ {b : Addr} {u : HO}, H b = some u → b = a := fun {b u} q => hA b (by rw [q]; exact fun z => nomatch z)
  have nod : ∀ {b : Addr} {o : Obj} {es : Array DictEntry} {ep : Nat}, s₁.heap.get? b = some o → o.data = .dict es ep → H b = none := by
    intro b o es ep e d
    rcases q : H b with _ | u
    · rfl
    · cases one q
      rw [ha] at e
      cases e
      exact nomatch d
  have nsK : ∀ {b : Addr} {m : Str → Option Value}, s₁.heap.Ns b m → (hidT s₁.heap H).Ns b m := by
    rintro b m ⟨o, es, ep, e, d, r⟩
    exact ⟨o, es, ep, hidT_get e (nod e d), d, r⟩
  have kin : K.In (hidT s₁.heap H) := by
    intro b o e
    refine hidT_get (KX b o e) ?_
    rcases q : H b with _ | u
    · rfl
    · cases one q
      have z := hK (by rw [q]; exact fun z => nomatch z)
      rw [z] at e
      exact nomatch e
  obtain ⟨mc, l1, l2⟩ := hlim
  have md : Mod K mg (hidT s₁.heap H) := ⟨kin, nsK hns, ⟨mb, nsK hb, hbb⟩, mc, nsK l1, l2⟩
  have e0 : Env0 P w K mg (hidT s₁.heap H) callerA [] s₁ H :=
    { frames := rfl, mod := md, bs := fun b o e => of_hidT e, bsz := Nat.le_of_eq (hidT_size _ _), funs := trivial,
      frf := fun b hb => absurd (show b ∈ ([] : List Addr) from hb) (by simp), hok := hok, bare := .of_eq hg }
  have run := (F _ kin (nsK hns)).go callerA [] s₁ H ⟨[.ref a], []⟩ [.ref a] [.ref a] _ _ hr rfl e0 (hbind s₁ (.ref a)) (.cons rfl .nil) hsp
  refine codeAny_mono run ?_
  rintro (e | fl) s' h
  · exact h.elim
  · cases fl with
    | next => exact h.elim
    | brk => exact h.elim
    | cont => exact h.elim
    | ret u =>
      obtain ⟨v, H', os, bare, un, hok', r', q⟩ := h
      have q2 : v = .bl true := q
      subst q2
      cases r'
      refine ⟨rfl, OldK.of_keep fun b o e => ?_, os, bare⟩
      rcases q : H b with _ | u
      · exact un.keep b o e q (fun z => absurd (show b ∈ ([] : List Addr) from z) (by simp)) (by simp)
      · rcases hO b with z | ⟨ob, xs, z⟩
        · rw [q] at z; exact nomatch z
        · have e1 := (hok b _ z).1
          have e2 := (hok' b _ (un.frzs b ob _ z)).1
          rw [e] at e1
          cases e1
          exact e2
theorem law_callG (KX : K.In s₁.heap) (hns : s₁.heap.Ns mainGlobals mg) (hb : s₁.heap.Ns builtinsNs mb)
    (hbb : ∀ x : Str, x ≠ "__name__" → mb x = bootBuiltins x) (hlim : s₁.heap.NoLimit) (hg : s₁.gens = #[])
    (ha : s₁.heap.get? a = some { cls := .type "list", data := .seq vs.toArray }) (hi : IntsAre vs ns) (hl : ns.length ≤ sizeLine) (hr : Room k callerA)
    (F : ∀ base : Heap, K.In base → base.Ns mainGlobals mg → FnG P w K mg base CX0 k fa fd [x] sp)
    (hbind : ∀ (s : Shared) (u : Value), BindsTo s fd ⟨[u], []⟩ [(x, u)])
    (hsp : ∀ H : Hp, Only H → SqL K H a (ns.map V.int) → sp [.ref a] H (fun v _ => v = .bl true) fun _ _ _ => False) :
    codeAny (model P w) callerA (.call (.ref fa) ⟨[.ref a], []⟩)
      (fun r s' => r = .ok (.ret (.bool true)) ∧ OldK s₁.heap s'.heap ∧ s'.os = s₁.os ∧ AllBare s'.gens) s₁ := by
  have rv := vals_ints hi
  have ln := hi.length
  cases hk : K.lookup a with
  | some o =>
    have e := KX a o hk
    rw [ha] at e
    cases e
    have hO : Only fun _ => none := fun _ => .inl rfl
    refine law_overH KX hns hb hbb hlim hg ha hr F hbind hO (fun b u z => nomatch z) (fun b z => absurd rfl z) (fun z => absurd rfl z) (hsp _ hO ?_)
    exact .inr ⟨_, vs.toArray, _, hk, rfl, rfl, rfl, by rw [List.size_toArray, ln]; exact hl, by simpa using rv⟩
  | none =>
    let ob : Obj := { cls := .type "list", data := .seq vs.toArray }
    let G : Hp := upd (fun _ => none) a (.frz ob (.lst (ns.map V.int)))
    have at_a : G a = some (.frz ob (.lst (ns.map V.int))) := upd_same
    have off_a : ∀ {b : Addr}, b ≠ a → G b = none := fun hb => upd_ne hb
    have hO : Only G := fun b => if h : b = a then .inr ⟨_, _, h ▸ at_a⟩ else .inl (off_a h)
    refine law_overH KX hns hb hbb hlim hg ha hr F hbind hO (fun b u z => ?_) (fun b z => ?_) (fun _ => hk) (hsp _ hO (.inl (.inr ⟨ob, at_a⟩)))
    · by_cases h : b = a
      · subst h
        rw [at_a] at z
        cases z
        exact ⟨ha, by rw [List.length_map]; exact hl, vs, _, rv, ha⟩
      · rw [off_a h] at z
        exact nomatch z
    · by_cases h : b = a
      · exact h
      · exact absurd (off_a h) z
end
/-- the goal that k_head leaves, from the promise of the law's def -/
theorem walkG {l : PySem.W.OpenLaw} {k : Nat} {q : Program} {loose : List Str} {XP : (Str → Option Value) → Heap → Prop} {YP : World → Heap → Prop}
    {d : DefRec} {K : Params → PySem.W.Frag} {sp : PySem.W.Frag → Sp} {x : Str} (hn : l.most = some 63) (hdf : d.params.defaults = []) (hr : Room k callerA)
    (hY : ∀ (w : World) (h : Heap), YP w h → (K w.params).In h)
    (F : ∀ (w : World) (mg : Str → Option Value) (fa : Addr) (h : Heap), (K w.params).In h → h.Ns mainGlobals mg → mg d.name = some (.ref fa) →
      ∃ fd : FuncData, (∀ (s : Shared) (u : Value), BindsTo s fd ⟨[u], []⟩ [(x, u)]) ∧
        ∀ base : Heap, (K w.params).In base → base.Ns mainGlobals mg → FnG l.prog w (K w.params) mg base CX0 k fa fd [x] (sp (K w.params)))
    (hsp : ∀ (K : PySem.W.Frag) (H : Hp) (a : Addr) (ns : List Int), ns.length ≤ 63 → SqL K H a (ns.map V.int) →
      sp K [.ref a] H (fun v _ => v = .bl true) fun _ _ _ => False) :
    PySem.W.WalkO q loose XP YP l.row.toRowW d [] (fun f vs => PySem.call f vs) := by
  refine Att.attach_call hn hdf fun w s₀ s₁ mg mb fa o pm cd doc a vs ns G Y ho hd hcd hmg hobj hints hlen hg => ?_
  have KX := hY w _ Y
  obtain ⟨fd, hb, hF⟩ := F w mg fa _ KX G.T.g hmg
  exact law_callG KX G.T.g G.T.b G.T.builtins G.T.nolimit hg hobj hints (Nat.le_trans hlen (by decide)) hr hF hb fun H _ hS => hsp _ H a ns hlen hS
end Sil
set_option Elab.async false
set_option linter.all false
set_option maxRecDepth 100000
set_option maxHeartbeats 1000000
/-! P3: heaps without some addresses, data that stays, readings one construct at a time. -/
namespace Sil
open PySem L2

/-! ### heaps -/
theorem same_new {H : Hp} {p : Addr} {o : HO} (h : H p = none) : Same H (upd H p o) := fun a u e => by rw [upd_ne (ne_of_none e h)]; exact e
/-- the heap without the addresses of M -/
def off (M : List Addr) (H : Hp) : Hp := fun a => if a ∈ M then none else H a
theorem off_get {M : List Addr} {H : Hp} {a : Addr} {o : HO} (h : off M H a = some o) : H a = some o ∧ a ∉ M := by
  unfold off at h
  by_cases q : a ∈ M
  · rw [if_pos q] at h; cases h
  · rw [if_neg q] at h; exact ⟨h, q⟩
theorem off_sub {M : List Addr} {H : Hp} : Same (off M H) H := fun a o h => (off_get h).1
theorem off_mk {M : List Addr} {H : Hp} {a : Addr} {o : HO} (h : H a = some o) (n : a ∉ M) : off M H a = some o := by unfold off; rw [if_neg n]; exact h
theorem same_off {M : List Addr} {H H' : Hp} (s : Same H H') : Same (off M H) (off M H') := fun a o h => off_mk (s a o (off_get h).1) (off_get h).2
theorem off_nil {H : Hp} : off [] H = H := by funext a; unfold off; rw [if_neg (by simp)]
theorem off_more {M N : List Addr} {H H' : Hp} (s : Same (off M H) (off M H')) (hs : ∀ a ∈ M, a ∈ N) : Same (off N H) (off N H') := fun a o h => by
  obtain ⟨h1, h2⟩ := off_get h
  exact off_mk (off_get (s a o (off_mk h1 fun q => h2 (hs a q)))).1 h2
def Trk (M : List Addr) (H : Hp) : Prop := ∀ a ∈ M, ∃ o, H a = some o
theorem Trk.mono {M : List Addr} {H H' : Hp} (t : Trk M H) (s : Same H H') : Trk M H' := fun a h => let ⟨o, e⟩ := t a h; ⟨o, s a o e⟩
theorem Trk.ne {M : List Addr} {H : Hp} {p : Addr} (t : Trk M H) (h : H p = none) : p ∉ M := fun q => by
  obtain ⟨o, e⟩ := t p q
  rw [h] at e; cases e
theorem Trk.nil {H : Hp} : Trk [] H := fun _ h => nomatch h
theorem same_seqT {K : PySem.W.Frag} {H H' : Hp} {a : Addr} {xs : List V} (e : Same H H') (h : SqT K H a xs) : SqT K H' a xs := by
  rcases h with (h | ⟨o, h⟩) | h
  · exact .inl (.inl (e _ _ h))
  · exact .inl (.inr ⟨o, e _ _ h⟩)
  · exact .inr h
mutual
theorem Dp.mono {K : PySem.W.Frag} {H H' : Hp} (s : Same H H') : ∀ {d : PyData} {v : V}, Dp K H v d → Dp K H' v d
  | _, _, .non => .non
  | _, _, .bl b => .bl b
  | _, _, .int i => .int i
  | _, _, .str x => .str x
  | _, _, .lst h q => .lst (s.seq h) (DpAll.mono s q)
  | _, _, .tup h q => .tup (same_seqT s h) (DpAll.mono s q)
theorem DpAll.mono {K : PySem.W.Frag} {H H' : Hp} (s : Same H H') : ∀ {ds : List PyData} {vs : List V}, DpAll K H vs ds → DpAll K H' vs ds
  | _, _, .nil => .nil
  | _, _, .cons h q => .cons (Dp.mono s h) (DpAll.mono s q)
end

/-! ### readings -/
section
variable {σ : L2.St} {H : Hp} {Q : VK} {v x y : V} {ta tb tc te : TE} {i : Nat} {r r' : R2} {K : PySem.W.Frag}
theorem w_var (h : σ[i]? = some (some v)) (k : Q v H) : tVar i σ H Q := ⟨v, h, k⟩
theorem w_c (k : Q v H) : tC v σ H Q := k
theorem w_op (k : ta σ H fun x H1 => tb σ H1 fun y H2 => r x y H2 Q) : tOp r ta tb σ H Q := k
theorem w_un {r : V → Hp → VK → Prop} (k : ta σ H fun x H1 => r x H1 Q) : tUn r ta σ H Q := k
theorem w_cb {r : List V → Hp → VK → Prop} {t : TA} (k : t σ H fun vs H1 => r vs H1 Q) : tCB r t σ H Q := k
theorem w_ckw {r : List V → List V → Hp → VK → Prop} {t tk : TA} (k : t σ H fun vs H1 => tk σ H1 fun zs H2 => r vs zs H2 Q) : tCKw r t tk σ H Q := k
theorem w_nil {Q : List V → Hp → Prop} (k : Q [] H) : tNil σ H Q := k
theorem w_cons {Q : List V → Hp → Prop} {tr : TA} (k : ta σ H fun x H1 => tr σ H1 fun xs H2 => Q (x :: xs) H2) : tCons ta tr σ H Q := k
def kTup (xs : List V) (H : Hp) (Q : VK) : Prop := xs.length ≤ sizeLine ∧ ∀ p, H p = none → Q (.ref p) (upd H p (.tup xs))
def kLst (xs : List V) (H : Hp) (Q : VK) : Prop := xs.length ≤ sizeLine ∧ ∀ p, H p = none → Q (.ref p) (upd H p (.lst xs))
theorem w_tup {t : TA} (k : t σ H fun xs H1 => kTup xs H1 Q) : tTup t σ H Q := k
theorem w_lst {t : TA} (k : t σ H fun xs H1 => kLst xs H1 Q) : tLst t σ H Q := k
theorem k_tup {xs : List V} (hl : xs.length ≤ sizeLine) (k : ∀ p H2, H p = none → Same H H2 → H2 p = some (.tup xs) → Q (.ref p) H2) : kTup xs H Q :=
  ⟨hl, fun p hp => k p _ hp (same_new hp) upd_same⟩
theorem k_lst {xs : List V} (hl : xs.length ≤ sizeLine) (k : ∀ p H2, H p = none → Same H H2 → H2 p = some (.lst xs) → Q (.ref p) H2) : kLst xs H Q :=
  ⟨hl, fun p hp => k p _ hp (same_new hp) upd_same⟩
theorem w_I0 {g : Int → Int → V} {a b : Int} (k : Q (g a b) H) : rI0 g (.int a) (.int b) H Q := ⟨a, b, rfl, rfl, k⟩
theorem w_I {C : Int → Int → Prop} {g : Int → Int → V} {a b : Int} (c : C a b) (k : Q (g a b) H) : rI C g (.int a) (.int b) H Q := ⟨a, b, rfl, rfl, c, k⟩
theorem w_U {g : Int → V} {a : Int} (k : Q (g a) H) : rU g (.int a) H Q := ⟨a, rfl, k⟩
theorem w_eq (h : scal x y = true) (k : Q (.bl (decide (x = y))) H) : rEq x y H Q := ⟨h, k⟩
theorem w_ne (h : scal x y = true) (k : Q (.bl (!decide (x = y))) H) : rNe x y H Q := ⟨h, k⟩
theorem w_test {Q : Bool → Hp → Prop} (k : te σ H fun x H1 => ∃ c, x = .bl c ∧ Q c H1) : tTest te σ H Q := k
theorem w_B {Q : Bool → Hp → Prop} (k : te σ H fun x H1 => ∃ c, x = .bl c ∧ Q c H1) : tB te σ H Q := k
theorem w_and {t u : TT} {Q : Bool → Hp → Prop} (k : t σ H fun c H1 => if c = true then u σ H1 Q else Q false H1) : tAnd t u σ H Q := k
theorem w_or {t u : TT} {Q : Bool → Hp → Prop} (k : t σ H fun c H1 => if c = true then Q true H1 else u σ H1 Q) : tOr t u σ H Q := k
theorem w_not {t : TT} {Q : Bool → Hp → Prop} (k : t σ H fun c H1 => Q (!c) H1) : tNot t σ H Q := k
theorem w_andV (k : ta σ H fun x H1 => ∃ c, x = .bl c ∧ if c = true then tb σ H1 Q else Q (.bl false) H1) : tAndV ta tb σ H Q := k
theorem w_orV (k : ta σ H fun x H1 => ∃ c, x = .bl c ∧ if c = true then Q (.bl true) H1 else tb σ H1 Q) : tOrV ta tb σ H Q := k
theorem w_notV (k : ta σ H fun x H1 => ∃ c, x = .bl c ∧ Q (.bl (!c)) H1) : tNotV ta σ H Q := k
theorem w_if {t : TT} (k : t σ H fun c H1 => if c = true then ta σ H1 Q else tb σ H1 Q) : tIf t ta tb σ H Q := k
theorem w_chain (k : ta σ H fun x H1 => tb σ H1 fun y H2 => r x y H2 fun z H3 => ∃ c, z = .bl c ∧ (if c = true then tc σ H3 fun w' H4 => r' y w' H4 Q else Q (.bl false) H3)) :
    tChain r r' ta tb tc σ H Q := k
def kFld (K : PySem.W.Frag) (f : Str) (x : V) (H : Hp) (Q : VK) : Prop := ∃ a C dx fs v, x = .ref a ∧ H a = some (.ins C dx fs) ∧ Cls K C ∧ NoAttr K C f ∧ fs.lookup f = some v ∧ Q v H
theorem w_fld {f : Str} (k : ta σ H fun x H1 => kFld K f x H1 Q) : tFld K ta f σ H Q := k
theorem w_call {sp : Sp} {dvs : List V} {E : XK} {t : TA} (k : t σ H fun vs H1 => sp (vs ++ dvs) H1 Q E) : tCall sp dvs E t σ H Q := k
def kMeth (C : Addr) (m : Str) (x : V) (H : Hp) (R : Prop) : Prop := ∃ a dx fs, x = .ref a ∧ H a = some (.ins C dx fs) ∧ fs.lookup m = none ∧ R
theorem w_meth {sp : Sp} {dvs : List V} {E : XK} {t : TA} {C : Addr} {m : Str} (k : ta σ H fun x H1 => kMeth C m x H1 (t σ H1 fun vs H2 => sp (x :: (vs ++ dvs)) H2 Q E)) :
    tMeth C m sp dvs E ta t σ H Q := k
def kMake (C : Addr) (sp : Sp) (vs : List V) (H : Hp) (Q : VK) (E : XK) : Prop := ∀ x dx, H x = none → H dx = none → dx ≠ x →
  sp (.ref x :: vs) (upd (upd H dx (.own x)) x (.ins C dx [])) (fun v H2 => v = .non ∧ Q (.ref x) H2) E
theorem w_make {sp : Sp} {dvs : List V} {E : XK} {t : TA} {C : Addr} (k : t σ H fun vs H1 => kMake C sp (vs ++ dvs) H1 Q E) : tMake C sp dvs E t σ H Q := k
variable {D : Ends} {s1 s2 : TS}
theorem w_seq (k : s1 { D with nx := s2 D } σ H) : tSeq s1 s2 D σ H := k
theorem w_next (k : D.nx σ H) : tNext D σ H := k
theorem w_cont (k : D.ct σ H) : tCont D σ H := k
theorem w_break (k : D.bk σ H) : tBreak D σ H := k
theorem w_asg {g : TG} (k : te σ H fun x H1 => g x σ H1 D.nx) : tAsg te g D σ H := k
theorem w_name {Q : L2.St → Hp → Prop} (k : Q (σ.set i (some v)) H) : gName i v σ H Q := k
theorem w_par {t : TA} {i j : Nat} (k : t σ H fun vs H1 => ∃ v w, vs = [v, w] ∧ D.nx ((σ.set i (some v)).set j (some w)) H1) : tPar i j t D σ H := k
theorem w_ret (k : te σ H D.rt) : tRet te D σ H := k
theorem w_drop (k : te σ H fun _ H1 => D.nx σ H1) : tDrop te D σ H := k
theorem w_ifS {t : TT} (k : t σ H fun b H1 => if b = true then s1 D σ H1 else s2 D σ H1) : tIfS t s1 s2 D σ H := k
theorem w_bl {c : Bool} {P : Bool → Prop} (k : P c) : ∃ b, V.bl c = .bl b ∧ P b := ⟨c, rfl, k⟩
end
/-- an if whose answer is open -/
theorem ite_b {c : Bool} {A B : Prop} (h1 : c = true → A) (h2 : c = false → B) : if c = true then A else B := by
  cases c
  · exact iteF (h2 rfl)
  · exact iteT (h1 rfl)

/-! ### ends -/
def eV : Option Int → V
  | none => .non
  | some i => .int i
def atMost : Option Int → Option Int → Bool
  | some i, some j => decide (i ≤ j)
  | _, _ => true
def maxE : Option Int → Option Int → Option Int
  | none, b => b
  | some a, none => some a
  | some a, some b => some (max a b)
def minE : Option Int → Option Int → Option Int
  | none, b => b
  | some a, none => some a
  | some a, some b => some (min a b)
def Small (e : Option Int) : Prop := ∀ i, e = some i → i.natAbs < 2 ^ 200
def eD : Option Int → PyData
  | none => .none
  | some i => .int i
theorem dp_e {K : PySem.W.Frag} {H : Hp} : ∀ e : Option Int, Dp K H (eV e) (eD e)
  | none => .non
  | some i => .int i
theorem log2_lt {n k : Nat} (h : n < 2 ^ k) (hk : 0 < k) : n.log2 < k := by
  by_cases h0 : n = 0
  · subst h0; simpa using hk
  · exact (Nat.log2_lt h0).mpr h
theorem show_e {e : Option Int} (h : Small e) : (eD e).showable = true := by
  cases e with
  | none => rfl
  | some i =>
    show decide (i.natAbs.log2 < 1920) = true
    exact decide_eq_true (Nat.lt_trans (log2_lt (h i rfl) (by decide)) (by decide))
section
variable {σ : L2.St} {H : Hp} {Q : VK} {v x y : V} {ta tb tc te : TE} {i : Nat} {K : PySem.W.Frag}
theorem w_ixL {p : Addr} {xs : List V} {j : Int} (h : SqL K H p xs) (ha : atI xs j = some v) (k : Q v H) : rIxL K (.ref p) (.int j) H Q := ⟨p, xs, j, v, rfl, rfl, h, ha, k⟩
theorem w_ixT {p : Addr} {xs : List V} {j : Int} (h : SqT K H p xs) (ha : atI xs j = some v) (k : Q v H) : rIxT K (.ref p) (.int j) H Q := ⟨p, xs, j, v, rfl, rfl, h, ha, k⟩
theorem w_sub {to ti : TE} {t : TSet} {Q : L2.St → Hp → Prop} (k : to σ H fun o H1 => ti σ H1 fun i H2 => t o i v H2 fun H3 => Q σ H3) : gSub to ti t v σ H Q := k
theorem w_setL {p : Addr} {xs : List V} {k : Int} {j : Nat} {Q : Hp → Prop} (h : H p = some (.lst xs)) (hj : ixN xs.length k = some j) (q : Q (upd H p (.lst (xs.set j v)))) :
    rSetL (.ref p) (.int k) v H Q := ⟨p, xs, k, j, rfl, rfl, h, hj, q⟩
theorem w_some {P : Bool → Prop} {b : Bool} (k : P b) : ∃ c, V.bl b = V.bl c ∧ P c := ⟨b, rfl, k⟩
theorem SqT.at {p : Addr} {xs : List V} (h : H p = some (.tup xs)) : SqT K H p xs := Or.inl (Or.inl h)
theorem SqL.at {p : Addr} {xs : List V} (h : H p = some (.lst xs)) : SqL K H p xs := Or.inl (Or.inl h)
/-- the answer of a test is told -/
theorem w_iteT {c : Bool} {A B : Prop} (h : c = true) (k : A) : if c = true then A else B := by rw [if_pos h]; exact k
theorem w_iteF {c : Bool} {A B : Prop} (h : c = false) (k : B) : if c = true then A else B := by rw [h]; exact iteF k
end
theorem eV_non {e : Option Int} : (eV e = .non) ↔ e = none := by cases e <;> simp [eV]
theorem atI0 {v : V} {xs : List V} : atI (v :: xs) 0 = some v := atI_nat (j := 0) rfl
/-- a band's fields -/
def bandF (lo hi : Option Int) : List (Str × V) := [("low", eV lo), ("high", eV hi)]
theorem bandF_put (lo hi : Option Int) : putF "high" (eV hi) (putF "low" (eV lo) []) = bandF lo hi := by
  show putF "high" (eV hi) [("low", eV lo)] = _
  have n : ¬ (("low" : Str) = "high") := by decide +kernel
  show (if ("low" : Str) = "high" then [(("low" : Str), eV hi)] else (("low" : Str), eV lo) :: putF "high" (eV hi) []) = bandF lo hi
  rw [if_neg n]
  rfl
theorem bandF_low (lo hi : Option Int) : (bandF lo hi).lookup ("low" : Str) = some (eV lo) := by
  rw [← bandF_put, lookup_putF, if_neg (by decide +kernel), lookup_putF, if_pos rfl]
theorem bandF_high (lo hi : Option Int) : (bandF lo hi).lookup ("high" : Str) = some (eV hi) := by
  rw [← bandF_put, lookup_putF, if_pos rfl]
theorem bandF_no (lo hi : Option Int) {m : Str} (h1 : ¬ m = "low") (h2 : ¬ m = "high") : (bandF lo hi).lookup m = none := by
  rw [← bandF_put, lookup_putF, if_neg h2, lookup_putF, if_neg h1]
  rfl
/-- a band stands at p -/
def BandAt (C : Addr) (H : Hp) (p : Addr) (lo hi : Option Int) : Prop := ∃ dx, H p = some (.ins C dx (bandF lo hi))
theorem BandAt.mono {C : Addr} {H H' : Hp} {p : Addr} {lo hi : Option Int} (s : Same H H') : BandAt C H p lo hi → BandAt C H' p lo hi := fun ⟨dx, h⟩ => ⟨dx, s _ _ h⟩
/-- the two ways of a conditional expression meet again -/
theorem if_join {c : Bool} {σ : L2.St} {H1 : Hp} {ta tb : TE} {Q : VK} (R : V → Hp → Prop) (h1 : c = true → ∀ Q' : VK, (∀ v H', R v H' → Q' v H') → ta σ H1 Q')
    (h2 : c = false → ∀ Q' : VK, (∀ v H', R v H' → Q' v H') → tb σ H1 Q') (rest : ∀ v H', R v H' → Q v H') : if c = true then ta σ H1 Q else tb σ H1 Q :=
  ite_b (fun h => h1 h Q rest) (fun h => h2 h Q rest)
/-! ### kinds of things -/
def tyN : PyData → String
  | .none => "NoneType"
  | .bool _ => "bool"
  | .int _ => "int"
  | .str _ => "str"
  | .list _ => "list"
  | .tuple _ => "tuple"
  | .dict _ => "dict"
theorem ty_dp {K : PySem.W.Frag} {H : Hp} {v : V} {d : PyData} (h : Dp K H v d) : TyX K H v (.type (tyN d)) := by
  cases h with
  | non => exact .base .non
  | bl b => exact .base (.bl b)
  | int i => exact .base (.int i)
  | str x => exact .base (.str x)
  | lst h _ =>
    rcases h with (h | ⟨o, h⟩) | ⟨o, its, n, h1, h2, _⟩
    · exact .base (.lst h)
    · exact .base (.frz h)
    · exact .kList h1 h2
  | tup h _ =>
    rcases h with (h | ⟨o, h⟩) | ⟨o, its, n, h1, h2, _⟩
    · exact .base (.tup h)
    · exact .fTuple h
    · exact .kTuple h1 h2
def isIntD : PyData → Bool
  | .int _ => true
  | .bool _ => true
  | _ => false
def isBoolD : PyData → Bool
  | .bool _ => true
  | _ => false
def isStrD : PyData → Bool
  | .str _ => true
  | _ => false
def isTupD : PyData → Bool
  | .tuple _ => true
  | _ => false
def isListD : PyData → Bool
  | .list _ => true
  | _ => false
/-- a whole number -/
def wholeD : PyData → Bool
  | .int _ => true
  | _ => false
theorem kt_int_NoneType : kitB "NoneType" "int" = some false := by decide +kernel
theorem kt_int_bool : kitB "bool" "int" = some true := by decide +kernel
theorem kt_int_int : kitB "int" "int" = some true := by decide +kernel
theorem kt_int_str : kitB "str" "int" = some false := by decide +kernel
theorem kt_int_list : kitB "list" "int" = some false := by decide +kernel
theorem kt_int_tuple : kitB "tuple" "int" = some false := by decide +kernel
theorem kt_int_dict : kitB "dict" "int" = some false := by decide +kernel
theorem kt_bool_NoneType : kitB "NoneType" "bool" = some false := by decide +kernel
theorem kt_bool_bool : kitB "bool" "bool" = some true := by decide +kernel
theorem kt_bool_int : kitB "int" "bool" = some false := by decide +kernel
theorem kt_bool_str : kitB "str" "bool" = some false := by decide +kernel
theorem kt_bool_list : kitB "list" "bool" = some false := by decide +kernel
theorem kt_bool_tuple : kitB "tuple" "bool" = some false := by decide +kernel
theorem kt_bool_dict : kitB "dict" "bool" = some false := by decide +kernel
theorem kt_str_NoneType : kitB "NoneType" "str" = some false := by decide +kernel
theorem kt_str_bool : kitB "bool" "str" = some false := by decide +kernel
theorem kt_str_int : kitB "int" "str" = some false := by decide +kernel
theorem kt_str_str : kitB "str" "str" = some true := by decide +kernel
theorem kt_str_list : kitB "list" "str" = some false := by decide +kernel
theorem kt_str_tuple : kitB "tuple" "str" = some false := by decide +kernel
theorem kt_str_dict : kitB "dict" "str" = some false := by decide +kernel
theorem kt_tup_NoneType : kitB "NoneType" "tuple" = some false := by decide +kernel
theorem kt_tup_bool : kitB "bool" "tuple" = some false := by decide +kernel
theorem kt_tup_int : kitB "int" "tuple" = some false := by decide +kernel
theorem kt_tup_str : kitB "str" "tuple" = some false := by decide +kernel
theorem kt_tup_list : kitB "list" "tuple" = some false := by decide +kernel
theorem kt_tup_tuple : kitB "tuple" "tuple" = some true := by decide +kernel
theorem kt_tup_dict : kitB "dict" "tuple" = some false := by decide +kernel
theorem kt_list_NoneType : kitB "NoneType" "list" = some false := by decide +kernel
theorem kt_list_bool : kitB "bool" "list" = some false := by decide +kernel
theorem kt_list_int : kitB "int" "list" = some false := by decide +kernel
theorem kt_list_str : kitB "str" "list" = some false := by decide +kernel
theorem kt_list_list : kitB "list" "list" = some true := by decide +kernel
theorem kt_list_tuple : kitB "tuple" "list" = some false := by decide +kernel
theorem kt_list_dict : kitB "dict" "list" = some false := by decide +kernel
theorem kit_int {K : PySem.W.Frag} : ∀ d : PyData, PySem.W.kitOne K (.type (tyN d)) (.type "int") = some (isIntD d)
  | .none => kit_ty kt_int_NoneType
  | .bool _ => kit_ty kt_int_bool
  | .int _ => kit_ty kt_int_int
  | .str _ => kit_ty kt_int_str
  | .list _ => kit_ty kt_int_list
  | .tuple _ => kit_ty kt_int_tuple
  | .dict _ => kit_ty kt_int_dict
theorem kit_bool {K : PySem.W.Frag} : ∀ d : PyData, PySem.W.kitOne K (.type (tyN d)) (.type "bool") = some (isBoolD d)
  | .none => kit_ty kt_bool_NoneType
  | .bool _ => kit_ty kt_bool_bool
  | .int _ => kit_ty kt_bool_int
  | .str _ => kit_ty kt_bool_str
  | .list _ => kit_ty kt_bool_list
  | .tuple _ => kit_ty kt_bool_tuple
  | .dict _ => kit_ty kt_bool_dict
theorem kit_str {K : PySem.W.Frag} : ∀ d : PyData, PySem.W.kitOne K (.type (tyN d)) (.type "str") = some (isStrD d)
  | .none => kit_ty kt_str_NoneType
  | .bool _ => kit_ty kt_str_bool
  | .int _ => kit_ty kt_str_int
  | .str _ => kit_ty kt_str_str
  | .list _ => kit_ty kt_str_list
  | .tuple _ => kit_ty kt_str_tuple
  | .dict _ => kit_ty kt_str_dict
theorem kit_tup {K : PySem.W.Frag} : ∀ d : PyData, PySem.W.kitOne K (.type (tyN d)) (.type "tuple") = some (isTupD d)
  | .none => kit_ty kt_tup_NoneType
  | .bool _ => kit_ty kt_tup_bool
  | .int _ => kit_ty kt_tup_int
  | .str _ => kit_ty kt_tup_str
  | .list _ => kit_ty kt_tup_list
  | .tuple _ => kit_ty kt_tup_tuple
  | .dict _ => kit_ty kt_tup_dict
theorem kit_list {K : PySem.W.Frag} : ∀ d : PyData, PySem.W.kitOne K (.type (tyN d)) (.type "list") = some (isListD d)
  | .none => kit_ty kt_list_NoneType
  | .bool _ => kit_ty kt_list_bool
  | .int _ => kit_ty kt_list_int
  | .str _ => kit_ty kt_list_str
  | .list _ => kit_ty kt_list_list
  | .tuple _ => kit_ty kt_list_tuple
  | .dict _ => kit_ty kt_list_dict
/-- isinstance(v, a built-in class) of data -/
theorem w_isi {K : PySem.W.Frag} {H : Hp} {Q : VK} {v : V} {d : PyData} {n : String} {b : Bool} (h : Dp K H v d) (e : PySem.W.kitOne K (.type (tyN d)) (.type n) = some b) (k : Q (.bl b) H) :
    rIsi K [v, .ty n] H Q := ⟨v, .ty n, _, _, b, rfl, .ty n, ty_dp h, e, k⟩
/-- what isinstance and == ask of an own class -/
structure InstC (K : PySem.W.Frag) (C : Addr) : Prop where
  ha : PySem.W.findIn K (.ref C) "__class__" = some (some (.builtin "object.__class__"))
  hn : PySem.W.specialIn K (.builtin "object.__class__") "__get__" = some (some (.builtin "getset_descriptor.__get__"))
  ht : PySem.W.takesIn K (.builtin "object.__class__") = some true
  hm : PySem.W.mroIn K C (.type "object") = some true
  ic : PySem.W.isClsIn K C = true
  tc : PySem.W.typeIn K (.ref C) = some (.type "type")
  sN : PySem.W.subIn K (.type "NoneType") (.ref C) = some false
  sI : PySem.W.subIn K (.type "int") (.ref C) = some false
  sB : PySem.W.subIn K (.type "bool") (.ref C) = some false
  sS : PySem.W.subIn K (.type "str") (.ref C) = some false
  sL : PySem.W.subIn K (.type "list") (.ref C) = some false
  sT : PySem.W.subIn K (.type "tuple") (.ref C) = some false
  sD : PySem.W.subIn K (.type "dict") (.ref C) = some false
theorem InstC.sub {K : PySem.W.Frag} {C : Addr} (I : InstC K C) : ∀ d : PyData, PySem.W.subIn K (.type (tyN d)) (.ref C) = some false
  | .none => I.sN
  | .bool _ => I.sB
  | .int _ => I.sI
  | .str _ => I.sS
  | .list _ => I.sL
  | .tuple _ => I.sT
  | .dict _ => I.sD
theorem InstC.kit {K : PySem.W.Frag} {C : Addr} (I : InstC K C) {t : Value} {b : Bool} (ne : (t == .ref C) = false) (h : PySem.W.subIn K t (.ref C) = some b) : PySem.W.kitOne K t (.ref C) = some b := by
  have e2 : ((PySem.W.clsIn K C).isSome && PySem.W.typeIn K (.ref C) == some (.type "type")) = true := by
    have e1 : (PySem.W.clsIn K C).isSome = true := I.ic
    rw [e1, I.tc] <;> rfl
  unfold PySem.W.kitOne PySem.W.kitCls
  rw [ne, if_neg Bool.false_ne_true]
  show (if ((PySem.W.clsIn K C).isSome && PySem.W.typeIn K (.ref C) == some (.type "type")) = true then _ else _) = _
  rw [if_pos e2]
  exact h
theorem InstC.self {K : PySem.W.Frag} {C : Addr} : PySem.W.kitOne K (.ref C) (.ref C) = some true := if_pos (by simp)
theorem InstC.first {K : PySem.W.Frag} {C : Addr} (I : InstC K C) (d : PyData) : PySem.W.notFirst K C (.type (tyN d)) = true := by
  unfold PySem.W.notFirst
  rw [I.sub d]
  simp
theorem InstC.firstS {K : PySem.W.Frag} {C : Addr} : PySem.W.notFirst K C (.ref C) = true := by unfold PySem.W.notFirst; simp
theorem InstC.ty {K : PySem.W.Frag} {C : Addr} (I : InstC K C) (cl : Cls K C) {H : Hp} {a dx : Addr} {fs : List (Str × V)} (h : H a = some (.ins C dx fs)) : TyX K H (.ref a) (.ref C) :=
  .base (.ins h cl I.ha I.hn I.ht I.hm)
/-- isinstance(v, C) of data: no -/
theorem w_isiC {K : PySem.W.Frag} {C : Addr} (I : InstC K C) {H : Hp} {Q : VK} {v : V} {d : PyData} (h : Dp K H v d) (k : Q (.bl false) H) : rIsi K [v, .ref C] H Q :=
  ⟨v, .ref C, _, _, false, rfl, .own C, ty_dp h, I.kit (by simp) (I.sub d), k⟩
/-- isinstance(o, C) of an instance of C: yes -/
theorem w_isiS {K : PySem.W.Frag} {C : Addr} (I : InstC K C) (cl : Cls K C) {H : Hp} {Q : VK} {a dx : Addr} {fs : List (Str × V)} (h : H a = some (.ins C dx fs)) (k : Q (.bl true) H) :
    rIsi K [.ref a, .ref C] H Q := ⟨.ref a, .ref C, _, _, true, rfl, .own C, I.ty cl h, InstC.self, k⟩
/-- a def with defaults from which no error comes -/
theorem funD_ok {P : Program} {w : World} {K : PySem.W.Frag} {mg : Str → Option Value} {base : Heap} {x qual : Str} {params : Arguments} {body : List Stmt} {scope : Scope} {dvs : List V}
    {kws : List (Str × V)} {f : Addr} {fd : FuncData} {N ps : List Str} {k : Nat} {sp : Sp} (F : FunD K x qual params body scope dvs kws f fd) (S : FnScope N ps scope)
    (len : ∀ vs H Q E, sp vs H Q E → vs.length = ps.length)
    (hb : ∀ (cdv : Value) (A : Around) (outer : List Env) (s : Shared) (H : Hp) (vs : List V) (Q : VK) (E : XK), Room k (A.deeper (PyProof.Rows.envOfC qual scope s.heap.objs.size f cdv)) → sp vs H Q E →
      ∃ t, PSs (cxOf CX0 P w K mg base N qual scope f cdv A outer s H E).nox body t ∧ t { nx := fun _ H' => Q .non H', rt := Q } (start N vs) H) :
    FnOk P w K mg base CX0 (k + 1) f fd ps sp :=
  F.ok S len fun cdv A outer s H vs Q E hr hsp => let ⟨t, h, q⟩ := hb cdv A outer s H vs Q E hr hsp; ⟨t, h.nox, q⟩
end Sil
set_option Elab.async false
set_option linter.all false
set_option maxRecDepth 100000
set_option maxHeartbeats 1000000
/-! P4: comprehensions by an invariant that does not see the list under way; pure ones; for loops. -/
namespace Sil
open PySem L2
/-- what stands behind a comprehension's source -/
def kLc (J : It) (g : TG) (tt : TT) (te : TE) (vs : List Nat) (σ : L2.St) (H1 : Hp) (Q : VK) : Prop := ∀ D, H1 D = none → ∃ W : Nat → Nat → Hp → Prop, (∃ m, W 0 m (upd H1 D (.lst []))) ∧ ∀ i m H, W i m H →
  (J.stop i H ∧ Q (.ref D) H) ∨ (J.go i H ∧ ∃ Nx : Hp → Prop, (∀ H', Nx H' → ∃ m', m' < m ∧ W (i + 1) m' H') ∧ ∀ x H', J.yld i H x H' → g x (wipe σ vs) H' fun σ2 H2 => wipe σ2 vs = wipe σ vs ∧ tt σ2 H2 fun b H3 =>
    if b = true then te σ2 H3 fun y H4 => ∃ acc, H4 D = some (.lst acc) ∧ acc.length < sizeLine ∧ Nx (upd H4 D (.lst (acc ++ [y]))) else Nx H3)
theorem w_lcT {K : PySem.W.Frag} {tl : TE} {g : TG} {tt : TT} {te : TE} {vs : List Nat} {σ : L2.St} {H : Hp} {Q : VK}
    (k : tl σ H fun x H1 => ∃ a, x = .ref a ∧ (∃ xs, SqT K H1 a xs) ∧ kLc (Itt K a) g tt te vs σ H1 Q) : tLc (iTup K tl) g tt te vs σ H Q := k
theorem w_lcL {K : PySem.W.Frag} {tl : TE} {g : TG} {tt : TT} {te : TE} {vs : List Nat} {σ : L2.St} {H : Hp} {Q : VK}
    (k : tl σ H fun x H1 => ∃ a, x = .ref a ∧ (∃ xs, SqL K H1 a xs) ∧ kLc (Itl K a) g tt te vs σ H1 Q) : tLc (iList K tl) g tt te vs σ H Q := k
theorem w_lcR {ta : TA} {g : TG} {tt : TT} {te : TE} {vs : List Nat} {σ : L2.St} {H : Hp} {Q : VK}
    (k : ta σ H fun zs H1 => ∃ j : Int, zs = [.int j] ∧ -(2 ^ 62) ≤ j ∧ j < 2 ^ 62 ∧ kLc (Itr 0 j.toNat) g tt te vs σ H1 Q) : tLc (iRng1 ta) g tt te vs σ H Q := k
theorem off_upd {D : Addr} {H : Hp} {o : HO} : off [D] (upd H D o) = off [D] H := by
  funext a
  unfold off
  by_cases h : a ∈ [D]
  · rw [if_pos h, if_pos h]
  · rw [if_neg h, if_neg h, upd_ne (by simpa using h)]
theorem off_new {D : Addr} {H : Hp} (h : H D = none) : off [D] H = H := by
  funext a
  unfold off
  by_cases q : a ∈ [D]
  · rw [if_pos q]; rw [List.mem_singleton] at q; rw [q, h]
  · rw [if_neg q]
/-- one turn: the test, then the element; D is the list under way -/
def LcTurn (tt : TT) (te : TE) (vs : List Nat) (σ σ2 : L2.St) (D : Addr) (Pv : Nat → List V → Hp → Prop) (i : Nat) (acc : List V) (H' : Hp) : Prop :=
  wipe σ2 vs = wipe σ vs ∧ tt σ2 H' fun b H3 => if b = true then te σ2 H3 fun y H4 => H4 D = some (.lst acc) ∧ Pv (i + 1) (acc ++ [y]) (off [D] H4)
    else H3 D = some (.lst acc) ∧ Pv (i + 1) acc (off [D] H3)
/-- the monotone part that a turn wants of its test and element: told by the caller for each continuation -/
def LcTurnQ (g : TG) (tt : TT) (te : TE) (vs : List Nat) (σ : L2.St) (D : Addr) (x : V) (Pv : Nat → List V → Hp → Prop) (i : Nat) (acc : List V) (H' : Hp) : Prop :=
  ∀ (Nx Ny : Hp → Prop), (∀ (y : V) (H4 : Hp), H4 D = some (.lst acc) → Pv (i + 1) (acc ++ [y]) (off [D] H4) → Nx (upd H4 D (.lst (acc ++ [y])))) →
    (∀ H3 : Hp, H3 D = some (.lst acc) → Pv (i + 1) acc (off [D] H3) → Ny H3) → acc.length < sizeLine →
    g x (wipe σ vs) H' fun σ2 H2 => wipe σ2 vs = wipe σ vs ∧ tt σ2 H2 fun b H3 =>
      if b = true then te σ2 H3 fun y H4 => ∃ acc, H4 D = some (.lst acc) ∧ acc.length < sizeLine ∧ Nx (upd H4 D (.lst (acc ++ [y]))) else Ny H3
section
variable {K : PySem.W.Frag} {a : Addr} {g : TG} {tt : TT} {te : TE} {vs : List Nat} {σ : L2.St} {H1 : Hp} {Q : VK}
def LcInv (D : Addr) (Pv : Nat → List V → Hp → Prop) (i : Nat) (H : Hp) : Prop := ∃ acc : List V, H D = some (.lst acc) ∧ acc.length ≤ i ∧ Pv i acc (off [D] H)
theorem lcinv_next {D : Addr} {Pv : Nat → List V → Hp → Prop} {i : Nat} {x : V} {acc : List V} {H : Hp} (ha : acc.length ≤ i) (hi : i < 100000)
    (h : LcTurnQ g tt te vs σ D x Pv i acc H) : g x (wipe σ vs) H fun σ2 H2 => wipe σ2 vs = wipe σ vs ∧ tt σ2 H2 fun b H3 =>
      if b = true then te σ2 H3 fun y H4 => ∃ acc, H4 D = some (.lst acc) ∧ acc.length < sizeLine ∧ LcInv D Pv (i + 1) (upd H4 D (.lst (acc ++ [y]))) else LcInv D Pv (i + 1) H3 := by
  refine h _ _ (fun y H4 _ p => ?_) (fun H3 d p => ?_) (Nat.lt_of_le_of_lt ha (Nat.lt_trans hi (by decide)))
  · refine ⟨acc ++ [y], upd_same, by rw [List.length_append, List.length_singleton]; omega, ?_⟩
    rw [off_upd]; exact p
  · exact ⟨acc, d, Nat.le_succ_of_le ha, p⟩
/-- over a tuple, by an invariant over the turn, what is made so far, and the heap without the list under way -/
theorem k_lcT {xs : List V} (hz : xs.length ≤ 100000) (Pv : Nat → List V → Hp → Prop) (h0 : Pv 0 [] H1) (hl : ∀ i acc G, Pv i acc G → SqT K G a xs)
    (hs : ∀ D i x acc H, H1 D = none → xs[i]? = some x → H D = some (.lst acc) → Pv i acc (off [D] H) → LcTurnQ g tt te vs σ D x Pv i acc H)
    (hd : ∀ D acc H, H1 D = none → H D = some (.lst acc) → Pv xs.length acc (off [D] H) → Q (.ref D) H) : kLc (Itt K a) g tt te vs σ H1 Q := by
  intro D nD
  refine lc_tup (xs := xs) (LcInv D Pv) ⟨[], upd_same, Nat.le_refl _, by rw [off_upd, off_new nD]; exact h0⟩ ?_ ?_ ?_
  · rintro i H hi ⟨acc, hD, _, p⟩
    exact same_seqT off_sub (hl _ _ _ p)
  · rintro i x H hx ⟨acc, hD, ha, p⟩
    have hi := (List.getElem?_eq_some_iff.mp hx).1
    exact lcinv_next ha (by omega) (hs D i x acc H nD hx hD p)
  · rintro H ⟨acc, hD, _, p⟩
    exact hd D acc H nD hD p
theorem k_lcL {xs : List V} (hz : xs.length ≤ 100000) (Pv : Nat → List V → Hp → Prop) (h0 : Pv 0 [] H1) (hl : ∀ i acc G, Pv i acc G → SqL K G a xs)
    (hs : ∀ D i x acc H, H1 D = none → xs[i]? = some x → H D = some (.lst acc) → Pv i acc (off [D] H) → LcTurnQ g tt te vs σ D x Pv i acc H)
    (hd : ∀ D acc H, H1 D = none → H D = some (.lst acc) → Pv xs.length acc (off [D] H) → Q (.ref D) H) : kLc (Itl K a) g tt te vs σ H1 Q := by
  intro D nD
  refine lc_list (xs := xs) (LcInv D Pv) ⟨[], upd_same, Nat.le_refl _, by rw [off_upd, off_new nD]; exact h0⟩ ?_ ?_ ?_
  · rintro i H hi ⟨acc, hD, _, p⟩
    exact off_sub.seq (hl _ _ _ p)
  · rintro i x H hx ⟨acc, hD, ha, p⟩
    have hi := (List.getElem?_eq_some_iff.mp hx).1
    exact lcinv_next ha (by omega) (hs D i x acc H nD hx hD p)
  · rintro H ⟨acc, hD, _, p⟩
    exact hd D acc H nD hD p
theorem k_lcR {n : Nat} (hz : n ≤ 100000) (Pv : Nat → List V → Hp → Prop) (h0 : Pv 0 [] H1)
    (hs : ∀ D (i : Nat) acc H, H1 D = none → i < n → H D = some (.lst acc) → Pv i acc (off [D] H) → LcTurnQ g tt te vs σ D (.int (i : Int)) Pv i acc H)
    (hd : ∀ D acc H, H1 D = none → H D = some (.lst acc) → Pv n acc (off [D] H) → Q (.ref D) H) : kLc (Itr 0 n) g tt te vs σ H1 Q := by
  intro D nD
  refine lc_range (lo := 0) (n := n) (LcInv D Pv) ⟨[], upd_same, Nat.le_refl _, by rw [off_upd, off_new nD]; exact h0⟩ ?_ ?_
  · rintro i H hx ⟨acc, hD, ha, p⟩
    rw [Int.zero_add]
    exact lcinv_next ha (by omega) (hs D i acc H nD hx hD p)
  · rintro H ⟨acc, hD, _, p⟩
    exact hd D acc H nD hD p
end
/-! ### pure comprehensions, the target a name -/
/-- a test, an element: told of each heap that has grown -/
def EvT (t : TT) (σ : L2.St) (H : Hp) (b : Bool) : Prop := ∀ H1, Same H H1 → ∀ Q : Bool → Hp → Prop, (∀ H2, Same H1 H2 → Q b H2) → t σ H1 Q
def EvE (t : TE) (σ : L2.St) (H : Hp) (v : V) : Prop := ∀ H1, Same H H1 → ∀ Q : VK, (∀ H2, Same H1 H2 → Q v H2) → t σ H1 Q
theorem evT_yes {σ : L2.St} {H : Hp} : EvT tYes σ H true := fun H1 _ Q q => q H1 (Same.refl _)
def made (f : V → Bool) (v : V → V) (xs : List V) : List V := (xs.filter f).map v
theorem made_take {f : V → Bool} {v : V → V} {xs : List V} {i : Nat} {x : V} (h : xs[i]? = some x) :
    made f v (xs.take (i + 1)) = if f x = true then made f v (xs.take i) ++ [v x] else made f v (xs.take i) := by
  unfold made
  have e : xs.take (i + 1) = xs.take i ++ [x] := by
    rw [List.take_succ, h]; rfl
  rw [e, List.filter_append, List.map_append]
  by_cases c : f x = true
  · rw [if_pos c]; simp [List.filter_cons, c]
  · rw [if_neg c]; simp [List.filter_cons, c]
section
variable {K : PySem.W.Frag} {a : Addr} {j : Nat} {tt : TT} {te : TE} {vs : List Nat} {σ : L2.St} {H1 : Hp} {Q : VK}
theorem pure_turn {f : V → Bool} {v : V → V} {xs : List V} {D : Addr} {i : Nat} {x : V} {acc : List V} {H : Hp} (nD : H1 D = none) (hx : xs[i]? = some x) (hD : H D = some (.lst acc))
    (p : acc = made f v (xs.take i) ∧ Same H1 (off [D] H)) (hw : ∀ x, wipe ((wipe σ vs).set j (some x)) vs = wipe σ vs) (ht : EvT tt ((wipe σ vs).set j (some x)) H1 (f x))
    (he : f x = true → EvE te ((wipe σ vs).set j (some x)) H1 (v x)) :
    LcTurnQ (gName j) tt te vs σ D x (fun i acc G => acc = made f v (xs.take i) ∧ Same H1 G) i acc H := by
  intro Nx Ny n1 n2 hl
  obtain ⟨pa, ps⟩ := p
  have s0 : Same H1 H := ps.trans off_sub
  have up : ∀ {H2}, Same H H2 → Same H1 (off [D] H2) := fun s b o e => off_mk (s b o (s0 b o e)) (by
    intro hm; rw [List.mem_singleton] at hm; rw [hm, nD] at e; cases e)
  refine w_name ⟨hw x, ?_⟩
  refine ht H s0 _ fun H2 s2 => ?_
  have mt := made_take (f := f) (v := v) hx
  cases c : f x with
  | true =>
    refine iteT ?_
    refine he c H2 (s0.trans s2) _ fun H3 s3 => ⟨acc, s3 _ _ (s2 _ _ hD), hl, n1 (v x) H3 (s3 _ _ (s2 _ _ hD)) ⟨?_, up (s2.trans s3)⟩⟩
    rw [mt, if_pos c, pa]
  | false =>
    refine iteF ?_
    refine n2 H2 (s2 _ _ hD) ⟨?_, up s2⟩
    rw [mt, if_neg (by rw [c]; exact Bool.false_ne_true), pa]
theorem p_lcT {xs : List V} (f : V → Bool) (v : V → V) (hz : xs.length ≤ 100000) (hx : SqT K H1 a xs) (hw : ∀ x, wipe ((wipe σ vs).set j (some x)) vs = wipe σ vs)
    (ht : ∀ x ∈ xs, EvT tt ((wipe σ vs).set j (some x)) H1 (f x)) (he : ∀ x ∈ xs, f x = true → EvE te ((wipe σ vs).set j (some x)) H1 (v x))
    (k : ∀ D H2, H1 D = none → Same H1 H2 → H2 D = some (.lst (made f v xs)) → Q (.ref D) H2) : kLc (Itt K a) (gName j) tt te vs σ H1 Q := by
  refine k_lcT (xs := xs) hz (fun i acc G => acc = made f v (xs.take i) ∧ Same H1 G) ⟨rfl, Same.refl _⟩ (fun i acc G p => same_seqT p.2 hx) ?_ ?_
  · intro D i x acc H nD hi hD p
    have hm := List.mem_of_getElem? hi
    exact pure_turn nD hi hD p hw (ht x hm) (he x hm)
  · rintro D acc H nD hD ⟨pa, ps⟩
    rw [List.take_length] at pa
    exact k D H nD (ps.trans off_sub) (pa ▸ hD)
theorem p_lcL {xs : List V} (f : V → Bool) (v : V → V) (hz : xs.length ≤ 100000) (hx : SqL K H1 a xs) (hw : ∀ x, wipe ((wipe σ vs).set j (some x)) vs = wipe σ vs)
    (ht : ∀ x ∈ xs, EvT tt ((wipe σ vs).set j (some x)) H1 (f x)) (he : ∀ x ∈ xs, f x = true → EvE te ((wipe σ vs).set j (some x)) H1 (v x))
    (k : ∀ D H2, H1 D = none → Same H1 H2 → H2 D = some (.lst (made f v xs)) → Q (.ref D) H2) : kLc (Itl K a) (gName j) tt te vs σ H1 Q := by
  refine k_lcL (xs := xs) hz (fun i acc G => acc = made f v (xs.take i) ∧ Same H1 G) ⟨rfl, Same.refl _⟩ (fun i acc G p => p.2.seq hx) ?_ ?_
  · intro D i x acc H nD hi hD p
    have hm := List.mem_of_getElem? hi
    exact pure_turn nD hi hD p hw (ht x hm) (he x hm)
  · rintro D acc H nD hD ⟨pa, ps⟩
    rw [List.take_length] at pa
    exact k D H nD (ps.trans off_sub) (pa ▸ hD)
end
/-! ### least and greatest -/
def maxO : List Int → Option Int
  | [] => none
  | x :: r => maxE (some x) (maxO r)
def minO : List Int → Option Int
  | [] => none
  | x :: r => minE (some x) (minO r)
theorem maxO_in : ∀ {ns : List Int} {m : Int}, maxO ns = some m → m ∈ ns ∧ ∀ y ∈ ns, y ≤ m
  | [], m, h => nomatch h
  | x :: r, m, h => by
    cases e : maxO r with
    | none =>
      simp only [maxO, e, maxE] at h
      cases h
      refine ⟨List.mem_cons_self, fun y hy => ?_⟩
      rcases List.mem_cons.mp hy with rfl | hy
      · exact Int.le_refl _
      · cases r with
        | nil => cases hy
        | cons z t => cases f : maxO t <;> simp [maxO, f, maxE] at e
    | some k =>
      obtain ⟨h1, h2⟩ := maxO_in e
      simp only [maxO, e, maxE] at h
      cases h
      refine ⟨?_, fun y hy => ?_⟩
      · by_cases c : k ≤ x
        · rw [Int.max_eq_left c]; exact List.mem_cons_self
        · rw [Int.max_eq_right (by omega)]; exact List.mem_cons_of_mem _ h1
      · rcases List.mem_cons.mp hy with rfl | hy
        · omega
        · have := h2 y hy; omega
theorem minO_in : ∀ {ns : List Int} {m : Int}, minO ns = some m → m ∈ ns ∧ ∀ y ∈ ns, m ≤ y
  | [], m, h => nomatch h
  | x :: r, m, h => by
    cases e : minO r with
    | none =>
      simp only [minO, e, minE] at h
      cases h
      refine ⟨List.mem_cons_self, fun y hy => ?_⟩
      rcases List.mem_cons.mp hy with rfl | hy
      · exact Int.le_refl _
      · cases r with
        | nil => cases hy
        | cons z t => cases f : minO t <;> simp [minO, f, minE] at e
    | some k =>
      obtain ⟨h1, h2⟩ := minO_in e
      simp only [minO, e, minE] at h
      cases h
      refine ⟨?_, fun y hy => ?_⟩
      · by_cases c : x ≤ k
        · rw [Int.min_eq_left c]; exact List.mem_cons_self
        · rw [Int.min_eq_right (by omega)]; exact List.mem_cons_of_mem _ h1
      · rcases List.mem_cons.mp hy with rfl | hy
        · omega
        · have := h2 y hy; omega
theorem maxO_of {ns : List Int} {m : Int} (h1 : m ∈ ns) (h2 : ∀ y ∈ ns, y ≤ m) : maxO ns = some m := by
  cases e : maxO ns with
  | none => cases ns with
    | nil => cases h1
    | cons z t => cases f : maxO t <;> simp [maxO, f, maxE] at e
  | some k =>
    obtain ⟨k1, k2⟩ := maxO_in e
    have a := k2 m h1
    have b := h2 k k1
    congr 1; omega
theorem minO_of {ns : List Int} {m : Int} (h1 : m ∈ ns) (h2 : ∀ y ∈ ns, m ≤ y) : minO ns = some m := by
  cases e : minO ns with
  | none => cases ns with
    | nil => cases h1
    | cons z t => cases f : minO t <;> simp [minO, f, minE] at e
  | some k =>
    obtain ⟨k1, k2⟩ := minO_in e
    have a := k2 m h1
    have b := h2 k k1
    congr 1; omega
/-- the ends that there are -/
def pres (es : List (Option Int)) : List Int := es.filterMap id
theorem made_pres : ∀ es : List (Option Int), made (fun x => !decide (x = V.non)) (fun x => x) (es.map eV) = (pres es).map V.int
  | [] => rfl
  | none :: r => by
    have ih := made_pres r
    unfold made pres at *
    simpa [eV] using ih
  | some i :: r => by
    have ih := made_pres r
    unfold made pres at *
    simpa [eV] using ih
theorem max_pres2 (a b : Option Int) : maxO (pres [a, b]) = maxE a b := by cases a <;> cases b <;> rfl
theorem min_pres2 (a b : Option Int) : minO (pres [a, b]) = minE a b := by cases a <;> cases b <;> rfl
section
variable {K : PySem.W.Frag} {p : Addr} {H : Hp} {Q : VK} {ns : List Int}
theorem w_maxD (h : SqL K H p (ns.map V.int)) (k : Q (eV (maxO ns)) H) : rMaxD K [.ref p] [.non] H Q :=
  ⟨p, ns, .non, rfl, rfl, h, fun e => by subst e; exact k, fun m h1 h2 => by rw [maxO_of h1 h2] at k; exact k⟩
theorem w_minD (h : SqL K H p (ns.map V.int)) (k : Q (eV (minO ns)) H) : rMinD K [.ref p] [.non] H Q :=
  ⟨p, ns, .non, rfl, rfl, h, fun e => by subst e; exact k, fun m h1 h2 => by rw [minO_of h1 h2] at k; exact k⟩
theorem w_max (h : SqL K H p (ns.map V.int)) (h0 : 0 < ns.length) (k : ∀ m, maxO ns = some m → Q (.int m) H) : rMax K [.ref p] H Q := ⟨p, ns, rfl, h, h0, fun m h1 h2 => k m (maxO_of h1 h2)⟩
theorem w_min (h : SqL K H p (ns.map V.int)) (h0 : 0 < ns.length) (k : ∀ m, minO ns = some m → Q (.int m) H) : rMin K [.ref p] H Q := ⟨p, ns, rfl, h, h0, fun m h1 h2 => k m (minO_of h1 h2)⟩
end
end Sil
set_option Elab.async false
set_option linter.all false
set_option maxRecDepth 100000
set_option maxHeartbeats 1000000
/-! P5: how long a repr is; loops; comprehensions by places. -/
namespace Sil
open PySem L2
/-! ### how long a repr is -/
theorem upto_list (ts : List Str) : (listText ts).length ≤ piled ts + 2 := by
  have gen : ∀ (ts : List Str) (k : Nat) (acc : Str), (textFrom k acc ts).length ≤ acc.length + piled ts := by
    intro ts
    induction ts with
    | nil => intro k acc; exact Nat.le_refl _
    | cons t r ih =>
      intro k acc
      have h := ih (k + 1) (acc ++ (if k > 0 then ", " else "" : String) ++ t)
      have e : (acc ++ (if k > 0 then ", " else "" : String) ++ t).length ≤ acc.length + 2 + t.length := by
        rw [strLen_append, strLen_append]
        have : (((if k > 0 then ", " else "" : String)) : Str).length ≤ 2 := by split <;> decide
        omega
      show (textFrom (k + 1) _ r).length ≤ _
      rw [piled_cons]
      omega
  have h := gen ts 0 "["
  unfold listText
  rw [strLen_append]
  have e1 : ((("[" : String) : Str)).length = 1 := rfl
  have e2 : ((("]" : String) : Str)).length = 1 := rfl
  omega
theorem upto_tuple (ts : List Str) : (tupleText ts).length ≤ piled ts + 3 := by
  unfold tupleText
  rw [strLen_append, strLen_append]
  have e1 : ((("(" : String) : Str)).length = 1 := rfl
  have e3 : (((if ts.length == 1 then ",)" else ")" : String) : Str)).length ≤ 2 := by split <;> decide
  by_cases h : ts = []
  · subst h
    have e4 : (Str.join ", " ([] : List Str)).length = 0 := rfl
    omega
  · have := join_length_add ts h
    omega
mutual
/-- a bound of a repr's length -/
def bnd : PyData → Nat
  | .none => 4
  | .bool _ => 5
  | .int _ => 1921
  | .str x => (reprText x).length
  | .list xs => bndAll xs + 2
  | .tuple xs => bndAll xs + 3
  | .dict _ => 0
def bndAll : List PyData → Nat
  | [] => 0
  | x :: r => bnd x + 2 + bndAll r
end
mutual
theorem shown_le : ∀ d : PyData, d.showable = true → d.hasDict = false → d.shown.length ≤ bnd d
  | .none, _, _ => by decide
  | .bool true, _, _ => by decide
  | .bool false, _, _ => by decide
  | .int i, h, _ => by
    have h : i.natAbs.log2 < 1920 := of_decide_eq_true h
    have q := int_text_length_le (a := i) (k := 1920) (by decide) h
    have e := ofString_length (toString i)
    show (Str.ofString (toString i)).length ≤ 1921
    omega
  | .str x, _, _ => Nat.le_refl _
  | .list xs, h, n => by
    have q := shownAll_le xs h n
    have u := upto_list (PyData.shownAll xs)
    show (listText (PyData.shownAll xs)).length ≤ bndAll xs + 2
    omega
  | .tuple xs, h, n => by
    have q := shownAll_le xs h n
    have u := upto_tuple (PyData.shownAll xs)
    show (tupleText (PyData.shownAll xs)).length ≤ bndAll xs + 3
    omega
  | .dict _, _, n => nomatch n
theorem shownAll_le : ∀ xs : List PyData, PyData.showableAll xs = true → PyData.hasDictAll xs = false → piled (PyData.shownAll xs) ≤ bndAll xs
  | [], _, _ => Nat.le_refl _
  | x :: r, h, n => by
    have h : (x.showable && PyData.showableAll r) = true := h
    have n : (x.hasDict || PyData.hasDictAll r) = false := n
    rw [Bool.and_eq_true] at h
    rw [Bool.or_eq_false_iff] at n
    have a := shown_le x h.1 n.1
    have b := shownAll_le r h.2 n.2
    show piled (x.shown :: PyData.shownAll r) ≤ bnd x + 2 + bndAll r
    rw [piled_cons]
    omega
end
theorem w_repr {K : PySem.W.Frag} {H : Hp} {Q : VK} {v : V} {d : PyData} (h : Dp K H v d) (hs : d.showable = true) (hn : d.hasDict = false) (hd : d.depth ≤ 40) (hb : bnd d ≤ 10000000)
    (k : Q (.str d.shown) H) : rRepr K [v] H Q := ⟨v, d, rfl, h, hs, hn, hd, Nat.le_trans (shown_le d hs hn) (Nat.le_trans hb (by decide)), k⟩
/-! ### loops -/
def kFor (J : It) (g : TG) (tb : TS) (D : Ends) (σ : L2.St) (H1 : Hp) : Prop := ∃ W : Nat → Nat → L2.St → Hp → Prop, (∃ m, W 0 m σ H1) ∧ ∀ i m σ H, W i m σ H →
  (J.stop i H ∧ D.nx σ H) ∨ (J.go i H ∧ ∃ N : L2.St → Hp → Prop, (∀ σ' H', N σ' H' → ∃ m', m' < m ∧ W (i + 1) m' σ' H') ∧
    ∀ x H', J.yld i H x H' → g x σ H' fun σ2 H2 => tb { D with nx := N, ct := N, bk := D.nx } σ2 H2)
section
variable {K : PySem.W.Frag} {tl : TE} {ta : TA} {g : TG} {tb : TS} {D : Ends} {σ : L2.St} {H : Hp} {a : Addr}
theorem w_forT (k : tl σ H fun x H1 => ∃ a, x = .ref a ∧ (∃ xs, SqT K H1 a xs) ∧ kFor (Itt K a) g tb D σ H1) : tFor (iTup K tl) g tb D σ H := k
theorem w_forL (k : tl σ H fun x H1 => ∃ a, x = .ref a ∧ (∃ xs, SqL K H1 a xs) ∧ kFor (Itl K a) g tb D σ H1) : tFor (iList K tl) g tb D σ H := k
theorem w_forR (k : ta σ H fun zs H1 => ∃ j : Int, zs = [.int j] ∧ -(2 ^ 62) ≤ j ∧ j < 2 ^ 62 ∧ kFor (Itr 0 j.toNat) g tb D σ H1) : tFor (iRng1 ta) g tb D σ H := k
theorem k_forR {n : Nat} (Pv : Nat → L2.St → Hp → Prop) (h0 : Pv 0 σ H)
    (hs : ∀ (i : Nat) σ H, i < n → Pv i σ H → g (.int (i : Int)) σ H fun σ2 H2 => tb { D with nx := Pv (i + 1), ct := Pv (i + 1), bk := D.nx } σ2 H2) (hd : ∀ σ H, Pv n σ H → D.nx σ H) :
    kFor (Itr 0 n) g tb D σ H := for_range (lo := 0) Pv h0 (fun i σ H hi p => by rw [Int.zero_add]; exact hs i σ H hi p) hd
theorem k_forL {xs : List V} (Pv : Nat → L2.St → Hp → Prop) (h0 : Pv 0 σ H) (hl : ∀ i σ H, Pv i σ H → SqL K H a xs)
    (hs : ∀ i x σ H, xs[i]? = some x → Pv i σ H → g x σ H fun σ2 H2 => tb { D with nx := Pv (i + 1), ct := Pv (i + 1), bk := D.nx } σ2 H2) (hd : ∀ σ H, Pv xs.length σ H → D.nx σ H) :
    kFor (Itl K a) g tb D σ H := for_list Pv h0 (fun i σ H _ p => hl i σ H p) hs hd
theorem k_forT {xs : List V} (Pv : Nat → L2.St → Hp → Prop) (h0 : Pv 0 σ H) (hl : ∀ i σ H, Pv i σ H → SqT K H a xs)
    (hs : ∀ i x σ H, xs[i]? = some x → Pv i σ H → g x σ H fun σ2 H2 => tb { D with nx := Pv (i + 1), ct := Pv (i + 1), bk := D.nx } σ2 H2) (hd : ∀ σ H, Pv xs.length σ H → D.nx σ H) :
    kFor (Itt K a) g tb D σ H := for_tup Pv h0 (fun i σ H _ p => hl i σ H p) hs hd
end
theorem w_gtup {K : PySem.W.Frag} {n : Nat} {t : TGs} {p : Addr} {xs : List V} {σ : L2.St} {H : Hp} {Q : L2.St → Hp → Prop} (h : SqT K H p xs) (hl : xs.length = n) (k : t xs σ H Q) : gTup K n t (.ref p) σ H Q :=
  ⟨p, xs, rfl, h, hl, k⟩
theorem w_gcons {t : TG} {u : TGs} {v : V} {r : List V} {σ : L2.St} {H : Hp} {Q : L2.St → Hp → Prop} (k : t v σ H fun σ' H' => u r σ' H' Q) : gCons t u (v :: r) σ H Q := ⟨v, r, rfl, k⟩
theorem w_gnil {σ : L2.St} {H : Hp} {Q : L2.St → Hp → Prop} (k : Q σ H) : gNil [] σ H Q := ⟨rfl, k⟩
/-! ### pure comprehensions by places -/
def madeI (f : Nat → Bool) (v : Nat → V) : Nat → List V
  | 0 => []
  | n + 1 => if f n = true then madeI f v n ++ [v n] else madeI f v n
section
variable {K : PySem.W.Frag} {a : Addr} {g : TG} {tt : TT} {te : TE} {vs : List Nat} {σ : L2.St} {H1 : Hp} {Q : VK}
/-- a turn by places: what the target stores is told by S -/
def TurnI (g : TG) (tt : TT) (te : TE) (vs : List Nat) (σ : L2.St) (H1 : Hp) (x : V) (b : Bool) (v : V) : Prop :=
  ∀ H, Same H1 H → ∀ R : L2.St → Hp → Prop, (∀ σ2, wipe σ2 vs = wipe σ vs → EvT tt σ2 H1 b → (b = true → EvE te σ2 H1 v) → R σ2 H) → g x (wipe σ vs) H R
theorem turnI {f : Nat → Bool} {v : Nat → V} {D : Addr} {i : Nat} {x : V} {acc : List V} {H : Hp} (nD : H1 D = none) (hD : H D = some (.lst acc))
    (p : acc = madeI f v i ∧ Same H1 (off [D] H)) (h : TurnI g tt te vs σ H1 x (f i) (v i)) :
    LcTurnQ g tt te vs σ D x (fun i acc G => acc = madeI f v i ∧ Same H1 G) i acc H := by
  intro Nx Ny n1 n2 hl
  obtain ⟨pa, ps⟩ := p
  have s0 : Same H1 H := ps.trans off_sub
  have up : ∀ {H2}, Same H H2 → Same H1 (off [D] H2) := fun s b o e => off_mk (s b o (s0 b o e)) (by
    intro hm; rw [List.mem_singleton] at hm; rw [hm, nD] at e; cases e)
  refine h H s0 _ fun σ2 hw ht he => ⟨hw, ht H s0 _ fun H2 s2 => ?_⟩
  cases c : f i with
  | true =>
    refine iteT (he c H2 (s0.trans s2) _ fun H3 s3 => ⟨acc, s3 _ _ (s2 _ _ hD), hl, n1 (v i) H3 (s3 _ _ (s2 _ _ hD)) ⟨?_, up (s2.trans s3)⟩⟩)
    show acc ++ [v i] = if f i = true then madeI f v i ++ [v i] else madeI f v i
    rw [if_pos c, pa]
  | false =>
    refine iteF (n2 H2 (s2 _ _ hD) ⟨?_, up s2⟩)
    show acc = if f i = true then madeI f v i ++ [v i] else madeI f v i
    rw [if_neg (by rw [c]; exact Bool.false_ne_true), pa]
theorem i_lcT {xs : List V} (f : Nat → Bool) (v : Nat → V) (hz : xs.length ≤ 100000) (hx : SqT K H1 a xs) (ht : ∀ i x, xs[i]? = some x → TurnI g tt te vs σ H1 x (f i) (v i))
    (k : ∀ D H2, H1 D = none → Same H1 H2 → H2 D = some (.lst (madeI f v xs.length)) → Q (.ref D) H2) : kLc (Itt K a) g tt te vs σ H1 Q := by
  refine k_lcT (xs := xs) hz (fun i acc G => acc = madeI f v i ∧ Same H1 G) ⟨rfl, Same.refl _⟩ (fun i acc G p => same_seqT p.2 hx) ?_ ?_
  · intro D i x acc H nD hi hD p
    exact turnI nD hD p (ht i x hi)
  · rintro D acc H nD hD ⟨pa, ps⟩
    exact k D H nD (ps.trans off_sub) (pa ▸ hD)
theorem i_lcL {xs : List V} (f : Nat → Bool) (v : Nat → V) (hz : xs.length ≤ 100000) (hx : SqL K H1 a xs) (ht : ∀ i x, xs[i]? = some x → TurnI g tt te vs σ H1 x (f i) (v i))
    (k : ∀ D H2, H1 D = none → Same H1 H2 → H2 D = some (.lst (madeI f v xs.length)) → Q (.ref D) H2) : kLc (Itl K a) g tt te vs σ H1 Q := by
  refine k_lcL (xs := xs) hz (fun i acc G => acc = madeI f v i ∧ Same H1 G) ⟨rfl, Same.refl _⟩ (fun i acc G p => p.2.seq hx) ?_ ?_
  · intro D i x acc H nD hi hD p
    exact turnI nD hD p (ht i x hi)
  · rintro D acc H nD hD ⟨pa, ps⟩
    exact k D H nD (ps.trans off_sub) (pa ▸ hD)
theorem i_lcR {n : Nat} (f : Nat → Bool) (v : Nat → V) (hz : n ≤ 100000) (ht : ∀ i : Nat, i < n → TurnI g tt te vs σ H1 (.int (i : Int)) (f i) (v i))
    (k : ∀ D H2, H1 D = none → Same H1 H2 → H2 D = some (.lst (madeI f v n)) → Q (.ref D) H2) : kLc (Itr 0 n) g tt te vs σ H1 Q := by
  refine k_lcR (n := n) hz (fun i acc G => acc = madeI f v i ∧ Same H1 G) ⟨rfl, Same.refl _⟩ ?_ ?_
  · intro D i acc H nD hi hD p
    exact turnI nD hD p (ht i hi)
  · rintro D acc H nD hD ⟨pa, ps⟩
    exact k D H nD (ps.trans off_sub) (pa ▸ hD)
/-- the target is a name -/
theorem turn_name {j : Nat} {x : V} {b : Bool} {v : V} (hw : ∀ x, wipe ((wipe σ vs).set j (some x)) vs = wipe σ vs) (ht : EvT tt ((wipe σ vs).set j (some x)) H1 b)
    (he : b = true → EvE te ((wipe σ vs).set j (some x)) H1 v) : TurnI (gName j) tt te vs σ H1 x b v := fun H _ R k => w_name (k _ (hw x) ht he)
end
end Sil
set_option Elab.async false
set_option linter.all false
set_option maxRecDepth 100000
set_option maxHeartbeats 1000000
/-! P6: the rules with the written part told (so that a comprehension's block has the same readings), their readings by names. -/
namespace Sil
open PySem L2
section
variable {X : Cx} (K : PySem.W.Frag)
theorem k_ixL (h : X.K = K := by rfl) : IxR X (rIxL K) := by subst h; exact ix_list
theorem k_ixT (h : X.K = K := by rfl) : IxR X (rIxT K) := by subst h; exact ix_tup
theorem k_slT (h : X.K = K := by rfl) : SlR X (rSlT K) := by subst h; exact sl_tup
theorem k_slL (h : X.K = K := by rfl) : SlR X (rSlL K) := by subst h; exact sl_list
def rLen : List V → Hp → VK → Prop := fun xs H Q => ∃ p ys, xs = [.ref p] ∧ (SqL K H p ys ∨ SqT K H p ys) ∧ Q (.int ys.length) H
theorem k_len (h : X.K = K := by rfl) : CallR X (.builtin "len") (rLen K) := by subst h; exact call_len_seq
def rListOf : List V → Hp → VK → Prop := fun xs H Q => ∃ p ys, xs = [.ref p] ∧ (SqL K H p ys ∨ SqT K H p ys) ∧ ∀ l, H l = none → Q (.ref l) (upd H l (.lst ys))
theorem k_list (h : X.K = K := by rfl) : CallR X (.type "list") (rListOf K) := by subst h; exact call_list_of
def rTupOf : List V → Hp → VK → Prop := fun xs H Q => ∃ p ys, xs = [.ref p] ∧ ((SqL K H p ys ∧ ∀ l, H l = none → Q (.ref l) (upd H l (.tup ys))) ∨ (SqT K H p ys ∧ Q (.ref p) H))
theorem k_tuple (h : X.K = K := by rfl) : CallR X (.type "tuple") (rTupOf K) := by subst h; exact call_tuple_of
theorem k_sum (hc : X.calm = true := by rfl) (h : X.K = K := by rfl) : CallR X (.builtin "sum") (rSum K) := by subst h; exact cr_sum hc
theorem k_max (hc : X.calm = true := by rfl) (h : X.K = K := by rfl) : CallR X (.builtin "max") (rMax K) := by subst h; exact cr_max hc
theorem k_min (hc : X.calm = true := by rfl) (h : X.K = K := by rfl) : CallR X (.builtin "min") (rMin K) := by subst h; exact cr_min hc
theorem k_all (hc : X.calm = true := by rfl) (h : X.K = K := by rfl) : CallR X (.builtin "all") (rAll K) := by subst h; exact cr_all hc
theorem k_any (hc : X.calm = true := by rfl) (h : X.K = K := by rfl) : CallR X (.builtin "any") (rAny K) := by subst h; exact cr_any hc
theorem k_sortedS (h : X.K = K := by rfl) : CallR X (.builtin "sorted") (rSortedS K) := by subst h; exact cr_sortedS
theorem k_maxD (hc : X.calm = true := by rfl) (h : X.K = K := by rfl) : CallRK X (.builtin "max") [Str.ofString "default"] (rMaxD K) := by subst h; exact cr_maxD hc
theorem k_minD (hc : X.calm = true := by rfl) (h : X.K = K := by rfl) : CallRK X (.builtin "min") [Str.ofString "default"] (rMinD K) := by subst h; exact cr_minD hc
theorem k_sumS (hc : X.calm = true := by rfl) (h : X.K = K := by rfl) : CallRK X (.builtin "sum") [Str.ofString "start"] (rSumS K) := by subst h; exact cr_sumS hc
theorem k_isi (h : X.K = K := by rfl) : CallR X (.builtin "isinstance") (rIsi K) := by subst h; exact call_isi
theorem k_isiT (h : X.K = K := by rfl) : CallR X (.builtin "isinstance") (rIsiT K) := by subst h; exact call_isiT
theorem k_repr {k : Nat} (hr : Room k X.A) (hg : Calm X.A) (h : X.K = K := by rfl) : CallR X (.builtin "repr") (rRepr K) := by subst h; exact cr_repr hr hg
theorem k_in (h : X.K = K := by rfl) : OpR X (compareOp .In) (rIn K false) := by subst h; exact op_in_seq
theorem k_notIn (h : X.K = K := by rfl) : OpR X (compareOp .NotIn) (rIn K true) := by subst h; exact op_notIn_seq
theorem k_eqD {k : Nat} (hr : Room k X.A) (h : X.K = K := by rfl) : OpR X (compareOp .Eq) (rEqD K) := by subst h; exact op_eqD hr.units
theorem k_neD {k : Nat} (hr : Room k X.A) (h : X.K = K := by rfl) : OpR X (compareOp .NotEq) (rNeD K) := by subst h; exact op_neD hr.units
end
section
variable {X : Cx}
def rIsNon : R2 := fun x y H Q => y = .non ∧ Q (.bl (decide (x = .non))) H
def rNotNon : R2 := fun x y H Q => y = .non ∧ Q (.bl (!decide (x = .non))) H
theorem k_isN : OpR X (compareOp .Is) rIsNon := op_isN
theorem k_notN : OpR X (compareOp .IsNot) rNotNon := op_notN
def rAbs : List V → Hp → VK → Prop := fun xs H Q => ∃ i, xs = [.int i] ∧ Q (.int (if i < 0 then -i else i)) H
theorem k_abs : CallR X (.builtin "abs") rAbs := call_abs
def rMax2 : List V → Hp → VK → Prop := fun xs H Q => ∃ i j, xs = [.int i, .int j] ∧ Q (.int (if j > i then j else i)) H
def rMin2 : List V → Hp → VK → Prop := fun xs H Q => ∃ i j, xs = [.int i, .int j] ∧ Q (.int (if j < i then j else i)) H
theorem k_max2 (hc : X.calm = true := by rfl) : CallR X (.builtin "max") rMax2 := call_max2 hc
theorem k_min2 (hc : X.calm = true := by rfl) : CallR X (.builtin "min") rMin2 := call_min2 hc
def rLenStr : List V → Hp → VK → Prop := fun xs H Q => ∃ z, xs = [.str z] ∧ z.length ≤ sizeLine ∧ Q (.int z.length) H
theorem k_lenStr : CallR X (.builtin "len") rLenStr := call_len_str
def rInt1 : List V → Hp → VK → Prop := fun xs H Q => (∃ i, xs = [.int i] ∧ Q (.int i) H) ∨ ∃ k, xs = [.bl k] ∧ Q (.int (if k then 1 else 0)) H
theorem k_int1 : CallR X (.type "int") rInt1 := call_int1
def rLtS : R2 := fun x y H Q => ∃ i j, x = .str i ∧ y = .str j ∧ Q (.bl (decide (i.cps.toList < j.cps.toList))) H
theorem k_ltS : OpR X (compareOp .Lt) rLtS := op_lt_str
def rAddS : R2 := fun x y H Q => ∃ i j, x = .str i ∧ y = .str j ∧ i.length + j.length ≤ sizeLine ∧ Q (.str (i ++ j)) H
theorem k_addS : OpR X (binaryOp .Add) rAddS := op_add_str
end
section
variable {X : Cx} (K : PySem.W.Frag) {e o tg : Expr} {es : List Expr} {ta to : TE} {t : TA} {f name : Str} {pos apos cpos : Pos} {T id : String} {r : V → List V → Hp → VK → Prop} {pl : Sem Bool}
theorem pe_fldK (he : PE X e ta) (hb : attributeBase e f X.env (eval e X.env) = eval e X.env := by rfl) (h : X.K = K := by rfl) : PE X (.Attribute e f pos) (tFld K ta f) := by subst h; exact pe_fld he hb
theorem pi_listK (hl : PE X e ta) (h : X.K = K := by rfl) : PI X tg e (iList K ta) := by subst h; exact pi_list hl
theorem pi_tupK (hl : PE X e ta) (h : X.K = K := by rfl) : PI X tg e (iTup K ta) := by subst h; exact pi_tup hl
end
/-! readings by names -/
section
variable {K : PySem.W.Frag} {H : Hp} {Q : VK} {x v : V} {p : Addr} {xs : List V}
theorem w_isN (k : Q (.bl (decide (x = .non))) H) : rIsNon x .non H Q := ⟨rfl, k⟩
theorem w_notN (k : Q (.bl (!decide (x = .non))) H) : rNotNon x .non H Q := ⟨rfl, k⟩
theorem w_abs {i : Int} (k : Q (.int (if i < 0 then -i else i)) H) : rAbs [.int i] H Q := ⟨i, rfl, k⟩
theorem w_max2 {i j : Int} (k : Q (.int (if j > i then j else i)) H) : Sil.rMax2 [.int i, .int j] H Q := ⟨i, j, rfl, k⟩
theorem w_min2 {i j : Int} (k : Q (.int (if j < i then j else i)) H) : rMin2 [.int i, .int j] H Q := ⟨i, j, rfl, k⟩
theorem w_lenL (h : SqL K H p xs) (k : Q (.int xs.length) H) : rLen K [.ref p] H Q := ⟨p, xs, rfl, .inl h, k⟩
theorem w_lenT (h : SqT K H p xs) (k : Q (.int xs.length) H) : rLen K [.ref p] H Q := ⟨p, xs, rfl, .inr h, k⟩
theorem w_lenS {z : Str} (h : z.length ≤ sizeLine) (k : Q (.int z.length) H) : rLenStr [.str z] H Q := ⟨z, rfl, h, k⟩
theorem w_list {ys : List V} (h : SqL K H p ys ∨ SqT K H p ys) (k : ∀ l H2, H l = none → Same H H2 → H2 l = some (.lst ys) → Q (.ref l) H2) : rListOf K [.ref p] H Q :=
  ⟨p, ys, rfl, h, fun l nl => k l _ nl (same_new nl) upd_same⟩
theorem w_tupleL {ys : List V} (h : SqL K H p ys) (k : ∀ l H2, H l = none → Same H H2 → H2 l = some (.tup ys) → Q (.ref l) H2) : rTupOf K [.ref p] H Q :=
  ⟨p, ys, rfl, .inl ⟨h, fun l nl => k l _ nl (same_new nl) upd_same⟩⟩
theorem w_eqD {y : V} {d e : PyData} (h1 : Dp K H x d) (h2 : Dp K H y e) (s1 : SeqAt.shaped d = true) (s2 : SeqAt.shaped e = true) (k : Q (.bl (PyData.eqv d e)) H) : rEqD K x y H Q := ⟨d, e, h1, h2, s1, s2, k⟩
theorem w_neD {y : V} {d e : PyData} (h1 : Dp K H x d) (h2 : Dp K H y e) (s1 : SeqAt.shaped d = true) (s2 : SeqAt.shaped e = true) (k : Q (.bl (!PyData.eqv d e)) H) : rNeD K x y H Q := ⟨d, e, h1, h2, s1, s2, k⟩
theorem w_inT (h : SqT K H p xs) (hx : flatV x = true) (ha : xs.all flatV = true) (k : Q (.bl (inV x xs)) H) : rIn K false x (.ref p) H Q := ⟨p, xs, rfl, .inr h, hx, ha, k⟩
theorem w_inL (h : SqL K H p xs) (hx : flatV x = true) (ha : xs.all flatV = true) (k : Q (.bl (inV x xs)) H) : rIn K false x (.ref p) H Q := ⟨p, xs, rfl, .inl h, hx, ha, k⟩
theorem w_notInT (h : SqT K H p xs) (hx : flatV x = true) (ha : xs.all flatV = true) (k : Q (.bl (!inV x xs)) H) : rIn K true x (.ref p) H Q := ⟨p, xs, rfl, .inr h, hx, ha, k⟩
theorem w_addS {i j : Str} (h : i.length + j.length ≤ sizeLine) (k : Q (.str (i ++ j)) H) : rAddS (.str i) (.str j) H Q := ⟨i, j, rfl, rfl, h, k⟩
theorem w_ltS {i j : Str} (k : Q (.bl (decide (i.cps.toList < j.cps.toList))) H) : rLtS (.str i) (.str j) H Q := ⟨i, j, rfl, rfl, k⟩
end
/-- ints in a list are data -/
theorem dpAll_ints {K : PySem.W.Frag} {H : Hp} : ∀ ns : List Int, DpAll K H (ns.map V.int) (ns.map PyData.int)
  | [] => .nil
  | n :: r => .cons (.int n) (dpAll_ints r)
theorem canLay_ints : ∀ ns : List Int, PyData.canLayAll0 (ns.map PyData.int) = true
  | [] => rfl
  | n :: r => by
    show (true && PyData.canLayAll0 (r.map PyData.int)) = true
    rw [canLay_ints r]; rfl
theorem depth_ints : ∀ ns : List Int, PyData.depthAll (ns.map PyData.int) = 0
  | [] => rfl
  | n :: r => by
    show max 0 (PyData.depthAll (r.map PyData.int)) = 0
    rw [depth_ints r]; rfl
theorem shaped_ints (ns : List Int) : SeqAt.shaped (.list (ns.map PyData.int)) = true := by
  show (PyData.canLayAll0 (ns.map PyData.int) && decide (PyData.depthAll (ns.map PyData.int) + 1 ≤ 64)) = true
  rw [canLay_ints, depth_ints]; rfl
theorem eqv_nil (ds : List PyData) : PyData.eqv (.list ds) (.list []) = decide (ds = []) := by
  cases ds <;> rfl
/-! ### ways that meet again behind a statement -/
def tMid (t u : TS) : TS := fun D σ H => ∃ M : L2.St → Hp → Prop, t { D with nx := M } σ H ∧ ∀ σ' H', M σ' H' → u D σ' H'
theorem pss_mid {X : Cx} {st : Stmt} {rest : List Stmt} {t u : TS} (h1 : PS X st t) (h2 : PSs X rest u) : PSs X (st :: rest) (tMid t u) := by
  refine ⟨fun pins s σ H D I ⟨M, hm, hu⟩ => wpAny_execs_cons (thn (h1.run pins s σ H { D with nx := M } I hm) ?_)⟩
  intro f s1 q
  cases f with
  | next => obtain ⟨σ', H', I', q⟩ := q; exact h2.run pins s1 σ' H' D I' (hu σ' H' q)
  | ret v => exact q
  | brk => exact q
  | cont => exact q
theorem w_mid {t u : TS} {D : Ends} {σ : L2.St} {H : Hp} (M : L2.St → Hp → Prop) (h : t { D with nx := M } σ H) (k : ∀ σ' H', M σ' H' → u D σ' H') : tMid t u D σ H := ⟨M, h, k⟩
end Sil
set_option Elab.async false
set_option linter.all false
set_option maxRecDepth 100000
set_option maxHeartbeats 1000000
/-! P7: errors: one made of nothing; an object made where its __init__ may raise; keywords at a class. -/
namespace Sil
open PySem L2 PySem.Spec PyProof.Rows
section
variable {X : Cx} {C : Addr} {bmB : List Value} {B newId initId : String}
/-- X(), an own class of errors without __init__ -/
theorem pmk_own0 {x : Str} {p pos : Pos} (F : ExcBaseFacts B newId initId bmB) (q : PySem.W.excIn X.K C bmB newId = true) (gC : X.mg x = some (.ref C))
    (kC : PySem.W.keepIn X.K (.ref C) = true) (r : Raises X (.ref C)) (hg : Gl X x) (hdb : (x == ("__debug__" : Str)) = false := by decide) :
    PMk X (.Call (.Name x p) [] [] pos) (fun _ H Q => Q (.ref C) none H) := by
  intro pins s σ H Q I h
  refine wpAny_Call_Name_kw (ld_glob I hg gC ?_ hdb)
  refine PySem.W.callWith_K0 I.kIn kC ?_
  obtain ⟨bm, N, nm, qn, bs, hdct, sn, sub, ab, col, dd, k0, k1, k2, k3, k5, mN, hC, hN, hni, T⟩ := exc_obj I.kIn q
  refine wpAny_call_exc_subT F T hC hN hni (fun h' e hm => ?_) (Nat.zero_le _)
  exact mk_of I hm r h (I.hok.gone hm.new)
end
section
variable {X : Cx} {CX : CXT} {k : Nat} {f C : Addr} {fd : FuncData} {ps : List Str} {sp : Sp} {dvs : List V} {ds : List Value} {E : L2.St → XK} {x : Str} {p pos : Pos} {e : Expr} {es : List Expr} {t : TA}
theorem run_makeS {pins : List (Addr × Obj)} {σ : L2.St} {H : Hp} {s : Shared} {Q : VK} {us : List Value} {vs : List V} (M : Mk X.K C f)
    (F : FnOk X.prog X.w X.K X.mg X.base CX k f fd ps sp) (hr : Room (k + 1) X.A) (hb : Binds X.K fd ps ds) (hd : Vals dvs ds) (hx : PassesAt CX X σ (E σ))
    (I : Inv X pins σ H s) (r : Vals vs us) (h : kMake C sp (vs ++ dvs) H Q (E σ)) : wpAny (model X.prog X.w) X.A (call (.ref C) us) (EP X pins σ Q) X.xe s := by
  let new : Addr := s.heap.objs.size + 1
  have hq := h new s.heap.objs.size (I.hok.fresh (Nat.le_succ _)) (I.hok.fresh (Nat.le_refl _)) (Nat.ne_of_lt (Nat.lt_succ_self _))
  have J := Inv.made (C := C) I
  have rr : Vals (V.ref new :: (vs ++ dvs)) (Value.ref new :: (us ++ ds)) := .cons rfl (r.append hd)
  have hl : (Value.ref new :: us ++ ds).length = ps.length := (rr.length.symm.trans (F.len _ _ _ _ hq) : _)
  have run := F.run _ X.stack _ _ ⟨Value.ref new :: us, []⟩ (Value.ref new :: (us ++ ds)) _ _ (E σ) (hr.make C us []) (J.env0.make C us []) (hb _ (Value.ref new :: us) J.kIn hl) rr hq
  refine wpAny_call (make_map (f := f) I.kIn M.makes M.init (beq_iff_eq.mp M.fn) (codeAny_mono run ?_))
  rintro (er | fl) s' z
  · exact hx pins _ _ er s' J z
  · cases fl with
    | ret u =>
      obtain ⟨v, H', J2, rv, ev, q3⟩ := J.after z
      cases ev
      exact ⟨rv, ⟨V.ref new, H', J2, rfl, q3⟩⟩
    | next => exact z.elim
    | brk => exact z.elim
    | cont => exact z.elim
def tMakeS (C : Addr) (sp : Sp) (dvs : List V) (E : L2.St → XK) (t : TA) : TE := fun σ H Q => t σ H fun vs H1 => kMake C sp (vs ++ dvs) H1 Q (E σ)
theorem pe_makeS (M : Mk X.K C f) (F : FnOk X.prog X.w X.K X.mg X.base CX k f fd ps sp) (hr : Room (k + 1) X.A) (hg : Gl X x) (hm : X.mg x = some (.ref C))
    (hb : Binds X.K fd ps ds) (hd : Vals dvs ds) (hx : ∀ σ, PassesAt CX X σ (E σ)) (ha : PA X (e :: es) t) (hdb : (x == ("__debug__" : Str)) = false := by decide)
    (he : starEach (e :: es) X.env = (false, eval e X.env) :: starEach es X.env := by rfl) (hpl : (backTo pos (starEach es X.env)).any (·.1) = false := by rfl) :
    PE X (.Call (.Name x p) (e :: es) [] pos) (tMakeS C sp dvs E t) := by
  refine ⟨fun pins s σ H Q I h => wpAny_Call_Name_kw (ld_glob I hg hm ?_ hdb)⟩
  refine PySem.W.callWith_K (h₀ := X.base) I.ok.mod.kin M.kp (thn (ha.run pos pins s σ H _ I h) ?_) he hpl
  rintro us s1 ⟨vs, H1, I1, r, q⟩
  exact ⟨I1.kIn, run_makeS M F hr hb hd (hx σ) I1 r q⟩
end
/-! ### facts of an own class of errors over ValueError, without __init__ -/
structure ErrC (K : PySem.W.Frag) (mg : Str → Option Value) (nm : Str) (D : Addr) : Prop where
  g : mg nm = some (.ref D)
  x : PySem.W.excIn K D [.type "ValueError", .type "Exception", .type "BaseException", .type "object"] "ValueError.__new__" = true
  kp : PySem.W.keepIn K (.ref D) = true
  sB : PySem.W.subIn K (.ref D) (.type "BaseException") = some true
  sV : PySem.W.subIn K (.ref D) (.type "ValueError") = some true
  ty : PySem.W.typeIn K (.ref D) = some (.type "type")
  ic : PySem.W.isClsIn K D = true
  sS : PySem.W.subIn K (.ref D) (.ref D) = some true
  is : ExcC K D
theorem ErrC.ex {K : PySem.W.Frag} {mg : Str → Option Value} {nm : Str} {D : Addr} (E : ErrC K mg nm D) : PySem.W.exmOne K (.ref D) (.ref D) = some true :=
  PySem.W.exm_ref E.sB E.is.hd E.ty E.sS
/-- another class, under which the errors of D don't stand -/
structure NotUnder (K : PySem.W.Frag) (D O : Addr) : Prop where
  ic : PySem.W.isClsIn K O = true
  tc : PySem.W.typeIn K (.ref O) = some (.type "type")
  s : PySem.W.subIn K (.ref D) (.ref O) = some false
theorem ErrC.other {K : PySem.W.Frag} {mg : Str → Option Value} {nm : Str} {D O : Addr} (E : ErrC K mg nm D) (n : NotUnder K D O) : PySem.W.kitOne K (.ref D) (.ref O) = some false := by
  have ne : ((Value.ref D) == (Value.ref O)) = false := by
    refine beq_eq_false_iff_ne.mpr fun q => ?_
    have e : D = O := Value.ref.inj q
    subst e
    have a := n.s
    rw [E.sS] at a
    cases a
  have e2 : ((PySem.W.clsIn K O).isSome && PySem.W.typeIn K (.ref O) == some (.type "type")) = true := by
    have e1 : (PySem.W.clsIn K O).isSome = true := n.ic
    rw [e1, n.tc] <;> rfl
  unfold PySem.W.kitOne PySem.W.kitCls
  rw [ne, if_neg Bool.false_ne_true]
  show (if ((PySem.W.clsIn K O).isSome && PySem.W.typeIn K (.ref O) == some (.type "type")) = true then _ else _) = _
  rw [if_pos e2]
  exact n.s
theorem ErrC.under {K : PySem.W.Frag} {mg : Str → Option Value} {nm : Str} {D : Addr} {T : String} (E : ErrC K mg nm D) (hm : PySem.W.kitMeta T = true) (h : PySem.W.subIn K (.ref D) (.type T) = some true) :
    PySem.W.kitOne K (.ref D) (.type T) = some true := by
  unfold PySem.W.kitOne PySem.W.kitCls
  rw [if_neg (by intro z; exact nomatch (beq_iff_eq.mp z))]
  show (if PySem.W.kitMeta T = true then _ else _) = _
  rw [if_pos hm]
  exact h
/-! ### isinstance of the error that a suite holds -/
def rIsX (K : PySem.W.Frag) (D a : Addr) (cls : Value) (d : Option Addr) : List V → Hp → VK → Prop := fun xs H Q => cls = Value.ref D ∧ d = none ∧
  ∃ (c : V) (cv : Value) (b : Bool), xs = [.ref a, c] ∧ ClsV c cv ∧ PySem.W.kitOne K (.ref D) cv = some b ∧ Q (.bl b) H
def rIsXT (K : PySem.W.Frag) (D a : Addr) (cls : Value) (d : Option Addr) : List V → Hp → VK → Prop := fun xs H Q => cls = Value.ref D ∧ d = none ∧
  ∃ (tp : Addr) (cs : List V) (us : List Value) (b : Bool), xs = [.ref a, .ref tp] ∧ H tp = some (.tup cs) ∧ Paired ClsV cs us ∧ PySem.W.kitAny K (.ref D) us = some b ∧ Q (.bl b) H
section
variable {X : Cx} {a D : Addr} {oe : Obj} {pn pins : List (Addr × Obj)} {cls : Value} {d : Option Addr} {σ : L2.St} {H : Hp} {s : Shared}
theorem suite_inst (hz : Zc (.ref D) none oe) (hf : ∃ vs, oe.data = .fields vs) (I : Inv (X.suite a ((a, oe) :: pn)) pins σ H s) : PySem.W.InstAt s.heap a oe D none := by
  obtain ⟨hget, _⟩ := I.pin (a, oe) (List.mem_append.mpr (.inl List.mem_cons_self))
  obtain ⟨vs, hv⟩ := hf
  obtain ⟨oc, od, oda, osl⟩ := oe
  obtain ⟨h1, h2⟩ := hz
  cases h1
  cases h2
  cases hv
  exact ⟨hget, rfl, rfl, trivial⟩
theorem k_isX (K : PySem.W.Frag) (C : ExcC K D) (hz : Zc cls d oe) (hf : ∃ vs, oe.data = .fields vs) (hK : X.K = K := by rfl) : CallR (X.suite a ((a, oe) :: pn)) (.builtin "isinstance") (rIsX K D a cls d) := by
  subst hK
  intro pins s σ H xs us Q I r h
  obtain ⟨rfl, rfl, c, cv, b, rfl, hcv, e, q⟩ := h
  obtain ⟨u1, u2, rfl, r1, r2⟩ := vals2 r
  cases r1
  have ec := hcv.eq r2
  subst ec
  exact PySem.W.kia_one (PySem.W.handS_kitx_exc C.hg C.hk C.hs C.hd C.ha C.hn C.ht C.hm) I.kIn (suite_inst hz hf I) e (fun z => nomatch z) fun tk => ⟨.bl b, H, I.kept (t' := tk) fun _ _ z => z, rfl, q⟩
theorem k_isXT (K : PySem.W.Frag) (C : ExcC K D) (hz : Zc cls d oe) (hf : ∃ vs, oe.data = .fields vs) (hK : X.K = K := by rfl) : CallR (X.suite a ((a, oe) :: pn)) (.builtin "isinstance") (rIsXT K D a cls d) := by
  subst hK
  intro pins s σ H xs us Q I r h
  obtain ⟨rfl, rfl, tp, cs, ws, b, rfl, hT, k, e, q⟩ := h
  obtain ⟨u1, u2, rfl, r1, r2⟩ := vals2 r
  cases r1
  cases (show u2 = Value.ref tp from r2)
  obtain ⟨_, its, rv, o, h1, h2, n, h3⟩ := (show ObjOk X.prog X.w H s.heap tp (.tup cs) from I.hok tp _ hT)
  have e3 := ClsV.all k rv
  subst e3
  obtain ⟨oc, od, dt, sl⟩ := o
  cases h2
  cases h3
  exact PySem.W.kia_tup (PySem.W.handS_kitx_exc C.hg C.hk C.hs C.hd C.ha C.hn C.ht C.hm) I.kIn (suite_inst hz hf I) h1 e (fun z => nomatch z) fun tk => ⟨.bl b, H, I.kept (t' := tk) fun _ _ z => z, rfl, q⟩
end
theorem getD_rel : ∀ {vs : List V} {us : List Value} (_ : Vals vs us) (k : Nat), RelV (vs.getD k .non) (us.getD k .none)
  | _, _, .nil, k => by cases k <;> rfl
  | _, _, .cons r _, 0 => r
  | _, _, .cons _ t, k + 1 => getD_rel t k
theorem w_makeS {C : Addr} {sp : Sp} {dvs : List V} {E : L2.St → XK} {t : TA} {σ : L2.St} {H : Hp} {Q : VK} (k : t σ H fun vs H1 => kMake C sp (vs ++ dvs) H1 Q (E σ)) : tMakeS C sp dvs E t σ H Q := k
def kMakeK (C : Addr) (m : Nat) (sp : Sp) (gV : List V → List V → List V) (zs : List V) (H2 : Hp) (Q : VK) (E : XK) : Prop :=
  ([] : List V).length = 0 ∧ zs.length = m ∧ ∀ x dx, H2 x = none → H2 dx = none → dx ≠ x →
      sp (gV [.ref x] zs) (upd (upd H2 dx (.own x)) x (.ins C dx [])) (fun v H3 => v = .non ∧ Q (.ref x) H3) E
theorem w_makeK0 {C : Addr} {m : Nat} {sp : Sp} {gV : List V → List V → List V} {E : XK} {tk : TA} {σ : L2.St} {H : Hp} {Q : VK}
    (k : tk σ H fun zs H2 => kMakeK C m sp gV zs H2 Q E) : tMakeK C 0 m sp gV E tNil tk σ H Q := k
theorem k_makeK {C : Addr} {m : Nat} {sp : Sp} {gV : List V → List V → List V} {E : XK} {zs ys : List V} {H2 : Hp} {Q : VK}
    (hm : zs.length = m) (e : ∀ x, gV [.ref x] zs = .ref x :: ys) (k : kMake C sp ys H2 Q E) : kMakeK C m sp gV zs H2 Q E :=
  ⟨rfl, hm, fun x dx n1 n2 n3 => by rw [e x]; exact k x dx n1 n2 n3⟩
end Sil
set_option Elab.async false
set_option linter.all false
set_option maxRecDepth 100000
set_option maxHeartbeats 1000000
/-! P8: texts of objects by their own __str__ and __repr__, != by an own __eq__, texts of None. -/
namespace Sil
open PySem L2 PySem.Spec PyProof.Rows
section
variable {X : Cx} {CX : CXT} {k : Nat} {C f : Addr} {fd : FuncData} {ps : List Str} {sp : Sp} {E : XK}
/-- the callee runs, some built-in frames below -/
theorem run_fnA {pins : List (Addr × Obj)} {σ : L2.St} {H : Hp} {s : Shared} {Q : VK} {us : List Value} {vs : List V} {A : Around}
    (hA : A.frames = X.A.frames) (F : FnOk X.prog X.w X.K X.mg X.base CX k f fd ps sp) (hr : Room k A) (hb : Binds X.K fd ps []) (hx : Passes CX X E)
    (I : Inv X pins σ H s) (r : Vals vs us) (h : sp vs H Q E) : wpAny (model X.prog X.w) A (call (.ref f) us) (EP X pins σ Q) X.xe s := by
  have hl : us.length = ps.length := by rw [← r.length]; exact F.len _ _ _ _ h
  have b := hb s us I.kIn (by rw [List.append_nil]; exact hl)
  rw [List.append_nil] at b
  have e0 := I.env0
  have e1 : Env0 X.prog X.w X.K X.mg X.base A X.stack s H := ⟨hA.trans e0.frames, e0.mod, e0.bs, e0.bsz, e0.funs, e0.frf, e0.hok, e0.bare⟩
  refine wpAny_call (codeAny_mono (F.run A X.stack s H ⟨us, []⟩ us vs Q E hr e1 b r h) fun r s' hq => ?_)
  cases r with
  | error e => exact hx pins σ H s e s' I hq
  | ok fl =>
    cases fl with
    | ret u => exact I.after hq
    | next => exact False.elim hq
    | brk => exact False.elim hq
    | cont => exact False.elim hq
/-- what a text by an own method asks -/
def rTxt (C : Addr) (sp : Sp) (E : XK) : List V → Hp → VK → Prop := fun xs H Q => ∃ a dx fs, xs = [.ref a] ∧ H a = some (.ins C dx fs) ∧
  sp xs H (fun v H' => (∃ y, v = .str y) ∧ Q v H') E
/-- str(x) by the own __str__ -/
theorem cr_strO (F : FnOk X.prog X.w X.K X.mg X.base CX k f fd ps sp) (hs : PySem.W.findIn X.K (.ref C) "__str__" = some (some (.ref f)))
    (hf : PySem.W.isFn X.K (.ref f) = true) (hb : Binds X.K fd ps []) (hr : Room (k + 2) X.A) (hx : Passes CX X E) : CallR X (.type "str") (rTxt C sp E) := by
  intro pins s σ H xs us Q I r h
  obtain ⟨a, dx, fs, rfl, ha, hsp⟩ := h
  obtain ⟨u, rfl, ru⟩ := vals1 r
  cases ru
  obtain ⟨mA, J, _⟩ := ins_get I.hok ha
  obtain ⟨od, J, _⟩ := J.look
  have hr2 : Room k X.A.in1.in1 := Room.in1 (Room.in1 hr)
  refine PySem.W.kso_call hr2.units0 I.kIn J hs hf ?_
  refine wpAny_mono (run_fnA (vs := [V.ref a]) rfl F hr2 hb hx I (.cons rfl .nil) hsp) (fun v s' hv => ?_) fun _ _ z => z
  obtain ⟨z, H', I', rz, ⟨y, rfl⟩, q⟩ := hv
  obtain ⟨t, rfl⟩ := rz
  exact ⟨.str y, H', I', ⟨t, rfl⟩, q⟩
open Builtin in
theorem repr_K {A : Around} {E : Value → Shared → Prop} {K : PySem.W.Frag} {s : Shared} {P : Program} {w : World} {x : Addr} {ox : Obj} {od : Option Obj} {Q : Value → Shared → Prop} (hu : A.in1.units < cLine) (XK : K.In s.heap) (I : PySem.W.InstAt s.heap x ox C od)
    (hs : PySem.W.findIn K (.ref C) "__repr__" = some (some (.ref f))) (hf : PySem.W.isFn K (.ref f) = true)
    (h : wpAny (model P w) A.in1 (call (.ref f) [.ref x]) (fun r s' => ∃ m tk, r = .str m tk ∧ Q (.str m tk) s') E s) :
    wpAny (model P w) A (call (.builtin "repr") [.ref x]) Q E s := by
  refine Calls.call_function_entry F.kind_repr F.plain_repr F.entry_repr (F.args_repr1 _) ?_
  unfold Builtin.«repr»
  refine wpAny_bind (m := oneArg "repr" _) (wpAny_pure ?_)
  refine wpAny_bind (wpAny_cRoomFor hu ?_)
  refine wpAny_bind (m := specialOf (.ref x) (Str.ofString "__repr__")) (wpAny_bind (I.type.here ((PySem.W.looks_findIn XK hs).here ?_)))
  show wpAny _ _ (if (some (Value.ref f)).isNone = true then _ else _) _ _ _
  rw [if_neg (by simp)]
  refine wpAny_bind (m := callSpecialIfBound? (.ref x) (Str.ofString "__repr__") _) (PySem.W.ifBound_K XK I hs hf (wpAny_mono h (fun r s' hr => ?_) fun _ _ y => y))
  obtain ⟨m, tk, rfl, hq⟩ := hr
  refine wpAny_bind (wpAny_isInstance (typeIs_str _ _ _) isSubtype_str_str ?_)
  first
    | exact wpAny_pure ⟨_, rfl, hq⟩
    | (rw [if_pos rfl]; exact wpAny_pure ⟨_, rfl, hq⟩)
    | (simp only [if_true]; exact wpAny_pure ⟨_, rfl, hq⟩)
/-- repr(x) by the own __repr__ -/
theorem cr_reprO (F : FnOk X.prog X.w X.K X.mg X.base CX k f fd ps sp) (hs : PySem.W.findIn X.K (.ref C) "__repr__" = some (some (.ref f)))
    (hf : PySem.W.isFn X.K (.ref f) = true) (hb : Binds X.K fd ps []) (hr : Room (k + 1) X.A) (hx : Passes CX X E) : CallR X (.builtin "repr") (rTxt C sp E) := by
  intro pins s σ H xs us Q I r h
  obtain ⟨a, dx, fs, rfl, ha, hsp⟩ := h
  obtain ⟨u, rfl, ru⟩ := vals1 r
  cases ru
  obtain ⟨mA, J, _⟩ := ins_get I.hok ha
  obtain ⟨od, J, _⟩ := J.look
  have hr2 : Room k X.A.in1 := Room.in1 hr
  refine repr_K hr2.units0 I.kIn J hs hf ?_
  refine wpAny_mono (run_fnA (vs := [V.ref a]) rfl F hr2 hb hx I (.cons rfl .nil) hsp) (fun v s' hv => ?_) fun _ _ z => z
  obtain ⟨z, H', I', rz, ⟨y, rfl⟩, q⟩ := hv
  obtain ⟨t, rfl⟩ := rz
  exact ⟨y, t, rfl, .str y, H', I', ⟨t, rfl⟩, q⟩
/-- {x} by the own __str__ -/
def tFmtO (r : List V → Hp → VK → Prop) (te : TE) : TE := fun σ H Q => te σ H fun x H1 => r [x] H1 Q
theorem pe_fmtO {e : Expr} {te : TE} {pos : Pos} (he : PE X e te) (F : FnOk X.prog X.w X.K X.mg X.base CX k f fd ps sp) (hs : PySem.W.findIn X.K (.ref C) "__str__" = some (some (.ref f)))
    (hf : PySem.W.isFn X.K (.ref f) = true) (hfm : PySem.W.findIn X.K (.ref C) "__format__" = some (some (.builtin "object.__format__"))) (hm : PySem.W.mroIn X.K C (.type "object") = some true)
    (hb : Binds X.K fd ps []) (hr : Room (k + 1) X.A) (hx : Passes CX X E) : PE X (.FormattedValue e (-1) none pos) (tFmtO (rTxt C sp E) te) := by
  refine ⟨fun pins s σ H Q I h => ?_⟩
  refine wpAny_FormattedValue_plain (thn (he.run pins s σ H _ I h) fun v s1 hv => ?_)
  obtain ⟨x, H1, I1, r1, a, dx, fs, e1, ha, hsp⟩ := hv
  cases e1
  cases r1
  obtain ⟨mA, J, _⟩ := ins_get I1.hok ha
  obtain ⟨od, J, _⟩ := J.look
  have hr2 : Room k X.A.in1 := Room.in1 hr
  refine PySem.W.kfo_fieldS hr2.units0 I1.kIn J hfm hm hs hf ?_
  refine wpAny_mono (run_fnA (s := { s1 with toks := s1.toks + 1 }) (vs := [V.ref a]) rfl F hr2 hb hx (I1.tok _) (.cons rfl .nil) hsp) (fun v s' hv => ?_) fun _ _ z => z
  obtain ⟨z, H', I', rz, ⟨y, rfl⟩, q⟩ := hv
  obtain ⟨t, rfl⟩ := rz
  exact ⟨.str y, H', I', ⟨t, rfl⟩, q⟩
/-- str(None) -/
theorem cr_strN : CallR X (.type "str") (fun xs H Q => xs = [.non] ∧ Q (.str "None") H) := by
  intro pins s σ H xs us Q I r h
  obtain ⟨rfl, q⟩ := h
  obtain ⟨u, rfl, ru⟩ := vals1 r
  cases ru
  exact PySem.P.str_of_none ⟨.str "None", H, I.tok _, ⟨_, rfl⟩, q⟩
/-- str of an end -/
def rStrE : List V → Hp → VK → Prop := fun xs H Q => (∃ i, xs = [.int i] ∧ i.natAbs.log2 < 1920 ∧ Q (.str (toString i)) H) ∨ (xs = [.non] ∧ Q (.str "None") H)
theorem cr_strE : CallR X (.type "str") rStrE := CallR.or call_str_int cr_strN
/-- {x}: a text, an int, None -/
def tFmtN (te : TE) : TE := fun σ H Q => te σ H fun x H1 => (∃ y : Str, x = .str y ∧ y.length ≤ sizeLine ∧ Q (.str y) H1) ∨ (∃ i : Int, x = .int i ∧ i.natAbs.log2 < 1920 ∧ Q (.str (toString i)) H1) ∨ (x = .non ∧ Q (.str "None") H1)
theorem pe_fmtN {e : Expr} {te : TE} {pos : Pos} (he : PE X e te) : PE X (.FormattedValue e (-1) none pos) (tFmtN te) := by
  refine ⟨fun pins s σ H Q I h => ?_⟩
  refine wpAny_FormattedValue_plain (thn (he.run pins s σ H _ I h) fun v s1 hv => ?_)
  obtain ⟨x, H1, I1, r1, q⟩ := hv
  rcases q with ⟨y, rfl, hz, q⟩ | ⟨i, rfl, hz, q⟩ | ⟨rfl, q⟩
  · obtain ⟨t, rfl⟩ := r1
    exact wpAny_formatField_str ⟨.str y, H1, I1, ⟨t, rfl⟩, q⟩ ⟨.str y, H1, I1.tok _, ⟨_, rfl⟩, q⟩ hz
  · obtain ⟨t, rfl⟩ := r1
    exact wpAny_formatField_int hz ⟨.str (toString i), H1, I1.tok _, ⟨_, rfl⟩, q⟩
  · cases r1
    exact wpAny_formatField_none ⟨.str "None", H1, I1.tok _, ⟨_, rfl⟩, q⟩
end

section
variable {P : Program} {w : World} {A : Around} {E : Value → Shared → Prop} {s : Shared} {K : PySem.W.Frag} {x C f : Addr} {ox : Obj} {od : Option Obj} {b tb : Value}
theorem ifBoundB {M : Model} {name : Str} {id : String} {args : List Value} {Q : Option Value → Shared → Prop} (XK : K.In s.heap) (I : PySem.W.InstAt s.heap x ox C od)
    (hs : PySem.W.findIn K (.ref C) name = some (some (.builtin id))) (hb : ∀ self, bindSpecial (.builtin id) self = pure (.builtin id, [self]))
    (h : wpAny M A (call (.builtin id) (.ref x :: args)) (fun v => Q (some v)) E s) : wpAny M A (callSpecialIfBound? (.ref x) name args) Q E s := by
  simp only [callSpecialIfBound?, bindSpecialIfBound?]
  refine wpAny_holding (wpAny_bind (wpAny_bind (wpAny_bind (I.type.here ((PySem.W.looks_findIn XK hs).here ?_)))))
  refine wpAny_bind (wpAny_askSetting (wpAny_ite ?_))
  have fin : wpAny M A (call (.builtin id) ([.ref x] ++ args) >>= fun v => pure (some v)) Q E s := wpAny_bind (wpAny_mono h (fun v s' h' => wpAny_pure h') fun _ _ h' => h')
  split
  · exact wpAny_bind ((PySem.W.Looks.of_pure (hb _)).here (wpAny_pure (by exact fin)))
  · exact wpAny_tryCatch (wpAny_bind ((PySem.W.Looks.of_pure (hb _)).here (wpAny_pure (by exact fin))))
theorem objNe_K {Q : PySem.Fin → Shared → Prop} (hu : A.units < cLine) (XK : K.In s.heap) (I : PySem.W.InstAt s.heap x ox C od) (hs : PySem.W.findIn K (.ref C) "__eq__" = some (some (.ref f))) (hf : PySem.W.isFn K (.ref f) = true)
    (hcall : wpAny (model P w) A (call (.ref f) [.ref x, b]) (fun v s' => ∃ c, v = .bool c ∧ Q (.done (.ret (.bool (!c)))) s') E s) :
    wpAny (model P w) A (Builtin.«object.__ne__» ⟨[.ref x, b], []⟩) Q E s := by
  unfold Builtin.«object.__ne__»
  repeat (first
    | with_reducible refine wpAny_cRoomFor hu ?_
    | (refine wpAny_bind (m := callSpecialIfBound? (.ref x) (Str.ofString "__eq__") [b])
        (PySem.W.ifBound_K XK I hs hf (wpAny_mono hcall (fun r s' hr => by
          obtain ⟨b, rfl, hq⟩ := hr
          repeat (first | exact hq | exact wpAny_pure hq | exact wpAny_truthy_bool hq | (refine wpAny_bind (m := truthy (.bool _)) (wpAny_truthy_bool ?_)) | wp_step)) fun _ _ e => e)))
    | wp_step)
theorem neOwn_K {h0 : Heap} {L : Addr} {m : Str → Option Value} {Q : Value → Shared → Prop} (hu : A.units + 1 < cLine) (Fh : Fr h0 L s.heap m) (X0 : K.In h0) (I : PySem.W.InstAt s.heap x ox C od)
    (hb : PySem.W.Looks (model P w) s.heap (typeOf b) tb) (hn : PySem.W.notFirst K C tb = true)
    (hne : PySem.W.findIn K (.ref C) "__ne__" = some (some (.builtin "object.__ne__"))) (hm : PySem.W.mroIn K C (.type "object") = some true)
    (hs : PySem.W.findIn K (.ref C) "__eq__" = some (some (.ref f))) (hf : PySem.W.isFn K (.ref f) = true)
    (h : wpAny (model P w) A.in1 (call (.ref f) [.ref x, b]) (fun v s' => ∃ c, v = .bool c ∧ Q (.bool (!c)) s') E s) : wpAny (model P w) A (richCompare .NotEq (.ref x) b) Q E s := by
  have XK := X0.keeps Fh.keep
  have one : wpAny (model P w) A (tryCompare (.ref x) "__ne__" b) (fun r s' => ∃ v, r = some v ∧ Q v s') E s := by
    unfold tryCompare
    refine wpAny_bind (ifBoundB XK I hne PySem.F.cmp_object.ne.bind (wpAny_call (codeAny_call_builtin PySem.F.cmp_object.ne.plain PySem.F.cmpEntry_ne
      (PySem.W.check_slot (i := "object.__ne__") (owner := "object") (n := "__ne__") (by decide +kernel) (by decide +kernel) (I.type.andThen (PySem.W.looks_mroIn XK hm)) (PySem.F.cmpArgs_ne _ _)
        (objNe_K (A := A.in1) hu XK I hs hf (wpAny_mono h (fun v s' hv => ?_) fun _ _ e => e))))))
    obtain ⟨c, rfl, hq⟩ := hv
    exact ⟨c, rfl, wpAny_pure ⟨_, rfl, hq⟩⟩
  unfold richCompare
  simp only [oneThing_ref]
  refine wpAny_holding (wpAny_bind (wpAny_cRoomFor (Nat.lt_of_succ_lt hu) ?_))
  rw [cmpInfo_NotEq]
  dsimp only
  refine wpAny_bind (I.type.here (wpAny_bind (hb.here ?_)))
  split
  · rename_i q
    have e : PySem.W.subIn K tb (.ref C) = some false := by
      rcases Bool.or_eq_true_iff.mp hn with e | e
      · rw [beq_iff_eq.mp e] at q; simp at q
      · exact beq_iff_eq.mp e
    refine wpAny_bind ((PySem.W.looks_subIn XK e).here ?_)
    simp only [Bool.false_eq_true, if_false]
    refine wpAny_bind (wpAny_mono one (fun r s' z => ?_) fun _ _ e => e)
    obtain ⟨v, rfl, hq⟩ := z
    exact wpAny_pure hq
  · refine wpAny_bind (wpAny_pure ?_)
    simp only [Bool.false_eq_true, if_false]
    refine wpAny_bind (wpAny_mono one (fun r s' z => ?_) fun _ _ e => e)
    obtain ⟨v, rfl, hq⟩ := z
    exact wpAny_pure hq
end
/-- x != y by the own __eq__ -/
def rNeO (K : PySem.W.Frag) (C : Addr) (sp : Sp) (E : XK) : R2 := fun x y H Q => ∃ a dx fs ty, x = .ref a ∧ H a = some (.ins C dx fs) ∧
  TyX K H y ty ∧ PySem.W.notFirst K C ty = true ∧ sp [x, y] H (fun v H' => ∃ b, v = .bl b ∧ Q (.bl (!b)) H') E
theorem op_neO {X : Cx} {CX : CXT} {k : Nat} {C f : Addr} {fd : FuncData} {ps : List Str} {sp : Sp} {E : XK}
    (F : FnOk X.prog X.w X.K X.mg X.base CX k f fd ps sp) (hne : PySem.W.findIn X.K (.ref C) "__ne__" = some (some (.builtin "object.__ne__"))) (hm : PySem.W.mroIn X.K C (.type "object") = some true)
    (hs : PySem.W.findIn X.K (.ref C) "__eq__" = some (some (.ref f))) (hf : PySem.W.isFn X.K (.ref f) = true) (hb : Binds X.K fd ps []) (hr : Room (k + 1) X.A)
    (hx : Passes CX X E) : OpR X (compareOp .NotEq) (rNeO X.K C sp E) := by
  intro pins s σ H x y v u Q I rx ry h
  obtain ⟨a, dx, fs, ty, rfl, ha, hty, hn, hsp⟩ := h
  cases rx
  obtain ⟨mA, J, _⟩ := ins_get I.hok ha
  obtain ⟨od, J, _⟩ := J.look
  obtain ⟨m, hF⟩ := I.fr
  obtain ⟨Pz, Z, pz, _⟩ := kit_of I ry hty
  show wpAny _ _ (richCompare .NotEq _ _) _ _ _
  have hr2 : Room k X.A.in1 := Room.in1 hr
  refine neOwn_K (tb := ty) (by have := hr.un; omega) hF I.ok.mod.kin J (Z.ty _ _ I.kIn pz) hn hne hm hs hf ?_
  have r2 : Vals [V.ref a, y] [Value.ref a, u] := .cons rfl (.cons ry .nil)
  refine wpAny_mono (run_fnA rfl F hr2 hb hx I r2 hsp) (fun w s' hw => ?_) fun _ _ z => z
  obtain ⟨z, H', I', rz, c, rfl, q⟩ := hw
  cases rz
  exact ⟨c, rfl, .bl (!c), H', I', rfl, q⟩
/-! readings -/
/-- f'..' of two parts or more -/
def tJoin (ts : List TE) : TE := fun σ H Q => tJs ts Str.empty σ H fun out H1 => Q (.str out) H1
theorem pe_join {X : Cx} {v1 v2 : Expr} {rest : List Expr} {ts : List TE} {pos : Pos} (h : PJ X (v1 :: v2 :: rest) ts) : PE X (.JoinedStr (v1 :: v2 :: rest) pos) (tJoin ts) := pe_joined h
section
variable {t : TE} {ts : List TE} {acc : Str} {σ : L2.St} {H : Hp} {Q : VK} {R : Str → Hp → Prop} {te : TE} {x : V}
theorem w_join (k : tJs ts Str.empty σ H fun out H1 => Q (.str out) H1) : tJoin ts σ H Q := k
/-- a text is put behind -/
def kPut (acc : Str) (x : V) (H : Hp) (R : Str → Hp → Prop) : Prop := ∃ y : Str, x = .str y ∧ (acc ++ y).length ≤ sizeLine ∧ R (acc ++ y) H
theorem w_js (k : t σ H fun x H1 => kPut acc x H1 fun z H2 => tJs ts z σ H2 R) : tJs (t :: ts) acc σ H R := by
  refine cast (congrArg (t σ H) ?_) k
  funext x H1
  refine propext ⟨?_, ?_⟩
  · rintro ⟨y, e, h, k⟩; exact ⟨y, e, h, k⟩
  · rintro ⟨y, e, h, k⟩; exact ⟨y, e, h, k⟩
theorem w_jsN (k : R acc H) : tJs [] acc σ H R := k
theorem w_put {y : Str} (h : (acc ++ y).length ≤ sizeLine) (k : R (acc ++ y) H) : kPut acc (.str y) H R := ⟨y, rfl, h, k⟩
/-- a field's text -/
def kFmt (x : V) (H1 : Hp) (Q : VK) : Prop := (∃ y : Str, x = .str y ∧ y.length ≤ sizeLine ∧ Q (.str y) H1) ∨ (∃ i : Int, x = .int i ∧ i.natAbs.log2 < 1920 ∧ Q (.str (toString i)) H1) ∨ (x = .non ∧ Q (.str "None") H1)
theorem w_fmtN (k : te σ H fun x H1 => kFmt x H1 Q) : tFmtN te σ H Q := k
theorem w_fmtS {y : Str} (h : y.length ≤ sizeLine) (k : Q (.str y) H) : kFmt (.str y) H Q := .inl ⟨y, rfl, h, k⟩
theorem w_fmtI {i : Int} (h : i.natAbs.log2 < 1920) (k : Q (.str (toString i)) H) : kFmt (.int i) H Q := .inr (.inl ⟨i, rfl, h, k⟩)
theorem w_fmt0 (k : Q (.str "None") H) : kFmt .non H Q := .inr (.inr ⟨rfl, k⟩)
theorem w_fmtO {r : List V → Hp → VK → Prop} (k : te σ H fun x H1 => r [x] H1 Q) : tFmtO r te σ H Q := k
end
theorem empty_app (x : Str) : Str.empty ++ x = x := by
  apply TL.ext_tl
  rw [TL.tl_append]
  rfl
theorem app_len (x y : Str) : (x ++ y).length = x.length + y.length := by
  rw [TL.len_tl, TL.len_tl x, TL.len_tl y, TL.tl_append, List.length_append]
theorem int_len {i : Int} (h : i.natAbs.log2 < 1920) : (Str.ofString (toString i)).length ≤ 1921 := by
  have q := int_text_length_le (a := i) (k := 1920) (by decide) h
  have e := PySem.ofString_length (toString i)
  omega
end Sil
set_option Elab.async false
set_option linter.all false
set_option maxRecDepth 100000
set_option maxHeartbeats 1000000
namespace Sil
open PySem L2
def top (i : Nat) : Stmt := PySem.Challenge.pw_silencetells_k03_bands_alike_and_written.main.body.getD i (.Pass ⟨0, 0, 0, 0⟩)
local macro_rules | `(tactic| walk_at "g1") => `(tactic| first
  | (with_reducible refine w_seq ?_)
  | ((with_reducible refine' w_var ?hv ?_); (case hv => rfl))
  | (with_reducible refine w_c ?_)
  | (with_reducible refine w_cons ?_)
  | (with_reducible refine w_nil ?_)
  | (with_reducible refine w_op ?_)
  | (with_reducible refine w_I0 ?_)
  | (with_reducible refine w_asg ?_)
  | (with_reducible refine w_name ?_)
  | (with_reducible refine w_ifS ?_)
  | (with_reducible refine w_test ?_)
  | (with_reducible refine w_B ?_)
  | (with_reducible refine w_cb ?_)
  | (with_reducible refine w_ret ?_)
  | (with_reducible refine w_un ?_)
  | (with_reducible refine w_U ?_)
  | (with_reducible refine w_call ?_)
  | (with_reducible refine w_make ?_)
  | (with_reducible refine w_tup ?_)
  | (with_reducible refine w_lst ?_)
  | (with_reducible refine w_if ?_)
  | (with_reducible refine w_and ?_)
  | (with_reducible refine w_or ?_)
  | (with_reducible refine w_not ?_)
  | (with_reducible refine w_andV ?_)
  | (with_reducible refine w_orV ?_)
  | (with_reducible refine w_notV ?_)
  | (with_reducible refine w_chain ?_)
  | (with_reducible refine w_par ?_)
  | (with_reducible refine w_drop ?_)
  | (with_reducible refine w_next ?_)
  | (with_reducible refine w_cont ?_)
  | (with_reducible refine w_fld ?_)
  | (with_reducible refine w_ckw ?_)
  | (with_reducible refine w_sub ?_)
  | (with_reducible refine w_meth ?_)
  | (with_reducible refine w_some ?_)
  | (with_reducible refine w_lcT ?_)
  | (with_reducible refine w_lcL ?_)
  | (with_reducible refine w_lcR ?_)
  | (with_reducible refine w_forT ?_)
  | (with_reducible refine w_forL ?_)
  | (with_reducible refine w_forR ?_)
  | (with_reducible refine w_gcons ?_)
  | (with_reducible refine w_gnil ?_)
  | (with_reducible refine w_isN ?_)
  | (with_reducible refine w_notN ?_)
  | (with_reducible refine w_abs ?_)
  | (with_reducible refine w_max2 ?_)
  | (with_reducible refine w_min2 ?_)
  | (with_reducible refine w_makeK0 ?_)
  | (with_reducible refine w_makeS ?_)
  | (with_reducible refine w_join ?_)
  | (with_reducible refine w_js ?_)
  | (with_reducible refine w_jsN ?_)
  | (with_reducible refine w_fmtN ?_)
  | (with_reducible refine w_fmtO ?_))
local macro_rules | `(tactic| walk_at "go") => `(tactic| repeat (walk_at "g1"))
abbrev s_is_whole : Stmt := top 4
theorem sc_is_whole : FnScope ["thing"] ["thing"] (defScope s_is_whole) :=
  ⟨rfl, rfl, rfl, by decide +kernel, rfl, by decide +kernel, by decide +kernel⟩
abbrev s_is_end : Stmt := top 6
theorem sc_is_end : FnScope ["thing"] ["thing"] (defScope s_is_end) :=
  ⟨rfl, rfl, rfl, by decide +kernel, rfl, by decide +kernel, by decide +kernel⟩
abbrev s_is_at_most : Stmt := top 7
theorem sc_is_at_most : FnScope ["low", "high"] ["low", "high"] (defScope s_is_at_most) :=
  ⟨rfl, rfl, rfl, by decide +kernel, rfl, by decide +kernel, by decide +kernel⟩
abbrev s_end_text : Stmt := top 8
theorem sc_end_text : FnScope ["end"] ["end"] (defScope s_end_text) :=
  ⟨rfl, rfl, rfl, by decide +kernel, rfl, by decide +kernel, by decide +kernel⟩
abbrev s_Band_init : Stmt := inClass (top 9) 0
theorem sc_Band_init : FnScope ["self", "low", "high"] ["self", "low", "high"] (defScope s_Band_init) :=
  ⟨rfl, rfl, rfl, by decide +kernel, rfl, by decide +kernel, by decide +kernel⟩
abbrev s_Band_eq : Stmt := inClass (top 9) 5
theorem sc_Band_eq : FnScope ["self", "other"] ["self", "other"] (defScope s_Band_eq) :=
  ⟨rfl, rfl, rfl, by decide +kernel, rfl, by decide +kernel, by decide +kernel⟩
abbrev s_Band_str : Stmt := inClass (top 9) 6
theorem sc_Band_str : FnScope ["self", "low", "high"] ["self"] (defScope s_Band_str) :=
  ⟨rfl, rfl, rfl, by decide +kernel, rfl, by decide +kernel, by decide +kernel⟩
abbrev s_Band_repr : Stmt := inClass (top 9) 7
theorem sc_Band_repr : FnScope ["self"] ["self"] (defScope s_Band_repr) :=
  ⟨rfl, rfl, rfl, by decide +kernel, rfl, by decide +kernel, by decide +kernel⟩
abbrev s_l_bag : Stmt := top 11
theorem sc_l_bag : FnScope ["_law_script", "_law_at", "_law_primes", "_law_cell", "_law_great", "_law_mixed"] ["_law_script", "_law_at"] (defScope s_l_bag) :=
  ⟨rfl, rfl, rfl, by decide +kernel, rfl, by decide +kernel, by decide +kernel⟩
abbrev s_l_take : Stmt := top 12
theorem sc_l_take : FnScope ["_law_bag_here", "_law_many", "_law_digit"] ["_law_bag_here", "_law_many"] (defScope s_l_take) :=
  ⟨rfl, rfl, rfl, by decide +kernel, rfl, by decide +kernel, by decide +kernel⟩
abbrev s_l_end_of : Stmt := top 13
theorem sc_l_end_of : FnScope ["_law_bag_here", "_law_road"] ["_law_bag_here"] (defScope s_l_end_of) :=
  ⟨rfl, rfl, rfl, by decide +kernel, rfl, by decide +kernel, by decide +kernel⟩
abbrev s_l_drawn : Stmt := top 14
theorem sc_l_drawn : FnScope ["_law_bag_here", "_law_one", "_law_other"] ["_law_bag_here"] (defScope s_l_drawn) :=
  ⟨rfl, rfl, rfl, by decide +kernel, rfl, by decide +kernel, by decide +kernel⟩
abbrev s_l_text : Stmt := top 15
theorem sc_l_text : FnScope ["_law_end"] ["_law_end"] (defScope s_l_text) :=
  ⟨rfl, rfl, rfl, by decide +kernel, rfl, by decide +kernel, by decide +kernel⟩
abbrev s_law : Stmt := top 16
theorem sc_law : FnScope ["_law_script", "_law_at", "_law_bag_here", "_law_one", "_law_other", "_law_first", "_law_last", "_law_due", "_law_thing", "_law_some", "_law_ends"] ["_law_script"] (defScope s_law) :=
  ⟨rfl, rfl, rfl, by decide +kernel, rfl, by decide +kernel, by decide +kernel⟩
structure Gs where
  c_Band : Addr
  f_is_whole : Addr
  d_is_whole : FuncData
  f_is_end : Addr
  d_is_end : FuncData
  f_is_at_most : Addr
  d_is_at_most : FuncData
  f_end_text : Addr
  d_end_text : FuncData
  f_Band_init : Addr
  d_Band_init : FuncData
  f_Band_eq : Addr
  d_Band_eq : FuncData
  f_Band_str : Addr
  d_Band_str : FuncData
  f_Band_repr : Addr
  d_Band_repr : FuncData
  f_l_bag : Addr
  d_l_bag : FuncData
  f_l_take : Addr
  d_l_take : FuncData
  f_l_end_of : Addr
  d_l_end_of : FuncData
  f_l_drawn : Addr
  d_l_drawn : FuncData
  f_l_text : Addr
  d_l_text : FuncData
  f_law : Addr
  d_law : FuncData
structure Gk (K : PySem.W.Frag) (mg : Str → Option Value) (g : Gs) : Prop where
  m_Band : mg "Band" = some (.ref g.c_Band)
  cl_Band : Cls K g.c_Band
  k_Band : Mk K g.c_Band g.f_Band_init
  i_Band : InstC K g.c_Band
  fm_Band : PySem.W.findIn K (.ref g.c_Band) "__format__" = some (some (.builtin "object.__format__"))
  ne_Band : PySem.W.findIn K (.ref g.c_Band) "__ne__" = some (some (.builtin "object.__ne__"))
  na_Band_low : NoAttr K g.c_Band "low"
  na_Band_high : NoAttr K g.c_Band "high"
  F_is_whole : Fun K "is_whole" "is_whole" s_is_whole g.f_is_whole g.d_is_whole
  b_is_whole : Binds K g.d_is_whole ["thing"] []
  m_is_whole : mg "is_whole" = some (.ref g.f_is_whole)
  F_is_end : Fun K "is_end" "is_end" s_is_end g.f_is_end g.d_is_end
  b_is_end : Binds K g.d_is_end ["thing"] []
  m_is_end : mg "is_end" = some (.ref g.f_is_end)
  F_is_at_most : Fun K "is_at_most" "is_at_most" s_is_at_most g.f_is_at_most g.d_is_at_most
  b_is_at_most : Binds K g.d_is_at_most ["low", "high"] []
  m_is_at_most : mg "is_at_most" = some (.ref g.f_is_at_most)
  F_end_text : Fun K "end_text" "end_text" s_end_text g.f_end_text g.d_end_text
  b_end_text : Binds K g.d_end_text ["end"] []
  m_end_text : mg "end_text" = some (.ref g.f_end_text)
  kb_Band_init_high : ∃ g0, KBn K g.d_Band_init ["self", "low", "high"] 1 ["high"] g0 (fun vs zs => vs ++ [.non, zs.getD 0 .non])
  b_Band_init : Binds K g.d_Band_init ["self", "low", "high"] []
  b0_Band_init : ∃ ds, Vals [.non, .non] ds ∧ Binds K g.d_Band_init ["self", "low", "high"] ds
  b1_Band_init : ∃ ds, Vals [.non] ds ∧ Binds K g.d_Band_init ["self", "low", "high"] ds
  D_Band_init : FunD K "__init__" "Band.__init__" (defArgs s_Band_init) (defBody s_Band_init) (defScope s_Band_init) [.non, .non] [] g.f_Band_init g.d_Band_init
  F_Band_eq : Fun K "__eq__" "Band.__eq__" s_Band_eq g.f_Band_eq g.d_Band_eq
  b_Band_eq : Binds K g.d_Band_eq ["self", "other"] []
  t_Band_eq : Meth K g.c_Band "__eq__" g.f_Band_eq
  F_Band_str : Fun K "__str__" "Band.__str__" s_Band_str g.f_Band_str g.d_Band_str
  b_Band_str : Binds K g.d_Band_str ["self"] []
  t_Band_str : Meth K g.c_Band "__str__" g.f_Band_str
  F_Band_repr : Fun K "__repr__" "Band.__repr__" s_Band_repr g.f_Band_repr g.d_Band_repr
  b_Band_repr : Binds K g.d_Band_repr ["self"] []
  t_Band_repr : Meth K g.c_Band "__repr__" g.f_Band_repr
  F_l_bag : Fun K "_law_bag" "_law_bag" s_l_bag g.f_l_bag g.d_l_bag
  b_l_bag : Binds K g.d_l_bag ["_law_script", "_law_at"] []
  m_l_bag : mg "_law_bag" = some (.ref g.f_l_bag)
  F_l_take : Fun K "_law_take" "_law_take" s_l_take g.f_l_take g.d_l_take
  b_l_take : Binds K g.d_l_take ["_law_bag_here", "_law_many"] []
  m_l_take : mg "_law_take" = some (.ref g.f_l_take)
  F_l_end_of : Fun K "_law_end_of" "_law_end_of" s_l_end_of g.f_l_end_of g.d_l_end_of
  b_l_end_of : Binds K g.d_l_end_of ["_law_bag_here"] []
  m_l_end_of : mg "_law_end_of" = some (.ref g.f_l_end_of)
  F_l_drawn : Fun K "_law_drawn" "_law_drawn" s_l_drawn g.f_l_drawn g.d_l_drawn
  b_l_drawn : Binds K g.d_l_drawn ["_law_bag_here"] []
  m_l_drawn : mg "_law_drawn" = some (.ref g.f_l_drawn)
  F_l_text : Fun K "_law_text" "_law_text" s_l_text g.f_l_text g.d_l_text
  b_l_text : Binds K g.d_l_text ["_law_end"] []
  m_l_text : mg "_law_text" = some (.ref g.f_l_text)
  F_law : Fun K "law" "law" s_law g.f_law g.d_law
  b_law : Binds K g.d_law ["_law_script"] []
  m_law : mg "law" = some (.ref g.f_law)
  z_len : mg "len" = none
  z_abs : mg "abs" = none
  z_max : mg "max" = none
  z_min : mg "min" = none
  z_isinstance : mg "isinstance" = none
  z_repr : mg "repr" = none
  z_range : mg "range" = none
  z_int : mg "int" = none
  z_bool : mg "bool" = none
  z_str : mg "str" = none
  z_list : mg "list" = none
section
variable {P : Program} {w : World} {K : PySem.W.Frag} {mg : Str → Option Value} {base : Heap} {g : Gs}
/-! ### the bag -/
/-- a bag: a list of two numbers from 0 on -/
def Bag (H : Hp) (b : Addr) : Prop := ∃ n m : Int, 0 ≤ n ∧ 0 ≤ m ∧ H b = some (.lst [.int n, .int m])
theorem Bag.mono {H H' : Hp} {b : Addr} (s : Same H H') : Bag H b → Bag H' b := fun ⟨n, m, h1, h2, h⟩ => ⟨n, m, h1, h2, s _ _ h⟩
/-- the bag at b may have changed, nothing else -/
def Step (b : Addr) (H H' : Hp) : Prop := Bag H' b ∧ Same (off [b] H) (off [b] H')
theorem Step.trans {b : Addr} {H H1 H2 : Hp} (a : Step b H H1) (c : Step b H1 H2) : Step b H H2 := ⟨c.1, a.2.trans c.2⟩
theorem Step.same {b : Addr} {H H' : Hp} (h : Bag H b) (s : Same H H') : Step b H H' := ⟨h.mono s, same_off s⟩
theorem Step.more {b : Addr} {H H1 H2 : Hp} (a : Step b H H1) (s : Same H1 H2) : Step b H H2 := a.trans (.same a.1 s)
theorem Step.at {b p : Addr} {H H' : Hp} {o : HO} (s : Step b H H') (h : H p = some o) (n : p ≠ b) : H' p = some o :=
  (off_get (s.2 p o (off_mk h (by simpa using n)))).1
/-- outside of M, where b is in M -/
theorem Step.off {b : Addr} {H H' : Hp} {M : List Addr} (s : Step b H H') (hb : b ∈ M) : Same (Sil.off M H) (Sil.off M H') :=
  off_more s.2 fun a h => by rw [List.mem_singleton] at h; exact h ▸ hb
theorem bag_ne {H : Hp} {b p : Addr} {o : HO} (hb : Bag H b) (h : H p = some o) (n : ∀ xs, o ≠ .lst xs) : p ≠ b := by
  obtain ⟨_, _, _, _, e⟩ := hb
  exact ne_of h e (n _)
def spTake : Sp := fun vs H Q _ => ∃ (b : Addr) (many : Int), vs = [.ref b, .int many] ∧ Bag H b ∧ 0 < many ∧ many < 2 ^ 200 ∧
  ∀ (d : Int) (H' : Hp), 0 ≤ d → d < many → Step b H H' → Q (.int d) H'
theorem use_take {b : Addr} {many : Int} {H : Hp} {Q : VK} {E : XK} (hb : Bag H b) (h0 : 0 < many) (h1 : many < 2 ^ 200)
    (k : ∀ (d : Int) (H' : Hp), 0 ≤ d → d < many → Step b H H' → Q (.int d) H') : spTake ([.ref b, .int many] ++ []) H Q E := ⟨b, many, rfl, hb, h0, h1, k⟩
theorem ok_l_take (T : Gk K mg g) : FnOk P w K mg base CX0 1 g.f_l_take g.d_l_take ["_law_bag_here", "_law_many"] spTake := by
  refine T.F_l_take.ok sc_l_take (fun vs H Q E h => ?_) (fun cdv A outer s H vs Q E hr h => ?_)
  · obtain ⟨b, many, rfl, _⟩ := h; rfl
  · obtain ⟨b, many, rfl, ⟨n, m, hn, hm, hb⟩, h0, h1, k⟩ := h
    refine ⟨_, (pss_cons (ps_if (pt_cmpR op_gt (pe_ix (k_ixL K) (pv 0) pe_int (fun _ _ => rfl)) pe_int (nomark _)) (pss_cons (ps_set (i := 2) sc_l_take.nd rfl (Or.inl rfl) (pe_op op_mod (pe_ix (k_ixL K) (pv 0) pe_int (fun _ _ => rfl)) (pv 1)))
      (pss_cons (ps_asg (pe_op op_fdivW (pe_ix (k_ixL K) (pv 0) pe_int (fun _ _ => rfl)) (pv 1)) (pg_sub (pv 0) pe_int set_list))
      (pss_one (ps_ret (pv 2))))) pss_nil)
      (pss_cons (ps_asg (pe_op op_mod (pe_op op_add (pe_op op_mul (pe_ix (k_ixL K) (pv 0) pe_int (fun _ _ => rfl)) pe_int) pe_int) pe_int) (pg_sub (pv 0) pe_int set_list))
      (pss_one (ps_ret (pe_op op_mod (pe_op op_mod (pe_op op_pow (pe_op op_fdiv (pe_ix (k_ixL K) (pv 0) pe_int (fun _ _ => rfl)) pe_int) pe_int) pe_int) (pv 1)))))), ?_⟩
    have sq : SqL K H b [.int n, .int m] := SqL.of hb
    have step : ∀ (n' m' : Int), 0 ≤ n' → 0 ≤ m' → Step b H (upd H b (.lst [.int n', .int m'])) := fun n' m' a c =>
      ⟨⟨n', m', a, c, upd_same⟩, fun x o hx => by
        obtain ⟨e1, e2⟩ := off_get hx
        refine off_mk ?_ e2
        rw [upd_ne (by simpa using e2)]; exact e1⟩
    walk_at "go"
    refine w_ixL sq rfl ?_
    walk_at "go"
    refine ite_b (fun hc => ?_) (fun hc => ?_)
    · have hc := of_decide_eq_true hc
      walk_at "go"
      refine w_ixL sq rfl ?_
      walk_at "go"
      refine w_I h0 ?_
      walk_at "go"
      refine w_ixL sq rfl ?_
      walk_at "go"
      refine w_I (wide_div (b := 200) h0 (by omega) (by decide) (by decide)) ?_
      walk_at "go"
      refine w_setL hb rfl ?_
      walk_at "go"
      exact k _ _ (Int.emod_nonneg _ (by omega)) (Int.emod_lt_of_pos _ h0) (step _ _ (Int.ediv_nonneg hn (by omega)) hm)
    · walk_at "go"
      refine w_ixL sq rfl ?_
      walk_at "go"
      refine w_I (Or.inr ⟨by decide, by decide⟩) ?_
      walk_at "go"
      refine w_I (by decide) ?_
      walk_at "go"
      refine w_setL hb rfl ?_
      walk_at "go"
      refine w_ixL (SqL.at upd_same) rfl ?_
      walk_at "go"
      refine w_I ⟨by decide, by decide⟩ ?_
      walk_at "go"
      have m0 : 0 ≤ (m * 48271 + 11) % 2147483647 := Int.emod_nonneg _ (by decide)
      have m1 : (m * 48271 + 11) % 2147483647 < 2147483647 := Int.emod_lt_of_pos _ (by decide)
      refine w_I ⟨by decide, by decide, by omega⟩ ?_
      walk_at "go"
      refine w_I (by decide) ?_
      walk_at "go"
      refine w_I h0 ?_
      exact k _ _ (Int.emod_nonneg _ (by omega)) (Int.emod_lt_of_pos _ h0) (step _ _ hn m0)
/-- _law_bag: a bag, new -/
def spBag (K : PySem.W.Frag) : Sp := fun vs H Q _ => ∃ (a : Addr) (ns : List Int) (j : Nat), vs = [.ref a, .int j] ∧ SqL K H a (ns.map V.int) ∧ ns.length ≤ 63 ∧ j < 8 ∧
  ∀ (b : Addr) (H' : Hp), H b = none → Same H H' → Bag H' b → Q (.ref b) H'
theorem prime_at : ∀ j : Nat, j < 8 → ∃ p : Int, 0 < p ∧ atI [V.int 2147483629, .int 2147483587, .int 2147483579, .int 2147483563, .int 2147483549, .int 2147483543, .int 2147483497, .int 2147483489] ((j : Int) % 8) = some (.int p) ∧ p < 2147483648
  | 0, _ => ⟨_, by decide, rfl, by decide⟩
  | 1, _ => ⟨_, by decide, rfl, by decide⟩
  | 2, _ => ⟨_, by decide, rfl, by decide⟩
  | 3, _ => ⟨_, by decide, rfl, by decide⟩
  | 4, _ => ⟨_, by decide, rfl, by decide⟩
  | 5, _ => ⟨_, by decide, rfl, by decide⟩
  | 6, _ => ⟨_, by decide, rfl, by decide⟩
  | 7, _ => ⟨_, by decide, rfl, by decide⟩
  | n + 8, h => absurd h (by omega)
theorem ok_l_bag (T : Gk K mg g) : FnOk P w K mg base CX0 1 g.f_l_bag g.d_l_bag ["_law_script", "_law_at"] (spBag K) := by
  refine T.F_l_bag.ok sc_l_bag (fun vs H Q E h => ?_) (fun cdv A outer s H vs Q E hr h => ?_)
  · obtain ⟨a, ns, j, rfl, _⟩ := h; rfl
  · obtain ⟨a, ns, j, rfl, hS, hlen, hj, k⟩ := h
    refine ⟨_, (pss_cons (ps_set (i := 2) sc_l_bag.nd rfl (Or.inl rfl) (pe_lst (pa_cons pe_int (pa_cons pe_int (pa_cons pe_int (pa_cons pe_int (pa_cons pe_int (pa_cons pe_int (pa_cons pe_int (pa_cons pe_int pa_nil))))))))))
      (pss_cons (ps_set (i := 3) sc_l_bag.nd rfl (Or.inl rfl) (pe_ifExp (pt_cmpR op_lt (pv 1) (pe_callB (k_len K) (by rfl) T.z_len (by decide +kernel) (pa_cons (pv 0) pa_nil)) (nomark _)) (pe_ix (k_ixL K) (pv 0) (pv 1) (fun _ _ => rfl)) pe_int))
      (pss_cons (ps_set (i := 4) sc_l_bag.nd rfl (Or.inl rfl) (pe_ifExp (pt_cmpR op_ge (pe_callB k_abs (by rfl) T.z_abs (by decide +kernel) (pa_cons (pv 3) pa_nil)) (pe_op op_pow pe_int pe_int) (nomark _)) (pe_callB k_abs (by rfl) T.z_abs (by decide +kernel) (pa_cons (pv 3) pa_nil)) pe_int))
      (pss_cons (ps_set (i := 5) sc_l_bag.nd rfl (Or.inl rfl) (pe_op op_mod (pe_op op_pow (pe_op op_add (pe_op op_add (pe_op op_mod (pv 3) pe_int) (pe_op op_mul pe_int (pv 1))) pe_int) pe_int) (pe_ix (k_ixL K) (pv 2) (pe_op op_mod (pv 1) pe_int) (fun _ _ => rfl))))
      (pss_one (ps_ret (pe_lst (pa_cons (pv 4) (pa_cons (pe_op op_mod (pe_op op_pow (pe_op op_add (pe_op op_add (pe_op op_mul (pv 5) pe_int) (pe_op op_mul pe_int (pv 1))) pe_int) pe_int) pe_int) pa_nil))))))))), ?_⟩
    walk_at "go"
    refine k_lst (by show 8 ≤ sizeLine; decide) fun pr H1 np s1 hp => ?_
    have hS1 := s1.seq hS
    walk_at "go"
    refine ⟨a, _, rfl, .inl hS1, ?_⟩
    walk_at "go"
    refine if_join (fun v H' => H1 = H' ∧ ∃ c : Int, v = .int c) (fun hc Q' kQ => ?_) (fun _ Q' kQ => ?_) ?_
    · have hc := of_decide_eq_true hc
      rw [List.length_map] at hc
      walk_at "go"
      have hl : j < ns.length := by omega
      refine w_ixL hS1 (atI_nat (by rw [List.getElem?_map, List.getElem?_eq_getElem hl]; rfl)) ?_
      exact kQ _ _ ⟨rfl, _, rfl⟩
    · walk_at "go"
      exact kQ _ _ ⟨rfl, _, rfl⟩
    · rintro v H' ⟨rfl, cell, rfl⟩
      walk_at "go"
      refine w_I ⟨by decide, by decide, by decide⟩ ?_
      walk_at "go"
      refine if_join (fun v H' => H1 = H' ∧ ∃ c : Int, v = .int c ∧ 0 ≤ c) (fun hc Q' kQ => ?_) (fun _ Q' kQ => ?_) ?_
      · walk_at "go"
        refine kQ _ _ ⟨rfl, _, rfl, ?_⟩
        split <;> omega
      · walk_at "go"
        exact kQ _ _ ⟨rfl, _, rfl, Int.le_refl 0⟩
      · rintro v H' ⟨rfl, great, rfl, g0⟩
        walk_at "go"
        refine w_I (by decide) ?_
        walk_at "go"
        refine w_I (Or.inl ⟨by decide, by decide⟩) ?_
        walk_at "go"
        have c0 : 0 ≤ cell % 2147483647 := Int.emod_nonneg _ (by decide)
        have c1 : cell % 2147483647 < 2147483647 := Int.emod_lt_of_pos _ (by decide)
        have e64 : (2 : Nat) ^ 64 = 18446744073709551616 := by decide
        refine w_I ⟨by decide, by decide, by rw [e64]; omega⟩ ?_
        walk_at "go"
        refine w_I (by decide) ?_
        obtain ⟨p, p0, pe, p1⟩ := prime_at j hj
        refine w_ixL (SqL.at hp) pe ?_
        refine w_I p0 ?_
        walk_at "go"
        generalize hm : (cell % 2147483647 + 104729 * (j : Int) + 7) ^ (5 : Int).toNat % p = mixed
        have m0 : 0 ≤ mixed := hm ▸ Int.emod_nonneg _ (by omega)
        have m1 : mixed < p := hm ▸ Int.emod_lt_of_pos _ p0
        refine w_I (Or.inr ⟨by decide, by decide⟩) ?_
        walk_at "go"
        refine w_I (Or.inl ⟨by decide, by decide⟩) ?_
        walk_at "go"
        refine w_I ⟨by decide, by decide, by rw [e64]; omega⟩ ?_
        walk_at "go"
        refine w_I (by decide) ?_
        walk_at "go"
        refine k_lst (by show 2 ≤ sizeLine; decide) fun b H2 nb s2 hb => ?_
        exact k b H2 (s1.free nb) (s1.trans s2) ⟨_, _, g0, Int.emod_nonneg _ (by decide), hb⟩
theorem use_bag {a : Addr} {ns : List Int} {j : Nat} {H : Hp} {Q : VK} {E : XK} (hS : SqL K H a (ns.map V.int)) (hl : ns.length ≤ 63) (hj : j < 8)
    (k : ∀ (b : Addr) (H' : Hp), H b = none → Same H H' → Bag H' b → Q (.ref b) H') : spBag K ([.ref a, .int j] ++ []) H Q E := ⟨a, ns, j, rfl, hS, hl, hj, k⟩
/-! ### bands -/
def spWhole (K : PySem.W.Frag) : Sp := fun vs H Q _ => ∃ v d, vs = [v] ∧ Dp K H v d ∧ Q (.bl (wholeD d)) H
theorem ok_is_whole (T : Gk K mg g) : FnOk P w K mg base CX0 1 g.f_is_whole g.d_is_whole ["thing"] (spWhole K) := by
  refine T.F_is_whole.ok sc_is_whole (fun vs H Q E h => ?_) (fun cdv A outer s H vs Q E hr h => ?_)
  · obtain ⟨v, d, rfl, _⟩ := h; rfl
  · obtain ⟨v, d, rfl, hd, k⟩ := h
    refine ⟨_, (pss_one (ps_ret (pe_and (pe_callB (k_isi K) (by rfl) T.z_isinstance (by decide +kernel) (pa_cons (pv 0) (pa_cons (pe_bltn (v := .ty "int") (by rfl) T.z_int (by decide +kernel) rfl) pa_nil))) (pe_one (pe_not (pe_callB (k_isi K) (by rfl) T.z_isinstance (by decide +kernel) (pa_cons (pv 0) (pa_cons (pe_bltn (v := .ty "bool") (by rfl) T.z_bool (by decide +kernel) rfl) pa_nil)))))))), ?_⟩
    walk_at "go"
    refine w_isi hd (kit_int d) ?_
    walk_at "go"
    have both : (isIntD d && !isBoolD d) = wholeD d := by cases d <;> rfl
    refine ite_b (fun hc => ?_) (fun hc => ?_)
    · walk_at "go"
      refine w_isi hd (kit_bool d) ?_
      walk_at "go"
      rw [← both, hc] at k
      exact k
    · rw [← both, hc] at k
      exact k
def endD : PyData → Bool
  | .none => true
  | .int _ => true
  | _ => false
def spIsEnd (K : PySem.W.Frag) : Sp := fun vs H Q _ => ∃ v d, vs = [v] ∧ Dp K H v d ∧ Q (.bl (endD d)) H
theorem ok_is_end (T : Gk K mg g) : FnOk P w K mg base CX0 2 g.f_is_end g.d_is_end ["thing"] (spIsEnd K) := by
  refine T.F_is_end.ok sc_is_end (fun vs H Q E h => ?_) (fun cdv A outer s H vs Q E hr h => ?_)
  · obtain ⟨v, d, rfl, _⟩ := h; rfl
  · obtain ⟨v, d, rfl, hd, k⟩ := h
    have O_is_whole := ok_is_whole (P := P) (w := w) (base := base) T
    have hr_1 : Room 1 _ := hr.mono (by decide)
    refine ⟨_, (pss_one (ps_ret (pe_or (pe_cmpR k_isN (pv 0) pe_non (nomark _)) (pe_one (pe_call O_is_whole hr_1 rfl T.m_is_whole T.F_is_whole.kp T.b_is_whole .nil pass0 (pa_cons (pv 0) pa_nil)))))), ?_⟩
    walk_at "go"
    refine ite_b (fun hc => ?_) (fun hc => ?_)
    · have e := of_decide_eq_true hc
      subst e
      cases hd
      exact k
    · have e := of_decide_eq_false hc
      walk_at "go"
      refine ⟨v, d, rfl, hd, ?_⟩
      cases hd <;> first | exact k | exact absurd rfl e
theorem endD_e (e : Option Int) : endD (eD e) = true := by cases e <;> rfl
def spAtMost : Sp := fun vs H Q _ => ∃ lo hi, vs = [eV lo, eV hi] ∧ Q (.bl (atMost lo hi)) H
theorem ok_is_at_most (T : Gk K mg g) : FnOk P w K mg base CX0 1 g.f_is_at_most g.d_is_at_most ["low", "high"] spAtMost := by
  refine T.F_is_at_most.ok sc_is_at_most (fun vs H Q E h => ?_) (fun cdv A outer s H vs Q E hr h => ?_)
  · obtain ⟨lo, hi, rfl, _⟩ := h; rfl
  · obtain ⟨lo, hi, rfl, k⟩ := h
    refine ⟨_, (pss_one (ps_ret (pe_or (pe_cmpR k_isN (pv 0) pe_non (nomark _)) (pe_or (pe_cmpR k_isN (pv 1) pe_non (nomark _)) (pe_one (pe_cmpR op_le (pv 0) (pv 1) (nomark _))))))), ?_⟩
    walk_at "go"
    cases lo with
    | none => exact iteT k
    | some i =>
      refine iteF ?_
      walk_at "go"
      cases hi with
      | none => exact iteT k
      | some j =>
        refine iteF ?_
        walk_at "go"
        exact w_I0 (a := i) (b := j) k
/-- Band.__init__ with ends in order -/
def spInit (C : Addr) : Sp := fun vs H Q _ => ∃ (x dx : Addr) (lo hi : Option Int), vs = [.ref x, eV lo, eV hi] ∧ H x = some (.ins C dx []) ∧ atMost lo hi = true ∧
  ∀ H', H' x = some (.ins C dx (bandF lo hi)) → (∀ b o, H b = some o → b ≠ x → H' b = some o) → Q .non H'
theorem ok_Band_init (T : Gk K mg g) : FnOk P w K mg base CX0 3 g.f_Band_init g.d_Band_init ["self", "low", "high"] (spInit g.c_Band) := by
  refine funD_ok T.D_Band_init sc_Band_init (fun vs H Q E h => ?_) (fun cdv A outer s H vs Q E hr h => ?_)
  · obtain ⟨x, dx, lo, hi, rfl, _⟩ := h; rfl
  · obtain ⟨x, dx, lo, hi, rfl, hx, hm, k⟩ := h
    have O_is_at_most := ok_is_at_most (P := P) (w := w) (base := base) T
    have O_is_end := ok_is_end (P := P) (w := w) (base := base) T
    have hr_1 : Room 1 _ := hr.mono (by decide)
    have hr_2 : Room 2 _ := hr.mono (by decide)
    refine ⟨_, (pss_cons (ps_if (PW.pt (pw_or (pt_not (pt_val (pe_call O_is_end hr_2 rfl T.m_is_end T.F_is_end.kp T.b_is_end .nil pass0 (pa_cons (pv 1) pa_nil)))) (pw_or (pt_not (pt_val (pe_call O_is_end hr_2 rfl T.m_is_end T.F_is_end.kp T.b_is_end .nil pass0 (pa_cons (pv 2) pa_nil)))) (pw_or1 (pt_not (pt_val (pe_call O_is_at_most hr_1 rfl T.m_is_at_most T.F_is_at_most.kp T.b_is_at_most .nil pass0 (pa_cons (pv 1) (pa_cons (pv 2) pa_nil))))))))) (pss_one ps_never) pss_nil)
      (pss_cons (ps_fld (pv 0) (pv 1) rfl)
      (pss_one (ps_fld (pv 0) (pv 2) rfl)))), ?_⟩
    walk_at "go"
    refine ⟨_, _, rfl, dp_e lo, ?_⟩
    walk_at "go"
    rw [endD_e]
    refine iteF ?_
    walk_at "go"
    refine ⟨_, _, rfl, dp_e hi, ?_⟩
    walk_at "go"
    rw [endD_e]
    refine iteF ?_
    walk_at "go"
    refine ⟨lo, hi, rfl, ?_⟩
    walk_at "go"
    rw [hm]
    refine iteF ?_
    walk_at "go"
    refine ⟨_, rfl, _, rfl, x, _, dx, [], rfl, hx, T.cl_Band, T.na_Band_low, (by show 0 < 1000; decide), ?_⟩
    refine ⟨_, rfl, _, rfl, x, _, dx, _, rfl, upd_same, T.cl_Band, T.na_Band_high, (by show 1 < 1000; decide), ?_⟩
    refine k _ ?_ fun b o e hb => ?_
    · rw [upd_same, bandF_put]
    · rw [upd_ne hb, upd_ne hb]; exact e
/-- a band is made -/
theorem use_band {C : Addr} {lo hi : Option Int} {H : Hp} {Q : VK} {E : XK} (hm : atMost lo hi = true)
    (k : ∀ x H', H x = none → Same H H' → BandAt C H' x lo hi → Q (.ref x) H') : kMake C (spInit C) [eV lo, eV hi] H Q E := by
  intro x dx nx nd ne
  refine ⟨x, dx, lo, hi, rfl, upd_same, hm, fun H' h1 h2 => ⟨rfl, k x H' nx (fun b o e => ?_) ⟨dx, h1⟩⟩⟩
  refine h2 b o ?_ (ne_of_none e nx)
  rw [upd_ne (ne_of_none e nx), upd_ne (ne_of_none e nd)]
  exact e
theorem f_low (T : Gk K mg g) {H : Hp} {p : Addr} {lo hi : Option Int} {Q : VK} (h : BandAt g.c_Band H p lo hi) (k : Q (eV lo) H) : kFld K "low" (.ref p) H Q :=
  let ⟨dx, h⟩ := h; ⟨p, _, dx, _, _, rfl, h, T.cl_Band, T.na_Band_low, bandF_low lo hi, k⟩
theorem f_high (T : Gk K mg g) {H : Hp} {p : Addr} {lo hi : Option Int} {Q : VK} (h : BandAt g.c_Band H p lo hi) (k : Q (eV hi) H) : kFld K "high" (.ref p) H Q :=
  let ⟨dx, h⟩ := h; ⟨p, _, dx, _, _, rfl, h, T.cl_Band, T.na_Band_high, bandF_high lo hi, k⟩
/-- o.m(..) of a band -/
theorem m_band {C p : Addr} {lo hi : Option Int} {H : Hp} {m : Str} {R : Prop} (h : BandAt C H p lo hi) (h1 : ¬ m = "low") (h2 : ¬ m = "high") (k : R) : kMeth C m (.ref p) H R :=
  let ⟨dx, h⟩ := h; ⟨p, dx, _, rfl, h, bandF_no lo hi h1 h2, k⟩
/-- a thing that is no band -/
def NotB (K : PySem.W.Frag) (C : Addr) (H : Hp) (y : V) : Prop := ∃ ty, TyX K H y ty ∧ PySem.W.kitOne K ty (.ref C) = some false ∧ PySem.W.notFirst K C ty = true
theorem NotB.dat {C : Addr} (I : InstC K C) {H : Hp} {y : V} {d : PyData} (h : Dp K H y d) : NotB K C H y := ⟨_, ty_dp h, I.kit (by simp) (I.sub d), I.first d⟩
theorem NotB.tup {C : Addr} (I : InstC K C) {H : Hp} {t : Addr} {xs : List V} (h : H t = some (.tup xs)) : NotB K C H (.ref t) := ⟨.type "tuple", .base (.tup h), I.kit (by simp) I.sT, I.first (.tuple [])⟩
/-- ==, of a band and any thing -/
def spEq (K : PySem.W.Frag) (C : Addr) : Sp := fun vs H Q _ => (∃ (p q : Addr) (a b c d : Option Int), vs = [.ref p, .ref q] ∧ BandAt C H p a b ∧ BandAt C H q c d ∧ Q (.bl (decide (a = c) && decide (b = d))) H) ∨
  ∃ y z, vs = [y, z] ∧ NotB K C H z ∧ Q (.bl false) H
theorem scal_e (a c : Option Int) : scal (eV a) (eV c) = true := by cases a <;> cases c <;> rfl
theorem dec_e (a c : Option Int) : decide (eV a = eV c) = decide (a = c) := by
  cases a <;> cases c <;> simp [eV]
theorem ok_Band_eq (T : Gk K mg g) : FnOk P w K mg base CX0 1 g.f_Band_eq g.d_Band_eq ["self", "other"] (spEq K g.c_Band) := by
  refine T.F_Band_eq.ok sc_Band_eq (fun vs H Q E h => ?_) (fun cdv A outer s H vs Q E hr h => ?_)
  · rcases h with ⟨p, q, a, b, c, d, rfl, _⟩ | ⟨y, z, rfl, _⟩ <;> rfl
  · refine ⟨_, (pss_one (ps_ret (pe_and (pe_callB (k_isi K) (by rfl) T.z_isinstance (by decide +kernel) (pa_cons (pv 1) (pa_cons (pe_glob (v := .ref g.c_Band) rfl T.m_Band rfl) pa_nil))) (pe_and (pe_cmpR op_eq (pe_fldK K (pv 0)) (pe_fldK K (pv 1)) (nomark _)) (pe_one (pe_cmpR op_eq (pe_fldK K (pv 0)) (pe_fldK K (pv 1)) (nomark _))))))), ?_⟩
    rcases h with ⟨p, q, a, b, c, d, rfl, hp, hq, k⟩ | ⟨y, z, rfl, ⟨ty, h1, h2, h3⟩, k⟩
    · walk_at "go"
      refine w_isiS T.i_Band T.cl_Band hq.choose_spec ?_
      walk_at "go"
      refine iteT ?_
      walk_at "go"
      refine f_low T hp ?_
      walk_at "go"
      refine f_low T hq ?_
      refine w_eq (scal_e _ _) ?_
      walk_at "go"
      rw [dec_e]
      refine ite_b (fun hc => ?_) (fun hc => ?_)
      · walk_at "go"
        refine f_high T hp ?_
        walk_at "go"
        refine f_high T hq ?_
        refine w_eq (scal_e _ _) ?_
        rw [dec_e]
        rw [hc] at k
        exact k
      · rw [hc] at k
        exact k
    · walk_at "go"
      refine ⟨z, .ref g.c_Band, _, _, false, rfl, .own _, h1, h2, ?_⟩
      walk_at "go"
      exact iteF k
/-! ### the texts of bands -/
def txtE : Option Int → Str
  | none => Str.ofString ""
  | some i => Str.ofString (toString i)
def namE : Option Int → Str
  | none => Str.ofString "None"
  | some i => Str.ofString (toString i)
theorem small_log {i : Int} (h : i.natAbs < 2 ^ 200) : i.natAbs.log2 < 1920 := Nat.lt_trans (log2_lt (k := 201) (Nat.lt_trans h (by decide)) (by decide)) (by decide)
theorem len_txt {e : Option Int} (h : Small e) : (txtE e).length ≤ 1921 := by
  cases e with
  | none => exact Nat.le_of_ble_eq_true rfl
  | some i => exact int_len (small_log (h i rfl))
theorem len_nam {e : Option Int} (h : Small e) : (namE e).length ≤ 1921 := by
  cases e with
  | none => exact Nat.le_of_ble_eq_true rfl
  | some i => exact int_len (small_log (h i rfl))
def bandTxt (lo hi : Option Int) : Str := txtE lo ++ Str.ofString ".." ++ txtE hi
def bandRep (lo hi : Option Int) : Str := Str.ofString "Band(" ++ namE lo ++ Str.ofString ", " ++ namE hi ++ Str.ofString ")"
theorem line_eq : sizeLine = sizeLine := rfl
def spTxt : Sp := fun vs H Q _ => ∃ e : Option Int, vs = [eV e] ∧ Small e ∧ Q (.str (txtE e)) H
theorem use_txt {e : Option Int} {H : Hp} {Q : VK} {E : XK} (h : Small e) (k : Q (.str (txtE e)) H) : spTxt ([eV e] ++ []) H Q E := ⟨e, rfl, h, k⟩
theorem ok_end_text (T : Gk K mg g) : FnOk P w K mg base CX0 1 g.f_end_text g.d_end_text ["end"] spTxt := by
  refine T.F_end_text.ok sc_end_text (fun vs H Q E h => ?_) (fun cdv A outer s H vs Q E hr h => ?_)
  · obtain ⟨e, rfl, _⟩ := h; rfl
  · obtain ⟨e, rfl, hs, k⟩ := h
    refine ⟨_, (pss_one (ps_ret (pe_ifExp (pt_cmpR k_isN (pv 0) pe_non (nomark _)) pe_str (pe_callTy call_str_int (by rfl) T.z_str (by decide +kernel) (pa_cons (pv 0) pa_nil))))), ?_⟩
    walk_at "go"
    cases e with
    | none => refine iteT ?_; walk_at "go"; exact k
    | some i =>
      refine iteF ?_
      walk_at "go"
      exact ⟨i, rfl, small_log (hs i rfl), k⟩
theorem ok_l_text (T : Gk K mg g) : FnOk P w K mg base CX0 1 g.f_l_text g.d_l_text ["_law_end"] spTxt := by
  refine T.F_l_text.ok sc_l_text (fun vs H Q E h => ?_) (fun cdv A outer s H vs Q E hr h => ?_)
  · obtain ⟨e, rfl, _⟩ := h; rfl
  · obtain ⟨e, rfl, hs, k⟩ := h
    refine ⟨_, (pss_one (ps_ret (pe_ifExp (pt_cmpR k_isN (pv 0) pe_non (nomark _)) pe_str (pe_callTy call_str_int (by rfl) T.z_str (by decide +kernel) (pa_cons (pv 0) pa_nil))))), ?_⟩
    walk_at "go"
    cases e with
    | none => refine iteT ?_; walk_at "go"; exact k
    | some i =>
      refine iteF ?_
      walk_at "go"
      exact ⟨i, rfl, small_log (hs i rfl), k⟩
def spStr (C : Addr) : Sp := fun vs H Q _ => ∃ (p : Addr) (lo hi : Option Int), vs = [.ref p] ∧ BandAt C H p lo hi ∧ Small lo ∧ Small hi ∧ Q (.str (bandTxt lo hi)) H
def spRep (C : Addr) : Sp := fun vs H Q _ => ∃ (p : Addr) (lo hi : Option Int), vs = [.ref p] ∧ BandAt C H p lo hi ∧ Small lo ∧ Small hi ∧ Q (.str (bandRep lo hi)) H
theorem fmt_e {e : Option Int} {H : Hp} {Q : VK} (h : Small e) (k : Q (.str (namE e)) H) : kFmt (eV e) H Q := by
  cases e with
  | none => exact w_fmt0 k
  | some i => exact w_fmtI (small_log (h i rfl)) k
theorem ok_Band_str (T : Gk K mg g) : FnOk P w K mg base CX0 2 g.f_Band_str g.d_Band_str ["self"] (spStr g.c_Band) := by
  refine T.F_Band_str.ok sc_Band_str (fun vs H Q E h => ?_) (fun cdv A outer s H vs Q E hr h => ?_)
  · obtain ⟨p, lo, hi, rfl, _⟩ := h; rfl
  · obtain ⟨p, lo, hi, rfl, hp, h1, h2, k⟩ := h
    have O_end_text := ok_end_text (P := P) (w := w) (base := base) T
    have hr_1 : Room 1 _ := hr.mono (by decide)
    refine ⟨_, (pss_cons (ps_par (i := 1) (j := 2) (by rfl) sc_Band_str.nd rfl rfl (by decide) rfl rfl (pa_cons (pe_call O_end_text hr_1 rfl T.m_end_text T.F_end_text.kp T.b_end_text .nil pass0 (pa_cons (pe_fldK K (pv 0)) pa_nil)) (pa_cons (pe_call O_end_text hr_1 rfl T.m_end_text T.F_end_text.kp T.b_end_text .nil pass0 (pa_cons (pe_fldK K (pv 0)) pa_nil)) pa_nil)) (by rfl))
      (pss_one (ps_ret (pe_join (.cons (pe_fmtN (pv 1)) (.cons pe_str (.cons (pe_fmtN (pv 2)) .nil))))))), ?_⟩
    have l1 := len_txt h1
    have l2 := len_txt h2
    walk_at "go"
    refine f_low T hp ?_
    walk_at "go"
    refine use_txt h1 ?_
    walk_at "go"
    refine f_high T hp ?_
    walk_at "go"
    refine use_txt h2 ?_
    walk_at "go"
    refine ⟨_, _, rfl, ?_⟩
    walk_at "go"
    refine w_fmtS (Nat.le_trans l1 (by decide)) ?_
    rw [← Nat.lt_succ_iff] at l1 l2
    refine w_put (Nat.le_trans (m := 4000) (by rw [empty_app]; omega) (by decide)) ?_
    walk_at "go"
    refine w_put (Nat.le_trans (m := 4000) (by rw [empty_app, app_len]; have : (Str.ofString "..").length = 2 := rfl; omega) (by decide)) ?_
    walk_at "go"
    refine w_fmtS (Nat.le_trans (Nat.le_of_lt_succ l2) (by decide)) ?_
    refine w_put (Nat.le_trans (m := 4000) (by rw [empty_app, app_len, app_len]; have : (Str.ofString "..").length = 2 := rfl; omega) (by decide)) ?_
    walk_at "go"
    rw [empty_app]
    exact k
theorem ok_Band_repr (T : Gk K mg g) : FnOk P w K mg base CX0 1 g.f_Band_repr g.d_Band_repr ["self"] (spRep g.c_Band) := by
  refine T.F_Band_repr.ok sc_Band_repr (fun vs H Q E h => ?_) (fun cdv A outer s H vs Q E hr h => ?_)
  · obtain ⟨p, lo, hi, rfl, _⟩ := h; rfl
  · obtain ⟨p, lo, hi, rfl, hp, h1, h2, k⟩ := h
    
    refine ⟨_, (pss_one (ps_ret (pe_join (.cons pe_str (.cons (pe_fmtN (pe_fldK K (pv 0))) (.cons pe_str (.cons (pe_fmtN (pe_fldK K (pv 0))) (.cons pe_str .nil)))))))), ?_⟩
    have l1 := len_nam h1
    have l2 := len_nam h2
    have z1 : (Str.ofString "Band(").length = 5 := rfl
    have z2 : (Str.ofString ", ").length = 2 := rfl
    have z3 : (Str.ofString ")").length = 1 := rfl
    walk_at "go"
    refine w_put (Nat.le_trans (m := 4000) (by rw [empty_app]; omega) (by decide)) ?_
    walk_at "go"
    refine f_low T hp ?_
    refine fmt_e h1 ?_
    refine w_put (Nat.le_trans (m := 4000) (by rw [empty_app, app_len]; omega) (by decide)) ?_
    walk_at "go"
    refine w_put (Nat.le_trans (m := 4000) (by rw [empty_app, app_len, app_len]; omega) (by decide)) ?_
    walk_at "go"
    refine f_high T hp ?_
    refine fmt_e h2 ?_
    refine w_put (Nat.le_trans (m := 4000) (by rw [empty_app, app_len, app_len, app_len]; omega) (by decide)) ?_
    walk_at "go"
    refine w_put (Nat.le_trans (m := 4000) (by rw [empty_app, app_len, app_len, app_len, app_len]; omega) (by decide)) ?_
    walk_at "go"
    rw [empty_app]
    exact k
/-! ### drawn ends -/
theorem pow200 : (2 : Int) ^ 200 = 1606938044258990275541962092341162602522202993782792835301376 := by decide
theorem pow200N : (2 : Nat) ^ 200 = 1606938044258990275541962092341162602522202993782792835301376 := by decide
def spEndOf : Sp := fun vs H Q _ => ∃ b, vs = [.ref b] ∧ Bag H b ∧ ∀ e H', Small e → Step b H H' → Q (eV e) H'
theorem use_end {b : Addr} {H : Hp} {Q : VK} {E : XK} (hb : Bag H b) (k : ∀ e H', Small e → Step b H H' → Q (eV e) H') : spEndOf ([.ref b] ++ []) H Q E := ⟨b, rfl, hb, k⟩
theorem ok_l_end_of (T : Gk K mg g) : FnOk P w K mg base CX0 2 g.f_l_end_of g.d_l_end_of ["_law_bag_here"] spEndOf := by
  refine T.F_l_end_of.ok sc_l_end_of (fun vs H Q E h => ?_) (fun cdv A outer s H vs Q E hr h => ?_)
  · obtain ⟨b, rfl, _⟩ := h; rfl
  · obtain ⟨b, rfl, hb, k⟩ := h
    have O_l_take := ok_l_take (P := P) (w := w) (base := base) T
    have hr_1 : Room 1 _ := hr.mono (by decide)
    refine ⟨_, (pss_cons (ps_set (i := 1) sc_l_end_of.nd rfl (Or.inl rfl) (pe_call O_l_take hr_1 rfl T.m_l_take T.F_l_take.kp T.b_l_take .nil pass0 (pa_cons (pv 0) (pa_cons pe_int pa_nil))))
      (pss_cons (ps_if (pt_cmpR op_eq (pv 1) pe_int (nomark _)) (pss_one (ps_ret pe_non)) pss_nil)
      (pss_cons (ps_if (pt_cmpR op_lt (pv 1) pe_int (nomark _)) (pss_one (ps_ret (pe_op op_sub (pe_call O_l_take hr_1 rfl T.m_l_take T.F_l_take.kp T.b_l_take .nil pass0 (pa_cons (pv 0) (pa_cons pe_int pa_nil))) pe_int))) pss_nil)
      (pss_one (ps_ret (pe_op op_mul (pe_ix (k_ixL K) (pe_lst (pa_cons pe_int (pa_cons (pe_un un_neg pe_int) pa_nil))) (pe_call O_l_take hr_1 rfl T.m_l_take T.F_l_take.kp T.b_l_take .nil pass0 (pa_cons (pv 0) (pa_cons pe_int pa_nil))) (fun _ _ => rfl)) (pe_call O_l_take hr_1 rfl T.m_l_take T.F_l_take.kp T.b_l_take .nil pass0 (pa_cons (pv 0) (pa_cons (pe_op op_pow pe_int pe_int) pa_nil))))))))), ?_⟩
    walk_at "go"
    refine use_take hb (by decide) (by decide) fun road H1 r0 r1 s1 => ?_
    walk_at "go"
    refine w_eq rfl ?_
    walk_at "go"
    refine ite_b (fun hc => ?_) (fun hc => ?_)
    · walk_at "go"
      exact k none H1 (fun i h => nomatch h) s1
    · walk_at "go"
      refine ite_b (fun hc2 => ?_) (fun hc2 => ?_)
      · walk_at "go"
        refine use_take s1.1 (by decide) (by decide) fun d H2 d0 d1 s2 => ?_
        walk_at "go"
        refine k (some (d - 4)) H2 (fun i h => ?_) (s1.trans s2)
        cases h
        rw [pow200N]; omega
      · walk_at "go"
        refine k_lst (by show 2 ≤ sizeLine; decide) fun l H2 nl s2 hl => ?_
        walk_at "go"
        refine use_take (s1.1.mono s2) (by decide) (by decide) fun i H3 i0 i1 s3 => ?_
        have nb : l ≠ b := by
          obtain ⟨_, _, _, _, e⟩ := s1.1
          exact (ne_of_none e nl).symm
        have hl3 := s3.at hl nb
        have st : Step b H H3 := (s1.more s2).trans s3
        obtain ⟨sg, hsg, hab⟩ : ∃ sg : Int, atI [V.int 1, .int (-1)] i = some (.int sg) ∧ (sg = 1 ∨ sg = -1) := by
          have h01 : i = 0 ∨ i = 1 := by omega
          rcases h01 with rfl | rfl
          · exact ⟨1, rfl, .inl rfl⟩
          · exact ⟨-1, rfl, .inr rfl⟩
        refine w_ixL (SqL.at hl3) hsg ?_
        walk_at "go"
        refine w_I ⟨by decide, by decide, by decide⟩ ?_
        walk_at "go"
        have big : (10 : Int) ^ (30 : Int).toNat = 1000000000000000000000000000000 := by decide
        rw [big]
        refine use_take s3.1 (by decide) (by rw [pow200]; decide) fun d H4 d0 d1 s4 => ?_
        refine w_I (Or.inl (by rcases hab with rfl | rfl <;> decide)) ?_
        refine k (some (sg * d)) H4 (fun z h => ?_) (st.trans s4)
        cases h
        rw [pow200N]
        rcases hab with rfl | rfl <;> omega
/-- a pair of ends, in order, new -/
def spDrawn : Sp := fun vs H Q _ => ∃ b, vs = [.ref b] ∧ Bag H b ∧
  ∀ p lo hi H', Small lo → Small hi → atMost lo hi = true → H p = none → Step b H H' → H' p = some (.tup [eV lo, eV hi]) → Q (.ref p) H'
theorem use_drawn {b : Addr} {H : Hp} {Q : VK} {E : XK} (hb : Bag H b) (k : ∀ p lo hi H', Small lo → Small hi → atMost lo hi = true → H p = none → Step b H H' → H' p = some (.tup [eV lo, eV hi]) → Q (.ref p) H') :
    spDrawn ([.ref b] ++ []) H Q E := ⟨b, rfl, hb, k⟩
/-- what is new behind a step was new ahead of it -/
theorem Step.free {b p : Addr} {H H' : Hp} (s : Step b H H') (hb : Bag H b) (h : H' p = none) : H p = none := by
  cases e : H p with
  | none => rfl
  | some o =>
    by_cases q : p = b
    · subst q
      obtain ⟨_, _, _, _, e2⟩ := s.1
      rw [h] at e2; cases e2
    · rw [s.at e q] at h; cases h
theorem ok_l_drawn (T : Gk K mg g) : FnOk P w K mg base CX0 3 g.f_l_drawn g.d_l_drawn ["_law_bag_here"] spDrawn := by
  refine T.F_l_drawn.ok sc_l_drawn (fun vs H Q E h => ?_) (fun cdv A outer s H vs Q E hr h => ?_)
  · obtain ⟨b, rfl, _⟩ := h; rfl
  · obtain ⟨b, rfl, hb, k⟩ := h
    have O_l_end_of := ok_l_end_of (P := P) (w := w) (base := base) T
    have hr_2 : Room 2 _ := hr.mono (by decide)
    refine ⟨_, (pss_cons (ps_par (i := 1) (j := 2) (by rfl) sc_l_drawn.nd rfl rfl (by decide) rfl rfl (pa_cons (pe_call O_l_end_of hr_2 rfl T.m_l_end_of T.F_l_end_of.kp T.b_l_end_of .nil pass0 (pa_cons (pv 0) pa_nil)) (pa_cons (pe_call O_l_end_of hr_2 rfl T.m_l_end_of T.F_l_end_of.kp T.b_l_end_of .nil pass0 (pa_cons (pv 0) pa_nil)) pa_nil)) (by rfl))
      (pss_cons (ps_if (PW.pt (pw_and (pt_cmpR k_notN (pv 1) pe_non (nomark _)) (pw_and1 (pt_cmpR k_notN (pv 2) pe_non (nomark _))))) (pss_one (ps_ret (pe_tup (pa_cons (pe_callB k_min2 (by rfl) T.z_min (by decide +kernel) (pa_cons (pv 1) (pa_cons (pv 2) pa_nil))) (pa_cons (pe_callB k_max2 (by rfl) T.z_max (by decide +kernel) (pa_cons (pv 1) (pa_cons (pv 2) pa_nil))) pa_nil))))) pss_nil)
      (pss_one (ps_ret (pe_tup (pa_cons (pv 1) (pa_cons (pv 2) pa_nil))))))), ?_⟩
    walk_at "go"
    refine use_end hb fun x H1 sx s1 => ?_
    walk_at "go"
    refine use_end s1.1 fun y H2 sy s2 => ?_
    walk_at "go"
    refine ⟨_, _, rfl, ?_⟩
    have st := s1.trans s2
    walk_at "go"
    cases x with
    | none =>
      refine iteF (iteF ?_)
      walk_at "go"
      refine k_tup (by show 2 ≤ sizeLine; decide) fun p H3 np s3 hp => ?_
      exact k p none y H3 sx sy (by cases y <;> rfl) (st.free hb np) (st.more s3) hp
    | some i =>
      refine iteT ?_
      walk_at "go"
      cases y with
      | none =>
        refine iteF ?_
        walk_at "go"
        refine k_tup (by show 2 ≤ sizeLine; decide) fun p H3 np s3 hp => ?_
        exact k p (some i) none H3 sx sy rfl (st.free hb np) (st.more s3) hp
      | some j =>
        refine iteT ?_
        walk_at "go"
        refine w_min2 (i := i) (j := j) ?_
        walk_at "go"
        refine w_max2 (i := i) (j := j) ?_
        refine k_tup (by show 2 ≤ sizeLine; decide) fun p H3 np s3 hp => ?_
        have hi := sx i rfl
        have hj := sy j rfl
        refine k p (some (if j < i then j else i)) (some (if j > i then j else i)) H3 (fun z h => ?_) (fun z h => ?_) (decide_eq_true ?_) (st.free hb np) (st.more s3) hp
        · cases h; split <;> assumption
        · cases h; split <;> assumption
        · split <;> split <;> omega
/-! ### the law itself -/
def spLaw (K : PySem.W.Frag) : Sp := fun vs H Q _ => ∃ (a : Addr) (ns : List Int), vs = [.ref a] ∧ SqL K H a (ns.map V.int) ∧ ns.length ≤ 63 ∧ ∀ H', Q (.bl true) H'
theorem spLaw_use (K : PySem.W.Frag) (H : Hp) (a : Addr) (ns : List Int) (hl : ns.length ≤ 63) (hS : SqL K H a (ns.map V.int)) : spLaw K [.ref a] H (fun v _ => v = .bl true) fun _ _ _ => False :=
  ⟨a, ns, rfl, hS, hl, fun _ => rfl⟩
theorem Step.old {b : Addr} {H0 H1 H4 : Hp} (s : Step b H1 H4) (s1 : Same H0 H1) (nb : H0 b = none) : Same H0 H4 := fun a o e => s.at (s1 a o e) (ne_of_none e nb)
theorem own_eq (T : Gk K mg g) {E : XK} {p q : Addr} {a b c d : Option Int} {H : Hp} {Q : VK} (hp : BandAt g.c_Band H p a b) (hq : BandAt g.c_Band H q c d) (k : Q (.bl (decide (a = c) && decide (b = d))) H) :
    rOwn K g.c_Band (spEq K g.c_Band) E (.ref p) (.ref q) H Q := by
  obtain ⟨dx, hp'⟩ := id hp
  obtain ⟨dy, hq'⟩ := id hq
  exact ⟨p, dx, _, _, rfl, hp', T.i_Band.ty T.cl_Band hq', InstC.firstS, .inl ⟨p, q, a, b, c, d, rfl, hp, hq, ⟨_, rfl⟩, k⟩⟩
theorem own_ne (T : Gk K mg g) {E : XK} {p q : Addr} {a b c d : Option Int} {H : Hp} {Q : VK} (hp : BandAt g.c_Band H p a b) (hq : BandAt g.c_Band H q c d) (k : Q (.bl (!(decide (a = c) && decide (b = d)))) H) :
    rNeO K g.c_Band (spEq K g.c_Band) E (.ref p) (.ref q) H Q := by
  obtain ⟨dx, hp'⟩ := id hp
  obtain ⟨dy, hq'⟩ := id hq
  exact ⟨p, dx, _, _, rfl, hp', T.i_Band.ty T.cl_Band hq', InstC.firstS, .inl ⟨p, q, a, b, c, d, rfl, hp, hq, _, rfl, k⟩⟩
theorem own_eq0 {E : XK} {p : Addr} {y : V} {a b : Option Int} {H : Hp} {Q : VK} (hp : BandAt g.c_Band H p a b) (hq : NotB K g.c_Band H y) (k : Q (.bl false) H) :
    rOwn K g.c_Band (spEq K g.c_Band) E (.ref p) y H Q := by
  obtain ⟨dx, hp'⟩ := id hp
  obtain ⟨ty, h1, h2, h3⟩ := id hq
  exact ⟨p, dx, _, _, rfl, hp', h1, h3, .inr ⟨_, y, rfl, hq, ⟨_, rfl⟩, k⟩⟩
theorem own_ne0 {E : XK} {p : Addr} {y : V} {a b : Option Int} {H : Hp} {Q : VK} (hp : BandAt g.c_Band H p a b) (hq : NotB K g.c_Band H y) (k : Q (.bl true) H) :
    rNeO K g.c_Band (spEq K g.c_Band) E (.ref p) y H Q := by
  obtain ⟨dx, hp'⟩ := id hp
  obtain ⟨ty, h1, h2, h3⟩ := id hq
  exact ⟨p, dx, _, _, rfl, hp', h1, h3, .inr ⟨_, y, rfl, hq, _, rfl, k⟩⟩
theorem own_txt {E : XK} {p : Addr} {a b : Option Int} {H : Hp} {Q : VK} (hp : BandAt g.c_Band H p a b) (h1 : Small a) (h2 : Small b) (k : Q (.str (bandTxt a b)) H) :
    rTxt g.c_Band (spStr g.c_Band) E [.ref p] H Q := by
  obtain ⟨dx, hp'⟩ := id hp
  exact ⟨p, dx, _, rfl, hp', p, a, b, rfl, hp, h1, h2, ⟨_, rfl⟩, k⟩
theorem own_rep {E : XK} {p : Addr} {a b : Option Int} {H : Hp} {Q : VK} (hp : BandAt g.c_Band H p a b) (h1 : Small a) (h2 : Small b) (k : Q (.str (bandRep a b)) H) :
    rTxt g.c_Band (spRep g.c_Band) E [.ref p] H Q := by
  obtain ⟨dx, hp'⟩ := id hp
  exact ⟨p, dx, _, rfl, hp', p, a, b, rfl, hp, h1, h2, ⟨_, rfl⟩, k⟩
theorem str_e {e : Option Int} {H : Hp} {Q : VK} (h : Small e) (k : Q (.str (namE e)) H) : rStrE [eV e] H Q := by
  cases e with
  | none => exact .inr ⟨rfl, k⟩
  | some i => exact .inl ⟨i, rfl, small_log (h i rfl), k⟩
theorem eqv_pair (a b c d : Option Int) : PyData.eqv (.tuple [eD a, eD b]) (.tuple [eD c, eD d]) = (decide (a = c) && decide (b = d)) := by
  have e : ∀ x y : Option Int, PyData.eqv (eD x) (eD y) = decide (x = y) := by
    intro x y
    cases x <;> cases y <;> simp [eD, PyData.eqv] <;> (rw [Bool.eq_iff_iff]; simp)
  show (PyData.eqv (eD a) (eD c) && (PyData.eqv (eD b) (eD d) && true)) = _
  rw [e, e, Bool.and_true]
theorem shaped_pair (a b : Option Int) : SeqAt.shaped (.tuple [eD a, eD b]) = true := by cases a <;> cases b <;> rfl
theorem dp_pair {H : Hp} {t : Addr} {a b : Option Int} (h : H t = some (.tup [eV a, eV b])) : Dp K H (.ref t) (.tuple [eD a, eD b]) := .tup (SqT.at h) (.cons (dp_e a) (.cons (dp_e b) .nil))
theorem small0 : Small none := fun _ h => nomatch h
theorem ok_law (T : Gk K mg g) : FnG P w K mg base CX0 5 g.f_law g.d_law ["_law_script"] (spLaw K) := by
  refine funG_ok T.F_law sc_law (fun vs H Q E h => ?_) (fun cdv A outer s H vs Q E hr hc h => ?_)
  · obtain ⟨a, ns, rfl, _⟩ := h; rfl
  · obtain ⟨a, ns, rfl, hS, hlen, k⟩ := h
    have O_Band_eq := ok_Band_eq (P := P) (w := w) (base := base) T
    have O_Band_init := ok_Band_init (P := P) (w := w) (base := base) T
    have O_Band_repr := ok_Band_repr (P := P) (w := w) (base := base) T
    have O_Band_str := ok_Band_str (P := P) (w := w) (base := base) T
    have O_l_bag := ok_l_bag (P := P) (w := w) (base := base) T
    have O_l_drawn := ok_l_drawn (P := P) (w := w) (base := base) T
    have O_l_take := ok_l_take (P := P) (w := w) (base := base) T
    have O_l_text := ok_l_text (P := P) (w := w) (base := base) T
    have hr_1 : Room 1 _ := hr.mono (by decide)
    have hr_2 : Room 2 _ := hr.mono (by decide)
    have hr_3 : Room 3 _ := hr.mono (by decide)
    have hr_4 : Room 4 _ := hr.mono (by decide)
    obtain ⟨_, v0_Band_init, b0_Band_init⟩ := T.b0_Band_init
    obtain ⟨_, kb_Band_init_high⟩ := T.kb_Band_init_high
    refine ⟨_, (pss_cons (ps_for PassesOwn.never rfl (pi_range1 (by rfl) T.z_range (pa_cons (pe_callB k_max2 (by rfl) T.z_max (by decide +kernel) (pa_cons pe_int (pa_cons (pe_callB k_min2 (by rfl) T.z_min (by decide +kernel) (pa_cons pe_int (pa_cons (pe_callB (k_len K) (by rfl) T.z_len (by decide +kernel) (pa_cons (pv 0) pa_nil)) pa_nil))) pa_nil))) pa_nil)) (pg_name (i := 1) sc_law.nd rfl (Or.inl rfl)) (pss_cons (ps_set (i := 2) sc_law.nd rfl (Or.inl rfl) (pe_call O_l_bag hr_1 rfl T.m_l_bag T.F_l_bag.kp T.b_l_bag .nil pass0 (pa_cons (pv 0) (pa_cons (pv 1) pa_nil))))
      (pss_cons (ps_par (i := 3) (j := 4) (by rfl) sc_law.nd rfl rfl (by decide) rfl rfl (pa_cons (pe_call O_l_drawn hr_3 rfl T.m_l_drawn T.F_l_drawn.kp T.b_l_drawn .nil pass0 (pa_cons (pv 2) pa_nil)) (pa_cons (pe_call O_l_drawn hr_3 rfl T.m_l_drawn T.F_l_drawn.kp T.b_l_drawn .nil pass0 (pa_cons (pv 2) pa_nil)) pa_nil)) (by rfl))
      (pss_cons (ps_set (i := 4) sc_law.nd rfl (Or.inl rfl) (pe_ix (k_ixL K) (pe_lst (pa_cons (pv 3) (pa_cons (pv 4) (pa_cons (pe_tup (pa_cons (pe_ix (k_ixT K) (pv 3) pe_int (fun _ _ => rfl)) (pa_cons pe_non pa_nil))) (pa_cons (pe_tup (pa_cons pe_non (pa_cons (pe_ix (k_ixT K) (pv 3) pe_int (fun _ _ => rfl)) pa_nil))) pa_nil))))) (pe_call O_l_take hr_1 rfl T.m_l_take T.F_l_take.kp T.b_l_take .nil pass0 (pa_cons (pv 2) (pa_cons pe_int pa_nil))) (fun _ _ => rfl)))
      (pss_cons (ps_par (i := 5) (j := 6) (by rfl) sc_law.nd rfl rfl (by decide) rfl rfl (pa_cons (pe_make T.k_Band O_Band_init hr_4 rfl T.m_Band T.b_Band_init .nil pass0 (pa_cons (pe_ix (k_ixT K) (pv 3) pe_int (fun _ _ => rfl)) (pa_cons (pe_ix (k_ixT K) (pv 3) pe_int (fun _ _ => rfl)) pa_nil))) (pa_cons (pe_make T.k_Band O_Band_init hr_4 rfl T.m_Band T.b_Band_init .nil pass0 (pa_cons (pe_ix (k_ixT K) (pv 4) pe_int (fun _ _ => rfl)) (pa_cons (pe_ix (k_ixT K) (pv 4) pe_int (fun _ _ => rfl)) pa_nil))) pa_nil)) (by rfl))
      (pss_cons (ps_set (i := 7) sc_law.nd rfl (Or.inl rfl) (pe_cmpR (k_eqD K hr) (pv 3) (pv 4) (nomark _)))
      (pss_cons (ps_if (PW.pt (pw_or (pt_cmpR op_ne (pe_cmpR (op_own (nm := "__eq__") rfl O_Band_eq T.t_Band_eq.at_ T.t_Band_eq.fn T.b_Band_eq hr_1 pass0 (fun _ _ => rfl)) (pv 5) (pv 6) (nomark _)) (pv 7) (nomark _)) (pw_or1 (pt_cmpR op_ne (pe_cmpR (op_own (nm := "__eq__") rfl O_Band_eq T.t_Band_eq.at_ T.t_Band_eq.fn T.b_Band_eq hr_1 pass0 (fun _ _ => rfl)) (pv 6) (pv 5) (nomark _)) (pv 7) (nomark _))))) (pss_one (ps_ret pe_bl)) pss_nil)
      (pss_cons (ps_if (pt_cmpR op_eq (pe_cmpR (op_neO O_Band_eq T.ne_Band T.i_Band.hm T.t_Band_eq.at_ T.t_Band_eq.fn T.b_Band_eq hr_2 pass0) (pv 5) (pv 6) (nomark _)) (pv 7) (nomark _)) (pss_one (ps_ret pe_bl)) pss_nil)
      (pss_cons (ps_for PassesOwn.never rfl (pi_listK K (pe_lst (pa_cons (pv 3) (pa_cons (pe_callTy (k_list K) (by rfl) T.z_list (by decide +kernel) (pa_cons (pv 3) pa_nil)) (pa_cons (pe_callTy (cr_strO O_Band_str T.t_Band_str.at_ T.t_Band_str.fn T.b_Band_str hr_4 pass0) (by rfl) T.z_str (by decide +kernel) (pa_cons (pv 5) pa_nil)) (pa_cons pe_non (pa_cons (pe_ix (k_ixT K) (pv 3) pe_int (fun _ _ => rfl)) (pa_cons (pe_tup (pa_cons (pv 5) pa_nil)) pa_nil)))))))) (pg_name (i := 8) sc_law.nd rfl (Or.inl rfl)) (pss_one (ps_if (PW.pt (pw_or (pt_cmpR (op_own (nm := "__eq__") rfl O_Band_eq T.t_Band_eq.at_ T.t_Band_eq.fn T.b_Band_eq hr_1 pass0 (fun _ _ => rfl)) (pv 5) (pv 8) (nomark _)) (pw_or1 (pt_not (pt_cmpR (op_neO O_Band_eq T.ne_Band T.i_Band.hm T.t_Band_eq.at_ T.t_Band_eq.fn T.b_Band_eq hr_2 pass0) (pv 5) (pv 8) (nomark _)))))) (pss_one (ps_ret pe_bl)) pss_nil)))
      (pss_one (ps_for PassesOwn.never rfl (pi_listK K (pe_lst (pa_cons (pe_tup (pa_cons (pv 5) (pa_cons (pv 3) pa_nil))) (pa_cons (pe_tup (pa_cons (pv 6) (pa_cons (pv 4) pa_nil))) pa_nil)))) (pg_tup rfl (pgs_cons (pg_name (i := 9) sc_law.nd rfl (Or.inl rfl)) (pgs_cons (pg_name (i := 10) sc_law.nd rfl (Or.inl rfl)) pgs_nil))) (pss_cons (ps_if (pt_cmpR op_ne (pe_callTy (cr_strO O_Band_str T.t_Band_str.at_ T.t_Band_str.fn T.b_Band_str hr_4 pass0) (by rfl) T.z_str (by decide +kernel) (pa_cons (pv 9) pa_nil)) (pe_op k_addS (pe_op k_addS (pe_call O_l_text hr_1 rfl T.m_l_text T.F_l_text.kp T.b_l_text .nil pass0 (pa_cons (pe_ix (k_ixT K) (pv 10) pe_int (fun _ _ => rfl)) pa_nil)) pe_str) (pe_call O_l_text hr_1 rfl T.m_l_text T.F_l_text.kp T.b_l_text .nil pass0 (pa_cons (pe_ix (k_ixT K) (pv 10) pe_int (fun _ _ => rfl)) pa_nil))) (nomark _)) (pss_one (ps_ret pe_bl)) pss_nil)
      (pss_cons (ps_if (pt_cmpR op_ne (pe_callB (cr_reprO O_Band_repr T.t_Band_repr.at_ T.t_Band_repr.fn T.b_Band_repr hr_2 pass0) (by rfl) T.z_repr (by decide +kernel) (pa_cons (pv 9) pa_nil)) (pe_op k_addS (pe_op k_addS (pe_op k_addS (pe_op k_addS pe_str (pe_callTy cr_strE (by rfl) T.z_str (by decide +kernel) (pa_cons (pe_ix (k_ixT K) (pv 10) pe_int (fun _ _ => rfl)) pa_nil))) pe_str) (pe_callTy cr_strE (by rfl) T.z_str (by decide +kernel) (pa_cons (pe_ix (k_ixT K) (pv 10) pe_int (fun _ _ => rfl)) pa_nil))) pe_str) (nomark _)) (pss_one (ps_ret pe_bl)) pss_nil)
      (pss_one (ps_if (pt_cmpR op_ne (pe_joined1 (pe_fmtO (pv 9) O_Band_str T.t_Band_str.at_ T.t_Band_str.fn T.fm_Band T.i_Band.hm T.b_Band_str hr_3 pass0)) (pe_callTy (cr_strO O_Band_str T.t_Band_str.at_ T.t_Band_str.fn T.b_Band_str hr_4 pass0) (by rfl) T.z_str (by decide +kernel) (pa_cons (pv 9) pa_nil)) (nomark _)) (pss_one (ps_ret pe_bl)) pss_nil)))))))))))))))
      (pss_one (ps_ret (pe_and (pe_cmpR op_eq (pe_callTy (cr_strO O_Band_str T.t_Band_str.at_ T.t_Band_str.fn T.b_Band_str hr_4 pass0) (by rfl) T.z_str (by decide +kernel) (pa_cons (pe_make0 T.k_Band O_Band_init hr_4 rfl T.m_Band b0_Band_init v0_Band_init pass0) pa_nil)) pe_str (nomark _)) (pe_one (pe_cmpR op_eq (pe_callB (cr_reprO O_Band_repr T.t_Band_repr.at_ T.t_Band_repr.fn T.b_Band_repr hr_2 pass0) (by rfl) T.z_repr (by decide +kernel) (pa_cons (pe_makeK0 T.k_Band O_Band_init hr_4 rfl T.m_Band kb_Band_init_high pass0 (pk_cons pe_int pk_nil)) pa_nil)) pe_str (nomark _))))))), ?_⟩
    walk_at "go"
    refine w_lenL hS ?_
    walk_at "go"
    rw [List.length_map]
    refine ⟨_, rfl, by split <;> split <;> omega, by split <;> split <;> omega, ?_⟩
    refine k_forR (fun i σ H' => (∃ v1 v2 v3 v4 v5 v6 v7 v8 v9 v10 : Option V, σ = [some (.ref a), v1, v2, v3, v4, v5, v6, v7, v8, v9, v10]) ∧ Same H H') ⟨⟨_, _, _, _, _, _, _, _, _, _, rfl⟩, Same.refl _⟩ ?_ ?_
    · rintro at_ σ H0 hat ⟨⟨v1, v2, v3, v4, v5, v6, v7, v8, v9, v10, rfl⟩, s0⟩
      have hat8 : at_ < 8 := by
        revert hat
        split <;> split <;> omega
      walk_at "go"
      refine use_bag (s0.seq hS) hlen hat8 fun b H1 nb s1 hb => ?_
      walk_at "go"
      refine use_drawn hb fun p1 lo hi H2 sl sh hm n1 st2 e1 => ?_
      walk_at "go"
      refine use_drawn st2.1 fun p2 lo' hi' H3 sl' sh' hm' n2 st3 e2 => ?_
      have nb1 : p1 ≠ b := by rintro rfl; obtain ⟨_, _, _, _, e⟩ := hb; rw [e] at n1; cases n1
      have nb2 : p2 ≠ b := by rintro rfl; obtain ⟨_, _, _, _, e⟩ := st2.1; rw [e] at n2; cases n2
      have e1 := st3.at e1 nb1
      have st3 := st2.trans st3
      walk_at "go"
      refine ⟨_, _, rfl, ?_⟩
      walk_at "go"
      refine w_ixT (SqT.at e1) rfl ?_
      walk_at "go"
      refine k_tup (by show 2 ≤ sizeLine; decide) fun t1 H4 nt1 s4 ht1 => ?_
      walk_at "go"
      have e1 := s4 _ _ e1
      have e2 := s4 _ _ e2
      refine w_ixT (SqT.at e1) rfl ?_
      walk_at "go"
      refine k_tup (by show 2 ≤ sizeLine; decide) fun t2 H5 nt2 s5 ht2 => ?_
      have e1 := s5 _ _ e1
      have e2 := s5 _ _ e2
      have ht1 := s5 _ _ ht1
      walk_at "go"
      refine k_lst (by show 4 ≤ sizeLine; decide) fun l H6 nl s6 hl => ?_
      have e1 := s6 _ _ e1
      have e2 := s6 _ _ e2
      have ht1 := s6 _ _ ht1
      have ht2 := s6 _ _ ht2
      have st6 : Step b H1 H6 := ((st3.more s4).more s5).more s6
      have fr : ∀ {H' : Hp} {p : Addr}, Step b H1 H' → H' p = none → p ≠ b := fun s n => by
        rintro rfl
        obtain ⟨_, _, _, _, e⟩ := s.1
        rw [e] at n; cases n
      have nbt1 := fr st3 nt1
      have nbt2 := fr (st3.more s4) nt2
      have nbl := fr ((st3.more s4).more s5) nl
      walk_at "go"
      refine use_take st6.1 (by decide) (by decide) fun d H7 d0 d1 s7 => ?_
      have st7 := st6.trans s7
      have e1 := s7.at e1 nb1
      have e2 := s7.at e2 nb2
      have ht1 := s7.at ht1 nbt1
      have ht2 := s7.at ht2 nbt2
      have hl := s7.at hl nbl
      obtain ⟨q, lo2, hi2, ei, hq, sl2, sh2, hm2⟩ : ∃ q lo2 hi2, atI [V.ref p1, .ref p2, .ref t1, .ref t2] d = some (.ref q) ∧ H7 q = some (.tup [eV lo2, eV hi2]) ∧ Small lo2 ∧ Small hi2 ∧ atMost lo2 hi2 = true := by
        have h01 : d = 0 ∨ d = 1 ∨ d = 2 ∨ d = 3 := by omega
        rcases h01 with rfl | rfl | rfl | rfl
        · exact ⟨p1, lo, hi, rfl, e1, sl, sh, hm⟩
        · exact ⟨p2, lo', hi', rfl, e2, sl', sh', hm'⟩
        · exact ⟨t1, lo, none, rfl, ht1, sl, small0, by cases lo <;> rfl⟩
        · exact ⟨t2, none, hi, rfl, ht2, small0, sh, by cases hi <;> rfl⟩
      refine w_ixL (SqL.at hl) ei ?_
      walk_at "go"
      refine w_ixT (SqT.at e1) rfl ?_
      walk_at "go"
      refine w_ixT (SqT.at e1) rfl ?_
      walk_at "go"
      refine use_band hm fun x1 H8 nx1 s8 hx1 => ?_
      have e1 := s8 _ _ e1
      have hq := s8 _ _ hq
      walk_at "go"
      refine w_ixT (SqT.at hq) rfl ?_
      walk_at "go"
      refine w_ixT (SqT.at hq) rfl ?_
      walk_at "go"
      refine use_band hm2 fun x2 H9 nx2 s9 hx2 => ?_
      have e1 := s9 _ _ e1
      have hq := s9 _ _ hq
      have hx1 := hx1.mono s9
      have st9 : Step b H1 H9 := (st7.more s8).more s9
      walk_at "go"
      refine ⟨_, _, rfl, ?_⟩
      walk_at "go"
      refine w_eqD (dp_pair e1) (dp_pair hq) (shaped_pair _ _) (shaped_pair _ _) ?_
      rw [eqv_pair]
      walk_at "go"
      refine own_eq T hx1 hx2 ?_
      walk_at "go"
      refine w_ne rfl ?_
      rw [decide_eq_true rfl]
      walk_at "go"
      refine iteF ?_
      walk_at "go"
      refine own_eq T hx2 hx1 ?_
      walk_at "go"
      refine w_ne rfl ?_
      have cm : (decide (lo2 = lo) && decide (hi2 = hi)) = (decide (lo = lo2) && decide (hi = hi2)) := by
        congr 1 <;> exact decide_eq_decide.mpr eq_comm
      rw [cm, decide_eq_true rfl]
      walk_at "go"
      refine iteF ?_
      walk_at "go"
      refine own_ne T hx1 hx2 ?_
      walk_at "go"
      refine w_eq rfl ?_
      have nn : ∀ c : Bool, decide (V.bl (!c) = V.bl c) = false := by intro c; cases c <;> rfl
      rw [nn]
      walk_at "go"
      refine iteF ?_
      walk_at "go"
      refine w_list (.inr (SqT.at e1)) fun ll H10 nll s10 hll => ?_
      have e1 := s10 _ _ e1
      have hq := s10 _ _ hq
      have hx1 := hx1.mono s10
      have hx2 := hx2.mono s10
      walk_at "go"
      refine own_txt hx1 sl sh ?_
      walk_at "go"
      refine w_ixT (SqT.at e1) rfl ?_
      walk_at "go"
      refine k_tup (by show 1 ≤ sizeLine; decide) fun tt H11 ntt s11 htt => ?_
      have e1 := s11 _ _ e1
      have hq := s11 _ _ hq
      have hll := s11 _ _ hll
      have hx1 := hx1.mono s11
      have hx2 := hx2.mono s11
      walk_at "go"
      refine k_lst (by show 6 ≤ sizeLine; decide) fun lx H12 nlx s12 hlx => ⟨lx, rfl, ⟨_, SqL.at hlx⟩, ?_⟩
      have e1 := s12 _ _ e1
      have hq := s12 _ _ hq
      have hll := s12 _ _ hll
      have htt := s12 _ _ htt
      have hx1 := hx1.mono s12
      have hx2 := hx2.mono s12
      have st12 : Step b H1 H12 := ((st9.more s10).more s11).more s12
      refine k_forL (xs := [.ref p1, .ref ll, .str (bandTxt lo hi), .non, eV lo, .ref tt]) (fun i σ H' => (∃ v8 v9 v10, σ = [some (.ref a), some (.int at_), some (.ref b), some (.ref p1), some (.ref q), some (.ref x1), some (.ref x2), some (.bl (decide (lo = lo2) && decide (hi = hi2))), v8, v9, v10]) ∧ Same H12 H')
        ⟨⟨_, _, _, rfl⟩, Same.refl _⟩ (fun i σ H' p => p.2.seq (SqL.at hlx)) ?_ ?_
      · rintro i x σ H' hi' ⟨⟨v8', v9', v10', rfl⟩, s'⟩
        have nb : NotB K g.c_Band H' x := by
          match i, hi' with
          | 0, h => cases h; exact .dat T.i_Band (dp_pair (s' _ _ e1))
          | 1, h => cases h; exact .dat T.i_Band (.lst (SqL.at (s' _ _ hll)) (.cons (dp_e lo) (.cons (dp_e hi) .nil)))
          | 2, h => cases h; exact .dat T.i_Band (.str _)
          | 3, h => cases h; exact .dat T.i_Band .non
          | 4, h => cases h; exact .dat T.i_Band (dp_e lo)
          | 5, h => cases h; exact .tup T.i_Band (s' _ _ htt)
        have hx1 := hx1.mono s'
        walk_at "go"
        refine own_eq0 hx1 nb ?_
        walk_at "go"
        refine iteF ?_
        walk_at "go"
        refine own_ne0 hx1 nb ?_
        walk_at "go"
        refine iteF ?_
        walk_at "go"
        exact ⟨⟨_, _, _, rfl⟩, s'⟩
      · rintro σ H13 ⟨⟨v8', v9', v10', rfl⟩, s13⟩
        have e1 := s13 _ _ e1
        have hq := s13 _ _ hq
        have hx1 := hx1.mono s13
        have hx2 := hx2.mono s13
        walk_at "go"
        refine k_tup (by show 2 ≤ sizeLine; decide) fun u1 H14 nu1 s14 hu1 => ?_
        walk_at "go"
        refine k_tup (by show 2 ≤ sizeLine; decide) fun u2 H15 nu2 s15 hu2 => ?_
        walk_at "go"
        refine k_lst (by show 2 ≤ sizeLine; decide) fun ly H16 nly s16 hly => ⟨ly, rfl, ⟨_, SqL.at hly⟩, ?_⟩
        have s46 := (s14.trans s15).trans s16
        have e1 := s46 _ _ e1
        have hq := s46 _ _ hq
        have hx1 := hx1.mono s46
        have hx2 := hx2.mono s46
        have hu1 := s16 _ _ (s15 _ _ hu1)
        have hu2 := s16 _ _ hu2
        refine k_forL (xs := [.ref u1, .ref u2]) (fun i σ H' => (∃ v8 v9 v10, σ = [some (.ref a), some (.int at_), some (.ref b), some (.ref p1), some (.ref q), some (.ref x1), some (.ref x2), some (.bl (decide (lo = lo2) && decide (hi = hi2))), v8, v9, v10]) ∧ Same H16 H')
          ⟨⟨_, _, _, rfl⟩, Same.refl _⟩ (fun i σ H' p => p.2.seq (SqL.at hly)) ?_ ?_
        · rintro i x σ H' hi' ⟨⟨v8'', v9'', v10'', rfl⟩, s'⟩
          obtain ⟨t, y, p, l1, l2, rfl, ht, hy, hp, h1, h2⟩ : ∃ t y p l1 l2, x = V.ref t ∧ H' t = some (.tup [.ref y, .ref p]) ∧ BandAt g.c_Band H' y l1 l2 ∧ H' p = some (.tup [eV l1, eV l2]) ∧ Small l1 ∧ Small l2 := by
            match i, hi' with
            | 0, h => cases h; exact ⟨u1, x1, p1, lo, hi, rfl, s' _ _ hu1, hx1.mono s', s' _ _ e1, sl, sh⟩
            | 1, h => cases h; exact ⟨u2, x2, q, lo2, hi2, rfl, s' _ _ hu2, hx2.mono s', s' _ _ hq, sl2, sh2⟩
          have l1' := len_txt h1
          have l2' := len_txt h2
          have l3' := len_nam h1
          have l4' := len_nam h2
          have z0 : (Str.ofString "..").length = 2 := rfl
          have z1 : (Str.ofString "Band(").length = 5 := rfl
          have z2 : (Str.ofString ", ").length = 2 := rfl
          have z3 : (Str.ofString ")").length = 1 := rfl
          refine w_gtup (K := K) (SqT.at ht) rfl ?_
          walk_at "go"
          refine own_txt hy h1 h2 ?_
          walk_at "go"
          refine w_ixT (SqT.at hp) rfl ?_
          walk_at "go"
          refine use_txt h1 ?_
          walk_at "go"
          refine w_addS (Nat.le_trans (m := 8000) (by omega) (by decide)) ?_
          walk_at "go"
          refine w_ixT (SqT.at hp) rfl ?_
          walk_at "go"
          refine use_txt h2 ?_
          walk_at "go"
          refine w_addS (Nat.le_trans (m := 8000) (by rw [app_len]; omega) (by decide)) ?_
          walk_at "go"
          refine w_ne rfl ?_
          unfold bandTxt
          rw [decide_eq_true rfl]
          walk_at "go"
          refine iteF ?_
          walk_at "go"
          refine own_rep hy h1 h2 ?_
          walk_at "go"
          refine w_ixT (SqT.at hp) rfl ?_
          walk_at "go"
          refine str_e h1 ?_
          walk_at "go"
          refine w_addS (Nat.le_trans (m := 8000) (by omega) (by decide)) ?_
          walk_at "go"
          refine w_addS (Nat.le_trans (m := 8000) (by rw [app_len]; omega) (by decide)) ?_
          walk_at "go"
          refine w_ixT (SqT.at hp) rfl ?_
          walk_at "go"
          refine str_e h2 ?_
          walk_at "go"
          refine w_addS (Nat.le_trans (m := 8000) (by rw [app_len, app_len]; omega) (by decide)) ?_
          walk_at "go"
          refine w_addS (Nat.le_trans (m := 8000) (by rw [app_len, app_len, app_len]; omega) (by decide)) ?_
          walk_at "go"
          refine w_ne rfl ?_
          unfold bandRep
          rw [decide_eq_true rfl]
          walk_at "go"
          refine iteF ?_
          walk_at "go"
          refine own_txt hy h1 h2 ?_
          walk_at "go"
          refine own_txt hy h1 h2 ?_
          walk_at "go"
          refine w_ne rfl ?_
          rw [decide_eq_true rfl]
          walk_at "go"
          refine iteF ?_
          walk_at "go"
          exact ⟨⟨_, _, _, rfl⟩, s'⟩
        · rintro σ H17 ⟨⟨v8'', v9'', v10'', rfl⟩, s17⟩
          exact ⟨⟨_, _, _, _, _, _, _, _, _, _, rfl⟩, s0.trans ((((st12.old s1 nb).trans s13).trans s46).trans s17)⟩
    · rintro σ H' ⟨⟨v1, v2, v3, v4, v5, v6, v7, v8, v9, v10, rfl⟩, s0⟩
      walk_at "go"
      refine use_band (lo := none) (hi := none) rfl fun y1 H1 n1 s1 h1 => ?_
      refine own_txt h1 small0 small0 ?_
      walk_at "go"
      refine w_eq rfl ?_
      have e : decide (V.str (bandTxt none none) = V.str (Str.ofString "..")) = true := by decide +kernel
      rw [e]
      walk_at "go"
      refine iteT ?_
      walk_at "go"
      refine k_makeK rfl (fun _ => rfl) (use_band (lo := none) (hi := some 7) rfl fun y2 H2 n2 s2 h2 => ?_)
      walk_at "go"
      refine own_rep h2 small0 (fun i h => by cases h; decide) ?_
      walk_at "go"
      refine w_eq rfl ?_
      have e2 : decide (V.str (bandRep none (some 7)) = V.str (Str.ofString "Band(None, 7)")) = true := by decide +kernel
      rw [e2]
      exact k _
end
theorem all_mk {P : Program} {w : World} {K : PySem.W.Frag} {h : Heap} {mg : Str → Option Value} {fa : Addr} (X : K.In h) (G : h.Ns mainGlobals mg) (hfa : mg "law" = some (.ref fa))
    {c_Band : Addr}
    {f_is_whole : Addr} {od_is_whole an_is_whole : Option Addr} {sl_is_whole : Array (Option Value)} {oc_is_whole kV_is_whole dc_is_whole pm_is_whole cd_is_whole ct_is_whole : Value}
    {f_is_end : Addr} {od_is_end an_is_end : Option Addr} {sl_is_end : Array (Option Value)} {oc_is_end kV_is_end dc_is_end pm_is_end cd_is_end ct_is_end : Value}
    {f_is_at_most : Addr} {od_is_at_most an_is_at_most : Option Addr} {sl_is_at_most : Array (Option Value)} {oc_is_at_most kV_is_at_most dc_is_at_most pm_is_at_most cd_is_at_most ct_is_at_most : Value}
    {f_end_text : Addr} {od_end_text an_end_text : Option Addr} {sl_end_text : Array (Option Value)} {oc_end_text kV_end_text dc_end_text pm_end_text cd_end_text ct_end_text : Value}
    {f_Band_init : Addr} {od_Band_init an_Band_init : Option Addr} {sl_Band_init : Array (Option Value)} {oc_Band_init kV_Band_init dc_Band_init pm_Band_init cd_Band_init ct_Band_init : Value}
    {T_Band_init : Addr} {odT_Band_init : Option Addr} {ocT_Band_init : Value} {slT_Band_init : Array (Option Value)} {nT_Band_init : Nat}
    {f_Band_eq : Addr} {od_Band_eq an_Band_eq : Option Addr} {sl_Band_eq : Array (Option Value)} {oc_Band_eq kV_Band_eq dc_Band_eq pm_Band_eq cd_Band_eq ct_Band_eq : Value}
    {f_Band_str : Addr} {od_Band_str an_Band_str : Option Addr} {sl_Band_str : Array (Option Value)} {oc_Band_str kV_Band_str dc_Band_str pm_Band_str cd_Band_str ct_Band_str : Value}
    {f_Band_repr : Addr} {od_Band_repr an_Band_repr : Option Addr} {sl_Band_repr : Array (Option Value)} {oc_Band_repr kV_Band_repr dc_Band_repr pm_Band_repr cd_Band_repr ct_Band_repr : Value}
    {f_l_bag : Addr} {od_l_bag an_l_bag : Option Addr} {sl_l_bag : Array (Option Value)} {oc_l_bag kV_l_bag dc_l_bag pm_l_bag cd_l_bag ct_l_bag : Value}
    {f_l_take : Addr} {od_l_take an_l_take : Option Addr} {sl_l_take : Array (Option Value)} {oc_l_take kV_l_take dc_l_take pm_l_take cd_l_take ct_l_take : Value}
    {f_l_end_of : Addr} {od_l_end_of an_l_end_of : Option Addr} {sl_l_end_of : Array (Option Value)} {oc_l_end_of kV_l_end_of dc_l_end_of pm_l_end_of cd_l_end_of ct_l_end_of : Value}
    {f_l_drawn : Addr} {od_l_drawn an_l_drawn : Option Addr} {sl_l_drawn : Array (Option Value)} {oc_l_drawn kV_l_drawn dc_l_drawn pm_l_drawn cd_l_drawn ct_l_drawn : Value}
    {f_l_text : Addr} {od_l_text an_l_text : Option Addr} {sl_l_text : Array (Option Value)} {oc_l_text kV_l_text dc_l_text pm_l_text cd_l_text ct_l_text : Value}
    {f_law : Addr} {od_law an_law : Option Addr} {sl_law : Array (Option Value)} {oc_law kV_law dc_law pm_law cd_law ct_law : Value}
    (a_Band : PySem.W.nsIn K mainGlobals "Band" = some (some (.ref c_Band)))
    (pg_Band : PySem.W.plainGet K c_Band Str.empty = true)
    (hd_Band : PySem.W.hasDictIn K c_Band = true)
    (po_Band : PySem.W.plainOver K c_Band = true)
    (sa_Band : PySem.W.findIn K (.ref c_Band) "__setattr__" = some (some (.builtin "object.__setattr__")))
    (mk_Band : PySem.W.makesIn K c_Band = true)
    (kc_Band : PySem.W.keepIn K (.ref c_Band) = true)
    (ha_Band : PySem.W.findIn K (.ref c_Band) "__class__" = some (some (.builtin "object.__class__")))
    (hn_Band : PySem.W.specialIn K (.builtin "object.__class__") "__get__" = some (some (.builtin "getset_descriptor.__get__")))
    (ht_Band : PySem.W.takesIn K (.builtin "object.__class__") = some true)
    (hm_Band : PySem.W.mroIn K c_Band (.type "object") = some true)
    (ic_Band : PySem.W.isClsIn K c_Band = true)
    (tc_Band : PySem.W.typeIn K (.ref c_Band) = some (.type "type"))
    (sN_Band : PySem.W.subIn K (.type "NoneType") (.ref c_Band) = some false)
    (sI_Band : PySem.W.subIn K (.type "int") (.ref c_Band) = some false)
    (sB_Band : PySem.W.subIn K (.type "bool") (.ref c_Band) = some false)
    (sS_Band : PySem.W.subIn K (.type "str") (.ref c_Band) = some false)
    (sL_Band : PySem.W.subIn K (.type "list") (.ref c_Band) = some false)
    (sT_Band : PySem.W.subIn K (.type "tuple") (.ref c_Band) = some false)
    (sD_Band : PySem.W.subIn K (.type "dict") (.ref c_Band) = some false)
    (fm_Band : PySem.W.findIn K (.ref c_Band) "__format__" = some (some (.builtin "object.__format__")))
    (ne_Band : PySem.W.findIn K (.ref c_Band) "__ne__" = some (some (.builtin "object.__ne__")))
    (na_Band_low : PySem.W.findIn K (.ref c_Band) "low" = some none)
    (na_Band_high : PySem.W.findIn K (.ref c_Band) "high" = some none)
    (a_is_whole : PySem.W.nsIn K mainGlobals "is_whole" = some (some (.ref f_is_whole)))
    (l_is_whole : K.lookup f_is_whole = some ⟨oc_is_whole, od_is_whole, .func (PySem.W.fnOf "is_whole" "is_whole" (defArgs s_is_whole) (defBody s_is_whole) (defScope s_is_whole) .none kV_is_whole dc_is_whole pm_is_whole an_is_whole cd_is_whole ct_is_whole), sl_is_whole⟩)
    (c_is_whole : PySem.W.codeIn K cd_is_whole "is_whole" = true)
    (k_is_whole : PySem.W.keepIn K (.ref f_is_whole) = true)
    (a_is_end : PySem.W.nsIn K mainGlobals "is_end" = some (some (.ref f_is_end)))
    (l_is_end : K.lookup f_is_end = some ⟨oc_is_end, od_is_end, .func (PySem.W.fnOf "is_end" "is_end" (defArgs s_is_end) (defBody s_is_end) (defScope s_is_end) .none kV_is_end dc_is_end pm_is_end an_is_end cd_is_end ct_is_end), sl_is_end⟩)
    (c_is_end : PySem.W.codeIn K cd_is_end "is_end" = true)
    (k_is_end : PySem.W.keepIn K (.ref f_is_end) = true)
    (a_is_at_most : PySem.W.nsIn K mainGlobals "is_at_most" = some (some (.ref f_is_at_most)))
    (l_is_at_most : K.lookup f_is_at_most = some ⟨oc_is_at_most, od_is_at_most, .func (PySem.W.fnOf "is_at_most" "is_at_most" (defArgs s_is_at_most) (defBody s_is_at_most) (defScope s_is_at_most) .none kV_is_at_most dc_is_at_most pm_is_at_most an_is_at_most cd_is_at_most ct_is_at_most), sl_is_at_most⟩)
    (c_is_at_most : PySem.W.codeIn K cd_is_at_most "is_at_most" = true)
    (k_is_at_most : PySem.W.keepIn K (.ref f_is_at_most) = true)
    (a_end_text : PySem.W.nsIn K mainGlobals "end_text" = some (some (.ref f_end_text)))
    (l_end_text : K.lookup f_end_text = some ⟨oc_end_text, od_end_text, .func (PySem.W.fnOf "end_text" "end_text" (defArgs s_end_text) (defBody s_end_text) (defScope s_end_text) .none kV_end_text dc_end_text pm_end_text an_end_text cd_end_text ct_end_text), sl_end_text⟩)
    (c_end_text : PySem.W.codeIn K cd_end_text "end_text" = true)
    (k_end_text : PySem.W.keepIn K (.ref f_end_text) = true)
    (a_Band_init : PySem.W.findIn K (.ref c_Band) "__init__" = some (some (.ref f_Band_init)))
    (i_Band_init : PySem.W.isFn K (.ref f_Band_init) = true)
    (l_Band_init : K.lookup f_Band_init = some ⟨oc_Band_init, od_Band_init, .func (PySem.W.fnOf "__init__" "Band.__init__" (defArgs s_Band_init) (defBody s_Band_init) (defScope s_Band_init) (.ref T_Band_init) kV_Band_init dc_Band_init pm_Band_init an_Band_init cd_Band_init ct_Band_init), sl_Band_init⟩)
    (c_Band_init : PySem.W.codeIn K cd_Band_init "Band.__init__" = true)
    (k_Band_init : PySem.W.keepIn K (.ref f_Band_init) = true)
    (lT_Band_init : K.lookup T_Band_init = some ⟨ocT_Band_init, odT_Band_init, .seq #[.none, .none] nT_Band_init, slT_Band_init⟩)
    (a_Band_eq : PySem.W.findIn K (.ref c_Band) "__eq__" = some (some (.ref f_Band_eq)))
    (i_Band_eq : PySem.W.isFn K (.ref f_Band_eq) = true)
    (l_Band_eq : K.lookup f_Band_eq = some ⟨oc_Band_eq, od_Band_eq, .func (PySem.W.fnOf "__eq__" "Band.__eq__" (defArgs s_Band_eq) (defBody s_Band_eq) (defScope s_Band_eq) .none kV_Band_eq dc_Band_eq pm_Band_eq an_Band_eq cd_Band_eq ct_Band_eq), sl_Band_eq⟩)
    (c_Band_eq : PySem.W.codeIn K cd_Band_eq "Band.__eq__" = true)
    (k_Band_eq : PySem.W.keepIn K (.ref f_Band_eq) = true)
    (a_Band_str : PySem.W.findIn K (.ref c_Band) "__str__" = some (some (.ref f_Band_str)))
    (i_Band_str : PySem.W.isFn K (.ref f_Band_str) = true)
    (l_Band_str : K.lookup f_Band_str = some ⟨oc_Band_str, od_Band_str, .func (PySem.W.fnOf "__str__" "Band.__str__" (defArgs s_Band_str) (defBody s_Band_str) (defScope s_Band_str) .none kV_Band_str dc_Band_str pm_Band_str an_Band_str cd_Band_str ct_Band_str), sl_Band_str⟩)
    (c_Band_str : PySem.W.codeIn K cd_Band_str "Band.__str__" = true)
    (k_Band_str : PySem.W.keepIn K (.ref f_Band_str) = true)
    (a_Band_repr : PySem.W.findIn K (.ref c_Band) "__repr__" = some (some (.ref f_Band_repr)))
    (i_Band_repr : PySem.W.isFn K (.ref f_Band_repr) = true)
    (l_Band_repr : K.lookup f_Band_repr = some ⟨oc_Band_repr, od_Band_repr, .func (PySem.W.fnOf "__repr__" "Band.__repr__" (defArgs s_Band_repr) (defBody s_Band_repr) (defScope s_Band_repr) .none kV_Band_repr dc_Band_repr pm_Band_repr an_Band_repr cd_Band_repr ct_Band_repr), sl_Band_repr⟩)
    (c_Band_repr : PySem.W.codeIn K cd_Band_repr "Band.__repr__" = true)
    (k_Band_repr : PySem.W.keepIn K (.ref f_Band_repr) = true)
    (a_l_bag : PySem.W.nsIn K mainGlobals "_law_bag" = some (some (.ref f_l_bag)))
    (l_l_bag : K.lookup f_l_bag = some ⟨oc_l_bag, od_l_bag, .func (PySem.W.fnOf "_law_bag" "_law_bag" (defArgs s_l_bag) (defBody s_l_bag) (defScope s_l_bag) .none kV_l_bag dc_l_bag pm_l_bag an_l_bag cd_l_bag ct_l_bag), sl_l_bag⟩)
    (c_l_bag : PySem.W.codeIn K cd_l_bag "_law_bag" = true)
    (k_l_bag : PySem.W.keepIn K (.ref f_l_bag) = true)
    (a_l_take : PySem.W.nsIn K mainGlobals "_law_take" = some (some (.ref f_l_take)))
    (l_l_take : K.lookup f_l_take = some ⟨oc_l_take, od_l_take, .func (PySem.W.fnOf "_law_take" "_law_take" (defArgs s_l_take) (defBody s_l_take) (defScope s_l_take) .none kV_l_take dc_l_take pm_l_take an_l_take cd_l_take ct_l_take), sl_l_take⟩)
    (c_l_take : PySem.W.codeIn K cd_l_take "_law_take" = true)
    (k_l_take : PySem.W.keepIn K (.ref f_l_take) = true)
    (a_l_end_of : PySem.W.nsIn K mainGlobals "_law_end_of" = some (some (.ref f_l_end_of)))
    (l_l_end_of : K.lookup f_l_end_of = some ⟨oc_l_end_of, od_l_end_of, .func (PySem.W.fnOf "_law_end_of" "_law_end_of" (defArgs s_l_end_of) (defBody s_l_end_of) (defScope s_l_end_of) .none kV_l_end_of dc_l_end_of pm_l_end_of an_l_end_of cd_l_end_of ct_l_end_of), sl_l_end_of⟩)
    (c_l_end_of : PySem.W.codeIn K cd_l_end_of "_law_end_of" = true)
    (k_l_end_of : PySem.W.keepIn K (.ref f_l_end_of) = true)
    (a_l_drawn : PySem.W.nsIn K mainGlobals "_law_drawn" = some (some (.ref f_l_drawn)))
    (l_l_drawn : K.lookup f_l_drawn = some ⟨oc_l_drawn, od_l_drawn, .func (PySem.W.fnOf "_law_drawn" "_law_drawn" (defArgs s_l_drawn) (defBody s_l_drawn) (defScope s_l_drawn) .none kV_l_drawn dc_l_drawn pm_l_drawn an_l_drawn cd_l_drawn ct_l_drawn), sl_l_drawn⟩)
    (c_l_drawn : PySem.W.codeIn K cd_l_drawn "_law_drawn" = true)
    (k_l_drawn : PySem.W.keepIn K (.ref f_l_drawn) = true)
    (a_l_text : PySem.W.nsIn K mainGlobals "_law_text" = some (some (.ref f_l_text)))
    (l_l_text : K.lookup f_l_text = some ⟨oc_l_text, od_l_text, .func (PySem.W.fnOf "_law_text" "_law_text" (defArgs s_l_text) (defBody s_l_text) (defScope s_l_text) .none kV_l_text dc_l_text pm_l_text an_l_text cd_l_text ct_l_text), sl_l_text⟩)
    (c_l_text : PySem.W.codeIn K cd_l_text "_law_text" = true)
    (k_l_text : PySem.W.keepIn K (.ref f_l_text) = true)
    (a_law : PySem.W.nsIn K mainGlobals "law" = some (some (.ref f_law)))
    (l_law : K.lookup f_law = some ⟨oc_law, od_law, .func (PySem.W.fnOf "law" "law" (defArgs s_law) (defBody s_law) (defScope s_law) .none kV_law dc_law pm_law an_law cd_law ct_law), sl_law⟩)
    (c_law : PySem.W.codeIn K cd_law "law" = true)
    (k_law : PySem.W.keepIn K (.ref f_law) = true)
    (z_len : PySem.W.nsIn K mainGlobals "len" = some none)
    (z_abs : PySem.W.nsIn K mainGlobals "abs" = some none)
    (z_max : PySem.W.nsIn K mainGlobals "max" = some none)
    (z_min : PySem.W.nsIn K mainGlobals "min" = some none)
    (z_isinstance : PySem.W.nsIn K mainGlobals "isinstance" = some none)
    (z_repr : PySem.W.nsIn K mainGlobals "repr" = some none)
    (z_range : PySem.W.nsIn K mainGlobals "range" = some none)
    (z_int : PySem.W.nsIn K mainGlobals "int" = some none)
    (z_bool : PySem.W.nsIn K mainGlobals "bool" = some none)
    (z_str : PySem.W.nsIn K mainGlobals "str" = some none)
    (z_list : PySem.W.nsIn K mainGlobals "list" = some none)
    : ∃ fd : FuncData, (∀ (s : Shared) (v : Value), BindsTo s fd ⟨[v], []⟩ [("_law_script", v)]) ∧ ∀ base : Heap, K.In base → base.Ns mainGlobals mg → FnG P w K mg base CX0 5 fa fd ["_law_script"] (spLaw K) := by
  have e := hfa.symm.trans (PySem.W.mg_of X G a_law)
  have e2 : f_law = fa := by injection e with e; injection e with e; exact e.symm
  subst e2
  have F_is_whole := fun_mk (st := s_is_whole) l_is_whole c_is_whole k_is_whole
  have b_is_whole := F_is_whole.binds (ps := ["thing"]) fun _ _ _ _ _ _ us hl => match us, hl with | [_], _ => rfl
  have F_is_end := fun_mk (st := s_is_end) l_is_end c_is_end k_is_end
  have b_is_end := F_is_end.binds (ps := ["thing"]) fun _ _ _ _ _ _ us hl => match us, hl with | [_], _ => rfl
  have F_is_at_most := fun_mk (st := s_is_at_most) l_is_at_most c_is_at_most k_is_at_most
  have b_is_at_most := F_is_at_most.binds (ps := ["low", "high"]) fun _ _ _ _ _ _ us hl => match us, hl with | [_, _], _ => rfl
  have F_end_text := fun_mk (st := s_end_text) l_end_text c_end_text k_end_text
  have b_end_text := F_end_text.binds (ps := ["end"]) fun _ _ _ _ _ _ us hl => match us, hl with | [_], _ => rfl
  have D_Band_init : FunD K "__init__" "Band.__init__" (defArgs s_Band_init) (defBody s_Band_init) (defScope s_Band_init) [.non, .non] [] f_Band_init _ := ⟨⟨oc_Band_init, od_Band_init, .ref T_Band_init, kV_Band_init, dc_Band_init, pm_Band_init, an_Band_init, cd_Band_init, ct_Band_init, sl_Band_init, rfl, l_Band_init, c_Band_init, .inr ⟨by simp, T_Band_init, _, [.none, .none], nT_Band_init, rfl, lT_Band_init, rfl, (.cons rfl (.cons rfl .nil))⟩, .inl rfl⟩, k_Band_init⟩
  obtain ⟨ds_Band_init, vd_Band_init, b_Band_init⟩ := D_Band_init.binds1 (ps := ["self", "low", "high"]) 3 2 (by simp) rfl (fun T kV doc pm an cdv ct us its h1 h2 => match us, its, h1, h2 with | [_, _, _], [_, _], _, _ => ⟨_, rfl, rfl⟩)
  have vd_Band_init : Vals [] ds_Band_init := vd_Band_init
  cases vd_Band_init
  have b0_Band_init := D_Band_init.binds1 (ps := ["self", "low", "high"]) 1 0 (by simp) rfl (fun T kV doc pm an cdv ct us its h1 h2 => match us, its, h1, h2 with | [_], [_, _], _, _ => ⟨_, rfl, rfl⟩)
  have b1_Band_init := D_Band_init.binds1 (ps := ["self", "low", "high"]) 2 1 (by simp) rfl (fun T kV doc pm an cdv ct us its h1 h2 => match us, its, h1, h2 with | [_, _], [_, _], _, _ => ⟨_, rfl, rfl⟩)
  have F_Band_eq := fun_mk (st := s_Band_eq) l_Band_eq c_Band_eq k_Band_eq
  have b_Band_eq := F_Band_eq.binds (ps := ["self", "other"]) fun _ _ _ _ _ _ us hl => match us, hl with | [_, _], _ => rfl
  have F_Band_str := fun_mk (st := s_Band_str) l_Band_str c_Band_str k_Band_str
  have b_Band_str := F_Band_str.binds (ps := ["self"]) fun _ _ _ _ _ _ us hl => match us, hl with | [_], _ => rfl
  have F_Band_repr := fun_mk (st := s_Band_repr) l_Band_repr c_Band_repr k_Band_repr
  have b_Band_repr := F_Band_repr.binds (ps := ["self"]) fun _ _ _ _ _ _ us hl => match us, hl with | [_], _ => rfl
  have F_l_bag := fun_mk (st := s_l_bag) l_l_bag c_l_bag k_l_bag
  have b_l_bag := F_l_bag.binds (ps := ["_law_script", "_law_at"]) fun _ _ _ _ _ _ us hl => match us, hl with | [_, _], _ => rfl
  have F_l_take := fun_mk (st := s_l_take) l_l_take c_l_take k_l_take
  have b_l_take := F_l_take.binds (ps := ["_law_bag_here", "_law_many"]) fun _ _ _ _ _ _ us hl => match us, hl with | [_, _], _ => rfl
  have F_l_end_of := fun_mk (st := s_l_end_of) l_l_end_of c_l_end_of k_l_end_of
  have b_l_end_of := F_l_end_of.binds (ps := ["_law_bag_here"]) fun _ _ _ _ _ _ us hl => match us, hl with | [_], _ => rfl
  have F_l_drawn := fun_mk (st := s_l_drawn) l_l_drawn c_l_drawn k_l_drawn
  have b_l_drawn := F_l_drawn.binds (ps := ["_law_bag_here"]) fun _ _ _ _ _ _ us hl => match us, hl with | [_], _ => rfl
  have F_l_text := fun_mk (st := s_l_text) l_l_text c_l_text k_l_text
  have b_l_text := F_l_text.binds (ps := ["_law_end"]) fun _ _ _ _ _ _ us hl => match us, hl with | [_], _ => rfl
  have F_law := fun_mk (st := s_law) l_law c_law k_law
  have b_law := F_law.binds (ps := ["_law_script"]) fun _ _ _ _ _ _ us hl => match us, hl with | [_], _ => rfl
  have kb_Band_init_high : ∃ g0, KBn K (PySem.W.fnOf "__init__" "Band.__init__" (defArgs s_Band_init) (defBody s_Band_init) (defScope s_Band_init) (.ref T_Band_init) kV_Band_init dc_Band_init pm_Band_init an_Band_init cd_Band_init ct_Band_init) ["self", "low", "high"] 1 ["high"] g0 (fun vs zs => vs ++ [.non, zs.getD 0 .non]) := by
    obtain ⟨oc, od, dV, kV, doc, pm, an, cdv, ct, osl, efd, lk, hcd, hD, hK⟩ := D_Band_init.ex
    rcases hD with ⟨e, _⟩ | ⟨_, T, o, its, m, rfl, lT, oT, rT⟩
    · cases e
    · refine ⟨fun us ws => us ++ [its.getD 0 .none, ws.getD 0 .none], ⟨fun s us ws X l1 l2 => ?_, fun r1 r2 => ?_⟩⟩
      · refine BindsTo.of_looks fun M => ?_
        have h2 := rT.length
        match us, its, ws, l1, h2, l2, oT with
        | [_], [i0, i1], [w0], _, _, _, oT =>
          rw [efd]
          exact looks_items X lT oT (.of_pure rfl)
      · have h2 := rT.length
        exact r1.append (.cons (getD_rel rT 0) (.cons (getD_rel r2 0) (.nil)))
  have T : Gk K mg ⟨c_Band, f_is_whole, _, f_is_end, _, f_is_at_most, _, f_end_text, _, f_Band_init, _, f_Band_eq, _, f_Band_str, _, f_Band_repr, _, f_l_bag, _, f_l_take, _, f_l_end_of, _, f_l_drawn, _, f_l_text, _, f_law, _⟩ := {
    m_Band := PySem.W.mg_of X G a_Band,
    cl_Band := ⟨pg_Band, hd_Band, po_Band, sa_Band⟩,
    i_Band := ⟨ha_Band, hn_Band, ht_Band, hm_Band, ic_Band, tc_Band, sN_Band, sI_Band, sB_Band, sS_Band, sL_Band, sT_Band, sD_Band⟩,
    fm_Band := fm_Band,
    ne_Band := ne_Band,
    na_Band_low := na_Band_low,
    na_Band_high := na_Band_high,
    F_is_whole := F_is_whole,
    b_is_whole := b_is_whole,
    m_is_whole := PySem.W.mg_of X G a_is_whole,
    F_is_end := F_is_end,
    b_is_end := b_is_end,
    m_is_end := PySem.W.mg_of X G a_is_end,
    F_is_at_most := F_is_at_most,
    b_is_at_most := b_is_at_most,
    m_is_at_most := PySem.W.mg_of X G a_is_at_most,
    F_end_text := F_end_text,
    b_end_text := b_end_text,
    m_end_text := PySem.W.mg_of X G a_end_text,
    kb_Band_init_high := kb_Band_init_high,
    D_Band_init := D_Band_init,
    b_Band_init := b_Band_init,
    b0_Band_init := b0_Band_init,
    b1_Band_init := b1_Band_init,
    k_Band := ⟨mk_Band, a_Band_init, i_Band_init, kc_Band⟩,
    F_Band_eq := F_Band_eq,
    b_Band_eq := b_Band_eq,
    t_Band_eq := ⟨a_Band_eq, i_Band_eq, k_Band_eq⟩,
    F_Band_str := F_Band_str,
    b_Band_str := b_Band_str,
    t_Band_str := ⟨a_Band_str, i_Band_str, k_Band_str⟩,
    F_Band_repr := F_Band_repr,
    b_Band_repr := b_Band_repr,
    t_Band_repr := ⟨a_Band_repr, i_Band_repr, k_Band_repr⟩,
    F_l_bag := F_l_bag,
    b_l_bag := b_l_bag,
    m_l_bag := PySem.W.mg_of X G a_l_bag,
    F_l_take := F_l_take,
    b_l_take := b_l_take,
    m_l_take := PySem.W.mg_of X G a_l_take,
    F_l_end_of := F_l_end_of,
    b_l_end_of := b_l_end_of,
    m_l_end_of := PySem.W.mg_of X G a_l_end_of,
    F_l_drawn := F_l_drawn,
    b_l_drawn := b_l_drawn,
    m_l_drawn := PySem.W.mg_of X G a_l_drawn,
    F_l_text := F_l_text,
    b_l_text := b_l_text,
    m_l_text := PySem.W.mg_of X G a_l_text,
    F_law := F_law,
    b_law := b_law,
    m_law := PySem.W.mg_of X G a_law,
    z_len := PySem.W.mg_none_of X G z_len,
    z_abs := PySem.W.mg_none_of X G z_abs,
    z_max := PySem.W.mg_none_of X G z_max,
    z_min := PySem.W.mg_none_of X G z_min,
    z_isinstance := PySem.W.mg_none_of X G z_isinstance,
    z_repr := PySem.W.mg_none_of X G z_repr,
    z_range := PySem.W.mg_none_of X G z_range,
    z_int := PySem.W.mg_none_of X G z_int,
    z_bool := PySem.W.mg_none_of X G z_bool,
    z_str := PySem.W.mg_none_of X G z_str,
    z_list := PySem.W.mg_none_of X G z_list }
  exact ⟨_, fun s v => .of_eq rfl, fun base _ _ => ok_law T⟩
end Sil
open PySem PySem.W PyProof.Rows
set_option maxRecDepth 100000 in
set_option maxHeartbeats 0 in
theorem PySem.Challenge.cw_silencetells_k03_bands_alike_and_written_holds : PySem.Challenge.rw_silencetells_k03_bands_alike_and_written.Holds := by
  w_on; o_law; k_head; (case hw => w_witness2)
  k_fill
  refine Sil.walkG (l := PySem.Challenge.rw_silencetells_k03_bands_alike_and_written) (k := 5) (sp := Sil.spLaw) (x := "_law_script") rfl rfl ⟨rfl, by decide, by decide⟩ (fun w h Y => PySem.W.kIn_of Y) ?F Sil.spLaw_use
  case F =>
    intro w mg fa h KX G hmg
    refine' Sil.all_mk KX G hmg ?a_Band ?pg_Band ?hd_Band ?po_Band ?sa_Band ?mk_Band ?kc_Band ?ha_Band ?hn_Band ?ht_Band ?hm_Band ?ic_Band ?tc_Band ?sN_Band ?sI_Band ?sB_Band ?sS_Band ?sL_Band ?sT_Band ?sD_Band ?fm_Band ?ne_Band ?na_Band_low ?na_Band_high ?a_is_whole ?l_is_whole ?c_is_whole ?k_is_whole ?a_is_end ?l_is_end ?c_is_end ?k_is_end ?a_is_at_most ?l_is_at_most ?c_is_at_most ?k_is_at_most ?a_end_text ?l_end_text ?c_end_text ?k_end_text ?a_Band_init ?i_Band_init ?l_Band_init ?c_Band_init ?k_Band_init ?lT_Band_init ?a_Band_eq ?i_Band_eq ?l_Band_eq ?c_Band_eq ?k_Band_eq ?a_Band_str ?i_Band_str ?l_Band_str ?c_Band_str ?k_Band_str ?a_Band_repr ?i_Band_repr ?l_Band_repr ?c_Band_repr ?k_Band_repr ?a_l_bag ?l_l_bag ?c_l_bag ?k_l_bag ?a_l_take ?l_l_take ?c_l_take ?k_l_take ?a_l_end_of ?l_l_end_of ?c_l_end_of ?k_l_end_of ?a_l_drawn ?l_l_drawn ?c_l_drawn ?k_l_drawn ?a_l_text ?l_l_text ?c_l_text ?k_l_text ?a_law ?l_law ?c_law ?k_law ?z_len ?z_abs ?z_max ?z_min ?z_isinstance ?z_repr ?z_range ?z_int ?z_bool ?z_str ?z_list
    (case a_Band => k_is); (case pg_Band => k_is); (case hd_Band => k_is); (case po_Band => k_is); (case sa_Band => k_is); (case mk_Band => k_is); (case kc_Band => k_is); (case ha_Band => k_is); (case hn_Band => k_is); (case ht_Band => k_is); (case hm_Band => k_is); (case ic_Band => k_is); (case tc_Band => k_is); (case sN_Band => k_is); (case sI_Band => k_is); (case sB_Band => k_is); (case sS_Band => k_is); (case sL_Band => k_is); (case sT_Band => k_is); (case sD_Band => k_is); (case fm_Band => k_is); (case ne_Band => k_is); (case na_Band_low => k_is); (case na_Band_high => k_is); (case a_is_whole => k_is); (case l_is_whole => k_is); (case c_is_whole => k_is); (case k_is_whole => k_is); (case a_is_end => k_is); (case l_is_end => k_is); (case c_is_end => k_is); (case k_is_end => k_is); (case a_is_at_most => k_is); (case l_is_at_most => k_is); (case c_is_at_most => k_is); (case k_is_at_most => k_is); (case a_end_text => k_is); (case l_end_text => k_is); (case c_end_text => k_is); (case k_end_text => k_is); (case a_Band_init => k_is); (case i_Band_init => k_is); (case l_Band_init => k_is); (case c_Band_init => k_is); (case k_Band_init => k_is); (case lT_Band_init => k_is); (case a_Band_eq => k_is); (case i_Band_eq => k_is); (case l_Band_eq => k_is); (case c_Band_eq => k_is); (case k_Band_eq => k_is); (case a_Band_str => k_is); (case i_Band_str => k_is); (case l_Band_str => k_is); (case c_Band_str => k_is); (case k_Band_str => k_is); (case a_Band_repr => k_is); (case i_Band_repr => k_is); (case l_Band_repr => k_is); (case c_Band_repr => k_is); (case k_Band_repr => k_is); (case a_l_bag => k_is); (case l_l_bag => k_is); (case c_l_bag => k_is); (case k_l_bag => k_is); (case a_l_take => k_is); (case l_l_take => k_is); (case c_l_take => k_is); (case k_l_take => k_is); (case a_l_end_of => k_is); (case l_l_end_of => k_is); (case c_l_end_of => k_is); (case k_l_end_of => k_is); (case a_l_drawn => k_is); (case l_l_drawn => k_is); (case c_l_drawn => k_is); (case k_l_drawn => k_is); (case a_l_text => k_is); (case l_l_text => k_is); (case c_l_text => k_is); (case k_l_text => k_is); (case a_law => k_is); (case l_law => k_is); (case c_law => k_is); (case k_law => k_is); (case z_len => k_is); (case z_abs => k_is); (case z_max => k_is); (case z_min => k_is); (case z_isinstance => k_is); (case z_repr => k_is); (case z_range => k_is); (case z_int => k_is); (case z_bool => k_is); (case z_str => k_is); (case z_list => k_is)
#print axioms PySem.Challenge.cw_silencetells_k03_bands_alike_and_written_holds
