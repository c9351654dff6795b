import PyProof.Rows.All
import Wide.All
import OpenK.AllK
import Wide.FinOn
import HandS.ForMost
import HandS.SortKw
import HandS.IsInst
import HandS.Defaults
import HandS.MakeKw
import HandS.ForExc
import HandS.ExcIs
import HandS.MakeKwOnly
import HandS.Style
import KE.KFmtOwn
import KE.KCallOwn
import PyProof.InstNe
import PyProof.FString2
import HandS.FStr
import HandS.RaiseMore
import HandS.Text
import HandS.Dict
import HandS.More
import HandS.TupAny
import HandS.CallLocal
import HandS.NoneIn
import PyProof.ReprDict
import PyProof.ReprReads
import PyProof.ReprRoads
import HandS.DictEq
import HandS.OwnEq
import HandS.SetBool
import PyProof.Rows.SetFrom
import PyProof.SetRoads
import HandS.Sort
import HandS.Conv
import HandS.Wide
import PySem.Challenge.RW_silencetells_k09_whole_told_is_what_can
set_option Elab.async false
set_option linter.all false
set_option maxRecDepth 100000
set_option maxHeartbeats 1000000
/-! P1: defs that run where no repr is under way (guards told), repr of data, == by an own __eq__ with any answer, max and min with a default, sum with a start. -/
namespace Sil
open PySem L2 PySem.Spec PyProof.Rows

/-! ### no repr under way -/
def Calm (A : Around) : Prop := A.guards = some []

/-- FnOk, where no repr is under way at the call -/
structure FnG (P : Program) (w : World) (K : PySem.W.Frag) (mg : Str → Option Value) (base : Heap) (CX : CXT)
    (k : Nat) (f : Addr) (fd : FuncData) (ps : List Str) (sp : Sp) : Prop where
  len : ∀ vs H Q E, sp vs H Q E → vs.length = ps.length
  go : ∀ (A : Around) (outer : List Env) (s : Shared) (H : Hp) (args : Args) (us : List Value) (vs : List V) (Q : VK) (E : XK),
    Room k A → Calm A → Env0 P w K mg base A outer s H → BindsTo s fd args (ps.zip us) → Vals vs us → sp vs H Q E →
    codeAny (model P w) A (.call (.ref f) args) (CR CX outer P w H s Q E) s

section
variable {P : Program} {w : World} {K : PySem.W.Frag} {mg : Str → Option Value} {base : Heap} {CX : CXT} {k : Nat}
  {f : Addr} {fd : FuncData} {ps : List Str} {sp : Sp}
theorem FnG.of (F : FnOk P w K mg base CX k f fd ps sp) : FnG P w K mg base CX k f fd ps sp :=
  ⟨F.len, fun A o s H a us vs Q E hr _ => F.run A o s H a us vs Q E hr⟩
theorem FnG.up {j : Nat} (F : FnG P w K mg base CX j f fd ps sp) (h : j ≤ k) : FnG P w K mg base CX k f fd ps sp :=
  ⟨F.len, fun A o s H a us vs Q E hr => F.go A o s H a us vs Q E (hr.mono h)⟩

/-- the rule for a def by its body, where no repr is under way -/
theorem fnG_of {name qual : Str} {params : Arguments} {body : List Stmt} {scope : Scope} {dV kV doc pm cdv ct oc : Value} {an od : Option Addr}
    {osl : Array (Option Value)} {N : List Str}
    (lk : K.lookup f = some ⟨oc, od, .func (PySem.W.fnOf name qual params body scope dV kV doc pm an cdv ct), osl⟩)
    (hcd : PySem.W.codeIn K cdv qual = true) (S : FnScope N ps scope) (len : ∀ vs H Q E, sp vs H Q E → vs.length = ps.length)
    (hb : ∀ (A : Around) (outer : List Env) (s : Shared) (H : Hp) (vs : List V) (Q : VK) (E : XK),
      Room k (A.deeper (envOfC qual scope s.heap.objs.size f cdv)) → Calm (A.deeper (envOfC qual scope s.heap.objs.size f cdv)) → sp vs H Q E →
      ∃ t, PSs (cxOf CX P w K mg base N qual scope f cdv A outer s H E) body t ∧ t { nx := fun _ H' => Q .non H', rt := Q } (start N vs) H) :
    FnG P w K mg base CX (k + 1) f (PySem.W.fnOf name qual params body scope dV kV doc pm an cdv ct) ps sp := by
  refine ⟨len, fun A outer s H args us vs Q E hr hg e0 hbi r hsp => ?_⟩
  have kin : K.In s.heap := e0.mod.kin.keeps fun b o e => (e0.bs b o e).1
  have nolim : s.heap.NoLimit := e0.mod.nolimit.keeps fun b o e => (e0.bs b o e).1
  have kinds : ∀ y ∈ ps.zip us, scope.names.lookup y.1 = some .local ∨
      (scope.names.lookup y.1 = some .cell ∧ ((cellsFrom (s.heap.objs.size + 1) scope.names []).lookup y.1).isSome = true) := by
    rintro ⟨n, v⟩ hy
    exact (S.par n (List.of_mem_zip hy).1).imp id fun q => ⟨q, PySem.W.cellsFrom_some _ _ _ (.inl q)⟩
  refine codeAny_call_function hr.depth (kin _ _ lk) rfl S.co S.gen rfl (PySem.W.codeRec_of kin hcd) (hbi _ _ _ _ ?_)
  refine wpAny_newFunctionEnv_cells S.kind kinds fun env he s1 x => ?_
  cases he
  refine ⟨nolim.keeps x.toInCall.keep, codeAny_func ?_⟩
  obtain ⟨t, ht, hq⟩ := hb A outer s H vs Q E (hr.deeper _) hg hsp
  have I0 := inv_start (CX := CX) (E := E) (vs := vs) S hr.hd e0 (len _ _ _ _ hsp) r x
  refine wpAny_mono (ht.run [] s1 (start N vs) H _ I0 hq) (fun fl s' hs => ?_) fun e s' hs => hs
  cases fl with
  | ret u => obtain ⟨v, σ', H', J, rv, q⟩ := hs; exact ⟨v, H', J.os, J.bare, J.base, J.hok, rv, q⟩
  | next => obtain ⟨σ', H', J, q⟩ := hs; exact ⟨.non, H', J.os, J.bare, J.base, J.hok, rfl, q⟩
  | brk => obtain ⟨_, _, _, q⟩ := hs; exact q.elim
  | cont => obtain ⟨_, _, _, q⟩ := hs; exact q.elim
/-- .. of a def of the text from which no error comes -/
theorem funG_ok {x qual : Str} {st : Stmt} {N : List Str} (F : Fun K x qual st f fd) (S : FnScope N ps (defScope st))
    (len : ∀ vs H Q E, sp vs H Q E → vs.length = ps.length)
    (hb : ∀ (cdv : Value) (A : Around) (outer : List Env) (s : Shared) (H : Hp) (vs : List V) (Q : VK) (E : XK),
      Room k (A.deeper (envOfC qual (defScope st) s.heap.objs.size f cdv)) → Calm (A.deeper (envOfC qual (defScope st) s.heap.objs.size f cdv)) → sp vs H Q E →
      ∃ t, PSs (cxOf CX0 P w K mg base N qual (defScope st) f cdv A outer s H E).nox (defBody st) t ∧ t { nx := fun _ H' => Q .non H', rt := Q } (start N vs) H) :
    FnG P w K mg base CX0 (k + 1) f fd ps sp := by
  obtain ⟨oc, od, kV, doc, pm, an, cdv, ct, osl, rfl, lk, hcd⟩ := F.ex
  refine fnG_of lk hcd S len fun A outer s H vs Q E hr hg hsp => ?_
  obtain ⟨t, h, q⟩ := hb cdv A outer s H vs Q E hr hg hsp
  exact ⟨t, h.nox, q⟩
end

section
variable {X : Cx} {CX : CXT} {k : Nat} {f : Addr} {fd : FuncData} {ps : List Str} {sp : Sp} {dvs : List V} {ds : List Value} {E : XK}
  {x : Str} {p pos : Pos} {e : Expr} {es : List Expr} {t : TA}
theorem run_fnG {pins : List (Addr × Obj)} {σ : L2.St} {H : Hp} {s : Shared} {Q : VK} {us : List Value} {vs : List V}
    (F : FnG X.prog X.w X.K X.mg X.base CX k f fd ps sp) (hr : Room k X.A) (hg : Calm X.A) (hb : Binds X.K fd ps ds) (hd : Vals dvs ds) (hx : Passes CX X E)
    (I : Inv X pins σ H s) (r : Vals vs us) (h : sp (vs ++ dvs) H Q E) : wpAny (model X.prog X.w) X.A (call (.ref f) us) (EP X pins σ Q) X.xe s := by
  have r2 : Vals (vs ++ dvs) (us ++ ds) := r.append hd
  have hl : (us ++ ds).length = ps.length := r2.length ▸ F.len _ _ _ _ h
  refine wpAny_call (codeAny_mono (F.go X.A X.stack s H ⟨us, []⟩ (us ++ ds) (vs ++ dvs) Q E hr hg I.env0 (hb s us I.kIn hl) r2 h) ?_)
  rintro (e | fl) s' hq
  · exact hx pins σ H s e s' I hq
  · cases fl with
    | ret u => exact I.after hq
    | next => exact hq.elim
    | brk => exact hq.elim
    | cont => exact hq.elim
/-- f(e, ..), where no repr is under way -/
theorem pe_callG (F : FnG X.prog X.w X.K X.mg X.base CX k f fd ps sp) (hr : Room k X.A) (hc : Calm X.A) (hg : Gl X x) (hm : X.mg x = some (.ref f))
    (hk : PySem.W.keepIn X.K (.ref f) = true) (hb : Binds X.K fd ps ds) (hd : Vals dvs ds) (hx : Passes CX X E) (ha : PA X (e :: es) t)
    (hdb : (x == ("__debug__" : Str)) = false := by decide) (he : starEach (e :: es) X.env = (false, eval e X.env) :: starEach es X.env := by rfl)
    (hpl : (backTo pos (starEach es X.env)).any (·.1) = false := by rfl) : PE X (.Call (.Name x p) (e :: es) [] pos) (tCall sp dvs E t) := by
  refine ⟨fun pins s σ H Q I h => wpAny_Call_Name_kw (ld_glob I hg hm ?_ hdb)⟩
  refine PySem.W.callWith_K (h₀ := X.base) I.ok.mod.kin hk (thn (ha.run pos pins s σ H _ I h) ?_) he hpl
  rintro us s1 ⟨vs, H1, I1, r, q⟩
  exact ⟨I1.kIn, run_fnG F hr hc hb hd hx I1 r q⟩
end

/-! ### repr -/
def rRepr (K : PySem.W.Frag) : List V → Hp → VK → Prop := fun xs H Q => ∃ v d, xs = [v] ∧ Dp K H v d ∧ d.showable = true ∧ d.hasDict = false ∧
  d.depth ≤ 40 ∧ d.shown.length ≤ sizeLine ∧ Q (.str d.shown) H
theorem cr_repr {X : Cx} {k : Nat} (hr : Room k X.A) (hg : Calm X.A) : CallR X (.builtin "repr") (rRepr X.K) := by
  intro pins s σ H xs us Q I r h
  obtain ⟨v, d, rfl, hd, hs, hn, hdp, hz, q⟩ := h
  obtain ⟨u, rfl, ru⟩ := vals1 r
  obtain ⟨as, rd⟩ := Dp.reads I d v u hd ru
  have back : ∀ h' tk t, (∀ b o, s.heap.get? b = some o → h'.get? b = some o) → EP X pins σ Q (.str d.shown t) { s with heap := h', toks := tk } :=
    fun h' tk t hk => ⟨.str d.shown, H, I.kept hk, ⟨t, rfl⟩, q⟩
  have hu := hr.units
  cases hd with
  | lst _ _ =>
    cases ru
    exact repr_of_reads' rd hs (PyData.noDict_hsm hn) hg (by omega) (fun _ _ e => e) (fun h' t tk hk => back h' tk t hk) hz
  | tup _ _ =>
    cases ru
    exact repr_of_reads' rd hs (PyData.noDict_hsm hn) hg (by omega) (fun _ _ e => e) (fun h' t tk hk => back h' tk t hk) hz
  | non =>
    cases ru
    exact PySem.P.repr_of_none (back _ _ _ fun _ _ e => e)
  | bl b =>
    cases ru
    exact PySem.P.repr_of_bool (back _ _ _ fun _ _ e => e)
  | int i =>
    obtain ⟨t, rfl⟩ := ru
    exact PySem.P.repr_of_int (of_decide_eq_true hs) (back _ _ _ fun _ _ e => e)
  | str z =>
    obtain ⟨t, rfl⟩ := ru
    exact PySem.P.repr_of_str (back _ _ _ fun _ _ e => e) hz

/-! ### == by an own __eq__ -/
/-- what the compare by an own method asks: the left is an instance of C whose class says == by the def of the promise sp; the right one's type is told -/
def rOwn (K : PySem.W.Frag) (C : Addr) (sp : Sp) (E : XK) : R2 := fun x y H Q => ∃ a dx fs ty, x = .ref a ∧ H a = some (.ins C dx fs) ∧
  TyX K H y ty ∧ PySem.W.notFirst K C ty = true ∧ sp [x, y] H (fun v H' => (∃ b, v = .bl b) ∧ Q v H') E
theorem op_own {X : Cx} {CX : CXT} {k : Nat} {C f : Addr} {fd : FuncData} {ps : List Str} {sp : Sp} {E : XK} {op : CmpOp} {nm : Str} (hop : (cmpInfo op).2.1 = nm)
    (F : FnOk X.prog X.w X.K X.mg X.base CX k f fd ps sp)
    (hs : PySem.W.findIn X.K (.ref C) nm = some (some (.ref f))) (hf : PySem.W.isFn X.K (.ref f) = true) (hb : Binds X.K fd ps []) (hr : Room k X.A)
    (hx : Passes CX X E) (hcmp : ∀ u v, compareOp op u v = richCompare op u v) : OpR X (compareOp op) (rOwn X.K C sp E) := by
  intro pins s σ H x y v u Q I rx ry h
  obtain ⟨a, dx, fs, ty, rfl, ha, hty, hn, hsp⟩ := h
  cases rx
  obtain ⟨mA, J, _⟩ := ins_get I.hok ha
  obtain ⟨od, J, _⟩ := J.look
  obtain ⟨m, hF⟩ := I.fr
  obtain ⟨Pz, Z, pz, _⟩ := kit_of I ry hty
  rw [hcmp]
  refine PySem.W.cmp_K (op := op) (tb := ty) hr.units0 hF I.ok.mod.kin J (Z.ty _ _ I.kIn pz) hn (hop ▸ hs) hf ?_
  have r2 : Vals [V.ref a, y] [Value.ref a, u] := .cons rfl (.cons ry .nil)
  refine wpAny_mono (run_fn (dvs := []) (ds := []) (vs := [V.ref a, y]) F hr hb .nil hx I r2 hsp) ?_ fun _ _ z => z
  intro w s' hw
  obtain ⟨z, H', I', rz, hz, q⟩ := hw
  cases z with
  | bl b => cases rz; exact ⟨.bl b, H', I', rfl, q⟩
  | _ => exact hz.elim fun b hb => by cases hb

section
variable {prog : Program} {w : World} {A : Around} {E : Value → Shared → Prop} {s : Shared}
/-- a built-in called with keywords, that goes on by a loop of its own -/
theorem callTree_kw {id : String} {b : Builtin} {args : List Value} {kw : List (Str × Value)} {Q : Value → Shared → Prop} (hk : builtinKind id = none)
    (hp : plainId id = true) (hb : entryFor table id = some b) (ha : argsOk id ⟨args, kw⟩)
    (hc : wpAny (model prog w) A.in1 (b ⟨args, kw⟩) (fun fin s' => match fin with
      | .done f => (match (Except.ok f : Result) with | .ok (.ret v) => Q v s' | .ok _ => False | .error e => E e s')
      | .again c' => c'.quiet = true ∧
          codeAny (model prog w) A c' (fun r s' => match r with | .ok (.ret v) => Q v s' | .ok _ => False | .error e => E e s') s') E s) :
    wpAny (model prog w) A (call (.builtin id) args kw) Q E s := by
  refine wpAny_call (codeAny_call_builtin hp hb ?_)
  simp only [checkBuiltinCall, hk]
  cases hs : Manifest.signature? id with
  | none => exact wpAny_pure hc
  | some sg =>
    simp only [argsOk, hs] at ha
    have ok : Bind.checkArgs id sg ⟨args, kw⟩ = pure () := ha
    show wpAny _ A.in1 (Bind.checkArgs id sg ⟨args, kw⟩) _ _ s
    rw [ok]
    exact wpAny_pure hc
end

section
variable {prog : Program} {w : World} {A : Around} {R : Result → Shared → Prop} {I : Addr} {fp wr : List Addr} {n : Nat}
  {P : Nat → Value → Prop} {Sx : Nat → Heap → Prop}
/-- max's loop, whatever keywords go with it -/
theorem max_goes (W : Walks prog w A.in1 I fp wr n P Sx) (bt : Nat → Nat → Bool) (hc : CmpOf prog w A.in1 .Gt P bt) (S : Addr) (hS0 : S ∉ fp)
    (kw : List (Str × Value)) : ∀ (k j : Nat) (s : Shared) (best : Value) (c : Nat), n - (j + 1) = k → j + 1 ≤ n → Sx (j + 1) s.heap →
    P (argBest bt j) best → s.heap.get? S = some { cls := .type "list", dict := none, data := .seq #[best, best] c, slots := #[] } →
    (∀ v h' tk, P (argBest bt (n - 1)) v → (∀ b o, b ∉ wr → b ≠ S → s.heap.get? b = some o → h'.get? b = some o) →
      R (.ok (.ret v)) { s with heap := h', toks := tk }) →
    codeAny (model prog w) A (.builtin "max.loop" ⟨[.ref I, .none, .ref S], kw⟩) R s := by
  have nw : S ∉ wr := fun h => hS0 (W.sub _ h)
  have nm : (toString "max" ++ toString ".loop" : String) = "max.loop" := by decide
  intro k
  induction k with
  | zero =>
    intro j s best c hk hj st pb hS hR
    have en : j + 1 = n := by omega
    refine codeAny_builtin F.entry_max_loop ?_
    rw [Around.under_plainId F.plain_max_loop _]
    show wpAny _ A.in1 (seqItems? (.ref S) >>= _) _ _ s
    refine wpAny_bind (wpAny_seqItems hS rfl ?_)
    show wpAny _ A.in1 (tryCatch (pyNext (.ref I)) _ >>= _) _ _ s
    refine wpAny_bind (wpAny_tryCatch (W.done s _ _ (en ▸ st) fun h' tk kp => ?_))
    have hS2 := kp S _ nw hS
    show wpAny _ A.in1 (updateSeq S (fun _ => #[]) >>= _) _ _ _
    refine wpAny_bind (wpAny_updateSeq hS2 rfl (wpAny_bind (wpAny_letGo (wpAny_pure ?_))))
    exact hR best _ tk (en ▸ pb) fun b o b1 b2 e => (Heap.get?_update_other _ _ (Ne.symm b2)).trans (kp b o b1 e)
  | succ k ih =>
    intro j s best c hk hj st pb hS hR
    have lt : j + 1 < n := by omega
    refine codeAny_builtin F.entry_max_loop ?_
    rw [Around.under_plainId F.plain_max_loop _]
    show wpAny _ A.in1 (seqItems? (.ref S) >>= _) _ _ s
    refine wpAny_bind (wpAny_seqItems hS rfl ?_)
    show wpAny _ A.in1 (tryCatch (pyNext (.ref I)) _ >>= _) _ _ s
    refine wpAny_bind (wpAny_tryCatch (W.item (j + 1) s _ _ lt st fun v h' tk pv st2 kp => ?_))
    have hS2 := kp S _ nw hS
    show wpAny _ A.in1 (tryCatch (holding [v, v] (richCompare .Gt v best >>= _)) _ >>= _) _ _ _
    refine wpAny_bind (wpAny_tryCatch (wpAny_holding (wpAny_bind (hc (j + 1) (argBest bt j) v best _ _ _ pv pb ?_))))
    refine wpAny_bind (wpAny_holding (wpAny_truthy_bool (wpAny_bind (wpAny_letGo (wpAny_pure ?_)))))
    cases hb : bt (j + 1) (argBest bt j) with
    | true =>
      simp only [if_true]
      refine wpAny_bind (wpAny_updateSeq hS2 rfl (wpAny_bind (wpAny_letGo ?_)))
      rw [nm]
      have e1 : P (argBest bt (j + 1)) v := by simp only [argBest, hb, if_true]; exact pv
      have st3 : Sx (j + 1 + 1) (h'.update S (Obj.mapSeq fun _ => #[v, v])) :=
        W.frame _ _ _ st2 fun b hbf o e => (Heap.get?_update_other _ _ (fun h : S = b => hS0 (h ▸ hbf))).trans e
      refine wpAny_pure ⟨plainId_quiet F.plain_max_loop _, ih (j + 1) _ v _ (by omega) lt st3 e1 (Heap.get?_update_self _ hS2 rfl) ?_⟩
      intro v' h'' tk'' p' kp'
      exact hR v' h'' tk'' p' fun b o b1 b2 e => kp' b o b1 b2 ((Heap.get?_update_other _ _ (Ne.symm b2)).trans (kp b o b1 e))
    | false =>
      simp only [Bool.false_eq_true, if_false]
      refine wpAny_bind (wpAny_letGo ?_)
      rw [nm]
      have e1 : P (argBest bt (j + 1)) best := by simp only [argBest, hb, Bool.false_eq_true, if_false]; exact pb
      refine wpAny_pure ⟨plainId_quiet F.plain_max_loop _, ih (j + 1) _ best c (by omega) lt st2 e1 hS2 ?_⟩
      intro v' h'' tk'' p' kp'
      exact hR v' h'' tk'' p' fun b o b1 b2 e => kp' b o b1 b2 (kp b o b1 e)
end
section
variable {prog : Program} {w : World} {A : Around} {E : Value → Shared → Prop} {s : Shared}
theorem args_maxD (a d : Value) : argsOk "max" ⟨[a], [(Str.ofString "default", d)]⟩ := by unfold argsOk; kernel_rfl
/-- max(xs, default=d) of a list of ints -/
theorem max_dflt {l : Addr} {its : List Value} {ns : List Int} {d : Value} {Q : Value → Shared → Prop} (hh : A.handled = none)
    (hl : s.heap.IsList l its.toArray) (hi : IntsAre its ns)
    (h0 : ns = [] → ∀ h' tk, (∀ b o, s.heap.get? b = some o → h'.get? b = some o) → Q d { s with heap := h', toks := tk })
    (h1 : ∀ h' tk m t, (∀ b o, s.heap.get? b = some o → h'.get? b = some o) → m ∈ ns → (∀ y ∈ ns, y ≤ m) → Q (.int m t) { s with heap := h', toks := tk }) :
    wpAny (model prog w) A (call (.builtin "max") [.ref l] [(Str.ofString "default", d)]) Q E s := by
  have nm : (toString "max" ++ toString ".loop" : String) = "max.loop" := by decide
  obtain ⟨xs, e⟩ := hi.allInts.items
  have hn : numsOf (intItems xs).toList = ns := e ▸ hi.numsOf
  rw [nums_intItems] at hn
  subst hn
  rw [e] at hl
  refine callTree_kw F.kind_max F.plain_max F.entry_max (args_maxD _ _) ?_
  have eb : Builtin.Builtins.bindParams "max" ["key", "default"] 0 ⟨[], [(Str.ofString "default", d)]⟩ = pure [none, some d] := by kernel_rfl
  show wpAny _ A.in1 (Builtin.Builtins.bindParams "max" ["key", "default"] 0 ⟨[], [(Str.ofString "default", d)]⟩ >>= _) _ _ s
  refine wpAny_bind (wpAny_of_eq eb ?_)
  refine wpAny_bind (wpAny_pure ?_)
  refine wpAny_bind (iter_intList hl fun s₂ e2 st hfp hlI => ?_)
  subst e2
  refine wpAny_bind (wpAny_newObj_type ?_)
  have W := Walks.list (prog := prog) (w := w) (A := A.in1) hh _ l hlI (intItems xs)
  have hf : (s.heap.push { cls := .type "list_iterator", data := .fields #[.ref l, .int 0 0] }).objs.size ∉ [s.heap.objs.size, l] :=
    fun hm => Nat.lt_irrefl _ (hfp _ hm)
  rw [nm]
  generalize hZ : (s.heap.push { cls := .type "list_iterator", data := .fields #[.ref l, .int 0 0] }).objs.size = Z at hf ⊢
  refine wpAny_pure ⟨plainId_quiet F.plain_max_loop _, ?_⟩
  have st0 := W.frame _ _ _ st fun b _ o e => Heap.get?_push_of_some { cls := .type "list", data := .seq #[] } e
  have nw : Z ∉ [s.heap.objs.size] := fun h => hf (W.sub _ h)
  have hS : ((s.heap.push { cls := .type "list_iterator", data := .fields #[.ref l, .int 0 0] }).push { cls := .type "list", data := .seq #[] }).get?
      (s.heap.push { cls := .type "list_iterator", data := .fields #[.ref l, .int 0 0] }).objs.size = some { cls := .type "list", data := .seq #[] } := Heap.get?_push_size _ rfl
  rw [hZ] at hS
  have keep : ∀ b o, s.heap.get? b = some o → b ∉ [s.heap.objs.size] ∧ b ≠ Z := fun b o q => by
    have lb := Heap.lt_size q
    have sz : Z = s.heap.objs.size + 1 := by rw [← hZ, Heap.size_push]
    refine ⟨fun h => Nat.ne_of_lt lb (List.mem_singleton.mp h), ?_⟩
    rw [sz]
    exact Nat.ne_of_lt (Nat.lt_succ_of_lt lb)
  refine codeAny_builtin F.entry_max_loop ?_
  rw [Around.under_plainId F.plain_max_loop _]
  show wpAny _ A.in1 (seqItems? (.ref Z) >>= _) _ _ _
  refine wpAny_bind (wpAny_seqItems hS rfl ?_)
  show wpAny _ A.in1 (tryCatch (pyNext (.ref _)) _ >>= _) _ _ _
  by_cases hz : 0 < (intItems xs).size
  · refine wpAny_bind (wpAny_tryCatch (W.item 0 _ _ _ hz st0 fun v h' tk pv st2 kp => ?_))
    have hS2 := kp Z _ nw hS
    show wpAny _ A.in1 (updateSeq Z (fun _ => #[v, v]) >>= _) _ _ _
    refine wpAny_bind (wpAny_updateSeq hS2 rfl ?_)
    rw [nm]
    have st3 : h'.IsListIter s.heap.objs.size l (0 + 1) ∧ h'.IsList l (intItems xs) := st2
    refine wpAny_pure ⟨plainId_quiet F.plain_max_loop _, max_goes W _ (CmpOf.ints_gt (numAt xs) fun _ _ => intItems_at) Z hf _ _ 0 _ v _ rfl hz
      (W.frame _ _ _ st3 fun b hbf o e => (Heap.get?_update_other _ _ (fun h : Z = b => hf (h ▸ hbf))).trans e) pv (Heap.get?_update_self _ hS2 rfl) ?_⟩
    intro v' h'' tk'' p' kp'
    obtain ⟨t, rfl⟩ := intItems_at p'
    have hsz : 0 < xs.size := by simpa [intItems] using hz
    have hsz2 : (intItems xs).size - 1 = xs.size - 1 := by simp [intItems]
    obtain ⟨b1, b2⟩ := argBest_gt (numAt xs) (xs.size - 1)
    rw [hsz2] at p' ⊢
    refine h1 h'' tk'' _ t (fun b o q => ?_) ?_ ?_
    · obtain ⟨q1, q2⟩ := keep b o q
      exact kp' b o q1 q2 ((Heap.get?_update_other _ _ (Ne.symm q2)).trans (kp b o q1 (Heap.get?_push_of_some _ (Heap.get?_push_of_some _ q))))
    · rw [numAt_eq]
      exact PySem.getD_mem (by rw [List.length_map, Array.length_toList]; omega)
    · intro y hy
      obtain ⟨j, hj, rfl⟩ := mem_getD hy
      rw [List.length_map, Array.length_toList] at hj
      rw [← numAt_eq]
      exact b2 j (by omega)
  · have z0 : (intItems xs).size = 0 := by omega
    have z1 : xs.size = 0 := by simpa [intItems] using z0
    refine wpAny_bind (wpAny_tryCatch (W.done _ _ _ (by rw [z0]; exact st0) fun h' tk kp => ?_))
    show wpAny _ A.in1 (rule _ >>= _) _ _ _
    refine wpAny_bind (wpAny_rule ?_)
    refine wpAny_pure ?_
    refine h0 ?_ h' tk fun b o q => kp b o (keep b o q).1 (Heap.get?_push_of_some _ (Heap.get?_push_of_some _ q))
    have z2 : xs.toList = [] := by
      apply List.eq_nil_of_length_eq_zero
      rw [Array.length_toList]; exact z1
    rw [z2]; rfl
end
def rMaxD (K : PySem.W.Frag) : List V → List V → Hp → VK → Prop := fun vs zs H Q => ∃ (a : Addr) (ns : List Int) (d : V), vs = [V.ref a] ∧ zs = [d] ∧
  SqL K H a (ns.map V.int) ∧ (ns = [] → Q d H) ∧ ∀ m, m ∈ ns → (∀ y ∈ ns, y ≤ m) → Q (.int m) H
theorem cr_maxD {X : Cx} (hc : X.calm = true) : CallRK X (.builtin "max") [Str.ofString "default"] (rMaxD X.K) := by
  intro pins s σ H vs zs us ws Q I r rz h
  obtain ⟨a, ns, d, rfl, rfl, hs, q0, q1⟩ := h
  obtain ⟨its, rv, hl, _⟩ := I.list hs
  obtain ⟨u, rfl, ru⟩ := vals1 rz
  rw [Vals.ref1 r]
  refine max_dflt (I.ok.hd hc) hl.isList rv.ints (fun e h' tk hk => ?_) fun h' tk m t hk h1 h2 => ?_
  · exact ⟨d, H, I.kept hk, ru, q0 e⟩
  · exact ⟨.int m, H, I.kept hk, ⟨t, rfl⟩, q1 m h1 h2⟩

section
variable {prog : Program} {w : World} {A : Around} {R : Result → Shared → Prop} {I : Addr} {fp wr : List Addr} {n : Nat}
  {P : Nat → Value → Prop} {Sx : Nat → Heap → Prop}
/-- min's loop, whatever keywords go with it -/
theorem min_goes (W : Walks prog w A.in1 I fp wr n P Sx) (bt : Nat → Nat → Bool) (hc : CmpOf prog w A.in1 .Lt P bt) (S : Addr) (hS0 : S ∉ fp)
    (kw : List (Str × Value)) : ∀ (k j : Nat) (s : Shared) (best : Value) (c : Nat), n - (j + 1) = k → j + 1 ≤ n → Sx (j + 1) s.heap →
    P (argBest bt j) best → s.heap.get? S = some { cls := .type "list", dict := none, data := .seq #[best, best] c, slots := #[] } →
    (∀ v h' tk, P (argBest bt (n - 1)) v → (∀ b o, b ∉ wr → b ≠ S → s.heap.get? b = some o → h'.get? b = some o) →
      R (.ok (.ret v)) { s with heap := h', toks := tk }) →
    codeAny (model prog w) A (.builtin "min.loop" ⟨[.ref I, .none, .ref S], kw⟩) R s := by
  have nw : S ∉ wr := fun h => hS0 (W.sub _ h)
  have nm : (toString "min" ++ toString ".loop" : String) = "min.loop" := by decide
  intro k
  induction k with
  | zero =>
    intro j s best c hk hj st pb hS hR
    have en : j + 1 = n := by omega
    refine codeAny_builtin F.entry_min_loop ?_
    rw [Around.under_plainId F.plain_min_loop _]
    show wpAny _ A.in1 (seqItems? (.ref S) >>= _) _ _ s
    refine wpAny_bind (wpAny_seqItems hS rfl ?_)
    show wpAny _ A.in1 (tryCatch (pyNext (.ref I)) _ >>= _) _ _ s
    refine wpAny_bind (wpAny_tryCatch (W.done s _ _ (en ▸ st) fun h' tk kp => ?_))
    have hS2 := kp S _ nw hS
    show wpAny _ A.in1 (updateSeq S (fun _ => #[]) >>= _) _ _ _
    refine wpAny_bind (wpAny_updateSeq hS2 rfl (wpAny_bind (wpAny_letGo (wpAny_pure ?_))))
    exact hR best _ tk (en ▸ pb) fun b o b1 b2 e => (Heap.get?_update_other _ _ (Ne.symm b2)).trans (kp b o b1 e)
  | succ k ih =>
    intro j s best c hk hj st pb hS hR
    have lt : j + 1 < n := by omega
    refine codeAny_builtin F.entry_min_loop ?_
    rw [Around.under_plainId F.plain_min_loop _]
    show wpAny _ A.in1 (seqItems? (.ref S) >>= _) _ _ s
    refine wpAny_bind (wpAny_seqItems hS rfl ?_)
    show wpAny _ A.in1 (tryCatch (pyNext (.ref I)) _ >>= _) _ _ s
    refine wpAny_bind (wpAny_tryCatch (W.item (j + 1) s _ _ lt st fun v h' tk pv st2 kp => ?_))
    have hS2 := kp S _ nw hS
    show wpAny _ A.in1 (tryCatch (holding [v, v] (richCompare .Lt v best >>= _)) _ >>= _) _ _ _
    refine wpAny_bind (wpAny_tryCatch (wpAny_holding (wpAny_bind (hc (j + 1) (argBest bt j) v best _ _ _ pv pb ?_))))
    refine wpAny_bind (wpAny_holding (wpAny_truthy_bool (wpAny_bind (wpAny_letGo (wpAny_pure ?_)))))
    cases hb : bt (j + 1) (argBest bt j) with
    | true =>
      simp only [if_true]
      refine wpAny_bind (wpAny_updateSeq hS2 rfl (wpAny_bind (wpAny_letGo ?_)))
      rw [nm]
      have e1 : P (argBest bt (j + 1)) v := by simp only [argBest, hb, if_true]; exact pv
      have st3 : Sx (j + 1 + 1) (h'.update S (Obj.mapSeq fun _ => #[v, v])) :=
        W.frame _ _ _ st2 fun b hbf o e => (Heap.get?_update_other _ _ (fun h : S = b => hS0 (h ▸ hbf))).trans e
      refine wpAny_pure ⟨plainId_quiet F.plain_min_loop _, ih (j + 1) _ v _ (by omega) lt st3 e1 (Heap.get?_update_self _ hS2 rfl) ?_⟩
      intro v' h'' tk'' p' kp'
      exact hR v' h'' tk'' p' fun b o b1 b2 e => kp' b o b1 b2 ((Heap.get?_update_other _ _ (Ne.symm b2)).trans (kp b o b1 e))
    | false =>
      simp only [Bool.false_eq_true, if_false]
      refine wpAny_bind (wpAny_letGo ?_)
      rw [nm]
      have e1 : P (argBest bt (j + 1)) best := by simp only [argBest, hb, Bool.false_eq_true, if_false]; exact pb
      refine wpAny_pure ⟨plainId_quiet F.plain_min_loop _, ih (j + 1) _ best c (by omega) lt st2 e1 hS2 ?_⟩
      intro v' h'' tk'' p' kp'
      exact hR v' h'' tk'' p' fun b o b1 b2 e => kp' b o b1 b2 (kp b o b1 e)
end
section
variable {prog : Program} {w : World} {A : Around} {E : Value → Shared → Prop} {s : Shared}
theorem args_minD (a d : Value) : argsOk "min" ⟨[a], [(Str.ofString "default", d)]⟩ := by unfold argsOk; kernel_rfl
/-- min(xs, default=d) of a list of ints -/
theorem min_dflt {l : Addr} {its : List Value} {ns : List Int} {d : Value} {Q : Value → Shared → Prop} (hh : A.handled = none)
    (hl : s.heap.IsList l its.toArray) (hi : IntsAre its ns)
    (h0 : ns = [] → ∀ h' tk, (∀ b o, s.heap.get? b = some o → h'.get? b = some o) → Q d { s with heap := h', toks := tk })
    (h1 : ∀ h' tk m t, (∀ b o, s.heap.get? b = some o → h'.get? b = some o) → m ∈ ns → (∀ y ∈ ns, m ≤ y) → Q (.int m t) { s with heap := h', toks := tk }) :
    wpAny (model prog w) A (call (.builtin "min") [.ref l] [(Str.ofString "default", d)]) Q E s := by
  have nm : (toString "min" ++ toString ".loop" : String) = "min.loop" := by decide
  obtain ⟨xs, e⟩ := hi.allInts.items
  have hn : numsOf (intItems xs).toList = ns := e ▸ hi.numsOf
  rw [nums_intItems] at hn
  subst hn
  rw [e] at hl
  refine callTree_kw F.kind_min F.plain_min F.entry_min (args_minD _ _) ?_
  have eb : Builtin.Builtins.bindParams "min" ["key", "default"] 0 ⟨[], [(Str.ofString "default", d)]⟩ = pure [none, some d] := by kernel_rfl
  show wpAny _ A.in1 (Builtin.Builtins.bindParams "min" ["key", "default"] 0 ⟨[], [(Str.ofString "default", d)]⟩ >>= _) _ _ s
  refine wpAny_bind (wpAny_of_eq eb ?_)
  refine wpAny_bind (wpAny_pure ?_)
  refine wpAny_bind (iter_intList hl fun s₂ e2 st hfp hlI => ?_)
  subst e2
  refine wpAny_bind (wpAny_newObj_type ?_)
  have W := Walks.list (prog := prog) (w := w) (A := A.in1) hh _ l hlI (intItems xs)
  have hf : (s.heap.push { cls := .type "list_iterator", data := .fields #[.ref l, .int 0 0] }).objs.size ∉ [s.heap.objs.size, l] :=
    fun hm => Nat.lt_irrefl _ (hfp _ hm)
  rw [nm]
  generalize hZ : (s.heap.push { cls := .type "list_iterator", data := .fields #[.ref l, .int 0 0] }).objs.size = Z at hf ⊢
  refine wpAny_pure ⟨plainId_quiet F.plain_min_loop _, ?_⟩
  have st0 := W.frame _ _ _ st fun b _ o e => Heap.get?_push_of_some { cls := .type "list", data := .seq #[] } e
  have nw : Z ∉ [s.heap.objs.size] := fun h => hf (W.sub _ h)
  have hS : ((s.heap.push { cls := .type "list_iterator", data := .fields #[.ref l, .int 0 0] }).push { cls := .type "list", data := .seq #[] }).get?
      (s.heap.push { cls := .type "list_iterator", data := .fields #[.ref l, .int 0 0] }).objs.size = some { cls := .type "list", data := .seq #[] } := Heap.get?_push_size _ rfl
  rw [hZ] at hS
  have keep : ∀ b o, s.heap.get? b = some o → b ∉ [s.heap.objs.size] ∧ b ≠ Z := fun b o q => by
    have lb := Heap.lt_size q
    have sz : Z = s.heap.objs.size + 1 := by rw [← hZ, Heap.size_push]
    refine ⟨fun h => Nat.ne_of_lt lb (List.mem_singleton.mp h), ?_⟩
    rw [sz]
    exact Nat.ne_of_lt (Nat.lt_succ_of_lt lb)
  refine codeAny_builtin F.entry_min_loop ?_
  rw [Around.under_plainId F.plain_min_loop _]
  show wpAny _ A.in1 (seqItems? (.ref Z) >>= _) _ _ _
  refine wpAny_bind (wpAny_seqItems hS rfl ?_)
  show wpAny _ A.in1 (tryCatch (pyNext (.ref _)) _ >>= _) _ _ _
  by_cases hz : 0 < (intItems xs).size
  · refine wpAny_bind (wpAny_tryCatch (W.item 0 _ _ _ hz st0 fun v h' tk pv st2 kp => ?_))
    have hS2 := kp Z _ nw hS
    show wpAny _ A.in1 (updateSeq Z (fun _ => #[v, v]) >>= _) _ _ _
    refine wpAny_bind (wpAny_updateSeq hS2 rfl ?_)
    rw [nm]
    have st3 : h'.IsListIter s.heap.objs.size l (0 + 1) ∧ h'.IsList l (intItems xs) := st2
    refine wpAny_pure ⟨plainId_quiet F.plain_min_loop _, min_goes W _ (CmpOf.ints_lt (numAt xs) fun _ _ => intItems_at) Z hf _ _ 0 _ v _ rfl hz
      (W.frame _ _ _ st3 fun b hbf o e => (Heap.get?_update_other _ _ (fun h : Z = b => hf (h ▸ hbf))).trans e) pv (Heap.get?_update_self _ hS2 rfl) ?_⟩
    intro v' h'' tk'' p' kp'
    obtain ⟨t, rfl⟩ := intItems_at p'
    have hsz : 0 < xs.size := by simpa [intItems] using hz
    have hsz2 : (intItems xs).size - 1 = xs.size - 1 := by simp [intItems]
    obtain ⟨b1, b2⟩ := argBest_lt (numAt xs) (xs.size - 1)
    rw [hsz2] at p' ⊢
    refine h1 h'' tk'' _ t (fun b o q => ?_) ?_ ?_
    · obtain ⟨q1, q2⟩ := keep b o q
      exact kp' b o q1 q2 ((Heap.get?_update_other _ _ (Ne.symm q2)).trans (kp b o q1 (Heap.get?_push_of_some _ (Heap.get?_push_of_some _ q))))
    · rw [numAt_eq]
      exact PySem.getD_mem (by rw [List.length_map, Array.length_toList]; omega)
    · intro y hy
      obtain ⟨j, hj, rfl⟩ := mem_getD hy
      rw [List.length_map, Array.length_toList] at hj
      rw [← numAt_eq]
      exact b2 j (by omega)
  · have z0 : (intItems xs).size = 0 := by omega
    have z1 : xs.size = 0 := by simpa [intItems] using z0
    refine wpAny_bind (wpAny_tryCatch (W.done _ _ _ (by rw [z0]; exact st0) fun h' tk kp => ?_))
    show wpAny _ A.in1 (rule _ >>= _) _ _ _
    refine wpAny_bind (wpAny_rule ?_)
    refine wpAny_pure ?_
    refine h0 ?_ h' tk fun b o q => kp b o (keep b o q).1 (Heap.get?_push_of_some _ (Heap.get?_push_of_some _ q))
    have z2 : xs.toList = [] := by
      apply List.eq_nil_of_length_eq_zero
      rw [Array.length_toList]; exact z1
    rw [z2]; rfl
end
def rMinD (K : PySem.W.Frag) : List V → List V → Hp → VK → Prop := fun vs zs H Q => ∃ (a : Addr) (ns : List Int) (d : V), vs = [V.ref a] ∧ zs = [d] ∧
  SqL K H a (ns.map V.int) ∧ (ns = [] → Q d H) ∧ ∀ m, m ∈ ns → (∀ y ∈ ns, m ≤ y) → Q (.int m) H
theorem cr_minD {X : Cx} (hc : X.calm = true) : CallRK X (.builtin "min") [Str.ofString "default"] (rMinD X.K) := by
  intro pins s σ H vs zs us ws Q I r rz h
  obtain ⟨a, ns, d, rfl, rfl, hs, q0, q1⟩ := h
  obtain ⟨its, rv, hl, _⟩ := I.list hs
  obtain ⟨u, rfl, ru⟩ := vals1 rz
  rw [Vals.ref1 r]
  refine min_dflt (I.ok.hd hc) hl.isList rv.ints (fun e h' tk hk => ?_) fun h' tk m t hk h1 h2 => ?_
  · exact ⟨d, H, I.kept hk, ru, q0 e⟩
  · exact ⟨.int m, H, I.kept hk, ⟨t, rfl⟩, q1 m h1 h2⟩

/-! ### sum(xs, start=0) -/
section
variable {prog : Program} {w : World} {A : Around} {E : Value → Shared → Prop} {s : Shared}
theorem args_sumS (a d : Value) : argsOk "sum" ⟨[a], [(Str.ofString "start", d)]⟩ := by unfold argsOk; kernel_rfl
theorem sum_start {l : Addr} {its : List Value} {ns : List Int} {t0 : Tok} {Q : Value → Shared → Prop} (hh : A.handled = none)
    (hl : s.heap.IsList l its.toArray) (hi : IntsAre its ns)
    (h : ∀ h' tk t', (∀ b o, s.heap.get? b = some o → h'.get? b = some o) → Q (.int ns.sum t') { s with heap := h', toks := tk }) :
    wpAny (model prog w) A (call (.builtin "sum") [.ref l] [(Str.ofString "start", .int 0 t0)]) Q E s := by
  obtain ⟨xs, e⟩ := hi.allInts.items
  have hn : numsOf (intItems xs).toList = ns := e ▸ hi.numsOf
  rw [nums_intItems] at hn
  rw [e] at hl
  refine callTree_kw F.kind_sum F.plain_sum F.entry_sum (args_sumS _ _) ?_
  unfold Builtin.«sum»
  simp only [List.length_cons, List.length_nil]
  rw [if_neg (by decide)]
  have eb : Builtin.Builtins.bindParams "sum" ["start"] 0 ⟨[], [(Str.ofString "start", .int 0 t0)]⟩ = pure [some (.int 0 t0)] := by kernel_rfl
  refine wpAny_bind (wpAny_of_eq eb ?_)
  refine wpAny_bind (iter_intList hl fun s₂ e2 st hfp hlI => ?_)
  subst e2
  have W := Walks.list (prog := prog) (w := w) (A := A.in1) hh _ l hlI (intItems xs)
  refine wpAny_bind (wpAny_rule ?_)
  refine wpAny_bind (wpAny_mkInt (wpAny_bind (wpAny_pure ?_)))
  simp only [List.forIn_cons, List.forIn_nil]
  refine wpAny_bind (wpAny_bind (wpAny_bind (wpAny_isInstance (T := "int") (b := false) (typeIs_int _ _ _) PySem.sub_int_str ?_)))
  simp only [Bool.false_eq_true, if_false]
  refine wpAny_pure (wpAny_bind (wpAny_bind (wpAny_isInstance (T := "int") (b := false) (typeIs_int _ _ _) PySem.sub_int_bytes ?_)))
  simp only [Bool.false_eq_true, if_false]
  refine wpAny_pure (wpAny_bind (wpAny_bind (wpAny_isInstance (T := "int") (b := false) (typeIs_int _ _ _) PySem.sub_int_bytearray ?_)))
  simp only [Bool.false_eq_true, if_false]
  refine wpAny_pure (wpAny_pure ?_)
  refine wpAny_bind (wpAny_newObj_type ?_)
  refine wpAny_pure ⟨plainId_quiet F.plain_sum_loop _, codeAny_sum_loopG W (numAt xs) (fun _ _ => intItems_at) _ (fun hm => Nat.lt_irrefl _ (hfp _ hm)) _ 0 _ _ 0 0
    (Or.inl rfl) rfl (Nat.zero_le _) (W.frame _ _ _ st fun b _ o e => Heap.get?_push_of_some _ e) (Heap.get?_push_size _ rfl) fun h' tk t' hk => ?_⟩
  have q := h h' tk t' fun b o e => hk b o (fun hm => Nat.ne_of_lt (Heap.lt_size e) (List.mem_singleton.mp hm)) (by
      show b ≠ (s.heap.push _).objs.size
      rw [Heap.size_push]
      exact Nat.ne_of_lt (Nat.lt_succ_of_lt (Heap.lt_size e))) (Heap.get?_push_of_some _ (Heap.get?_push_of_some _ e))
  have e3 : (intItems xs).size = xs.size := by simp [intItems]
  rw [e3, preSum_eq, List.take_of_length_le (by simp), hn]
  exact q
end
def rSumS (K : PySem.W.Frag) : List V → List V → Hp → VK → Prop := fun vs zs H Q => ∃ (a : Addr) (ns : List Int), vs = [V.ref a] ∧ zs = [.int 0] ∧
  SqL K H a (ns.map V.int) ∧ Q (.int ns.sum) H
theorem cr_sumS {X : Cx} (hc : X.calm = true) : CallRK X (.builtin "sum") [Str.ofString "start"] (rSumS X.K) := by
  intro pins s σ H vs zs us ws Q I r rz h
  obtain ⟨a, ns, rfl, rfl, hs, q⟩ := h
  obtain ⟨its, rv, hl, _⟩ := I.list hs
  obtain ⟨u, rfl, t0, rfl⟩ := vals1 rz
  rw [Vals.ref1 r]
  exact sum_start (I.ok.hd hc) hl.isList rv.ints fun h' tk t' hk => ⟨.int _, H, I.kept hk, ⟨_, rfl⟩, q⟩
end Sil
set_option Elab.async false
set_option linter.all false
set_option maxRecDepth 100000
set_option maxHeartbeats 1000000
/-! P2: the end of a law whose def runs where no repr is under way. -/
namespace Sil
open PySem L2 PySem.Spec PyProof.Rows
section
variable {P : Program} {w : World} {K : PySem.W.Frag} {mg mb : Str → Option Value} {k : Nat} {fa a : Addr} {fd : FuncData} {x : Str} {sp : Sp}
  {s₁ : Shared} {vs : List Value} {ns : List Int}
/-- the law is called over an abstract heap H in which at most the script is tracked -/
theorem law_overH {H : Hp} (KX : K.In s₁.heap) (hns : s₁.heap.Ns mainGlobals mg) (hb : s₁.heap.Ns builtinsNs mb)
    (hbb : ∀ x : Str, x ≠ "__name__" → mb x = bootBuiltins x) (hlim : s₁.heap.NoLimit) (hg : s₁.gens = #[])
    (ha : s₁.heap.get? a = some { cls := .type "list", data := .seq vs.toArray }) (hr : Room k callerA)
    (F : ∀ base : Heap, K.In base → base.Ns mainGlobals mg → FnG P w K mg base CX0 k fa fd [x] sp)
    (hbind : ∀ (s : Shared) (u : Value), BindsTo s fd ⟨[u], []⟩ [(x, u)])
    (hO : Only H) (hok : HOk P w H s₁.heap) (hA : ∀ b, H b ≠ none → b = a) (hK : H a ≠ none → K.lookup a = none)
    (hsp : sp [.ref a] H (fun v _ => v = .bl true) fun _ _ _ => False) :
    codeAny (model P w) callerA (.call (.ref fa) ⟨[.ref a], []⟩)
      (fun r s' => r = .ok (.ret (.bool true)) ∧ OldK s₁.heap s'.heap ∧ s'.os = s₁.os ∧ AllBare s'.gens) s₁ := by
  have one : ∀ {b : Addr} {u : HO}, H b = some u → b = a := fun {b u} q => hA b (by rw [q]; exact fun z => nomatch z)
  have nod : ∀ {b : Addr} {o : Obj} {es : Array DictEntry} {ep : Nat}, s₁.heap.get? b = some o → o.data = .dict es ep → H b = none := by
    intro b o es ep e d
    rcases q : H b with _ | u
    · rfl
    · cases one q
      rw [ha] at e
      cases e
      exact nomatch d
  have nsK : ∀ {b : Addr} {m : Str → Option Value}, s₁.heap.Ns b m → (hidT s₁.heap H).Ns b m := by
    rintro b m ⟨o, es, ep, e, d, r⟩
    exact ⟨o, es, ep, hidT_get e (nod e d), d, r⟩
  have kin : K.In (hidT s₁.heap H) := by
    intro b o e
    refine hidT_get (KX b o e) ?_
    rcases q : H b with _ | u
    · rfl
    · cases one q
      have z := hK (by rw [q]; exact fun z => nomatch z)
      rw [z] at e
      exact nomatch e
  obtain ⟨mc, l1, l2⟩ := hlim
  have md : Mod K mg (hidT s₁.heap H) := ⟨kin, nsK hns, ⟨mb, nsK hb, hbb⟩, mc, nsK l1, l2⟩
  have e0 : Env0 P w K mg (hidT s₁.heap H) callerA [] s₁ H :=
    { frames := rfl, mod := md, bs := fun b o e => of_hidT e, bsz := Nat.le_of_eq (hidT_size _ _), funs := trivial,
      frf := fun b hb => absurd (show b ∈ ([] : List Addr) from hb) (by simp), hok := hok, bare := .of_eq hg }
  have run := (F _ kin (nsK hns)).go callerA [] s₁ H ⟨[.ref a], []⟩ [.ref a] [.ref a] _ _ hr rfl e0 (hbind s₁ (.ref a)) (.cons rfl .nil) hsp
  refine codeAny_mono run ?_
  rintro (e | fl) s' h
  · exact h.elim
  · cases fl with
    | next => exact h.elim
    | brk => exact h.elim
    | cont => exact h.elim
    | ret u =>
      obtain ⟨v, H', os, bare, un, hok', r', q⟩ := h
      have q2 : v = .bl true := q
      subst q2
      cases r'
      refine ⟨rfl, OldK.of_keep fun b o e => ?_, os, bare⟩
      rcases q : H b with _ | u
      · exact un.keep b o e q (fun z => absurd (show b ∈ ([] : List Addr) from z) (by simp)) (by simp)
      · rcases hO b with z | ⟨ob, xs, z⟩
        · rw [q] at z; exact nomatch z
        · have e1 := (hok b _ z).1
          have e2 := (hok' b _ (un.frzs b ob _ z)).1
          rw [e] at e1
          cases e1
          exact e2
theorem law_callG (KX : K.In s₁.heap) (hns : s₁.heap.Ns mainGlobals mg) (hb : s₁.heap.Ns builtinsNs mb)
    (hbb : ∀ x : Str, x ≠ "__name__" → mb x = bootBuiltins x) (hlim : s₁.heap.NoLimit) (hg : s₁.gens = #[])
    (ha : s₁.heap.get? a = some { cls := .type "list", data := .seq vs.toArray }) (hi : IntsAre vs ns) (hl : ns.length ≤ sizeLine) (hr : Room k callerA)
    (F : ∀ base : Heap, K.In base → base.Ns mainGlobals mg → FnG P w K mg base CX0 k fa fd [x] sp)
    (hbind : ∀ (s : Shared) (u : Value), BindsTo s fd ⟨[u], []⟩ [(x, u)])
    (hsp : ∀ H : Hp, Only H → SqL K H a (ns.map V.int) → sp [.ref a] H (fun v _ => v = .bl true) fun _ _ _ => False) :
    codeAny (model P w) callerA (.call (.ref fa) ⟨[.ref a], []⟩)
      (fun r s' => r = .ok (.ret (.bool true)) ∧ OldK s₁.heap s'.heap ∧ s'.os = s₁.os ∧ AllBare s'.gens) s₁ := by
  have rv := vals_ints hi
  have ln := hi.length
  cases hk : K.lookup a with
  | some o =>
    have e := KX a o hk
    rw [ha] at e
    cases e
    have hO : Only fun _ => none := fun _ => .inl rfl
    refine law_overH KX hns hb hbb hlim hg ha hr F hbind hO (fun b u z => nomatch z) (fun b z => absurd rfl z) (fun z => absurd rfl z) (hsp _ hO ?_)
    exact .inr ⟨_, vs.toArray, _, hk, rfl, rfl, rfl, by rw [List.size_toArray, ln]; exact hl, by simpa using rv⟩
  | none =>
    let ob : Obj := { cls := .type "list", data := .seq vs.toArray }
    let G : Hp := upd (fun _ => none) a (.frz ob (.lst (ns.map V.int)))
    have at_a : G a = some (.frz ob (.lst (ns.map V.int))) := upd_same
    have off_a : ∀ {b : Addr}, b ≠ a → G b = none := fun hb => upd_ne hb
    have hO : Only G := fun b => if h : b = a then .inr ⟨_, _, h ▸ at_a⟩ else .inl (off_a h)
    refine law_overH KX hns hb hbb hlim hg ha hr F hbind hO (fun b u z => ?_) (fun b z => ?_) (fun _ => hk) (hsp _ hO (.inl (.inr ⟨ob, at_a⟩)))
    · by_cases h : b = a
      · subst h
        rw [at_a] at z
        cases z
        exact ⟨ha, by rw [List.length_map]; exact hl, vs, _, rv, ha⟩
      · rw [off_a h] at z
        exact nomatch z
    · by_cases h : b = a
      · exact h
      · exact absurd (off_a h) z
end
/-- the goal that k_head leaves, from the promise of the law's def -/
theorem walkG {l : PySem.W.OpenLaw} {k : Nat} {q : Program} {loose : List Str} {XP : (Str → Option Value) → Heap → Prop} {YP : World → Heap → Prop}
    {d : DefRec} {K : Params → PySem.W.Frag} {sp : PySem.W.Frag → Sp} {x : Str} (hn : l.most = some 63) (hdf : d.params.defaults = []) (hr : Room k callerA)
    (hY : ∀ (w : World) (h : Heap), YP w h → (K w.params).In h)
    (F : ∀ (w : World) (mg : Str → Option Value) (fa : Addr) (h : Heap), (K w.params).In h → h.Ns mainGlobals mg → mg d.name = some (.ref fa) →
      ∃ fd : FuncData, (∀ (s : Shared) (u : Value), BindsTo s fd ⟨[u], []⟩ [(x, u)]) ∧
        ∀ base : Heap, (K w.params).In base → base.Ns mainGlobals mg → FnG l.prog w (K w.params) mg base CX0 k fa fd [x] (sp (K w.params)))
    (hsp : ∀ (K : PySem.W.Frag) (H : Hp) (a : Addr) (ns : List Int), ns.length ≤ 63 → SqL K H a (ns.map V.int) →
      sp K [.ref a] H (fun v _ => v = .bl true) fun _ _ _ => False) :
    PySem.W.WalkO q loose XP YP l.row.toRowW d [] (fun f vs => PySem.call f vs) := by
  refine Att.attach_call hn hdf fun w s₀ s₁ mg mb fa o pm cd doc a vs ns G Y ho hd hcd hmg hobj hints hlen hg => ?_
  have KX := hY w _ Y
  obtain ⟨fd, hb, hF⟩ := F w mg fa _ KX G.T.g hmg
  exact law_callG KX G.T.g G.T.b G.T.builtins G.T.nolimit hg hobj hints (Nat.le_trans hlen (by decide)) hr hF hb fun H _ hS => hsp _ H a ns hlen hS
end Sil
set_option Elab.async false
set_option linter.all false
set_option maxRecDepth 100000
set_option maxHeartbeats 1000000
/-! P3: heaps without some addresses, data that stays, readings one construct at a time. -/
namespace Sil
open PySem L2

/-! ### heaps -/
theorem same_new {H : Hp} {p : Addr} {o : HO} (h : H p = none) : Same H (upd H p o) := fun a u e => by rw [upd_ne (ne_of_none e h)]; exact e
/-- the heap without the addresses of M -/
def off (M : List Addr) (H : Hp) : Hp := fun a => if a ∈ M then none else H a
theorem off_get {M : List Addr} {H : Hp} {a : Addr} {o : HO} (h : off M H a = some o) : H a = some o ∧ a ∉ M := by
  unfold off at h
  by_cases q : a ∈ M
  · rw [if_pos q] at h; cases h
  · rw [if_neg q] at h; exact ⟨h, q⟩
theorem off_sub {M : List Addr} {H : Hp} : Same (off M H) H := fun a o h => (off_get h).1
theorem off_mk {M : List Addr} {H : Hp} {a : Addr} {o : HO} (h : H a = some o) (n : a ∉ M) : off M H a = some o := by unfold off; rw [if_neg n]; exact h
theorem same_off {M : List Addr} {H H' : Hp} (s : Same H H') : Same (off M H) (off M H') := fun a o h => off_mk (s a o (off_get h).1) (off_get h).2
theorem off_nil {H : Hp} : off [] H = H := by funext a; unfold off; rw [if_neg (by simp)]
theorem off_more {M N : List Addr} {H H' : Hp} (s : Same (off M H) (off M H')) (hs : ∀ a ∈ M, a ∈ N) : Same (off N H) (off N H') := fun a o h => by
  obtain ⟨h1, h2⟩ := off_get h
  exact off_mk (off_get (s a o (off_mk h1 fun q => h2 (hs a q)))).1 h2
def Trk (M : List Addr) (H : Hp) : Prop := ∀ a ∈ M, ∃ o, H a = some o
theorem Trk.mono {M : List Addr} {H H' : Hp} (t : Trk M H) (s : Same H H') : Trk M H' := fun a h => let ⟨o, e⟩ := t a h; ⟨o, s a o e⟩
theorem Trk.ne {M : List Addr} {H : Hp} {p : Addr} (t : Trk M H) (h : H p = none) : p ∉ M := fun q => by
  obtain ⟨o, e⟩ := t p q
  rw [h] at e; cases e
theorem Trk.nil {H : Hp} : Trk [] H := fun _ h => nomatch h
theorem same_seqT {K : PySem.W.Frag} {H H' : Hp} {a : Addr} {xs : List V} (e : Same H H') (h : SqT K H a xs) : SqT K H' a xs := by
  rcases h with (h | ⟨o, h⟩) | h
  · exact .inl (.inl (e _ _ h))
  · exact .inl (.inr ⟨o, e _ _ h⟩)
  · exact .inr h
mutual
theorem Dp.mono {K : PySem.W.Frag} {H H' : Hp} (s : Same H H') : ∀ {d : PyData} {v : V}, Dp K H v d → Dp K H' v d
  | _, _, .non => .non
  | _, _, .bl b => .bl b
  | _, _, .int i => .int i
  | _, _, .str x => .str x
  | _, _, .lst h q => .lst (s.seq h) (DpAll.mono s q)
  | _, _, .tup h q => .tup (same_seqT s h) (DpAll.mono s q)
theorem DpAll.mono {K : PySem.W.Frag} {H H' : Hp} (s : Same H H') : ∀ {ds : List PyData} {vs : List V}, DpAll K H vs ds → DpAll K H' vs ds
  | _, _, .nil => .nil
  | _, _, .cons h q => .cons (Dp.mono s h) (DpAll.mono s q)
end

/-! ### readings -/
section
variable {σ : L2.St} {H : Hp} {Q : VK} {v x y : V} {ta tb tc te : TE} {i : Nat} {r r' : R2} {K : PySem.W.Frag}
theorem w_var (h : σ[i]? = some (some v)) (k : Q v H) : tVar i σ H Q := ⟨v, h, k⟩
theorem w_c (k : Q v H) : tC v σ H Q := k
theorem w_op (k : ta σ H fun x H1 => tb σ H1 fun y H2 => r x y H2 Q) : tOp r ta tb σ H Q := k
theorem w_un {r : V → Hp → VK → Prop} (k : ta σ H fun x H1 => r x H1 Q) : tUn r ta σ H Q := k
theorem w_cb {r : List V → Hp → VK → Prop} {t : TA} (k : t σ H fun vs H1 => r vs H1 Q) : tCB r t σ H Q := k
theorem w_ckw {r : List V → List V → Hp → VK → Prop} {t tk : TA} (k : t σ H fun vs H1 => tk σ H1 fun zs H2 => r vs zs H2 Q) : tCKw r t tk σ H Q := k
theorem w_nil {Q : List V → Hp → Prop} (k : Q [] H) : tNil σ H Q := k
theorem w_cons {Q : List V → Hp → Prop} {tr : TA} (k : ta σ H fun x H1 => tr σ H1 fun xs H2 => Q (x :: xs) H2) : tCons ta tr σ H Q := k
def kTup (xs : List V) (H : Hp) (Q : VK) : Prop := xs.length ≤ sizeLine ∧ ∀ p, H p = none → Q (.ref p) (upd H p (.tup xs))
def kLst (xs : List V) (H : Hp) (Q : VK) : Prop := xs.length ≤ sizeLine ∧ ∀ p, H p = none → Q (.ref p) (upd H p (.lst xs))
theorem w_tup {t : TA} (k : t σ H fun xs H1 => kTup xs H1 Q) : tTup t σ H Q := k
theorem w_lst {t : TA} (k : t σ H fun xs H1 => kLst xs H1 Q) : tLst t σ H Q := k
theorem k_tup {xs : List V} (hl : xs.length ≤ sizeLine) (k : ∀ p H2, H p = none → Same H H2 → H2 p = some (.tup xs) → Q (.ref p) H2) : kTup xs H Q :=
  ⟨hl, fun p hp => k p _ hp (same_new hp) upd_same⟩
theorem k_lst {xs : List V} (hl : xs.length ≤ sizeLine) (k : ∀ p H2, H p = none → Same H H2 → H2 p = some (.lst xs) → Q (.ref p) H2) : kLst xs H Q :=
  ⟨hl, fun p hp => k p _ hp (same_new hp) upd_same⟩
theorem w_I0 {g : Int → Int → V} {a b : Int} (k : Q (g a b) H) : rI0 g (.int a) (.int b) H Q := ⟨a, b, rfl, rfl, k⟩
theorem w_I {C : Int → Int → Prop} {g : Int → Int → V} {a b : Int} (c : C a b) (k : Q (g a b) H) : rI C g (.int a) (.int b) H Q := ⟨a, b, rfl, rfl, c, k⟩
theorem w_U {g : Int → V} {a : Int} (k : Q (g a) H) : rU g (.int a) H Q := ⟨a, rfl, k⟩
theorem w_eq (h : scal x y = true) (k : Q (.bl (decide (x = y))) H) : rEq x y H Q := ⟨h, k⟩
theorem w_ne (h : scal x y = true) (k : Q (.bl (!decide (x = y))) H) : rNe x y H Q := ⟨h, k⟩
theorem w_test {Q : Bool → Hp → Prop} (k : te σ H fun x H1 => ∃ c, x = .bl c ∧ Q c H1) : tTest te σ H Q := k
theorem w_B {Q : Bool → Hp → Prop} (k : te σ H fun x H1 => ∃ c, x = .bl c ∧ Q c H1) : tB te σ H Q := k
theorem w_and {t u : TT} {Q : Bool → Hp → Prop} (k : t σ H fun c H1 => if c = true then u σ H1 Q else Q false H1) : tAnd t u σ H Q := k
theorem w_or {t u : TT} {Q : Bool → Hp → Prop} (k : t σ H fun c H1 => if c = true then Q true H1 else u σ H1 Q) : tOr t u σ H Q := k
theorem w_not {t : TT} {Q : Bool → Hp → Prop} (k : t σ H fun c H1 => Q (!c) H1) : tNot t σ H Q := k
theorem w_andV (k : ta σ H fun x H1 => ∃ c, x = .bl c ∧ if c = true then tb σ H1 Q else Q (.bl false) H1) : tAndV ta tb σ H Q := k
theorem w_orV (k : ta σ H fun x H1 => ∃ c, x = .bl c ∧ if c = true then Q (.bl true) H1 else tb σ H1 Q) : tOrV ta tb σ H Q := k
theorem w_notV (k : ta σ H fun x H1 => ∃ c, x = .bl c ∧ Q (.bl (!c)) H1) : tNotV ta σ H Q := k
theorem w_if {t : TT} (k : t σ H fun c H1 => if c = true then ta σ H1 Q else tb σ H1 Q) : tIf t ta tb σ H Q := k
theorem w_chain (k : ta σ H fun x H1 => tb σ H1 fun y H2 => r x y H2 fun z H3 => ∃ c, z = .bl c ∧ (if c = true then tc σ H3 fun w' H4 => r' y w' H4 Q else Q (.bl false) H3)) :
    tChain r r' ta tb tc σ H Q := k
def kFld (K : PySem.W.Frag) (f : Str) (x : V) (H : Hp) (Q : VK) : Prop := ∃ a C dx fs v, x = .ref a ∧ H a = some (.ins C dx fs) ∧ Cls K C ∧ NoAttr K C f ∧ fs.lookup f = some v ∧ Q v H
theorem w_fld {f : Str} (k : ta σ H fun x H1 => kFld K f x H1 Q) : tFld K ta f σ H Q := k
theorem w_call {sp : Sp} {dvs : List V} {E : XK} {t : TA} (k : t σ H fun vs H1 => sp (vs ++ dvs) H1 Q E) : tCall sp dvs E t σ H Q := k
def kMeth (C : Addr) (m : Str) (x : V) (H : Hp) (R : Prop) : Prop := ∃ a dx fs, x = .ref a ∧ H a = some (.ins C dx fs) ∧ fs.lookup m = none ∧ R
theorem w_meth {sp : Sp} {dvs : List V} {E : XK} {t : TA} {C : Addr} {m : Str} (k : ta σ H fun x H1 => kMeth C m x H1 (t σ H1 fun vs H2 => sp (x :: (vs ++ dvs)) H2 Q E)) :
    tMeth C m sp dvs E ta t σ H Q := k
def kMake (C : Addr) (sp : Sp) (vs : List V) (H : Hp) (Q : VK) (E : XK) : Prop := ∀ x dx, H x = none → H dx = none → dx ≠ x →
  sp (.ref x :: vs) (upd (upd H dx (.own x)) x (.ins C dx [])) (fun v H2 => v = .non ∧ Q (.ref x) H2) E
theorem w_make {sp : Sp} {dvs : List V} {E : XK} {t : TA} {C : Addr} (k : t σ H fun vs H1 => kMake C sp (vs ++ dvs) H1 Q E) : tMake C sp dvs E t σ H Q := k
variable {D : Ends} {s1 s2 : TS}
theorem w_seq (k : s1 { D with nx := s2 D } σ H) : tSeq s1 s2 D σ H := k
theorem w_next (k : D.nx σ H) : tNext D σ H := k
theorem w_cont (k : D.ct σ H) : tCont D σ H := k
theorem w_break (k : D.bk σ H) : tBreak D σ H := k
theorem w_asg {g : TG} (k : te σ H fun x H1 => g x σ H1 D.nx) : tAsg te g D σ H := k
theorem w_name {Q : L2.St → Hp → Prop} (k : Q (σ.set i (some v)) H) : gName i v σ H Q := k
theorem w_par {t : TA} {i j : Nat} (k : t σ H fun vs H1 => ∃ v w, vs = [v, w] ∧ D.nx ((σ.set i (some v)).set j (some w)) H1) : tPar i j t D σ H := k
theorem w_ret (k : te σ H D.rt) : tRet te D σ H := k
theorem w_drop (k : te σ H fun _ H1 => D.nx σ H1) : tDrop te D σ H := k
theorem w_ifS {t : TT} (k : t σ H fun b H1 => if b = true then s1 D σ H1 else s2 D σ H1) : tIfS t s1 s2 D σ H := k
theorem w_bl {c : Bool} {P : Bool → Prop} (k : P c) : ∃ b, V.bl c = .bl b ∧ P b := ⟨c, rfl, k⟩
end
/-- an if whose answer is open -/
theorem ite_b {c : Bool} {A B : Prop} (h1 : c = true → A) (h2 : c = false → B) : if c = true then A else B := by
  cases c
  · exact iteF (h2 rfl)
  · exact iteT (h1 rfl)

/-! ### ends -/
def eV : Option Int → V
  | none => .non
  | some i => .int i
def atMost : Option Int → Option Int → Bool
  | some i, some j => decide (i ≤ j)
  | _, _ => true
def maxE : Option Int → Option Int → Option Int
  | none, b => b
  | some a, none => some a
  | some a, some b => some (max a b)
def minE : Option Int → Option Int → Option Int
  | none, b => b
  | some a, none => some a
  | some a, some b => some (min a b)
def Small (e : Option Int) : Prop := ∀ i, e = some i → i.natAbs < 2 ^ 200
def eD : Option Int → PyData
  | none => .none
  | some i => .int i
theorem dp_e {K : PySem.W.Frag} {H : Hp} : ∀ e : Option Int, Dp K H (eV e) (eD e)
  | none => .non
  | some i => .int i
theorem log2_lt {n k : Nat} (h : n < 2 ^ k) (hk : 0 < k) : n.log2 < k := by
  by_cases h0 : n = 0
  · subst h0; simpa using hk
  · exact (Nat.log2_lt h0).mpr h
theorem show_e {e : Option Int} (h : Small e) : (eD e).showable = true := by
  cases e with
  | none => rfl
  | some i =>
    show decide (i.natAbs.log2 < 1920) = true
    exact decide_eq_true (Nat.lt_trans (log2_lt (h i rfl) (by decide)) (by decide))
section
variable {σ : L2.St} {H : Hp} {Q : VK} {v x y : V} {ta tb tc te : TE} {i : Nat} {K : PySem.W.Frag}
theorem w_ixL {p : Addr} {xs : List V} {j : Int} (h : SqL K H p xs) (ha : atI xs j = some v) (k : Q v H) : rIxL K (.ref p) (.int j) H Q := ⟨p, xs, j, v, rfl, rfl, h, ha, k⟩
theorem w_ixT {p : Addr} {xs : List V} {j : Int} (h : SqT K H p xs) (ha : atI xs j = some v) (k : Q v H) : rIxT K (.ref p) (.int j) H Q := ⟨p, xs, j, v, rfl, rfl, h, ha, k⟩
theorem w_sub {to ti : TE} {t : TSet} {Q : L2.St → Hp → Prop} (k : to σ H fun o H1 => ti σ H1 fun i H2 => t o i v H2 fun H3 => Q σ H3) : gSub to ti t v σ H Q := k
theorem w_setL {p : Addr} {xs : List V} {k : Int} {j : Nat} {Q : Hp → Prop} (h : H p = some (.lst xs)) (hj : ixN xs.length k = some j) (q : Q (upd H p (.lst (xs.set j v)))) :
    rSetL (.ref p) (.int k) v H Q := ⟨p, xs, k, j, rfl, rfl, h, hj, q⟩
theorem w_some {P : Bool → Prop} {b : Bool} (k : P b) : ∃ c, V.bl b = V.bl c ∧ P c := ⟨b, rfl, k⟩
theorem SqT.at {p : Addr} {xs : List V} (h : H p = some (.tup xs)) : SqT K H p xs := Or.inl (Or.inl h)
theorem SqL.at {p : Addr} {xs : List V} (h : H p = some (.lst xs)) : SqL K H p xs := Or.inl (Or.inl h)
/-- the answer of a test is told -/
theorem w_iteT {c : Bool} {A B : Prop} (h : c = true) (k : A) : if c = true then A else B := by rw [if_pos h]; exact k
theorem w_iteF {c : Bool} {A B : Prop} (h : c = false) (k : B) : if c = true then A else B := by rw [h]; exact iteF k
end
theorem eV_non {e : Option Int} : (eV e = .non) ↔ e = none := by cases e <;> simp [eV]
theorem atI0 {v : V} {xs : List V} : atI (v :: xs) 0 = some v := atI_nat (j := 0) rfl
/-- a band's fields -/
def bandF (lo hi : Option Int) : List (Str × V) := [("low", eV lo), ("high", eV hi)]
theorem bandF_put (lo hi : Option Int) : putF "high" (eV hi) (putF "low" (eV lo) []) = bandF lo hi := by
  show putF "high" (eV hi) [("low", eV lo)] = _
  have n : ¬ (("low" : Str) = "high") := by decide +kernel
  show (if ("low" : Str) = "high" then [(("low" : Str), eV hi)] else (("low" : Str), eV lo) :: putF "high" (eV hi) []) = bandF lo hi
  rw [if_neg n]
  rfl
theorem bandF_low (lo hi : Option Int) : (bandF lo hi).lookup ("low" : Str) = some (eV lo) := by
  rw [← bandF_put, lookup_putF, if_neg (by decide +kernel), lookup_putF, if_pos rfl]
theorem bandF_high (lo hi : Option Int) : (bandF lo hi).lookup ("high" : Str) = some (eV hi) := by
  rw [← bandF_put, lookup_putF, if_pos rfl]
theorem bandF_no (lo hi : Option Int) {m : Str} (h1 : ¬ m = "low") (h2 : ¬ m = "high") : (bandF lo hi).lookup m = none := by
  rw [← bandF_put, lookup_putF, if_neg h2, lookup_putF, if_neg h1]
  rfl
/-- a band stands at p -/
def BandAt (C : Addr) (H : Hp) (p : Addr) (lo hi : Option Int) : Prop := ∃ dx, H p = some (.ins C dx (bandF lo hi))
theorem BandAt.mono {C : Addr} {H H' : Hp} {p : Addr} {lo hi : Option Int} (s : Same H H') : BandAt C H p lo hi → BandAt C H' p lo hi := fun ⟨dx, h⟩ => ⟨dx, s _ _ h⟩
/-- the two ways of a conditional expression meet again -/
theorem if_join {c : Bool} {σ : L2.St} {H1 : Hp} {ta tb : TE} {Q : VK} (R : V → Hp → Prop) (h1 : c = true → ∀ Q' : VK, (∀ v H', R v H' → Q' v H') → ta σ H1 Q')
    (h2 : c = false → ∀ Q' : VK, (∀ v H', R v H' → Q' v H') → tb σ H1 Q') (rest : ∀ v H', R v H' → Q v H') : if c = true then ta σ H1 Q else tb σ H1 Q :=
  ite_b (fun h => h1 h Q rest) (fun h => h2 h Q rest)
/-! ### kinds of things -/
def tyN : PyData → String
  | .none => "NoneType"
  | .bool _ => "bool"
  | .int _ => "int"
  | .str _ => "str"
  | .list _ => "list"
  | .tuple _ => "tuple"
  | .dict _ => "dict"
theorem ty_dp {K : PySem.W.Frag} {H : Hp} {v : V} {d : PyData} (h : Dp K H v d) : TyX K H v (.type (tyN d)) := by
  cases h with
  | non => exact .base .non
  | bl b => exact .base (.bl b)
  | int i => exact .base (.int i)
  | str x => exact .base (.str x)
  | lst h _ =>
    rcases h with (h | ⟨o, h⟩) | ⟨o, its, n, h1, h2, _⟩
    · exact .base (.lst h)
    · exact .base (.frz h)
    · exact .kList h1 h2
  | tup h _ =>
    rcases h with (h | ⟨o, h⟩) | ⟨o, its, n, h1, h2, _⟩
    · exact .base (.tup h)
    · exact .fTuple h
    · exact .kTuple h1 h2
def isIntD : PyData → Bool
  | .int _ => true
  | .bool _ => true
  | _ => false
def isBoolD : PyData → Bool
  | .bool _ => true
  | _ => false
def isStrD : PyData → Bool
  | .str _ => true
  | _ => false
def isTupD : PyData → Bool
  | .tuple _ => true
  | _ => false
def isListD : PyData → Bool
  | .list _ => true
  | _ => false
/-- a whole number -/
def wholeD : PyData → Bool
  | .int _ => true
  | _ => false
theorem kt_int_NoneType : kitB "NoneType" "int" = some false := by decide +kernel
theorem kt_int_bool : kitB "bool" "int" = some true := by decide +kernel
theorem kt_int_int : kitB "int" "int" = some true := by decide +kernel
theorem kt_int_str : kitB "str" "int" = some false := by decide +kernel
theorem kt_int_list : kitB "list" "int" = some false := by decide +kernel
theorem kt_int_tuple : kitB "tuple" "int" = some false := by decide +kernel
theorem kt_int_dict : kitB "dict" "int" = some false := by decide +kernel
theorem kt_bool_NoneType : kitB "NoneType" "bool" = some false := by decide +kernel
theorem kt_bool_bool : kitB "bool" "bool" = some true := by decide +kernel
theorem kt_bool_int : kitB "int" "bool" = some false := by decide +kernel
theorem kt_bool_str : kitB "str" "bool" = some false := by decide +kernel
theorem kt_bool_list : kitB "list" "bool" = some false := by decide +kernel
theorem kt_bool_tuple : kitB "tuple" "bool" = some false := by decide +kernel
theorem kt_bool_dict : kitB "dict" "bool" = some false := by decide +kernel
theorem kt_str_NoneType : kitB "NoneType" "str" = some false := by decide +kernel
theorem kt_str_bool : kitB "bool" "str" = some false := by decide +kernel
theorem kt_str_int : kitB "int" "str" = some false := by decide +kernel
theorem kt_str_str : kitB "str" "str" = some true := by decide +kernel
theorem kt_str_list : kitB "list" "str" = some false := by decide +kernel
theorem kt_str_tuple : kitB "tuple" "str" = some false := by decide +kernel
theorem kt_str_dict : kitB "dict" "str" = some false := by decide +kernel
theorem kt_tup_NoneType : kitB "NoneType" "tuple" = some false := by decide +kernel
theorem kt_tup_bool : kitB "bool" "tuple" = some false := by decide +kernel
theorem kt_tup_int : kitB "int" "tuple" = some false := by decide +kernel
theorem kt_tup_str : kitB "str" "tuple" = some false := by decide +kernel
theorem kt_tup_list : kitB "list" "tuple" = some false := by decide +kernel
theorem kt_tup_tuple : kitB "tuple" "tuple" = some true := by decide +kernel
theorem kt_tup_dict : kitB "dict" "tuple" = some false := by decide +kernel
theorem kt_list_NoneType : kitB "NoneType" "list" = some false := by decide +kernel
theorem kt_list_bool : kitB "bool" "list" = some false := by decide +kernel
theorem kt_list_int : kitB "int" "list" = some false := by decide +kernel
theorem kt_list_str : kitB "str" "list" = some false := by decide +kernel
theorem kt_list_list : kitB "list" "list" = some true := by decide +kernel
theorem kt_list_tuple : kitB "tuple" "list" = some false := by decide +kernel
theorem kt_list_dict : kitB "dict" "list" = some false := by decide +kernel
theorem kit_int {K : PySem.W.Frag} : ∀ d : PyData, PySem.W.kitOne K (.type (tyN d)) (.type "int") = some (isIntD d)
  | .none => kit_ty kt_int_NoneType
  | .bool _ => kit_ty kt_int_bool
  | .int _ => kit_ty kt_int_int
  | .str _ => kit_ty kt_int_str
  | .list _ => kit_ty kt_int_list
  | .tuple _ => kit_ty kt_int_tuple
  | .dict _ => kit_ty kt_int_dict
theorem kit_bool {K : PySem.W.Frag} : ∀ d : PyData, PySem.W.kitOne K (.type (tyN d)) (.type "bool") = some (isBoolD d)
  | .none => kit_ty kt_bool_NoneType
  | .bool _ => kit_ty kt_bool_bool
  | .int _ => kit_ty kt_bool_int
  | .str _ => kit_ty kt_bool_str
  | .list _ => kit_ty kt_bool_list
  | .tuple _ => kit_ty kt_bool_tuple
  | .dict _ => kit_ty kt_bool_dict
theorem kit_str {K : PySem.W.Frag} : ∀ d : PyData, PySem.W.kitOne K (.type (tyN d)) (.type "str") = some (isStrD d)
  | .none => kit_ty kt_str_NoneType
  | .bool _ => kit_ty kt_str_bool
  | .int _ => kit_ty kt_str_int
  | .str _ => kit_ty kt_str_str
  | .list _ => kit_ty kt_str_list
  | .tuple _ => kit_ty kt_str_tuple
  | .dict _ => kit_ty kt_str_dict
theorem kit_tup {K : PySem.W.Frag} : ∀ d : PyData, PySem.W.kitOne K (.type (tyN d)) (.type "tuple") = some (isTupD d)
  | .none => kit_ty kt_tup_NoneType
  | .bool _ => kit_ty kt_tup_bool
  | .int _ => kit_ty kt_tup_int
  | .str _ => kit_ty kt_tup_str
  | .list _ => kit_ty kt_tup_list
  | .tuple _ => kit_ty kt_tup_tuple
  | .dict _ => kit_ty kt_tup_dict
theorem kit_list {K : PySem.W.Frag} : ∀ d : PyData, PySem.W.kitOne K (.type (tyN d)) (.type "list") = some (isListD d)
  | .none => kit_ty kt_list_NoneType
  | .bool _ => kit_ty kt_list_bool
  | .int _ => kit_ty kt_list_int
  | .str _ => kit_ty kt_list_str
  | .list _ => kit_ty kt_list_list
  | .tuple _ => kit_ty kt_list_tuple
  | .dict _ => kit_ty kt_list_dict
/-- isinstance(v, a built-in class) of data -/
theorem w_isi {K : PySem.W.Frag} {H : Hp} {Q : VK} {v : V} {d : PyData} {n : String} {b : Bool} (h : Dp K H v d) (e : PySem.W.kitOne K (.type (tyN d)) (.type n) = some b) (k : Q (.bl b) H) :
    rIsi K [v, .ty n] H Q := ⟨v, .ty n, _, _, b, rfl, .ty n, ty_dp h, e, k⟩
/-- what isinstance and == ask of an own class -/
structure InstC (K : PySem.W.Frag) (C : Addr) : Prop where
  ha : PySem.W.findIn K (.ref C) "__class__" = some (some (.builtin "object.__class__"))
  hn : PySem.W.specialIn K (.builtin "object.__class__") "__get__" = some (some (.builtin "getset_descriptor.__get__"))
  ht : PySem.W.takesIn K (.builtin "object.__class__") = some true
  hm : PySem.W.mroIn K C (.type "object") = some true
  ic : PySem.W.isClsIn K C = true
  tc : PySem.W.typeIn K (.ref C) = some (.type "type")
  sN : PySem.W.subIn K (.type "NoneType") (.ref C) = some false
  sI : PySem.W.subIn K (.type "int") (.ref C) = some false
  sB : PySem.W.subIn K (.type "bool") (.ref C) = some false
  sS : PySem.W.subIn K (.type "str") (.ref C) = some false
  sL : PySem.W.subIn K (.type "list") (.ref C) = some false
  sT : PySem.W.subIn K (.type "tuple") (.ref C) = some false
  sD : PySem.W.subIn K (.type "dict") (.ref C) = some false
theorem InstC.sub {K : PySem.W.Frag} {C : Addr} (I : InstC K C) : ∀ d : PyData, PySem.W.subIn K (.type (tyN d)) (.ref C) = some false
  | .none => I.sN
  | .bool _ => I.sB
  | .int _ => I.sI
  | .str _ => I.sS
  | .list _ => I.sL
  | .tuple _ => I.sT
  | .dict _ => I.sD
theorem InstC.kit {K : PySem.W.Frag} {C : Addr} (I : InstC K C) {t : Value} {b : Bool} (ne : (t == .ref C) = false) (h : PySem.W.subIn K t (.ref C) = some b) : PySem.W.kitOne K t (.ref C) = some b := by
  have e2 : ((PySem.W.clsIn K C).isSome && PySem.W.typeIn K (.ref C) == some (.type "type")) = true := by
    have e1 : (PySem.W.clsIn K C).isSome = true := I.ic
    rw [e1, I.tc] <;> rfl
  unfold PySem.W.kitOne PySem.W.kitCls
  rw [ne, if_neg Bool.false_ne_true]
  show (if ((PySem.W.clsIn K C).isSome && PySem.W.typeIn K (.ref C) == some (.type "type")) = true then _ else _) = _
  rw [if_pos e2]
  exact h
theorem InstC.self {K : PySem.W.Frag} {C : Addr} : PySem.W.kitOne K (.ref C) (.ref C) = some true := if_pos (by simp)
theorem InstC.first {K : PySem.W.Frag} {C : Addr} (I : InstC K C) (d : PyData) : PySem.W.notFirst K C (.type (tyN d)) = true := by
  unfold PySem.W.notFirst
  rw [I.sub d]
  simp
theorem InstC.firstS {K : PySem.W.Frag} {C : Addr} : PySem.W.notFirst K C (.ref C) = true := by unfold PySem.W.notFirst; simp
theorem InstC.ty {K : PySem.W.Frag} {C : Addr} (I : InstC K C) (cl : Cls K C) {H : Hp} {a dx : Addr} {fs : List (Str × V)} (h : H a = some (.ins C dx fs)) : TyX K H (.ref a) (.ref C) :=
  .base (.ins h cl I.ha I.hn I.ht I.hm)
/-- isinstance(v, C) of data: no -/
theorem w_isiC {K : PySem.W.Frag} {C : Addr} (I : InstC K C) {H : Hp} {Q : VK} {v : V} {d : PyData} (h : Dp K H v d) (k : Q (.bl false) H) : rIsi K [v, .ref C] H Q :=
  ⟨v, .ref C, _, _, false, rfl, .own C, ty_dp h, I.kit (by simp) (I.sub d), k⟩
/-- isinstance(o, C) of an instance of C: yes -/
theorem w_isiS {K : PySem.W.Frag} {C : Addr} (I : InstC K C) (cl : Cls K C) {H : Hp} {Q : VK} {a dx : Addr} {fs : List (Str × V)} (h : H a = some (.ins C dx fs)) (k : Q (.bl true) H) :
    rIsi K [.ref a, .ref C] H Q := ⟨.ref a, .ref C, _, _, true, rfl, .own C, I.ty cl h, InstC.self, k⟩
/-- a def with defaults from which no error comes -/
theorem funD_ok {P : Program} {w : World} {K : PySem.W.Frag} {mg : Str → Option Value} {base : Heap} {x qual : Str} {params : Arguments} {body : List Stmt} {scope : Scope} {dvs : List V}
    {kws : List (Str × V)} {f : Addr} {fd : FuncData} {N ps : List Str} {k : Nat} {sp : Sp} (F : FunD K x qual params body scope dvs kws f fd) (S : FnScope N ps scope)
    (len : ∀ vs H Q E, sp vs H Q E → vs.length = ps.length)
    (hb : ∀ (cdv : Value) (A : Around) (outer : List Env) (s : Shared) (H : Hp) (vs : List V) (Q : VK) (E : XK), Room k (A.deeper (PyProof.Rows.envOfC qual scope s.heap.objs.size f cdv)) → sp vs H Q E →
      ∃ t, PSs (cxOf CX0 P w K mg base N qual scope f cdv A outer s H E).nox body t ∧ t { nx := fun _ H' => Q .non H', rt := Q } (start N vs) H) :
    FnOk P w K mg base CX0 (k + 1) f fd ps sp :=
  F.ok S len fun cdv A outer s H vs Q E hr hsp => let ⟨t, h, q⟩ := hb cdv A outer s H vs Q E hr hsp; ⟨t, h.nox, q⟩
end Sil
set_option Elab.async false
set_option linter.all false
set_option maxRecDepth 100000
set_option maxHeartbeats 1000000
/-! P4: comprehensions by an invariant that does not see the list under way; pure ones; for loops. -/
namespace Sil
open PySem L2
/-- what stands behind a comprehension's source -/
def kLc (J : It) (g : TG) (tt : TT) (te : TE) (vs : List Nat) (σ : L2.St) (H1 : Hp) (Q : VK) : Prop := ∀ D, H1 D = none → ∃ W : Nat → Nat → Hp → Prop, (∃ m, W 0 m (upd H1 D (.lst []))) ∧ ∀ i m H, W i m H →
  (J.stop i H ∧ Q (.ref D) H) ∨ (J.go i H ∧ ∃ Nx : Hp → Prop, (∀ H', Nx H' → ∃ m', m' < m ∧ W (i + 1) m' H') ∧ ∀ x H', J.yld i H x H' → g x (wipe σ vs) H' fun σ2 H2 => wipe σ2 vs = wipe σ vs ∧ tt σ2 H2 fun b H3 =>
    if b = true then te σ2 H3 fun y H4 => ∃ acc, H4 D = some (.lst acc) ∧ acc.length < sizeLine ∧ Nx (upd H4 D (.lst (acc ++ [y]))) else Nx H3)
theorem w_lcT {K : PySem.W.Frag} {tl : TE} {g : TG} {tt : TT} {te : TE} {vs : List Nat} {σ : L2.St} {H : Hp} {Q : VK}
    (k : tl σ H fun x H1 => ∃ a, x = .ref a ∧ (∃ xs, SqT K H1 a xs) ∧ kLc (Itt K a) g tt te vs σ H1 Q) : tLc (iTup K tl) g tt te vs σ H Q := k
theorem w_lcL {K : PySem.W.Frag} {tl : TE} {g : TG} {tt : TT} {te : TE} {vs : List Nat} {σ : L2.St} {H : Hp} {Q : VK}
    (k : tl σ H fun x H1 => ∃ a, x = .ref a ∧ (∃ xs, SqL K H1 a xs) ∧ kLc (Itl K a) g tt te vs σ H1 Q) : tLc (iList K tl) g tt te vs σ H Q := k
theorem w_lcR {ta : TA} {g : TG} {tt : TT} {te : TE} {vs : List Nat} {σ : L2.St} {H : Hp} {Q : VK}
    (k : ta σ H fun zs H1 => ∃ j : Int, zs = [.int j] ∧ -(2 ^ 62) ≤ j ∧ j < 2 ^ 62 ∧ kLc (Itr 0 j.toNat) g tt te vs σ H1 Q) : tLc (iRng1 ta) g tt te vs σ H Q := k
theorem off_upd {D : Addr} {H : Hp} {o : HO} : off [D] (upd H D o) = off [D] H := by
  funext a
  unfold off
  by_cases h : a ∈ [D]
  · rw [if_pos h, if_pos h]
  · rw [if_neg h, if_neg h, upd_ne (by simpa using h)]
theorem off_new {D : Addr} {H : Hp} (h : H D = none) : off [D] H = H := by
  funext a
  unfold off
  by_cases q : a ∈ [D]
  · rw [if_pos q]; rw [List.mem_singleton] at q; rw [q, h]
  · rw [if_neg q]
/-- one turn: the test, then the element; D is the list under way -/
def LcTurn (tt : TT) (te : TE) (vs : List Nat) (σ σ2 : L2.St) (D : Addr) (Pv : Nat → List V → Hp → Prop) (i : Nat) (acc : List V) (H' : Hp) : Prop :=
  wipe σ2 vs = wipe σ vs ∧ tt σ2 H' fun b H3 => if b = true then te σ2 H3 fun y H4 => H4 D = some (.lst acc) ∧ Pv (i + 1) (acc ++ [y]) (off [D] H4)
    else H3 D = some (.lst acc) ∧ Pv (i + 1) acc (off [D] H3)
/-- the monotone part that a turn wants of its test and element: told by the caller for each continuation -/
def LcTurnQ (g : TG) (tt : TT) (te : TE) (vs : List Nat) (σ : L2.St) (D : Addr) (x : V) (Pv : Nat → List V → Hp → Prop) (i : Nat) (acc : List V) (H' : Hp) : Prop :=
  ∀ (Nx Ny : Hp → Prop), (∀ (y : V) (H4 : Hp), H4 D = some (.lst acc) → Pv (i + 1) (acc ++ [y]) (off [D] H4) → Nx (upd H4 D (.lst (acc ++ [y])))) →
    (∀ H3 : Hp, H3 D = some (.lst acc) → Pv (i + 1) acc (off [D] H3) → Ny H3) → acc.length < sizeLine →
    g x (wipe σ vs) H' fun σ2 H2 => wipe σ2 vs = wipe σ vs ∧ tt σ2 H2 fun b H3 =>
      if b = true then te σ2 H3 fun y H4 => ∃ acc, H4 D = some (.lst acc) ∧ acc.length < sizeLine ∧ Nx (upd H4 D (.lst (acc ++ [y]))) else Ny H3
section
variable {K : PySem.W.Frag} {a : Addr} {g : TG} {tt : TT} {te : TE} {vs : List Nat} {σ : L2.St} {H1 : Hp} {Q : VK}
def LcInv (D : Addr) (Pv : Nat → List V → Hp → Prop) (i : Nat) (H : Hp) : Prop := ∃ acc : List V, H D = some (.lst acc) ∧ acc.length ≤ i ∧ Pv i acc (off [D] H)
theorem lcinv_next {D : Addr} {Pv : Nat → List V → Hp → Prop} {i : Nat} {x : V} {acc : List V} {H : Hp} (ha : acc.length ≤ i) (hi : i < 100000)
    (h : LcTurnQ g tt te vs σ D x Pv i acc H) : g x (wipe σ vs) H fun σ2 H2 => wipe σ2 vs = wipe σ vs ∧ tt σ2 H2 fun b H3 =>
      if b = true then te σ2 H3 fun y H4 => ∃ acc, H4 D = some (.lst acc) ∧ acc.length < sizeLine ∧ LcInv D Pv (i + 1) (upd H4 D (.lst (acc ++ [y]))) else LcInv D Pv (i + 1) H3 := by
  refine h _ _ (fun y H4 _ p => ?_) (fun H3 d p => ?_) (Nat.lt_of_le_of_lt ha (Nat.lt_trans hi (by decide)))
  · refine ⟨acc ++ [y], upd_same, by rw [List.length_append, List.length_singleton]; omega, ?_⟩
    rw [off_upd]; exact p
  · exact ⟨acc, d, Nat.le_succ_of_le ha, p⟩
/-- over a tuple, by an invariant over the turn, what is made so far, and the heap without the list under way -/
theorem k_lcT {xs : List V} (hz : xs.length ≤ 100000) (Pv : Nat → List V → Hp → Prop) (h0 : Pv 0 [] H1) (hl : ∀ i acc G, Pv i acc G → SqT K G a xs)
    (hs : ∀ D i x acc H, H1 D = none → xs[i]? = some x → H D = some (.lst acc) → Pv i acc (off [D] H) → LcTurnQ g tt te vs σ D x Pv i acc H)
    (hd : ∀ D acc H, H1 D = none → H D = some (.lst acc) → Pv xs.length acc (off [D] H) → Q (.ref D) H) : kLc (Itt K a) g tt te vs σ H1 Q := by
  intro D nD
  refine lc_tup (xs := xs) (LcInv D Pv) ⟨[], upd_same, Nat.le_refl _, by rw [off_upd, off_new nD]; exact h0⟩ ?_ ?_ ?_
  · rintro i H hi ⟨acc, hD, _, p⟩
    exact same_seqT off_sub (hl _ _ _ p)
  · rintro i x H hx ⟨acc, hD, ha, p⟩
    have hi := (List.getElem?_eq_some_iff.mp hx).1
    exact lcinv_next ha (by omega) (hs D i x acc H nD hx hD p)
  · rintro H ⟨acc, hD, _, p⟩
    exact hd D acc H nD hD p
theorem k_lcL {xs : List V} (hz : xs.length ≤ 100000) (Pv : Nat → List V → Hp → Prop) (h0 : Pv 0 [] H1) (hl : ∀ i acc G, Pv i acc G → SqL K G a xs)
    (hs : ∀ D i x acc H, H1 D = none → xs[i]? = some x → H D = some (.lst acc) → Pv i acc (off [D] H) → LcTurnQ g tt te vs σ D x Pv i acc H)
    (hd : ∀ D acc H, H1 D = none → H D = some (.lst acc) → Pv xs.length acc (off [D] H) → Q (.ref D) H) : kLc (Itl K a) g tt te vs σ H1 Q := by
  intro D nD
  refine lc_list (xs := xs) (LcInv D Pv) ⟨[], upd_same, Nat.le_refl _, by rw [off_upd, off_new nD]; exact h0⟩ ?_ ?_ ?_
  · rintro i H hi ⟨acc, hD, _, p⟩
    exact off_sub.seq (hl _ _ _ p)
  · rintro i x H hx ⟨acc, hD, ha, p⟩
    have hi := (List.getElem?_eq_some_iff.mp hx).1
    exact lcinv_next ha (by omega) (hs D i x acc H nD hx hD p)
  · rintro H ⟨acc, hD, _, p⟩
    exact hd D acc H nD hD p
theorem k_lcR {n : Nat} (hz : n ≤ 100000) (Pv : Nat → List V → Hp → Prop) (h0 : Pv 0 [] H1)
    (hs : ∀ D (i : Nat) acc H, H1 D = none → i < n → H D = some (.lst acc) → Pv i acc (off [D] H) → LcTurnQ g tt te vs σ D (.int (i : Int)) Pv i acc H)
    (hd : ∀ D acc H, H1 D = none → H D = some (.lst acc) → Pv n acc (off [D] H) → Q (.ref D) H) : kLc (Itr 0 n) g tt te vs σ H1 Q := by
  intro D nD
  refine lc_range (lo := 0) (n := n) (LcInv D Pv) ⟨[], upd_same, Nat.le_refl _, by rw [off_upd, off_new nD]; exact h0⟩ ?_ ?_
  · rintro i H hx ⟨acc, hD, ha, p⟩
    rw [Int.zero_add]
    exact lcinv_next ha (by omega) (hs D i acc H nD hx hD p)
  · rintro H ⟨acc, hD, _, p⟩
    exact hd D acc H nD hD p
end
/-! ### pure comprehensions, the target a name -/
/-- a test, an element: told of each heap that has grown -/
def EvT (t : TT) (σ : L2.St) (H : Hp) (b : Bool) : Prop := ∀ H1, Same H H1 → ∀ Q : Bool → Hp → Prop, (∀ H2, Same H1 H2 → Q b H2) → t σ H1 Q
def EvE (t : TE) (σ : L2.St) (H : Hp) (v : V) : Prop := ∀ H1, Same H H1 → ∀ Q : VK, (∀ H2, Same H1 H2 → Q v H2) → t σ H1 Q
theorem evT_yes {σ : L2.St} {H : Hp} : EvT tYes σ H true := fun H1 _ Q q => q H1 (Same.refl _)
def made (f : V → Bool) (v : V → V) (xs : List V) : List V := (xs.filter f).map v
theorem made_take {f : V → Bool} {v : V → V} {xs : List V} {i : Nat} {x : V} (h : xs[i]? = some x) :
    made f v (xs.take (i + 1)) = if f x = true then made f v (xs.take i) ++ [v x] else made f v (xs.take i) := by
  unfold made
  have e : xs.take (i + 1) = xs.take i ++ [x] := by
    rw [List.take_succ, h]; rfl
  rw [e, List.filter_append, List.map_append]
  by_cases c : f x = true
  · rw [if_pos c]; simp [List.filter_cons, c]
  · rw [if_neg c]; simp [List.filter_cons, c]
section
variable {K : PySem.W.Frag} {a : Addr} {j : Nat} {tt : TT} {te : TE} {vs : List Nat} {σ : L2.St} {H1 : Hp} {Q : VK}
theorem pure_turn {f : V → Bool} {v : V → V} {xs : List V} {D : Addr} {i : Nat} {x : V} {acc : List V} {H : Hp} (nD : H1 D = none) (hx : xs[i]? = some x) (hD : H D = some (.lst acc))
    (p : acc = made f v (xs.take i) ∧ Same H1 (off [D] H)) (hw : ∀ x, wipe ((wipe σ vs).set j (some x)) vs = wipe σ vs) (ht : EvT tt ((wipe σ vs).set j (some x)) H1 (f x))
    (he : f x = true → EvE te ((wipe σ vs).set j (some x)) H1 (v x)) :
    LcTurnQ (gName j) tt te vs σ D x (fun i acc G => acc = made f v (xs.take i) ∧ Same H1 G) i acc H := by
  intro Nx Ny n1 n2 hl
  obtain ⟨pa, ps⟩ := p
  have s0 : Same H1 H := ps.trans off_sub
  have up : ∀ {H2}, Same H H2 → Same H1 (off [D] H2) := fun s b o e => off_mk (s b o (s0 b o e)) (by
    intro hm; rw [List.mem_singleton] at hm; rw [hm, nD] at e; cases e)
  refine w_name ⟨hw x, ?_⟩
  refine ht H s0 _ fun H2 s2 => ?_
  have mt := made_take (f := f) (v := v) hx
  cases c : f x with
  | true =>
    refine iteT ?_
    refine he c H2 (s0.trans s2) _ fun H3 s3 => ⟨acc, s3 _ _ (s2 _ _ hD), hl, n1 (v x) H3 (s3 _ _ (s2 _ _ hD)) ⟨?_, up (s2.trans s3)⟩⟩
    rw [mt, if_pos c, pa]
  | false =>
    refine iteF ?_
    refine n2 H2 (s2 _ _ hD) ⟨?_, up s2⟩
    rw [mt, if_neg (by rw [c]; exact Bool.false_ne_true), pa]
theorem p_lcT {xs : List V} (f : V → Bool) (v : V → V) (hz : xs.length ≤ 100000) (hx : SqT K H1 a xs) (hw : ∀ x, wipe ((wipe σ vs).set j (some x)) vs = wipe σ vs)
    (ht : ∀ x ∈ xs, EvT tt ((wipe σ vs).set j (some x)) H1 (f x)) (he : ∀ x ∈ xs, f x = true → EvE te ((wipe σ vs).set j (some x)) H1 (v x))
    (k : ∀ D H2, H1 D = none → Same H1 H2 → H2 D = some (.lst (made f v xs)) → Q (.ref D) H2) : kLc (Itt K a) (gName j) tt te vs σ H1 Q := by
  refine k_lcT (xs := xs) hz (fun i acc G => acc = made f v (xs.take i) ∧ Same H1 G) ⟨rfl, Same.refl _⟩ (fun i acc G p => same_seqT p.2 hx) ?_ ?_
  · intro D i x acc H nD hi hD p
    have hm := List.mem_of_getElem? hi
    exact pure_turn nD hi hD p hw (ht x hm) (he x hm)
  · rintro D acc H nD hD ⟨pa, ps⟩
    rw [List.take_length] at pa
    exact k D H nD (ps.trans off_sub) (pa ▸ hD)
theorem p_lcL {xs : List V} (f : V → Bool) (v : V → V) (hz : xs.length ≤ 100000) (hx : SqL K H1 a xs) (hw : ∀ x, wipe ((wipe σ vs).set j (some x)) vs = wipe σ vs)
    (ht : ∀ x ∈ xs, EvT tt ((wipe σ vs).set j (some x)) H1 (f x)) (he : ∀ x ∈ xs, f x = true → EvE te ((wipe σ vs).set j (some x)) H1 (v x))
    (k : ∀ D H2, H1 D = none → Same H1 H2 → H2 D = some (.lst (made f v xs)) → Q (.ref D) H2) : kLc (Itl K a) (gName j) tt te vs σ H1 Q := by
  refine k_lcL (xs := xs) hz (fun i acc G => acc = made f v (xs.take i) ∧ Same H1 G) ⟨rfl, Same.refl _⟩ (fun i acc G p => p.2.seq hx) ?_ ?_
  · intro D i x acc H nD hi hD p
    have hm := List.mem_of_getElem? hi
    exact pure_turn nD hi hD p hw (ht x hm) (he x hm)
  · rintro D acc H nD hD ⟨pa, ps⟩
    rw [List.take_length] at pa
    exact k D H nD (ps.trans off_sub) (pa ▸ hD)
end
/-! ### least and greatest -/
def maxO : List Int → Option Int
  | [] => none
  | x :: r => maxE (some x) (maxO r)
def minO : List Int → Option Int
  | [] => none
  | x :: r => minE (some x) (minO r)
theorem maxO_in : ∀ {ns : List Int} {m : Int}, maxO ns = some m → m ∈ ns ∧ ∀ y ∈ ns, y ≤ m
  | [], m, h => nomatch h
  | x :: r, m, h => by
    cases e : maxO r with
    | none =>
      simp only [maxO, e, maxE] at h
      cases h
      refine ⟨List.mem_cons_self, fun y hy => ?_⟩
      rcases List.mem_cons.mp hy with rfl | hy
      · exact Int.le_refl _
      · cases r with
        | nil => cases hy
        | cons z t => cases f : maxO t <;> simp [maxO, f, maxE] at e
    | some k =>
      obtain ⟨h1, h2⟩ := maxO_in e
      simp only [maxO, e, maxE] at h
      cases h
      refine ⟨?_, fun y hy => ?_⟩
      · by_cases c : k ≤ x
        · rw [Int.max_eq_left c]; exact List.mem_cons_self
        · rw [Int.max_eq_right (by omega)]; exact List.mem_cons_of_mem _ h1
      · rcases List.mem_cons.mp hy with rfl | hy
        · omega
        · have := h2 y hy; omega
theorem minO_in : ∀ {ns : List Int} {m : Int}, minO ns = some m → m ∈ ns ∧ ∀ y ∈ ns, m ≤ y
  | [], m, h => nomatch h
  | x :: r, m, h => by
    cases e : minO r with
    | none =>
      simp only [minO, e, minE] at h
      cases h
      refine ⟨List.mem_cons_self, fun y hy => ?_⟩
      rcases List.mem_cons.mp hy with rfl | hy
      · exact Int.le_refl _
      · cases r with
        | nil => cases hy
        | cons z t => cases f : minO t <;> simp [minO, f, minE] at e
    | some k =>
      obtain ⟨h1, h2⟩ := minO_in e
      simp only [minO, e, minE] at h
      cases h
      refine ⟨?_, fun y hy => ?_⟩
      · by_cases c : x ≤ k
        · rw [Int.min_eq_left c]; exact List.mem_cons_self
        · rw [Int.min_eq_right (by omega)]; exact List.mem_cons_of_mem _ h1
      · rcases List.mem_cons.mp hy with rfl | hy
        · omega
        · have := h2 y hy; omega
theorem maxO_of {ns : List Int} {m : Int} (h1 : m ∈ ns) (h2 : ∀ y ∈ ns, y ≤ m) : maxO ns = some m := by
  cases e : maxO ns with
  | none => cases ns with
    | nil => cases h1
    | cons z t => cases f : maxO t <;> simp [maxO, f, maxE] at e
  | some k =>
    obtain ⟨k1, k2⟩ := maxO_in e
    have a := k2 m h1
    have b := h2 k k1
    congr 1; omega
theorem minO_of {ns : List Int} {m : Int} (h1 : m ∈ ns) (h2 : ∀ y ∈ ns, m ≤ y) : minO ns = some m := by
  cases e : minO ns with
  | none => cases ns with
    | nil => cases h1
    | cons z t => cases f : minO t <;> simp [minO, f, minE] at e
  | some k =>
    obtain ⟨k1, k2⟩ := minO_in e
    have a := k2 m h1
    have b := h2 k k1
    congr 1; omega
/-- the ends that there are -/
def pres (es : List (Option Int)) : List Int := es.filterMap id
theorem made_pres : ∀ es : List (Option Int), made (fun x => !decide (x = V.non)) (fun x => x) (es.map eV) = (pres es).map V.int
  | [] => rfl
  | none :: r => by
    have ih := made_pres r
    unfold made pres at *
    simpa [eV] using ih
  | some i :: r => by
    have ih := made_pres r
    unfold made pres at *
    simpa [eV] using ih
theorem max_pres2 (a b : Option Int) : maxO (pres [a, b]) = maxE a b := by cases a <;> cases b <;> rfl
theorem min_pres2 (a b : Option Int) : minO (pres [a, b]) = minE a b := by cases a <;> cases b <;> rfl
section
variable {K : PySem.W.Frag} {p : Addr} {H : Hp} {Q : VK} {ns : List Int}
theorem w_maxD (h : SqL K H p (ns.map V.int)) (k : Q (eV (maxO ns)) H) : rMaxD K [.ref p] [.non] H Q :=
  ⟨p, ns, .non, rfl, rfl, h, fun e => by subst e; exact k, fun m h1 h2 => by rw [maxO_of h1 h2] at k; exact k⟩
theorem w_minD (h : SqL K H p (ns.map V.int)) (k : Q (eV (minO ns)) H) : rMinD K [.ref p] [.non] H Q :=
  ⟨p, ns, .non, rfl, rfl, h, fun e => by subst e; exact k, fun m h1 h2 => by rw [minO_of h1 h2] at k; exact k⟩
theorem w_max (h : SqL K H p (ns.map V.int)) (h0 : 0 < ns.length) (k : ∀ m, maxO ns = some m → Q (.int m) H) : rMax K [.ref p] H Q := ⟨p, ns, rfl, h, h0, fun m h1 h2 => k m (maxO_of h1 h2)⟩
theorem w_min (h : SqL K H p (ns.map V.int)) (h0 : 0 < ns.length) (k : ∀ m, minO ns = some m → Q (.int m) H) : rMin K [.ref p] H Q := ⟨p, ns, rfl, h, h0, fun m h1 h2 => k m (minO_of h1 h2)⟩
end
end Sil
set_option Elab.async false
set_option linter.all false
set_option maxRecDepth 100000
set_option maxHeartbeats 1000000
/-! P5: how long a repr is; loops; comprehensions by places. -/
namespace Sil
open PySem L2
/-! ### how long a repr is -/
theorem upto_list (ts : List Str) : (listText ts).length ≤ piled ts + 2 := by
  have gen : ∀ (ts : List Str) (k : Nat) (acc : Str), (textFrom k acc ts).length ≤ acc.length + piled ts := by
    intro ts
    induction ts with
    | nil => intro k acc; exact Nat.le_refl _
    | cons t r ih =>
      intro k acc
      have h := ih (k + 1) (acc ++ (if k > 0 then ", " else "" : String) ++ t)
      have e : (acc ++ (if k > 0 then ", " else "" : String) ++ t).length ≤ acc.length + 2 + t.length := by
        rw [strLen_append, strLen_append]
        have : (((if k > 0 then ", " else "" : String)) : Str).length ≤ 2 := by split <;> decide
        omega
      show (textFrom (k + 1) _ r).length ≤ _
      rw [piled_cons]
      omega
  have h := gen ts 0 "["
  unfold listText
  rw [strLen_append]
  have e1 : ((("[" : String) : Str)).length = 1 := rfl
  have e2 : ((("]" : String) : Str)).length = 1 := rfl
  omega
theorem upto_tuple (ts : List Str) : (tupleText ts).length ≤ piled ts + 3 := by
  unfold tupleText
  rw [strLen_append, strLen_append]
  have e1 : ((("(" : String) : Str)).length = 1 := rfl
  have e3 : (((if ts.length == 1 then ",)" else ")" : String) : Str)).length ≤ 2 := by split <;> decide
  by_cases h : ts = []
  · subst h
    have e4 : (Str.join ", " ([] : List Str)).length = 0 := rfl
    omega
  · have := join_length_add ts h
    omega
mutual
/-- a bound of a repr's length -/
def bnd : PyData → Nat
  | .none => 4
  | .bool _ => 5
  | .int _ => 1921
  | .str x => (reprText x).length
  | .list xs => bndAll xs + 2
  | .tuple xs => bndAll xs + 3
  | .dict _ => 0
def bndAll : List PyData → Nat
  | [] => 0
  | x :: r => bnd x + 2 + bndAll r
end
mutual
theorem shown_le : ∀ d : PyData, d.showable = true → d.hasDict = false → d.shown.length ≤ bnd d
  | .none, _, _ => by decide
  | .bool true, _, _ => by decide
  | .bool false, _, _ => by decide
  | .int i, h, _ => by
    have h : i.natAbs.log2 < 1920 := of_decide_eq_true h
    have q := int_text_length_le (a := i) (k := 1920) (by decide) h
    have e := ofString_length (toString i)
    show (Str.ofString (toString i)).length ≤ 1921
    omega
  | .str x, _, _ => Nat.le_refl _
  | .list xs, h, n => by
    have q := shownAll_le xs h n
    have u := upto_list (PyData.shownAll xs)
    show (listText (PyData.shownAll xs)).length ≤ bndAll xs + 2
    omega
  | .tuple xs, h, n => by
    have q := shownAll_le xs h n
    have u := upto_tuple (PyData.shownAll xs)
    show (tupleText (PyData.shownAll xs)).length ≤ bndAll xs + 3
    omega
  | .dict _, _, n => nomatch n
theorem shownAll_le : ∀ xs : List PyData, PyData.showableAll xs = true → PyData.hasDictAll xs = false → piled (PyData.shownAll xs) ≤ bndAll xs
  | [], _, _ => Nat.le_refl _
  | x :: r, h, n => by
    have h : (x.showable && PyData.showableAll r) = true := h
    have n : (x.hasDict || PyData.hasDictAll r) = false := n
    rw [Bool.and_eq_true] at h
    rw [Bool.or_eq_false_iff] at n
    have a := shown_le x h.1 n.1
    have b := shownAll_le r h.2 n.2
    show piled (x.shown :: PyData.shownAll r) ≤ bnd x + 2 + bndAll r
    rw [piled_cons]
    omega
end
theorem w_repr {K : PySem.W.Frag} {H : Hp} {Q : VK} {v : V} {d : PyData} (h : Dp K H v d) (hs : d.showable = true) (hn : d.hasDict = false) (hd : d.depth ≤ 40) (hb : bnd d ≤ 10000000)
    (k : Q (.str d.shown) H) : rRepr K [v] H Q := ⟨v, d, rfl, h, hs, hn, hd, Nat.le_trans (shown_le d hs hn) (Nat.le_trans hb (by decide)), k⟩
/-! ### loops -/
def kFor (J : It) (g : TG) (tb : TS) (D : Ends) (σ : L2.St) (H1 : Hp) : Prop := ∃ W : Nat → Nat → L2.St → Hp → Prop, (∃ m, W 0 m σ H1) ∧ ∀ i m σ H, W i m σ H →
  (J.stop i H ∧ D.nx σ H) ∨ (J.go i H ∧ ∃ N : L2.St → Hp → Prop, (∀ σ' H', N σ' H' → ∃ m', m' < m ∧ W (i + 1) m' σ' H') ∧
    ∀ x H', J.yld i H x H' → g x σ H' fun σ2 H2 => tb { D with nx := N, ct := N, bk := D.nx } σ2 H2)
section
variable {K : PySem.W.Frag} {tl : TE} {ta : TA} {g : TG} {tb : TS} {D : Ends} {σ : L2.St} {H : Hp} {a : Addr}
theorem w_forT (k : tl σ H fun x H1 => ∃ a, x = .ref a ∧ (∃ xs, SqT K H1 a xs) ∧ kFor (Itt K a) g tb D σ H1) : tFor (iTup K tl) g tb D σ H := k
theorem w_forL (k : tl σ H fun x H1 => ∃ a, x = .ref a ∧ (∃ xs, SqL K H1 a xs) ∧ kFor (Itl K a) g tb D σ H1) : tFor (iList K tl) g tb D σ H := k
theorem w_forR (k : ta σ H fun zs H1 => ∃ j : Int, zs = [.int j] ∧ -(2 ^ 62) ≤ j ∧ j < 2 ^ 62 ∧ kFor (Itr 0 j.toNat) g tb D σ H1) : tFor (iRng1 ta) g tb D σ H := k
theorem k_forR {n : Nat} (Pv : Nat → L2.St → Hp → Prop) (h0 : Pv 0 σ H)
    (hs : ∀ (i : Nat) σ H, i < n → Pv i σ H → g (.int (i : Int)) σ H fun σ2 H2 => tb { D with nx := Pv (i + 1), ct := Pv (i + 1), bk := D.nx } σ2 H2) (hd : ∀ σ H, Pv n σ H → D.nx σ H) :
    kFor (Itr 0 n) g tb D σ H := for_range (lo := 0) Pv h0 (fun i σ H hi p => by rw [Int.zero_add]; exact hs i σ H hi p) hd
theorem k_forL {xs : List V} (Pv : Nat → L2.St → Hp → Prop) (h0 : Pv 0 σ H) (hl : ∀ i σ H, Pv i σ H → SqL K H a xs)
    (hs : ∀ i x σ H, xs[i]? = some x → Pv i σ H → g x σ H fun σ2 H2 => tb { D with nx := Pv (i + 1), ct := Pv (i + 1), bk := D.nx } σ2 H2) (hd : ∀ σ H, Pv xs.length σ H → D.nx σ H) :
    kFor (Itl K a) g tb D σ H := for_list Pv h0 (fun i σ H _ p => hl i σ H p) hs hd
theorem k_forT {xs : List V} (Pv : Nat → L2.St → Hp → Prop) (h0 : Pv 0 σ H) (hl : ∀ i σ H, Pv i σ H → SqT K H a xs)
    (hs : ∀ i x σ H, xs[i]? = some x → Pv i σ H → g x σ H fun σ2 H2 => tb { D with nx := Pv (i + 1), ct := Pv (i + 1), bk := D.nx } σ2 H2) (hd : ∀ σ H, Pv xs.length σ H → D.nx σ H) :
    kFor (Itt K a) g tb D σ H := for_tup Pv h0 (fun i σ H _ p => hl i σ H p) hs hd
end
theorem w_gtup {K : PySem.W.Frag} {n : Nat} {t : TGs} {p : Addr} {xs : List V} {σ : L2.St} {H : Hp} {Q : L2.St → Hp → Prop} (h : SqT K H p xs) (hl : xs.length = n) (k : t xs σ H Q) : gTup K n t (.ref p) σ H Q :=
  ⟨p, xs, rfl, h, hl, k⟩
theorem w_gcons {t : TG} {u : TGs} {v : V} {r : List V} {σ : L2.St} {H : Hp} {Q : L2.St → Hp → Prop} (k : t v σ H fun σ' H' => u r σ' H' Q) : gCons t u (v :: r) σ H Q := ⟨v, r, rfl, k⟩
theorem w_gnil {σ : L2.St} {H : Hp} {Q : L2.St → Hp → Prop} (k : Q σ H) : gNil [] σ H Q := ⟨rfl, k⟩
/-! ### pure comprehensions by places -/
def madeI (f : Nat → Bool) (v : Nat → V) : Nat → List V
  | 0 => []
  | n + 1 => if f n = true then madeI f v n ++ [v n] else madeI f v n
section
variable {K : PySem.W.Frag} {a : Addr} {g : TG} {tt : TT} {te : TE} {vs : List Nat} {σ : L2.St} {H1 : Hp} {Q : VK}
/-- a turn by places: what the target stores is told by S -/
def TurnI (g : TG) (tt : TT) (te : TE) (vs : List Nat) (σ : L2.St) (H1 : Hp) (x : V) (b : Bool) (v : V) : Prop :=
  ∀ H, Same H1 H → ∀ R : L2.St → Hp → Prop, (∀ σ2, wipe σ2 vs = wipe σ vs → EvT tt σ2 H1 b → (b = true → EvE te σ2 H1 v) → R σ2 H) → g x (wipe σ vs) H R
theorem turnI {f : Nat → Bool} {v : Nat → V} {D : Addr} {i : Nat} {x : V} {acc : List V} {H : Hp} (nD : H1 D = none) (hD : H D = some (.lst acc))
    (p : acc = madeI f v i ∧ Same H1 (off [D] H)) (h : TurnI g tt te vs σ H1 x (f i) (v i)) :
    LcTurnQ g tt te vs σ D x (fun i acc G => acc = madeI f v i ∧ Same H1 G) i acc H := by
  intro Nx Ny n1 n2 hl
  obtain ⟨pa, ps⟩ := p
  have s0 : Same H1 H := ps.trans off_sub
  have up : ∀ {H2}, Same H H2 → Same H1 (off [D] H2) := fun s b o e => off_mk (s b o (s0 b o e)) (by
    intro hm; rw [List.mem_singleton] at hm; rw [hm, nD] at e; cases e)
  refine h H s0 _ fun σ2 hw ht he => ⟨hw, ht H s0 _ fun H2 s2 => ?_⟩
  cases c : f i with
  | true =>
    refine iteT (he c H2 (s0.trans s2) _ fun H3 s3 => ⟨acc, s3 _ _ (s2 _ _ hD), hl, n1 (v i) H3 (s3 _ _ (s2 _ _ hD)) ⟨?_, up (s2.trans s3)⟩⟩)
    show acc ++ [v i] = if f i = true then madeI f v i ++ [v i] else madeI f v i
    rw [if_pos c, pa]
  | false =>
    refine iteF (n2 H2 (s2 _ _ hD) ⟨?_, up s2⟩)
    show acc = if f i = true then madeI f v i ++ [v i] else madeI f v i
    rw [if_neg (by rw [c]; exact Bool.false_ne_true), pa]
theorem i_lcT {xs : List V} (f : Nat → Bool) (v : Nat → V) (hz : xs.length ≤ 100000) (hx : SqT K H1 a xs) (ht : ∀ i x, xs[i]? = some x → TurnI g tt te vs σ H1 x (f i) (v i))
    (k : ∀ D H2, H1 D = none → Same H1 H2 → H2 D = some (.lst (madeI f v xs.length)) → Q (.ref D) H2) : kLc (Itt K a) g tt te vs σ H1 Q := by
  refine k_lcT (xs := xs) hz (fun i acc G => acc = madeI f v i ∧ Same H1 G) ⟨rfl, Same.refl _⟩ (fun i acc G p => same_seqT p.2 hx) ?_ ?_
  · intro D i x acc H nD hi hD p
    exact turnI nD hD p (ht i x hi)
  · rintro D acc H nD hD ⟨pa, ps⟩
    exact k D H nD (ps.trans off_sub) (pa ▸ hD)
theorem i_lcL {xs : List V} (f : Nat → Bool) (v : Nat → V) (hz : xs.length ≤ 100000) (hx : SqL K H1 a xs) (ht : ∀ i x, xs[i]? = some x → TurnI g tt te vs σ H1 x (f i) (v i))
    (k : ∀ D H2, H1 D = none → Same H1 H2 → H2 D = some (.lst (madeI f v xs.length)) → Q (.ref D) H2) : kLc (Itl K a) g tt te vs σ H1 Q := by
  refine k_lcL (xs := xs) hz (fun i acc G => acc = madeI f v i ∧ Same H1 G) ⟨rfl, Same.refl _⟩ (fun i acc G p => p.2.seq hx) ?_ ?_
  · intro D i x acc H nD hi hD p
    exact turnI nD hD p (ht i x hi)
  · rintro D acc H nD hD ⟨pa, ps⟩
    exact k D H nD (ps.trans off_sub) (pa ▸ hD)
theorem i_lcR {n : Nat} (f : Nat → Bool) (v : Nat → V) (hz : n ≤ 100000) (ht : ∀ i : Nat, i < n → TurnI g tt te vs σ H1 (.int (i : Int)) (f i) (v i))
    (k : ∀ D H2, H1 D = none → Same H1 H2 → H2 D = some (.lst (madeI f v n)) → Q (.ref D) H2) : kLc (Itr 0 n) g tt te vs σ H1 Q := by
  refine k_lcR (n := n) hz (fun i acc G => acc = madeI f v i ∧ Same H1 G) ⟨rfl, Same.refl _⟩ ?_ ?_
  · intro D i acc H nD hi hD p
    exact turnI nD hD p (ht i hi)
  · rintro D acc H nD hD ⟨pa, ps⟩
    exact k D H nD (ps.trans off_sub) (pa ▸ hD)
/-- the target is a name -/
theorem turn_name {j : Nat} {x : V} {b : Bool} {v : V} (hw : ∀ x, wipe ((wipe σ vs).set j (some x)) vs = wipe σ vs) (ht : EvT tt ((wipe σ vs).set j (some x)) H1 b)
    (he : b = true → EvE te ((wipe σ vs).set j (some x)) H1 v) : TurnI (gName j) tt te vs σ H1 x b v := fun H _ R k => w_name (k _ (hw x) ht he)
end
end Sil
set_option Elab.async false
set_option linter.all false
set_option maxRecDepth 100000
set_option maxHeartbeats 1000000
/-! P6: the rules with the written part told (so that a comprehension's block has the same readings), their readings by names. -/
namespace Sil
open PySem L2
section
variable {X : Cx} (K : PySem.W.Frag)
theorem k_ixL (h : X.K = K := by rfl) : IxR X (rIxL K) := by subst h; exact ix_list
theorem k_ixT (h : X.K = K := by rfl) : IxR X (rIxT K) := by subst h; exact ix_tup
theorem k_slT (h : X.K = K := by rfl) : SlR X (rSlT K) := by subst h; exact sl_tup
theorem k_slL (h : X.K = K := by rfl) : SlR X (rSlL K) := by subst h; exact sl_list
def rLen : List V → Hp → VK → Prop := fun xs H Q => ∃ p ys, xs = [.ref p] ∧ (SqL K H p ys ∨ SqT K H p ys) ∧ Q (.int ys.length) H
theorem k_len (h : X.K = K := by rfl) : CallR X (.builtin "len") (rLen K) := by subst h; exact call_len_seq
def rListOf : List V → Hp → VK → Prop := fun xs H Q => ∃ p ys, xs = [.ref p] ∧ (SqL K H p ys ∨ SqT K H p ys) ∧ ∀ l, H l = none → Q (.ref l) (upd H l (.lst ys))
theorem k_list (h : X.K = K := by rfl) : CallR X (.type "list") (rListOf K) := by subst h; exact call_list_of
def rTupOf : List V → Hp → VK → Prop := fun xs H Q => ∃ p ys, xs = [.ref p] ∧ ((SqL K H p ys ∧ ∀ l, H l = none → Q (.ref l) (upd H l (.tup ys))) ∨ (SqT K H p ys ∧ Q (.ref p) H))
theorem k_tuple (h : X.K = K := by rfl) : CallR X (.type "tuple") (rTupOf K) := by subst h; exact call_tuple_of
theorem k_sum (hc : X.calm = true := by rfl) (h : X.K = K := by rfl) : CallR X (.builtin "sum") (rSum K) := by subst h; exact cr_sum hc
theorem k_max (hc : X.calm = true := by rfl) (h : X.K = K := by rfl) : CallR X (.builtin "max") (rMax K) := by subst h; exact cr_max hc
theorem k_min (hc : X.calm = true := by rfl) (h : X.K = K := by rfl) : CallR X (.builtin "min") (rMin K) := by subst h; exact cr_min hc
theorem k_all (hc : X.calm = true := by rfl) (h : X.K = K := by rfl) : CallR X (.builtin "all") (rAll K) := by subst h; exact cr_all hc
theorem k_any (hc : X.calm = true := by rfl) (h : X.K = K := by rfl) : CallR X (.builtin "any") (rAny K) := by subst h; exact cr_any hc
theorem k_sortedS (h : X.K = K := by rfl) : CallR X (.builtin "sorted") (rSortedS K) := by subst h; exact cr_sortedS
theorem k_maxD (hc : X.calm = true := by rfl) (h : X.K = K := by rfl) : CallRK X (.builtin "max") [Str.ofString "default"] (rMaxD K) := by subst h; exact cr_maxD hc
theorem k_minD (hc : X.calm = true := by rfl) (h : X.K = K := by rfl) : CallRK X (.builtin "min") [Str.ofString "default"] (rMinD K) := by subst h; exact cr_minD hc
theorem k_sumS (hc : X.calm = true := by rfl) (h : X.K = K := by rfl) : CallRK X (.builtin "sum") [Str.ofString "start"] (rSumS K) := by subst h; exact cr_sumS hc
theorem k_isi (h : X.K = K := by rfl) : CallR X (.builtin "isinstance") (rIsi K) := by subst h; exact call_isi
theorem k_isiT (h : X.K = K := by rfl) : CallR X (.builtin "isinstance") (rIsiT K) := by subst h; exact call_isiT
theorem k_repr {k : Nat} (hr : Room k X.A) (hg : Calm X.A) (h : X.K = K := by rfl) : CallR X (.builtin "repr") (rRepr K) := by subst h; exact cr_repr hr hg
theorem k_in (h : X.K = K := by rfl) : OpR X (compareOp .In) (rIn K false) := by subst h; exact op_in_seq
theorem k_notIn (h : X.K = K := by rfl) : OpR X (compareOp .NotIn) (rIn K true) := by subst h; exact op_notIn_seq
theorem k_eqD {k : Nat} (hr : Room k X.A) (h : X.K = K := by rfl) : OpR X (compareOp .Eq) (rEqD K) := by subst h; exact op_eqD hr.units
theorem k_neD {k : Nat} (hr : Room k X.A) (h : X.K = K := by rfl) : OpR X (compareOp .NotEq) (rNeD K) := by subst h; exact op_neD hr.units
end
section
variable {X : Cx}
def rIsNon : R2 := fun x y H Q => y = .non ∧ Q (.bl (decide (x = .non))) H
def rNotNon : R2 := fun x y H Q => y = .non ∧ Q (.bl (!decide (x = .non))) H
theorem k_isN : OpR X (compareOp .Is) rIsNon := op_isN
theorem k_notN : OpR X (compareOp .IsNot) rNotNon := op_notN
def rAbs : List V → Hp → VK → Prop := fun xs H Q => ∃ i, xs = [.int i] ∧ Q (.int (if i < 0 then -i else i)) H
theorem k_abs : CallR X (.builtin "abs") rAbs := call_abs
def rMax2 : List V → Hp → VK → Prop := fun xs H Q => ∃ i j, xs = [.int i, .int j] ∧ Q (.int (if j > i then j else i)) H
def rMin2 : List V → Hp → VK → Prop := fun xs H Q => ∃ i j, xs = [.int i, .int j] ∧ Q (.int (if j < i then j else i)) H
theorem k_max2 (hc : X.calm = true := by rfl) : CallR X (.builtin "max") rMax2 := call_max2 hc
theorem k_min2 (hc : X.calm = true := by rfl) : CallR X (.builtin "min") rMin2 := call_min2 hc
def rLenStr : List V → Hp → VK → Prop := fun xs H Q => ∃ z, xs = [.str z] ∧ z.length ≤ sizeLine ∧ Q (.int z.length) H
theorem k_lenStr : CallR X (.builtin "len") rLenStr := call_len_str
def rInt1 : List V → Hp → VK → Prop := fun xs H Q => (∃ i, xs = [.int i] ∧ Q (.int i) H) ∨ ∃ k, xs = [.bl k] ∧ Q (.int (if k then 1 else 0)) H
theorem k_int1 : CallR X (.type "int") rInt1 := call_int1
def rLtS : R2 := fun x y H Q => ∃ i j, x = .str i ∧ y = .str j ∧ Q (.bl (decide (i.cps.toList < j.cps.toList))) H
theorem k_ltS : OpR X (compareOp .Lt) rLtS := op_lt_str
def rAddS : R2 := fun x y H Q => ∃ i j, x = .str i ∧ y = .str j ∧ i.length + j.length ≤ sizeLine ∧ Q (.str (i ++ j)) H
theorem k_addS : OpR X (binaryOp .Add) rAddS := op_add_str
end
section
variable {X : Cx} (K : PySem.W.Frag) {e o tg : Expr} {es : List Expr} {ta to : TE} {t : TA} {f name : Str} {pos apos cpos : Pos} {T id : String} {r : V → List V → Hp → VK → Prop} {pl : Sem Bool}
theorem pe_fldK (he : PE X e ta) (hb : attributeBase e f X.env (eval e X.env) = eval e X.env := by rfl) (h : X.K = K := by rfl) : PE X (.Attribute e f pos) (tFld K ta f) := by subst h; exact pe_fld he hb
theorem pi_listK (hl : PE X e ta) (h : X.K = K := by rfl) : PI X tg e (iList K ta) := by subst h; exact pi_list hl
theorem pi_tupK (hl : PE X e ta) (h : X.K = K := by rfl) : PI X tg e (iTup K ta) := by subst h; exact pi_tup hl
end
/-! readings by names -/
section
variable {K : PySem.W.Frag} {H : Hp} {Q : VK} {x v : V} {p : Addr} {xs : List V}
theorem w_isN (k : Q (.bl (decide (x = .non))) H) : rIsNon x .non H Q := ⟨rfl, k⟩
theorem w_notN (k : Q (.bl (!decide (x = .non))) H) : rNotNon x .non H Q := ⟨rfl, k⟩
theorem w_abs {i : Int} (k : Q (.int (if i < 0 then -i else i)) H) : rAbs [.int i] H Q := ⟨i, rfl, k⟩
theorem w_max2 {i j : Int} (k : Q (.int (if j > i then j else i)) H) : Sil.rMax2 [.int i, .int j] H Q := ⟨i, j, rfl, k⟩
theorem w_min2 {i j : Int} (k : Q (.int (if j < i then j else i)) H) : rMin2 [.int i, .int j] H Q := ⟨i, j, rfl, k⟩
theorem w_lenL (h : SqL K H p xs) (k : Q (.int xs.length) H) : rLen K [.ref p] H Q := ⟨p, xs, rfl, .inl h, k⟩
theorem w_lenT (h : SqT K H p xs) (k : Q (.int xs.length) H) : rLen K [.ref p] H Q := ⟨p, xs, rfl, .inr h, k⟩
theorem w_lenS {z : Str} (h : z.length ≤ sizeLine) (k : Q (.int z.length) H) : rLenStr [.str z] H Q := ⟨z, rfl, h, k⟩
theorem w_list {ys : List V} (h : SqL K H p ys ∨ SqT K H p ys) (k : ∀ l H2, H l = none → Same H H2 → H2 l = some (.lst ys) → Q (.ref l) H2) : rListOf K [.ref p] H Q :=
  ⟨p, ys, rfl, h, fun l nl => k l _ nl (same_new nl) upd_same⟩
theorem w_tupleL {ys : List V} (h : SqL K H p ys) (k : ∀ l H2, H l = none → Same H H2 → H2 l = some (.tup ys) → Q (.ref l) H2) : rTupOf K [.ref p] H Q :=
  ⟨p, ys, rfl, .inl ⟨h, fun l nl => k l _ nl (same_new nl) upd_same⟩⟩
theorem w_eqD {y : V} {d e : PyData} (h1 : Dp K H x d) (h2 : Dp K H y e) (s1 : SeqAt.shaped d = true) (s2 : SeqAt.shaped e = true) (k : Q (.bl (PyData.eqv d e)) H) : rEqD K x y H Q := ⟨d, e, h1, h2, s1, s2, k⟩
theorem w_neD {y : V} {d e : PyData} (h1 : Dp K H x d) (h2 : Dp K H y e) (s1 : SeqAt.shaped d = true) (s2 : SeqAt.shaped e = true) (k : Q (.bl (!PyData.eqv d e)) H) : rNeD K x y H Q := ⟨d, e, h1, h2, s1, s2, k⟩
theorem w_inT (h : SqT K H p xs) (hx : flatV x = true) (ha : xs.all flatV = true) (k : Q (.bl (inV x xs)) H) : rIn K false x (.ref p) H Q := ⟨p, xs, rfl, .inr h, hx, ha, k⟩
theorem w_inL (h : SqL K H p xs) (hx : flatV x = true) (ha : xs.all flatV = true) (k : Q (.bl (inV x xs)) H) : rIn K false x (.ref p) H Q := ⟨p, xs, rfl, .inl h, hx, ha, k⟩
theorem w_notInT (h : SqT K H p xs) (hx : flatV x = true) (ha : xs.all flatV = true) (k : Q (.bl (!inV x xs)) H) : rIn K true x (.ref p) H Q := ⟨p, xs, rfl, .inr h, hx, ha, k⟩
theorem w_addS {i j : Str} (h : i.length + j.length ≤ sizeLine) (k : Q (.str (i ++ j)) H) : rAddS (.str i) (.str j) H Q := ⟨i, j, rfl, rfl, h, k⟩
theorem w_ltS {i j : Str} (k : Q (.bl (decide (i.cps.toList < j.cps.toList))) H) : rLtS (.str i) (.str j) H Q := ⟨i, j, rfl, rfl, k⟩
end
/-- ints in a list are data -/
theorem dpAll_ints {K : PySem.W.Frag} {H : Hp} : ∀ ns : List Int, DpAll K H (ns.map V.int) (ns.map PyData.int)
  | [] => .nil
  | n :: r => .cons (.int n) (dpAll_ints r)
theorem canLay_ints : ∀ ns : List Int, PyData.canLayAll0 (ns.map PyData.int) = true
  | [] => rfl
  | n :: r => by
    show (true && PyData.canLayAll0 (r.map PyData.int)) = true
    rw [canLay_ints r]; rfl
theorem depth_ints : ∀ ns : List Int, PyData.depthAll (ns.map PyData.int) = 0
  | [] => rfl
  | n :: r => by
    show max 0 (PyData.depthAll (r.map PyData.int)) = 0
    rw [depth_ints r]; rfl
theorem shaped_ints (ns : List Int) : SeqAt.shaped (.list (ns.map PyData.int)) = true := by
  show (PyData.canLayAll0 (ns.map PyData.int) && decide (PyData.depthAll (ns.map PyData.int) + 1 ≤ 64)) = true
  rw [canLay_ints, depth_ints]; rfl
theorem eqv_nil (ds : List PyData) : PyData.eqv (.list ds) (.list []) = decide (ds = []) := by
  cases ds <;> rfl
/-! ### ways that meet again behind a statement -/
def tMid (t u : TS) : TS := fun D σ H => ∃ M : L2.St → Hp → Prop, t { D with nx := M } σ H ∧ ∀ σ' H', M σ' H' → u D σ' H'
theorem pss_mid {X : Cx} {st : Stmt} {rest : List Stmt} {t u : TS} (h1 : PS X st t) (h2 : PSs X rest u) : PSs X (st :: rest) (tMid t u) := by
  refine ⟨fun pins s σ H D I ⟨M, hm, hu⟩ => wpAny_execs_cons (thn (h1.run pins s σ H { D with nx := M } I hm) ?_)⟩
  intro f s1 q
  cases f with
  | next => obtain ⟨σ', H', I', q⟩ := q; exact h2.run pins s1 σ' H' D I' (hu σ' H' q)
  | ret v => exact q
  | brk => exact q
  | cont => exact q
theorem w_mid {t u : TS} {D : Ends} {σ : L2.St} {H : Hp} (M : L2.St → Hp → Prop) (h : t { D with nx := M } σ H) (k : ∀ σ' H', M σ' H' → u D σ' H') : tMid t u D σ H := ⟨M, h, k⟩
end Sil
set_option Elab.async false
set_option linter.all false
set_option maxRecDepth 100000
set_option maxHeartbeats 1000000
/-! P7: errors: one made of nothing; an object made where its __init__ may raise; keywords at a class. -/
namespace Sil
open PySem L2 PySem.Spec PyProof.Rows
section
variable {X : Cx} {C : Addr} {bmB : List Value} {B newId initId : String}
/-- X(), an own class of errors without __init__ -/
theorem pmk_own0 {x : Str} {p pos : Pos} (F : ExcBaseFacts B newId initId bmB) (q : PySem.W.excIn X.K C bmB newId = true) (gC : X.mg x = some (.ref C))
    (kC : PySem.W.keepIn X.K (.ref C) = true) (r : Raises X (.ref C)) (hg : Gl X x) (hdb : (x == ("__debug__" : Str)) = false := by decide) :
    PMk X (.Call (.Name x p) [] [] pos) (fun _ H Q => Q (.ref C) none H) := by
  intro pins s σ H Q I h
  refine wpAny_Call_Name_kw (ld_glob I hg gC ?_ hdb)
  refine PySem.W.callWith_K0 I.kIn kC ?_
  obtain ⟨bm, N, nm, qn, bs, hdct, sn, sub, ab, col, dd, k0, k1, k2, k3, k5, mN, hC, hN, hni, T⟩ := exc_obj I.kIn q
  refine wpAny_call_exc_subT F T hC hN hni (fun h' e hm => ?_) (Nat.zero_le _)
  exact mk_of I hm r h (I.hok.gone hm.new)
end
section
variable {X : Cx} {CX : CXT} {k : Nat} {f C : Addr} {fd : FuncData} {ps : List Str} {sp : Sp} {dvs : List V} {ds : List Value} {E : L2.St → XK} {x : Str} {p pos : Pos} {e : Expr} {es : List Expr} {t : TA}
theorem run_makeS {pins : List (Addr × Obj)} {σ : L2.St} {H : Hp} {s : Shared} {Q : VK} {us : List Value} {vs : List V} (M : Mk X.K C f)
    (F : FnOk X.prog X.w X.K X.mg X.base CX k f fd ps sp) (hr : Room (k + 1) X.A) (hb : Binds X.K fd ps ds) (hd : Vals dvs ds) (hx : PassesAt CX X σ (E σ))
    (I : Inv X pins σ H s) (r : Vals vs us) (h : kMake C sp (vs ++ dvs) H Q (E σ)) : wpAny (model X.prog X.w) X.A (call (.ref C) us) (EP X pins σ Q) X.xe s := by
  let new : Addr := s.heap.objs.size + 1
  have hq := h new s.heap.objs.size (I.hok.fresh (Nat.le_succ _)) (I.hok.fresh (Nat.le_refl _)) (Nat.ne_of_lt (Nat.lt_succ_self _))
  have J := Inv.made (C := C) I
  have rr : Vals (V.ref new :: (vs ++ dvs)) (Value.ref new :: (us ++ ds)) := .cons rfl (r.append hd)
  have hl : (Value.ref new :: us ++ ds).length = ps.length := (rr.length.symm.trans (F.len _ _ _ _ hq) : _)
  have run := F.run _ X.stack _ _ ⟨Value.ref new :: us, []⟩ (Value.ref new :: (us ++ ds)) _ _ (E σ) (hr.make C us []) (J.env0.make C us []) (hb _ (Value.ref new :: us) J.kIn hl) rr hq
  refine wpAny_call (make_map (f := f) I.kIn M.makes M.init (beq_iff_eq.mp M.fn) (codeAny_mono run ?_))
  rintro (er | fl) s' z
  · exact hx pins _ _ er s' J z
  · cases fl with
    | ret u =>
      obtain ⟨v, H', J2, rv, ev, q3⟩ := J.after z
      cases ev
      exact ⟨rv, ⟨V.ref new, H', J2, rfl, q3⟩⟩
    | next => exact z.elim
    | brk => exact z.elim
    | cont => exact z.elim
def tMakeS (C : Addr) (sp : Sp) (dvs : List V) (E : L2.St → XK) (t : TA) : TE := fun σ H Q => t σ H fun vs H1 => kMake C sp (vs ++ dvs) H1 Q (E σ)
theorem pe_makeS (M : Mk X.K C f) (F : FnOk X.prog X.w X.K X.mg X.base CX k f fd ps sp) (hr : Room (k + 1) X.A) (hg : Gl X x) (hm : X.mg x = some (.ref C))
    (hb : Binds X.K fd ps ds) (hd : Vals dvs ds) (hx : ∀ σ, PassesAt CX X σ (E σ)) (ha : PA X (e :: es) t) (hdb : (x == ("__debug__" : Str)) = false := by decide)
    (he : starEach (e :: es) X.env = (false, eval e X.env) :: starEach es X.env := by rfl) (hpl : (backTo pos (starEach es X.env)).any (·.1) = false := by rfl) :
    PE X (.Call (.Name x p) (e :: es) [] pos) (tMakeS C sp dvs E t) := by
  refine ⟨fun pins s σ H Q I h => wpAny_Call_Name_kw (ld_glob I hg hm ?_ hdb)⟩
  refine PySem.W.callWith_K (h₀ := X.base) I.ok.mod.kin M.kp (thn (ha.run pos pins s σ H _ I h) ?_) he hpl
  rintro us s1 ⟨vs, H1, I1, r, q⟩
  exact ⟨I1.kIn, run_makeS M F hr hb hd (hx σ) I1 r q⟩
end
/-! ### facts of an own class of errors over ValueError, without __init__ -/
structure ErrC (K : PySem.W.Frag) (mg : Str → Option Value) (nm : Str) (D : Addr) : Prop where
  g : mg nm = some (.ref D)
  x : PySem.W.excIn K D [.type "ValueError", .type "Exception", .type "BaseException", .type "object"] "ValueError.__new__" = true
  kp : PySem.W.keepIn K (.ref D) = true
  sB : PySem.W.subIn K (.ref D) (.type "BaseException") = some true
  sV : PySem.W.subIn K (.ref D) (.type "ValueError") = some true
  ty : PySem.W.typeIn K (.ref D) = some (.type "type")
  ic : PySem.W.isClsIn K D = true
  sS : PySem.W.subIn K (.ref D) (.ref D) = some true
  is : ExcC K D
theorem ErrC.ex {K : PySem.W.Frag} {mg : Str → Option Value} {nm : Str} {D : Addr} (E : ErrC K mg nm D) : PySem.W.exmOne K (.ref D) (.ref D) = some true :=
  PySem.W.exm_ref E.sB E.is.hd E.ty E.sS
/-- another class, under which the errors of D don't stand -/
structure NotUnder (K : PySem.W.Frag) (D O : Addr) : Prop where
  ic : PySem.W.isClsIn K O = true
  tc : PySem.W.typeIn K (.ref O) = some (.type "type")
  s : PySem.W.subIn K (.ref D) (.ref O) = some false
theorem ErrC.other {K : PySem.W.Frag} {mg : Str → Option Value} {nm : Str} {D O : Addr} (E : ErrC K mg nm D) (n : NotUnder K D O) : PySem.W.kitOne K (.ref D) (.ref O) = some false := by
  have ne : ((Value.ref D) == (Value.ref O)) = false := by
    refine beq_eq_false_iff_ne.mpr fun q => ?_
    have e : D = O := Value.ref.inj q
    subst e
    have a := n.s
    rw [E.sS] at a
    cases a
  have e2 : ((PySem.W.clsIn K O).isSome && PySem.W.typeIn K (.ref O) == some (.type "type")) = true := by
    have e1 : (PySem.W.clsIn K O).isSome = true := n.ic
    rw [e1, n.tc] <;> rfl
  unfold PySem.W.kitOne PySem.W.kitCls
  rw [ne, if_neg Bool.false_ne_true]
  show (if ((PySem.W.clsIn K O).isSome && PySem.W.typeIn K (.ref O) == some (.type "type")) = true then _ else _) = _
  rw [if_pos e2]
  exact n.s
theorem ErrC.under {K : PySem.W.Frag} {mg : Str → Option Value} {nm : Str} {D : Addr} {T : String} (E : ErrC K mg nm D) (hm : PySem.W.kitMeta T = true) (h : PySem.W.subIn K (.ref D) (.type T) = some true) :
    PySem.W.kitOne K (.ref D) (.type T) = some true := by
  unfold PySem.W.kitOne PySem.W.kitCls
  rw [if_neg (by intro z; exact nomatch (beq_iff_eq.mp z))]
  show (if PySem.W.kitMeta T = true then _ else _) = _
  rw [if_pos hm]
  exact h
/-! ### isinstance of the error that a suite holds -/
def rIsX (K : PySem.W.Frag) (D a : Addr) (cls : Value) (d : Option Addr) : List V → Hp → VK → Prop := fun xs H Q => cls = Value.ref D ∧ d = none ∧
  ∃ (c : V) (cv : Value) (b : Bool), xs = [.ref a, c] ∧ ClsV c cv ∧ PySem.W.kitOne K (.ref D) cv = some b ∧ Q (.bl b) H
def rIsXT (K : PySem.W.Frag) (D a : Addr) (cls : Value) (d : Option Addr) : List V → Hp → VK → Prop := fun xs H Q => cls = Value.ref D ∧ d = none ∧
  ∃ (tp : Addr) (cs : List V) (us : List Value) (b : Bool), xs = [.ref a, .ref tp] ∧ H tp = some (.tup cs) ∧ Paired ClsV cs us ∧ PySem.W.kitAny K (.ref D) us = some b ∧ Q (.bl b) H
section
variable {X : Cx} {a D : Addr} {oe : Obj} {pn pins : List (Addr × Obj)} {cls : Value} {d : Option Addr} {σ : L2.St} {H : Hp} {s : Shared}
theorem suite_inst (hz : Zc (.ref D) none oe) (hf : ∃ vs, oe.data = .fields vs) (I : Inv (X.suite a ((a, oe) :: pn)) pins σ H s) : PySem.W.InstAt s.heap a oe D none := by
  obtain ⟨hget, _⟩ := I.pin (a, oe) (List.mem_append.mpr (.inl List.mem_cons_self))
  obtain ⟨vs, hv⟩ := hf
  obtain ⟨oc, od, oda, osl⟩ := oe
  obtain ⟨h1, h2⟩ := hz
  cases h1
  cases h2
  cases hv
  exact ⟨hget, rfl, rfl, trivial⟩
theorem k_isX (K : PySem.W.Frag) (C : ExcC K D) (hz : Zc cls d oe) (hf : ∃ vs, oe.data = .fields vs) (hK : X.K = K := by rfl) : CallR (X.suite a ((a, oe) :: pn)) (.builtin "isinstance") (rIsX K D a cls d) := by
  subst hK
  intro pins s σ H xs us Q I r h
  obtain ⟨rfl, rfl, c, cv, b, rfl, hcv, e, q⟩ := h
  obtain ⟨u1, u2, rfl, r1, r2⟩ := vals2 r
  cases r1
  have ec := hcv.eq r2
  subst ec
  exact PySem.W.kia_one (PySem.W.handS_kitx_exc C.hg C.hk C.hs C.hd C.ha C.hn C.ht C.hm) I.kIn (suite_inst hz hf I) e (fun z => nomatch z) fun tk => ⟨.bl b, H, I.kept (t' := tk) fun _ _ z => z, rfl, q⟩
theorem k_isXT (K : PySem.W.Frag) (C : ExcC K D) (hz : Zc cls d oe) (hf : ∃ vs, oe.data = .fields vs) (hK : X.K = K := by rfl) : CallR (X.suite a ((a, oe) :: pn)) (.builtin "isinstance") (rIsXT K D a cls d) := by
  subst hK
  intro pins s σ H xs us Q I r h
  obtain ⟨rfl, rfl, tp, cs, ws, b, rfl, hT, k, e, q⟩ := h
  obtain ⟨u1, u2, rfl, r1, r2⟩ := vals2 r
  cases r1
  cases (show u2 = Value.ref tp from r2)
  obtain ⟨_, its, rv, o, h1, h2, n, h3⟩ := (show ObjOk X.prog X.w H s.heap tp (.tup cs) from I.hok tp _ hT)
  have e3 := ClsV.all k rv
  subst e3
  obtain ⟨oc, od, dt, sl⟩ := o
  cases h2
  cases h3
  exact PySem.W.kia_tup (PySem.W.handS_kitx_exc C.hg C.hk C.hs C.hd C.ha C.hn C.ht C.hm) I.kIn (suite_inst hz hf I) h1 e (fun z => nomatch z) fun tk => ⟨.bl b, H, I.kept (t' := tk) fun _ _ z => z, rfl, q⟩
end
theorem getD_rel : ∀ {vs : List V} {us : List Value} (_ : Vals vs us) (k : Nat), RelV (vs.getD k .non) (us.getD k .none)
  | _, _, .nil, k => by cases k <;> rfl
  | _, _, .cons r _, 0 => r
  | _, _, .cons _ t, k + 1 => getD_rel t k
theorem w_makeS {C : Addr} {sp : Sp} {dvs : List V} {E : L2.St → XK} {t : TA} {σ : L2.St} {H : Hp} {Q : VK} (k : t σ H fun vs H1 => kMake C sp (vs ++ dvs) H1 Q (E σ)) : tMakeS C sp dvs E t σ H Q := k
def kMakeK (C : Addr) (m : Nat) (sp : Sp) (gV : List V → List V → List V) (zs : List V) (H2 : Hp) (Q : VK) (E : XK) : Prop :=
  ([] : List V).length = 0 ∧ zs.length = m ∧ ∀ x dx, H2 x = none → H2 dx = none → dx ≠ x →
      sp (gV [.ref x] zs) (upd (upd H2 dx (.own x)) x (.ins C dx [])) (fun v H3 => v = .non ∧ Q (.ref x) H3) E
theorem w_makeK0 {C : Addr} {m : Nat} {sp : Sp} {gV : List V → List V → List V} {E : XK} {tk : TA} {σ : L2.St} {H : Hp} {Q : VK}
    (k : tk σ H fun zs H2 => kMakeK C m sp gV zs H2 Q E) : tMakeK C 0 m sp gV E tNil tk σ H Q := k
theorem k_makeK {C : Addr} {m : Nat} {sp : Sp} {gV : List V → List V → List V} {E : XK} {zs ys : List V} {H2 : Hp} {Q : VK}
    (hm : zs.length = m) (e : ∀ x, gV [.ref x] zs = .ref x :: ys) (k : kMake C sp ys H2 Q E) : kMakeK C m sp gV zs H2 Q E :=
  ⟨rfl, hm, fun x dx n1 n2 n3 => by rw [e x]; exact k x dx n1 n2 n3⟩
end Sil
set_option Elab.async false
set_option linter.all false
set_option maxRecDepth 100000
set_option maxHeartbeats 1000000
/-! P8: texts of objects by their own __str__ and __repr__, != by an own __eq__, texts of None. -/
namespace Sil
open PySem L2 PySem.Spec PyProof.Rows
section
variable {X : Cx} {CX : CXT} {k : Nat} {C f : Addr} {fd : FuncData} {ps : List Str} {sp : Sp} {E : XK}
/-- the callee runs, some built-in frames below -/
theorem run_fnA {pins : List (Addr × Obj)} {σ : L2.St} {H : Hp} {s : Shared} {Q : VK} {us : List Value} {vs : List V} {A : Around}
    (hA : A.frames = X.A.frames) (F : FnOk X.prog X.w X.K X.mg X.base CX k f fd ps sp) (hr : Room k A) (hb : Binds X.K fd ps []) (hx : Passes CX X E)
    (I : Inv X pins σ H s) (r : Vals vs us) (h : sp vs H Q E) : wpAny (model X.prog X.w) A (call (.ref f) us) (EP X pins σ Q) X.xe s := by
  have hl : us.length = ps.length := by rw [← r.length]; exact F.len _ _ _ _ h
  have b := hb s us I.kIn (by rw [List.append_nil]; exact hl)
  rw [List.append_nil] at b
  have e0 := I.env0
  have e1 : Env0 X.prog X.w X.K X.mg X.base A X.stack s H := ⟨hA.trans e0.frames, e0.mod, e0.bs, e0.bsz, e0.funs, e0.frf, e0.hok, e0.bare⟩
  refine wpAny_call (codeAny_mono (F.run A X.stack s H ⟨us, []⟩ us vs Q E hr e1 b r h) fun r s' hq => ?_)
  cases r with
  | error e => exact hx pins σ H s e s' I hq
  | ok fl =>
    cases fl with
    | ret u => exact I.after hq
    | next => exact False.elim hq
    | brk => exact False.elim hq
    | cont => exact False.elim hq
/-- what a text by an own method asks -/
def rTxt (C : Addr) (sp : Sp) (E : XK) : List V → Hp → VK → Prop := fun xs H Q => ∃ a dx fs, xs = [.ref a] ∧ H a = some (.ins C dx fs) ∧
  sp xs H (fun v H' => (∃ y, v = .str y) ∧ Q v H') E
/-- str(x) by the own __str__ -/
theorem cr_strO (F : FnOk X.prog X.w X.K X.mg X.base CX k f fd ps sp) (hs : PySem.W.findIn X.K (.ref C) "__str__" = some (some (.ref f)))
    (hf : PySem.W.isFn X.K (.ref f) = true) (hb : Binds X.K fd ps []) (hr : Room (k + 2) X.A) (hx : Passes CX X E) : CallR X (.type "str") (rTxt C sp E) := by
  intro pins s σ H xs us Q I r h
  obtain ⟨a, dx, fs, rfl, ha, hsp⟩ := h
  obtain ⟨u, rfl, ru⟩ := vals1 r
  cases ru
  obtain ⟨mA, J, _⟩ := ins_get I.hok ha
  obtain ⟨od, J, _⟩ := J.look
  have hr2 : Room k X.A.in1.in1 := Room.in1 (Room.in1 hr)
  refine PySem.W.kso_call hr2.units0 I.kIn J hs hf ?_
  refine wpAny_mono (run_fnA (vs := [V.ref a]) rfl F hr2 hb hx I (.cons rfl .nil) hsp) (fun v s' hv => ?_) fun _ _ z => z
  obtain ⟨z, H', I', rz, ⟨y, rfl⟩, q⟩ := hv
  obtain ⟨t, rfl⟩ := rz
  exact ⟨.str y, H', I', ⟨t, rfl⟩, q⟩
open Builtin in
theorem repr_K {A : Around} {E : Value → Shared → Prop} {K : PySem.W.Frag} {s : Shared} {P : Program} {w : World} {x : Addr} {ox : Obj} {od : Option Obj} {Q : Value → Shared → Prop} (hu : A.in1.units < cLine) (XK : K.In s.heap) (I : PySem.W.InstAt s.heap x ox C od)
    (hs : PySem.W.findIn K (.ref C) "__repr__" = some (some (.ref f))) (hf : PySem.W.isFn K (.ref f) = true)
    (h : wpAny (model P w) A.in1 (call (.ref f) [.ref x]) (fun r s' => ∃ m tk, r = .str m tk ∧ Q (.str m tk) s') E s) :
    wpAny (model P w) A (call (.builtin "repr") [.ref x]) Q E s := by
  refine Calls.call_function_entry F.kind_repr F.plain_repr F.entry_repr (F.args_repr1 _) ?_
  unfold Builtin.«repr»
  refine wpAny_bind (m := oneArg "repr" _) (wpAny_pure ?_)
  refine wpAny_bind (wpAny_cRoomFor hu ?_)
  refine wpAny_bind (m := specialOf (.ref x) (Str.ofString "__repr__")) (wpAny_bind (I.type.here ((PySem.W.looks_findIn XK hs).here ?_)))
  show wpAny _ _ (if (some (Value.ref f)).isNone = true then _ else _) _ _ _
  rw [if_neg (by simp)]
  refine wpAny_bind (m := callSpecialIfBound? (.ref x) (Str.ofString "__repr__") _) (PySem.W.ifBound_K XK I hs hf (wpAny_mono h (fun r s' hr => ?_) fun _ _ y => y))
  obtain ⟨m, tk, rfl, hq⟩ := hr
  refine wpAny_bind (wpAny_isInstance (typeIs_str _ _ _) isSubtype_str_str ?_)
  first
    | exact wpAny_pure ⟨_, rfl, hq⟩
    | (rw [if_pos rfl]; exact wpAny_pure ⟨_, rfl, hq⟩)
    | (simp only [if_true]; exact wpAny_pure ⟨_, rfl, hq⟩)
/-- repr(x) by the own __repr__ -/
theorem cr_reprO (F : FnOk X.prog X.w X.K X.mg X.base CX k f fd ps sp) (hs : PySem.W.findIn X.K (.ref C) "__repr__" = some (some (.ref f)))
    (hf : PySem.W.isFn X.K (.ref f) = true) (hb : Binds X.K fd ps []) (hr : Room (k + 1) X.A) (hx : Passes CX X E) : CallR X (.builtin "repr") (rTxt C sp E) := by
  intro pins s σ H xs us Q I r h
  obtain ⟨a, dx, fs, rfl, ha, hsp⟩ := h
  obtain ⟨u, rfl, ru⟩ := vals1 r
  cases ru
  obtain ⟨mA, J, _⟩ := ins_get I.hok ha
  obtain ⟨od, J, _⟩ := J.look
  have hr2 : Room k X.A.in1 := Room.in1 hr
  refine repr_K hr2.units0 I.kIn J hs hf ?_
  refine wpAny_mono (run_fnA (vs := [V.ref a]) rfl F hr2 hb hx I (.cons rfl .nil) hsp) (fun v s' hv => ?_) fun _ _ z => z
  obtain ⟨z, H', I', rz, ⟨y, rfl⟩, q⟩ := hv
  obtain ⟨t, rfl⟩ := rz
  exact ⟨y, t, rfl, .str y, H', I', ⟨t, rfl⟩, q⟩
/-- {x} by the own __str__ -/
def tFmtO (r : List V → Hp → VK → Prop) (te : TE) : TE := fun σ H Q => te σ H fun x H1 => r [x] H1 Q
theorem pe_fmtO {e : Expr} {te : TE} {pos : Pos} (he : PE X e te) (F : FnOk X.prog X.w X.K X.mg X.base CX k f fd ps sp) (hs : PySem.W.findIn X.K (.ref C) "__str__" = some (some (.ref f)))
    (hf : PySem.W.isFn X.K (.ref f) = true) (hfm : PySem.W.findIn X.K (.ref C) "__format__" = some (some (.builtin "object.__format__"))) (hm : PySem.W.mroIn X.K C (.type "object") = some true)
    (hb : Binds X.K fd ps []) (hr : Room (k + 1) X.A) (hx : Passes CX X E) : PE X (.FormattedValue e (-1) none pos) (tFmtO (rTxt C sp E) te) := by
  refine ⟨fun pins s σ H Q I h => ?_⟩
  refine wpAny_FormattedValue_plain (thn (he.run pins s σ H _ I h) fun v s1 hv => ?_)
  obtain ⟨x, H1, I1, r1, a, dx, fs, e1, ha, hsp⟩ := hv
  cases e1
  cases r1
  obtain ⟨mA, J, _⟩ := ins_get I1.hok ha
  obtain ⟨od, J, _⟩ := J.look
  have hr2 : Room k X.A.in1 := Room.in1 hr
  refine PySem.W.kfo_fieldS hr2.units0 I1.kIn J hfm hm hs hf ?_
  refine wpAny_mono (run_fnA (s := { s1 with toks := s1.toks + 1 }) (vs := [V.ref a]) rfl F hr2 hb hx (I1.tok _) (.cons rfl .nil) hsp) (fun v s' hv => ?_) fun _ _ z => z
  obtain ⟨z, H', I', rz, ⟨y, rfl⟩, q⟩ := hv
  obtain ⟨t, rfl⟩ := rz
  exact ⟨.str y, H', I', ⟨t, rfl⟩, q⟩
/-- str(None) -/
theorem cr_strN : CallR X (.type "str") (fun xs H Q => xs = [.non] ∧ Q (.str "None") H) := by
  intro pins s σ H xs us Q I r h
  obtain ⟨rfl, q⟩ := h
  obtain ⟨u, rfl, ru⟩ := vals1 r
  cases ru
  exact PySem.P.str_of_none ⟨.str "None", H, I.tok _, ⟨_, rfl⟩, q⟩
/-- str of an end -/
def rStrE : List V → Hp → VK → Prop := fun xs H Q => (∃ i, xs = [.int i] ∧ i.natAbs.log2 < 1920 ∧ Q (.str (toString i)) H) ∨ (xs = [.non] ∧ Q (.str "None") H)
theorem cr_strE : CallR X (.type "str") rStrE := CallR.or call_str_int cr_strN
/-- {x}: a text, an int, None -/
def tFmtN (te : TE) : TE := fun σ H Q => te σ H fun x H1 => (∃ y : Str, x = .str y ∧ y.length ≤ sizeLine ∧ Q (.str y) H1) ∨ (∃ i : Int, x = .int i ∧ i.natAbs.log2 < 1920 ∧ Q (.str (toString i)) H1) ∨ (x = .non ∧ Q (.str "None") H1)
theorem pe_fmtN {e : Expr} {te : TE} {pos : Pos} (he : PE X e te) : PE X (.FormattedValue e (-1) none pos) (tFmtN te) := by
  refine ⟨fun pins s σ H Q I h => ?_⟩
  refine wpAny_FormattedValue_plain (thn (he.run pins s σ H _ I h) fun v s1 hv => ?_)
  obtain ⟨x, H1, I1, r1, q⟩ := hv
  rcases q with ⟨y, rfl, hz, q⟩ | ⟨i, rfl, hz, q⟩ | ⟨rfl, q⟩
  · obtain ⟨t, rfl⟩ := r1
    exact wpAny_formatField_str ⟨.str y, H1, I1, ⟨t, rfl⟩, q⟩ ⟨.str y, H1, I1.tok _, ⟨_, rfl⟩, q⟩ hz
  · obtain ⟨t, rfl⟩ := r1
    exact wpAny_formatField_int hz ⟨.str (toString i), H1, I1.tok _, ⟨_, rfl⟩, q⟩
  · cases r1
    exact wpAny_formatField_none ⟨.str "None", H1, I1.tok _, ⟨_, rfl⟩, q⟩
end

section
variable {P : Program} {w : World} {A : Around} {E : Value → Shared → Prop} {s : Shared} {K : PySem.W.Frag} {x C f : Addr} {ox : Obj} {od : Option Obj} {b tb : Value}
theorem ifBoundB {M : Model} {name : Str} {id : String} {args : List Value} {Q : Option Value → Shared → Prop} (XK : K.In s.heap) (I : PySem.W.InstAt s.heap x ox C od)
    (hs : PySem.W.findIn K (.ref C) name = some (some (.builtin id))) (hb : ∀ self, bindSpecial (.builtin id) self = pure (.builtin id, [self]))
    (h : wpAny M A (call (.builtin id) (.ref x :: args)) (fun v => Q (some v)) E s) : wpAny M A (callSpecialIfBound? (.ref x) name args) Q E s := by
  simp only [callSpecialIfBound?, bindSpecialIfBound?]
  refine wpAny_holding (wpAny_bind (wpAny_bind (wpAny_bind (I.type.here ((PySem.W.looks_findIn XK hs).here ?_)))))
  refine wpAny_bind (wpAny_askSetting (wpAny_ite ?_))
  have fin : wpAny M A (call (.builtin id) ([.ref x] ++ args) >>= fun v => pure (some v)) Q E s := wpAny_bind (wpAny_mono h (fun v s' h' => wpAny_pure h') fun _ _ h' => h')
  split
  · exact wpAny_bind ((PySem.W.Looks.of_pure (hb _)).here (wpAny_pure (by exact fin)))
  · exact wpAny_tryCatch (wpAny_bind ((PySem.W.Looks.of_pure (hb _)).here (wpAny_pure (by exact fin))))
theorem objNe_K {Q : PySem.Fin → Shared → Prop} (hu : A.units < cLine) (XK : K.In s.heap) (I : PySem.W.InstAt s.heap x ox C od) (hs : PySem.W.findIn K (.ref C) "__eq__" = some (some (.ref f))) (hf : PySem.W.isFn K (.ref f) = true)
    (hcall : wpAny (model P w) A (call (.ref f) [.ref x, b]) (fun v s' => ∃ c, v = .bool c ∧ Q (.done (.ret (.bool (!c)))) s') E s) :
    wpAny (model P w) A (Builtin.«object.__ne__» ⟨[.ref x, b], []⟩) Q E s := by
  unfold Builtin.«object.__ne__»
  repeat (first
    | with_reducible refine wpAny_cRoomFor hu ?_
    | (refine wpAny_bind (m := callSpecialIfBound? (.ref x) (Str.ofString "__eq__") [b])
        (PySem.W.ifBound_K XK I hs hf (wpAny_mono hcall (fun r s' hr => by
          obtain ⟨b, rfl, hq⟩ := hr
          repeat (first | exact hq | exact wpAny_pure hq | exact wpAny_truthy_bool hq | (refine wpAny_bind (m := truthy (.bool _)) (wpAny_truthy_bool ?_)) | wp_step)) fun _ _ e => e)))
    | wp_step)
theorem neOwn_K {h0 : Heap} {L : Addr} {m : Str → Option Value} {Q : Value → Shared → Prop} (hu : A.units + 1 < cLine) (Fh : Fr h0 L s.heap m) (X0 : K.In h0) (I : PySem.W.InstAt s.heap x ox C od)
    (hb : PySem.W.Looks (model P w) s.heap (typeOf b) tb) (hn : PySem.W.notFirst K C tb = true)
    (hne : PySem.W.findIn K (.ref C) "__ne__" = some (some (.builtin "object.__ne__"))) (hm : PySem.W.mroIn K C (.type "object") = some true)
    (hs : PySem.W.findIn K (.ref C) "__eq__" = some (some (.ref f))) (hf : PySem.W.isFn K (.ref f) = true)
    (h : wpAny (model P w) A.in1 (call (.ref f) [.ref x, b]) (fun v s' => ∃ c, v = .bool c ∧ Q (.bool (!c)) s') E s) : wpAny (model P w) A (richCompare .NotEq (.ref x) b) Q E s := by
  have XK := X0.keeps Fh.keep
  have one : wpAny (model P w) A (tryCompare (.ref x) "__ne__" b) (fun r s' => ∃ v, r = some v ∧ Q v s') E s := by
    unfold tryCompare
    refine wpAny_bind (ifBoundB XK I hne PySem.F.cmp_object.ne.bind (wpAny_call (codeAny_call_builtin PySem.F.cmp_object.ne.plain PySem.F.cmpEntry_ne
      (PySem.W.check_slot (i := "object.__ne__") (owner := "object") (n := "__ne__") (by decide +kernel) (by decide +kernel) (I.type.andThen (PySem.W.looks_mroIn XK hm)) (PySem.F.cmpArgs_ne _ _)
        (objNe_K (A := A.in1) hu XK I hs hf (wpAny_mono h (fun v s' hv => ?_) fun _ _ e => e))))))
    obtain ⟨c, rfl, hq⟩ := hv
    exact ⟨c, rfl, wpAny_pure ⟨_, rfl, hq⟩⟩
  unfold richCompare
  simp only [oneThing_ref]
  refine wpAny_holding (wpAny_bind (wpAny_cRoomFor (Nat.lt_of_succ_lt hu) ?_))
  rw [cmpInfo_NotEq]
  dsimp only
  refine wpAny_bind (I.type.here (wpAny_bind (hb.here ?_)))
  split
  · rename_i q
    have e : PySem.W.subIn K tb (.ref C) = some false := by
      rcases Bool.or_eq_true_iff.mp hn with e | e
      · rw [beq_iff_eq.mp e] at q; simp at q
      · exact beq_iff_eq.mp e
    refine wpAny_bind ((PySem.W.looks_subIn XK e).here ?_)
    simp only [Bool.false_eq_true, if_false]
    refine wpAny_bind (wpAny_mono one (fun r s' z => ?_) fun _ _ e => e)
    obtain ⟨v, rfl, hq⟩ := z
    exact wpAny_pure hq
  · refine wpAny_bind (wpAny_pure ?_)
    simp only [Bool.false_eq_true, if_false]
    refine wpAny_bind (wpAny_mono one (fun r s' z => ?_) fun _ _ e => e)
    obtain ⟨v, rfl, hq⟩ := z
    exact wpAny_pure hq
end
/-- x != y by the own __eq__ -/
def rNeO (K : PySem.W.Frag) (C : Addr) (sp : Sp) (E : XK) : R2 := fun x y H Q => ∃ a dx fs ty, x = .ref a ∧ H a = some (.ins C dx fs) ∧
  TyX K H y ty ∧ PySem.W.notFirst K C ty = true ∧ sp [x, y] H (fun v H' => ∃ b, v = .bl b ∧ Q (.bl (!b)) H') E
theorem op_neO {X : Cx} {CX : CXT} {k : Nat} {C f : Addr} {fd : FuncData} {ps : List Str} {sp : Sp} {E : XK}
    (F : FnOk X.prog X.w X.K X.mg X.base CX k f fd ps sp) (hne : PySem.W.findIn X.K (.ref C) "__ne__" = some (some (.builtin "object.__ne__"))) (hm : PySem.W.mroIn X.K C (.type "object") = some true)
    (hs : PySem.W.findIn X.K (.ref C) "__eq__" = some (some (.ref f))) (hf : PySem.W.isFn X.K (.ref f) = true) (hb : Binds X.K fd ps []) (hr : Room (k + 1) X.A)
    (hx : Passes CX X E) : OpR X (compareOp .NotEq) (rNeO X.K C sp E) := by
  intro pins s σ H x y v u Q I rx ry h
  obtain ⟨a, dx, fs, ty, rfl, ha, hty, hn, hsp⟩ := h
  cases rx
  obtain ⟨mA, J, _⟩ := ins_get I.hok ha
  obtain ⟨od, J, _⟩ := J.look
  obtain ⟨m, hF⟩ := I.fr
  obtain ⟨Pz, Z, pz, _⟩ := kit_of I ry hty
  show wpAny _ _ (richCompare .NotEq _ _) _ _ _
  have hr2 : Room k X.A.in1 := Room.in1 hr
  refine neOwn_K (tb := ty) (by have := hr.un; omega) hF I.ok.mod.kin J (Z.ty _ _ I.kIn pz) hn hne hm hs hf ?_
  have r2 : Vals [V.ref a, y] [Value.ref a, u] := .cons rfl (.cons ry .nil)
  refine wpAny_mono (run_fnA rfl F hr2 hb hx I r2 hsp) (fun w s' hw => ?_) fun _ _ z => z
  obtain ⟨z, H', I', rz, c, rfl, q⟩ := hw
  cases rz
  exact ⟨c, rfl, .bl (!c), H', I', rfl, q⟩
/-! readings -/
/-- f'..' of two parts or more -/
def tJoin (ts : List TE) : TE := fun σ H Q => tJs ts Str.empty σ H fun out H1 => Q (.str out) H1
theorem pe_join {X : Cx} {v1 v2 : Expr} {rest : List Expr} {ts : List TE} {pos : Pos} (h : PJ X (v1 :: v2 :: rest) ts) : PE X (.JoinedStr (v1 :: v2 :: rest) pos) (tJoin ts) := pe_joined h
section
variable {t : TE} {ts : List TE} {acc : Str} {σ : L2.St} {H : Hp} {Q : VK} {R : Str → Hp → Prop} {te : TE} {x : V}
theorem w_join (k : tJs ts Str.empty σ H fun out H1 => Q (.str out) H1) : tJoin ts σ H Q := k
/-- a text is put behind -/
def kPut (acc : Str) (x : V) (H : Hp) (R : Str → Hp → Prop) : Prop := ∃ y : Str, x = .str y ∧ (acc ++ y).length ≤ sizeLine ∧ R (acc ++ y) H
theorem w_js (k : t σ H fun x H1 => kPut acc x H1 fun z H2 => tJs ts z σ H2 R) : tJs (t :: ts) acc σ H R := by
  refine cast (congrArg (t σ H) ?_) k
  funext x H1
  refine propext ⟨?_, ?_⟩
  · rintro ⟨y, e, h, k⟩; exact ⟨y, e, h, k⟩
  · rintro ⟨y, e, h, k⟩; exact ⟨y, e, h, k⟩
theorem w_jsN (k : R acc H) : tJs [] acc σ H R := k
theorem w_put {y : Str} (h : (acc ++ y).length ≤ sizeLine) (k : R (acc ++ y) H) : kPut acc (.str y) H R := ⟨y, rfl, h, k⟩
/-- a field's text -/
def kFmt (x : V) (H1 : Hp) (Q : VK) : Prop := (∃ y : Str, x = .str y ∧ y.length ≤ sizeLine ∧ Q (.str y) H1) ∨ (∃ i : Int, x = .int i ∧ i.natAbs.log2 < 1920 ∧ Q (.str (toString i)) H1) ∨ (x = .non ∧ Q (.str "None") H1)
theorem w_fmtN (k : te σ H fun x H1 => kFmt x H1 Q) : tFmtN te σ H Q := k
theorem w_fmtS {y : Str} (h : y.length ≤ sizeLine) (k : Q (.str y) H) : kFmt (.str y) H Q := .inl ⟨y, rfl, h, k⟩
theorem w_fmtI {i : Int} (h : i.natAbs.log2 < 1920) (k : Q (.str (toString i)) H) : kFmt (.int i) H Q := .inr (.inl ⟨i, rfl, h, k⟩)
theorem w_fmt0 (k : Q (.str "None") H) : kFmt .non H Q := .inr (.inr ⟨rfl, k⟩)
theorem w_fmtO {r : List V → Hp → VK → Prop} (k : te σ H fun x H1 => r [x] H1 Q) : tFmtO r te σ H Q := k
end
theorem empty_app (x : Str) : Str.empty ++ x = x := by
  apply TL.ext_tl
  rw [TL.tl_append]
  rfl
theorem app_len (x y : Str) : (x ++ y).length = x.length + y.length := by
  rw [TL.len_tl, TL.len_tl x, TL.len_tl y, TL.tl_append, List.length_append]
theorem int_len {i : Int} (h : i.natAbs.log2 < 1920) : (Str.ofString (toString i)).length ≤ 1921 := by
  have q := int_text_length_le (a := i) (k := 1920) (by decide) h
  have e := PySem.ofString_length (toString i)
  omega
end Sil
set_option Elab.async false
set_option linter.all false
set_option maxRecDepth 100000
set_option maxHeartbeats 1000000
/-! P9: bags; comprehensions that draw; dicts of flat values, their texts. -/
namespace Sil
open PySem L2 PySem.Spec PyProof.Rows
/-! ### bags -/
/-- a bag: a list of two numbers from 0 on -/
def Bag (H : Hp) (b : Addr) : Prop := ∃ n m : Int, 0 ≤ n ∧ 0 ≤ m ∧ H b = some (.lst [.int n, .int m])
theorem Bag.mono {H H' : Hp} {b : Addr} (s : Same H H') : Bag H b → Bag H' b := fun ⟨n, m, h1, h2, h⟩ => ⟨n, m, h1, h2, s _ _ h⟩
/-- the bag at b may have changed, nothing else -/
def Step (b : Addr) (H H' : Hp) : Prop := Bag H' b ∧ Same (off [b] H) (off [b] H')
theorem Step.trans {b : Addr} {H H1 H2 : Hp} (a : Step b H H1) (c : Step b H1 H2) : Step b H H2 := ⟨c.1, a.2.trans c.2⟩
theorem Step.same {b : Addr} {H H' : Hp} (h : Bag H b) (s : Same H H') : Step b H H' := ⟨h.mono s, same_off s⟩
theorem Step.more {b : Addr} {H H1 H2 : Hp} (a : Step b H H1) (s : Same H1 H2) : Step b H H2 := a.trans (.same a.1 s)
theorem Step.refl {b : Addr} {H : Hp} (h : Bag H b) : Step b H H := .same h (Same.refl _)
theorem Step.at {b p : Addr} {H H' : Hp} {o : HO} (s : Step b H H') (h : H p = some o) (n : p ≠ b) : H' p = some o :=
  (off_get (s.2 p o (off_mk h (by simpa using n)))).1
/-- outside of M, where b is in M -/
theorem Step.off {b : Addr} {H H' : Hp} {M : List Addr} (s : Step b H H') (hb : b ∈ M) : Same (Sil.off M H) (Sil.off M H') :=
  off_more s.2 fun a h => by rw [List.mem_singleton] at h; exact h ▸ hb
theorem bag_ne {H : Hp} {b p : Addr} {o : HO} (hb : Bag H b) (h : H p = some o) (n : ∀ xs, o ≠ .lst xs) : p ≠ b := by
  obtain ⟨_, _, _, _, e⟩ := hb
  exact ne_of h e (n _)
theorem bag_new {H : Hp} {b p : Addr} (hb : Bag H b) (h : H p = none) : p ≠ b := by
  rintro rfl
  obtain ⟨_, _, _, _, e⟩ := hb
  rw [h] at e; cases e
theorem Step.old {b : Addr} {H0 H1 H4 : Hp} (s : Step b H1 H4) (s1 : Same H0 H1) (nb : H0 b = none) : Same H0 H4 := fun a o e => s.at (s1 a o e) (ne_of_none e nb)
/-- what is new behind a step was new ahead of it -/
theorem Step.free {b p : Addr} {H H' : Hp} (s : Step b H H') (hb : Bag H b) (h : H' p = none) : H p = none := by
  cases e : H p with
  | none => rfl
  | some o =>
    by_cases q : p = b
    · subst q
      obtain ⟨_, _, _, _, e2⟩ := s.1
      rw [h] at e2; cases e2
    · rw [s.at e q] at h; cases h
theorem Step.tup {b p : Addr} {H H' : Hp} {xs : List V} (s : Step b H H') (hb : Bag H b) (h : H p = some (.tup xs)) : H' p = some (.tup xs) := s.at h (bag_ne hb h fun _ q => nomatch q)
theorem Step.dk {b p : Addr} {H H' : Hp} {xs : List (L2.Key × V)} (s : Step b H H') (hb : Bag H b) (h : H p = some (.dK xs)) : H' p = some (.dK xs) := s.at h (bag_ne hb h fun _ q => nomatch q)
theorem Step.ins {b p C dx : Addr} {H H' : Hp} {fs : List (Str × V)} (s : Step b H H') (hb : Bag H b) (h : H p = some (.ins C dx fs)) : H' p = some (.ins C dx fs) := s.at h (bag_ne hb h fun _ q => nomatch q)
theorem Step.seqT {K : PySem.W.Frag} {b a : Addr} {H H' : Hp} {xs : List V} (s : Step b H H') (hb : Bag H b) (h : SqT K H a xs) : SqT K H' a xs := by
  rcases h with (h | ⟨o, h⟩) | h
  · exact .inl (.inl (s.tup hb h))
  · exact .inl (.inr ⟨o, s.at h (bag_ne hb h fun _ q => nomatch q)⟩)
  · exact .inr h
theorem Step.seqL {K : PySem.W.Frag} {b a : Addr} {H H' : Hp} {xs : List V} (s : Step b H H') (n : a ≠ b) (h : SqL K H a xs) : SqL K H' a xs := by
  rcases h with (h | ⟨o, h⟩) | h
  · exact .inl (.inl (s.at h n))
  · exact .inl (.inr ⟨o, s.at h n⟩)
  · exact .inr h
/-! ### comprehensions that draw -/
/-- a thing told of an item stands when a bag is drawn from, and without the list under way -/
structure ElOk (b : Addr) (El : Nat → V → Hp → Prop) : Prop where
  step : ∀ i y G G', Bag G b → Step b G G' → El i y G → El i y G'
  off : ∀ i y G D acc, G D = some (.lst acc) → El i y G → El i y (off [D] G)
theorem ElOk.flat {b : Addr} (El : Nat → V → Prop) : ElOk b fun i y _ => El i y := ⟨fun _ _ _ _ _ _ h => h, fun _ _ _ _ _ _ h => h⟩
theorem off_tup {G : Hp} {D t : Addr} {acc xs : List V} (h : G D = some (.lst acc)) (e : G t = some (.tup xs)) : off [D] G t = some (.tup xs) :=
  off_mk e (by rw [List.mem_singleton]; rintro rfl; rw [h] at e; cases e)
theorem off_ins {G : Hp} {D t C dx : Addr} {acc : List V} {fs : List (Str × V)} (h : G D = some (.lst acc)) (e : G t = some (.ins C dx fs)) : off [D] G t = some (.ins C dx fs) :=
  off_mk e (by rw [List.mem_singleton]; rintro rfl; rw [h] at e; cases e)
/-- one turn, with no test -/
def TurnB (b : Addr) (g : TG) (tt : TT) (te : TE) (vs : List Nat) (σ : L2.St) (El : V → Hp → Prop) (x : V) (G : Hp) : Prop :=
  ∀ (R : V → Hp → Prop) (Ny : Hp → Prop), (∀ y G', Step b G G' → El y G' → R y G') → g x (wipe σ vs) G fun σ2 H2 => wipe σ2 vs = wipe σ vs ∧ tt σ2 H2 fun c H3 => if c = true then te σ2 H3 R else Ny H3
def AccOk (El : Nat → V → Hp → Prop) (n : Nat) (acc : List V) (G : Hp) : Prop := acc.length = n ∧ ∀ j y, acc[j]? = some y → El j y G
section
variable {K : PySem.W.Frag} {a b : Addr} {g : TG} {tt : TT} {te : TE} {vs : List Nat} {σ : L2.St} {H1 : Hp} {Q : VK} {El : Nat → V → Hp → Prop}
theorem accOk_step (ok : ElOk b El) {n : Nat} {acc : List V} {G G' : Hp} (hb : Bag G b) (s : Step b G G') (h : AccOk El n acc G) : AccOk El n acc G' := ⟨h.1, fun j y e => ok.step _ _ _ _ hb s (h.2 j y e)⟩
theorem accOk_push {n : Nat} {acc : List V} {G : Hp} {y : V} (h : AccOk El n acc G) (hy : El n y G) : AccOk El (n + 1) (acc ++ [y]) G := by
  refine ⟨by rw [List.length_append, h.1]; rfl, fun j z e => ?_⟩
  by_cases q : j < acc.length
  · rw [List.getElem?_append_left q] at e; exact h.2 j z e
  · rw [List.getElem?_append_right (by omega)] at e
    have : j - acc.length = 0 := by
      cases r : j - acc.length with
      | zero => rfl
      | succ m => rw [r] at e; cases e
    rw [this] at e
    cases e
    have : j = n := by have := h.1; omega
    rw [this]; exact hy
theorem turnB (hb : Bag H1 b) (ok : ElOk b El) {D : Addr} {i : Nat} {x : V} {acc : List V} {H : Hp} (nD : H1 D = none) (hD : H D = some (.lst acc))
    (p : Step b H1 (off [D] H) ∧ AccOk El i acc (off [D] H)) (h : Step b H1 H → TurnB b g tt te vs σ (El i) x H) :
    LcTurnQ g tt te vs σ D x (fun i acc G => Step b H1 G ∧ AccOk El i acc G) i acc H := by
  intro Nx Ny k1 k2 hlen
  have nb := bag_new hb nD
  have hbH : Bag H b := p.1.1.mono off_sub
  have st : Step b H1 H := p.1.more off_sub
  refine h st _ Ny fun y G' s' hy => ?_
  have hD' := s'.at hD nb
  refine ⟨acc, hD', hlen, k1 y G' hD' ⟨?_, ?_⟩⟩
  · refine ⟨?_, fun c o hc => ?_⟩
    · obtain ⟨n, m, h1, h2, e⟩ := s'.1
      exact ⟨n, m, h1, h2, off_mk e (by rw [List.mem_singleton]; exact nb.symm)⟩
    · obtain ⟨e1, e2⟩ := off_get hc
      have e3 := (st.trans s').at e1 (by simpa using e2)
      refine off_mk (off_mk e3 ?_) e2
      rw [List.mem_singleton]
      rintro rfl
      rw [nD] at e1; cases e1
  · have q := accOk_step ok p.1.1 (.same p.1.1 off_sub) p.2
    have q := accOk_step ok hbH s' q
    have r := accOk_push q hy
    exact ⟨r.1, fun j z e => ok.off _ _ _ _ _ hD' (r.2 j z e)⟩
theorem b_end (hb : Bag H1 b) (ok : ElOk b El) {D : Addr} {n : Nat} {acc : List V} {H : Hp} (nD : H1 D = none) (hD : H D = some (.lst acc)) (p : Step b H1 (off [D] H) ∧ AccOk El n acc (off [D] H))
    (k : ∀ D acc H, H1 D = none → H D = some (.lst acc) → Step b H1 H → AccOk El n acc H → Q (.ref D) H) : Q (.ref D) H :=
  k D acc H nD hD (p.1.more off_sub) (accOk_step ok p.1.1 (.same p.1.1 off_sub) p.2)
theorem b_lcT {xs : List V} (hb : Bag H1 b) (ok : ElOk b El) (hz : xs.length ≤ 100000) (hx : SqT K H1 a xs) (ht : ∀ i x G, xs[i]? = some x → Step b H1 G → TurnB b g tt te vs σ (El i) x G)
    (k : ∀ D acc H, H1 D = none → H D = some (.lst acc) → Step b H1 H → AccOk El xs.length acc H → Q (.ref D) H) : kLc (Itt K a) g tt te vs σ H1 Q :=
  k_lcT (xs := xs) hz (fun i acc G => Step b H1 G ∧ AccOk El i acc G) ⟨.refl hb, rfl, fun j y e => by cases e⟩ (fun i acc G p => p.1.seqT hb hx)
    (fun D i x acc H nD hi hD p => turnB hb ok nD hD p fun st => ht i x H hi st) fun D acc H nD hD p => b_end hb ok nD hD p k
theorem b_lcL {xs : List V} (hb : Bag H1 b) (na : a ≠ b) (ok : ElOk b El) (hz : xs.length ≤ 100000) (hx : SqL K H1 a xs) (ht : ∀ i x G, xs[i]? = some x → Step b H1 G → TurnB b g tt te vs σ (El i) x G)
    (k : ∀ D acc H, H1 D = none → H D = some (.lst acc) → Step b H1 H → AccOk El xs.length acc H → Q (.ref D) H) : kLc (Itl K a) g tt te vs σ H1 Q :=
  k_lcL (xs := xs) hz (fun i acc G => Step b H1 G ∧ AccOk El i acc G) ⟨.refl hb, rfl, fun j y e => by cases e⟩ (fun i acc G p => p.1.seqL na hx)
    (fun D i x acc H nD hi hD p => turnB hb ok nD hD p fun st => ht i x H hi st) fun D acc H nD hD p => b_end hb ok nD hD p k
theorem b_lcR {n : Nat} (hb : Bag H1 b) (ok : ElOk b El) (hz : n ≤ 100000) (ht : ∀ (i : Nat) G, i < n → Step b H1 G → TurnB b g tt te vs σ (El i) (.int (i : Int)) G)
    (k : ∀ D acc H, H1 D = none → H D = some (.lst acc) → Step b H1 H → AccOk El n acc H → Q (.ref D) H) : kLc (Itr 0 n) g tt te vs σ H1 Q :=
  k_lcR (n := n) hz (fun i acc G => Step b H1 G ∧ AccOk El i acc G) ⟨.refl hb, rfl, fun j y e => by cases e⟩
    (fun D i acc H nD hi hD p => turnB hb ok nD hD p fun st => ht i H hi st) fun D acc H nD hD p => b_end hb ok nD hD p k
/-- the target is a name -/
theorem turnB_name {j : Nat} {El : V → Hp → Prop} {x : V} {G : Hp} (hw : ∀ x, wipe ((wipe σ vs).set j (some x)) vs = wipe σ vs)
    (h : ∀ (R : V → Hp → Prop) (Ny : Hp → Prop), (∀ y G', Step b G G' → El y G' → R y G') → tt ((wipe σ vs).set j (some x)) G fun c H3 => if c = true then te ((wipe σ vs).set j (some x)) H3 R else Ny H3) :
    TurnB b (gName j) tt te vs σ El x G := fun R Ny k => w_name ⟨hw x, h R Ny k⟩
theorem w_yes {σ : L2.St} {H : Hp} {Q : Bool → Hp → Prop} (k : Q true H) : tYes σ H Q := k
end
/-! ### dicts -/
def fD : V → PyData
  | .bl b => .bool b
  | .int i => .int i
  | .str x => .str x
  | _ => .none
def isFl : V → Bool
  | .non | .bl _ | .int _ | .str _ => true
  | _ => false
theorem reads_fl {h : Heap} {v : V} {u : Value} (f : isFl v = true) (r : RelV v u) : Reads h u (fD v) [] := by
  cases v <;> first | cases f | skip
  · cases r; exact Reads.none
  · cases r; exact Reads.bool _
  · obtain ⟨t, rfl⟩ := r; exact Reads.int _ _
  · obtain ⟨t, rfl⟩ := r; exact Reads.str _ _
def dOf (kvs : List (L2.Key × V)) : PyData := .dict (kvs.map fun p => (fD (kV p.1), fD p.2))
theorem reads_pairs {P : Program} {w : World} {h : Heap} : ∀ {es : List DictEntry} {vs : List (L2.Key × Value)} {kvs : List (L2.Key × V)}, Pairs (mixKind P w) es vs → KV kvs vs → (kvs.all fun p => isFl p.2) = true →
    ReadsAll h (es.map (·.key)) (kvs.map fun p => fD (kV p.1)) [] ∧ ReadsAll h (es.map (·.val)) (kvs.map fun p => fD p.2) []
  | _, _, _, .nil, .nil, _ => ⟨.nil, .nil⟩
  | _, _, _, .cons h1 h2 r, .cons (a := p) ⟨e, rv⟩ q, f => by
    rw [List.all_cons, Bool.and_eq_true] at f
    obtain ⟨i1, i2⟩ := reads_pairs (h := h) r q f.2
    refine ⟨?_, ?_⟩
    · refine ReadsAll.cons (as := []) (bs := []) ?_ i1
      dsimp only
      rcases keyIs_shape h1 with ⟨i, t, e2, e3⟩ | ⟨x, t, e2, e3⟩
      · rw [e3, e, e2]; exact Reads.int _ _
      · rw [e3, e, e2]; exact Reads.str _ _
    · refine ReadsAll.cons (as := []) (bs := []) ?_ i2
      dsimp only
      rw [h2]; exact reads_fl f.1 rv
def rReprK : List V → Hp → VK → Prop := fun xs H Q => ∃ a kvs, xs = [.ref a] ∧ H a = some (.dK kvs) ∧ (kvs.all fun p => isFl p.2) = true ∧ (dOf kvs).showable = true ∧ (dOf kvs).depth ≤ 40 ∧
  (dOf kvs).shown.length ≤ sizeLine ∧ Q (.str (dOf kvs).shown) H
theorem cr_reprK {X : Cx} {k : Nat} (hr : Room k X.A) (hg : Calm X.A) : CallR X (.builtin "repr") rReprK := by
  intro pins s σ H xs us Q I r h
  obtain ⟨a, kvs, rfl, ha, hf, hs, hdp, hz, q⟩ := h
  obtain ⟨u, rfl, ru⟩ := vals1 r
  cases ru
  obtain ⟨_, hm, vs, kv, o, es, ep, ho, hx, hd, _, hp, _⟩ := dk_of I.hok ha
  obtain ⟨r1, r2⟩ := reads_pairs (h := s.heap) hp kv hf
  have e1 : (kvs.map fun p => (fD (kV p.1), fD p.2)).map (·.1) = kvs.map fun p => fD (kV p.1) := by rw [List.map_map]; rfl
  have e2 : (kvs.map fun p => (fD (kV p.1), fD p.2)).map (·.2) = kvs.map fun p => fD p.2 := by rw [List.map_map]; rfl
  have rd : Reads s.heap (.ref a) (dOf kvs) (a :: [] ++ []) := Reads.dict ho hx.1 hd (by rw [e1]; exact r1) (by rw [e2]; exact r2)
  have hu := hr.units
  refine repr_of_reads' rd hs (fun _ hq => ?_) hg (by omega) (fun _ _ e => e) (fun h' t tk hk => ⟨.str _, H, I.kept hk, ⟨_, rfl⟩, q⟩) hz
  rw [List.append_nil, List.mem_singleton] at hq
  rw [← hq] at hm
  simp at hm
/-! ### how long a dict's text is -/
theorem upto_dict (ts : List Str) : (dictText ts).length ≤ piled ts + 2 := by
  have e : (dictText ts).length = 1 + (Str.join ", " ts).length + 1 := by
    unfold dictText
    rw [strLen_append, strLen_append]; rfl
  by_cases h : ts = []
  · subst h
    have e4 : (Str.join ", " ([] : List Str)).length = 0 := rfl
    omega
  · have := join_length_add ts h
    omega
def bndKv : List (PyData × PyData) → Nat
  | [] => 0
  | (k, v) :: r => bnd k + bnd v + 4 + bndKv r
theorem shownKv_le : ∀ kvs : List (PyData × PyData), (∀ p ∈ kvs, p.1.showable = true ∧ p.1.hasDict = false ∧ p.2.showable = true ∧ p.2.hasDict = false) → piled (PyData.shownKv kvs) ≤ bndKv kvs
  | [], _ => Nat.le_refl _
  | (k, v) :: r, h => by
    obtain ⟨h1, h2, h3, h4⟩ := h (k, v) List.mem_cons_self
    have a := shown_le k h1 h2
    have b := shown_le v h3 h4
    have c := shownKv_le r fun p m => h p (List.mem_cons_of_mem _ m)
    show piled ((k.shown ++ ": " ++ v.shown) :: PyData.shownKv r) ≤ bnd k + bnd v + 4 + bndKv r
    rw [piled_cons, strLen_append, strLen_append]
    have e : ((": " : String) : Str).length = 2 := rfl
    omega
/-- the text of a dict of names and small ints -/
def SmallI (i : Int) : Prop := i.natAbs < 2 ^ 1000
theorem showable_int {i : Int} (h : SmallI i) : (PyData.int i).showable = true := decide_eq_true (Nat.lt_trans (log2_lt h (by decide)) (by decide))
theorem w_reprK {H : Hp} {Q : VK} {a : Addr} {ns : List (Str × Int)} (h : H a = some (.dK (ns.map fun p => (.inr p.1, .int p.2)))) (hn : ns.length ≤ 100) (hi : ∀ p ∈ ns, SmallI p.2) (hs : ∀ p ∈ ns, (reprText p.1).length ≤ 1000)
    (k : Q (.str (dOf (ns.map fun p => (.inr p.1, .int p.2))).shown) H) : rReprK [.ref a] H Q := by
  have e : (ns.map fun p => ((.inr p.1 : L2.Key), V.int p.2)).map (fun p => (fD (kV p.1), fD p.2)) = ns.map fun p => (PyData.str p.1, PyData.int p.2) := by rw [List.map_map]; rfl
  have sh : PyData.showableKv (ns.map fun p => (PyData.str p.1, PyData.int p.2)) = true := by
    clear k h hn hs e
    induction ns with
    | nil => rfl
    | cons p r ih =>
      show ((PyData.str p.1).showable && (PyData.int p.2).showable && PyData.showableKv _) = true
      rw [showable_int (hi p List.mem_cons_self), ih fun q m => hi q (List.mem_cons_of_mem _ m)]; rfl
  have dp : PyData.depthKv (ns.map fun p => (PyData.str p.1, PyData.int p.2)) = 0 := by
    clear k h hn hs e sh hi
    induction ns with
    | nil => rfl
    | cons p r ih =>
      show max (max (PyData.str p.1).depth (PyData.int p.2).depth) (PyData.depthKv (r.map fun p => (PyData.str p.1, PyData.int p.2))) = 0
      rw [ih]; rfl
  have bd : bndKv (ns.map fun p => (PyData.str p.1, PyData.int p.2)) ≤ ns.length * 3000 := by
    clear k h hn e sh hi dp
    induction ns with
    | nil => exact Nat.zero_le _
    | cons p r ih =>
      have a := hs p List.mem_cons_self
      have b := ih fun q m => hs q (List.mem_cons_of_mem _ m)
      show (reprText p.1).length + 1921 + 4 + bndKv (r.map fun p => (PyData.str p.1, PyData.int p.2)) ≤ (r.length + 1) * 3000
      omega
  have pl := shownKv_le (ns.map fun p => (PyData.str p.1, PyData.int p.2)) fun q m => by
    obtain ⟨p, hp, rfl⟩ := List.mem_map.mp m
    exact ⟨rfl, rfl, showable_int (hi p hp), rfl⟩
  refine ⟨a, _, rfl, h, ?_, ?_, ?_, ?_, k⟩
  · rw [List.all_map]
    exact List.all_eq_true.mpr fun p _ => rfl
  · unfold dOf; rw [e]; exact sh
  · unfold dOf; rw [e]
    show PyData.depthKv _ + 1 ≤ 40
    rw [dp]; decide
  · unfold dOf; rw [e]
    have u := upto_dict (PyData.shownKv (ns.map fun p => (PyData.str p.1, PyData.int p.2)))
    show (dictText (PyData.shownKv _)).length ≤ sizeLine
    have : ns.length * 3000 ≤ 300000 := Nat.mul_le_mul_right 3000 hn
    exact Nat.le_trans (m := 400000) (by omega) (by decide)
/-! ### readings -/
section
variable {σ : L2.St} {H : Hp} {Q : VK} {x y v : V} {td ty tv te : TE} {a : Addr} {K : PySem.W.Frag}
def kDGet (x y : V) (H2 : Hp) (Q : VK) : Prop := ∃ a v, x = .ref a ∧ DGet H2 a y (some v) ∧ Q v H2
theorem w_dget (k : td σ H fun x H1 => ty σ H1 fun y H2 => kDGet x y H2 Q) : tDGet td ty σ H Q := k
theorem k_dget {kvs : List (L2.Key × V)} {n : Str} (h : H a = some (.dK kvs)) (e : valV kvs (.inr n) = some v) (k : Q v H) : kDGet (.ref a) (.str n) H Q :=
  ⟨a, v, rfl, by rw [← e]; exact DGet.k (k := .inr n) h, k⟩
def kDPut (x y v : V) (H3 : Hp) (R : Hp → Prop) : Prop := ∃ a H4, x = .ref a ∧ DPut H3 a y v H4 ∧ R H4
theorem w_dput {D : Ends} (k : tv σ H fun v H1 => td σ H1 fun x H2 => ty σ H2 fun y H3 => kDPut x y v H3 fun H4 => D.nx σ H4) : sDPut td ty tv D σ H := k
theorem k_dput {kvs : List (L2.Key × V)} {n : Str} {R : Hp → Prop} (h : H a = some (.dK kvs)) (hl : kvs.length < 1000) (k : R (upd H a (.dK (putK kvs (.inr n) v)))) : kDPut (.ref a) (.str n) v H R :=
  ⟨a, _, rfl, DPut.k (k := .inr n) h (Nat.lt_trans hl (by decide)), k⟩
def rDictP (K : PySem.W.Frag) : List V → Hp → VK → Prop := fun xs H Q => ∃ (a : Addr) (ps : List Addr) (kvs : List (L2.Key × V)), xs = [.ref a] ∧ SqL K H a (ps.map V.ref) ∧ Paired (fun p kv => SqT K H p [kV kv.1, kv.2]) ps kvs ∧
    ∀ p, H p = none → Q (.ref p) (upd H p (.dK (mergeK [] kvs)))
theorem k_dictP {X : Cx} (K : PySem.W.Frag) (hc : X.calm = true := by rfl) (h : X.K = K := by rfl) : CallR X (.type "dict") (rDictP K) := by subst h; exact call_dictP hc
theorem w_sl {r : V → Option Int → Option Int → Hp → VK → Prop} {tl th : TO} (k : te σ H fun x H1 => tl σ H1 fun l H2 => th σ H2 fun u H3 => r x l u H3 Q) : tSl r te tl th σ H Q := k
def kPart (x : V) (H : Hp) (R : Option Int → Hp → Prop) : Prop := ∃ i, x = .int i ∧ R (some i) H
theorem w_part {R : Option Int → Hp → Prop} (k : te σ H fun x H1 => kPart x H1 R) : tPart te σ H R := k
theorem k_part {i : Int} {R : Option Int → Hp → Prop} (k : R (some i) H) : kPart (.int i) H R := ⟨i, rfl, k⟩
theorem w_noPart {R : Option Int → Hp → Prop} (k : R none H) : tNoPart σ H R := k
theorem w_slS {z : Str} {lo hi : Option Int} (h : z.length ≤ 100000) (k : Q (.str (cutS z lo hi)) H) : rSlS (.str z) lo hi H Q := ⟨z, rfl, Nat.le_trans h (by decide), k⟩
theorem w_ixS {z : Str} {i : Int} {c : Nat} (h : z.length ≤ 100000) (e : atI z.cps.toList i = some c) (k : Q (.str ⟨#[c]⟩) H) : rIxS (.str z) (.int i) H Q := ⟨z, i, c, rfl, rfl, Nat.le_trans h (by decide), e, k⟩
def kBM (K : PySem.W.Frag) (T : String) (x : V) (H : Hp) (R : Prop) : Prop := tyV K T x H ∧ R
theorem w_bm {T : String} {r : V → List V → Hp → VK → Prop} {t : TA} (k : te σ H fun x H1 => kBM K T x H1 (t σ H1 fun xs H2 => r x xs H2 Q)) : tBM K T r te t σ H Q := k
theorem k_bmS {z : Str} {R : Prop} (k : R) : kBM K "str" (.str z) H R := ⟨by first | exact ⟨_, rfl⟩ | trivial | exact .inl ⟨rfl, _, rfl⟩ | (simp [tyV]), k⟩
def rJoin (K : PySem.W.Frag) : V → List V → Hp → VK → Prop := fun x xs H Q => ∃ a p, ∃ ys : List Str, x = .str a ∧ xs = [.ref p] ∧ (SqL K H p (ys.map V.str) ∨ SqT K H p (ys.map V.str)) ∧
    (ys.map (·.length)).sum + ys.length * a.length ≤ 16777216 ∧ Q (.str (Txt.join a ys)) H
theorem k_join {X : Cx} (K : PySem.W.Frag) (h : X.K = K := by rfl) : MtR X "str.join" (rJoin K) := by subst h; exact mt_join
theorem k_slA {X : Cx} (K : PySem.W.Frag) (h : X.K = K := by rfl) : SlR X (rSlA K) := by subst h; exact sl_tupA
end
theorem pe_bmK {X : Cx} (K : PySem.W.Frag) {o e : Expr} {es : List Expr} {to : TE} {t : TA} {name : Str} {apos cpos : Pos} {T id : String} {r : V → List V → Hp → VK → Prop}
    (pa : PlainAttrs T) (slot : Slot T name id) (hty : typeOf (.builtin id) = pure (.type "method_descriptor")) (hm : MtR X id r) (ho : PE X o to) (ha : PA X (e :: es) t)
    (hbase : attributeBase o name X.env (eval o X.env) = eval o X.env := by rfl)
    (hfew : ((backTo cpos (starEach (e :: es) X.env)).all (fun x => !x.1) && (backToKw cpos (keywordEach [] X.env)).all (fun x => x.1.isSome)
      && decide ((e :: es).length + ([] : List Keyword).length + (if ([] : List Keyword).isEmpty then 0 else 1) < 30)) = true := by rfl)
    (hline : (apos.endLine == cpos.line) = true := by rfl) (hs : starEach (e :: es) X.env = (false, eval e X.env) :: starEach es X.env := by rfl) (hplain : (backTo cpos (starEach es X.env)).any (·.1) = false := by rfl)
    (h : X.K = K := by rfl) : PE X (.Call (.Attribute o name apos) (e :: es) [] cpos) (tBM K T r to t) := by
  subst h
  exact pe_bm pa slot hty hm ho ha hbase hfew hline hs hplain
theorem madeI_all (v : Nat → V) : ∀ n, madeI (fun _ => true) v n = (List.range n).map v
  | 0 => rfl
  | n + 1 => by
    show madeI (fun _ => true) v n ++ [v n] = _
    rw [madeI_all v n, List.range_succ, List.map_append]; rfl
theorem joinL_nil : ∀ ls : List (List Nat), TL.joinL [] ls = ls.flatten
  | [] => rfl
  | [x] => by simp [TL.joinL]
  | x :: y :: r => by
    show x ++ ([] ++ TL.joinL [] (y :: r)) = _
    rw [joinL_nil (y :: r)]; simp
end Sil
set_option Elab.async false
set_option linter.all false
set_option maxRecDepth 100000
set_option maxHeartbeats 1000000
/-! P10: names. -/
namespace Sil
open PySem L2 PySem.Spec PyProof.Rows
/-! ### names -/
structure NameOk (x : Str) : Prop where
  pos : 1 ≤ x.length
  len : x.length ≤ 8
  let_ : ∀ c ∈ x.cps.toList, 97 ≤ c ∧ c ≤ 122
theorem NameOk.rep {x : Str} (h : NameOk x) : (reprText x).length ≤ 1000 := by
  have q := StrLaws.reprText_len x fun c m => Nat.lt_of_le_of_lt (h.let_ c m).2 (by decide)
  have := h.len
  omega
/-- names: texts in order, each one once -/
structure Names (xs : List Str) : Prop where
  ok : ∀ x ∈ xs, NameOk x
  nd : xs.Nodup
  so : sortedS xs = true
def abc : Str := Str.ofString "abcdefghijklmnopqrstuvwxyz"
theorem abc_at {i : Int} (h0 : 0 ≤ i) (h1 : i < 26) : atI abc.cps.toList i = some (97 + i.toNat) := by
  have all : ∀ n : Nat, n < 26 → atI abc.cps.toList (n : Int) = some (97 + n) := by decide +kernel
  have := all i.toNat (by omega)
  rw [Int.toNat_of_nonneg h0] at this
  exact this
def letter (first pace : Int) (k : Nat) : Nat := 97 + ((first + pace * (k : Int)) % 26).toNat
theorem letter_inj {first pace : Int} (hp : pace = 1 ∨ pace = 3 ∨ pace = 5 ∨ pace = 25) {j k : Nat} (hj : j < 26) (hk : k < 26) (h : letter first pace j = letter first pace k) : j = k := by
  unfold letter at h
  rcases hp with rfl | rfl | rfl | rfl <;> omega
def nameAt (stem : Str) (spot : Int) (c : Nat) : Str := cutS stem none (some spot) ++ (⟨#[c]⟩ : Str) ++ cutS stem (some spot) none
theorem tl_cut1 {stem : Str} {n : Nat} (h : n ≤ stem.length) : TL.tl (cutS stem none (some (n : Int))) = (TL.tl stem).take n := by
  show ((stem.cps.toList.drop (HT.sIx stem.length 0 none)).take (HT.sIx stem.length stem.length (some (n : Int)) - HT.sIx stem.length 0 none)).toArray.toList = _
  rw [HT.sIx_nat, HT.sIx_none, Nat.min_eq_left h]
  simp [TL.tl]
theorem tl_cut2 {stem : Str} {n : Nat} (h : n ≤ stem.length) : TL.tl (cutS stem (some (n : Int)) none) = (TL.tl stem).drop n := by
  show ((stem.cps.toList.drop (HT.sIx stem.length 0 (some (n : Int)))).take (HT.sIx stem.length stem.length none - HT.sIx stem.length 0 (some (n : Int)))).toArray.toList = _
  rw [HT.sIx_nat, HT.sIx_none, Nat.min_eq_left h]
  have e : stem.length = stem.cps.toList.length := TL.len_tl stem
  rw [e, ← List.length_drop, List.take_length]
theorem tl_name {stem : Str} {n c : Nat} (h : n ≤ stem.length) : TL.tl (nameAt stem n c) = (TL.tl stem).take n ++ [c] ++ (TL.tl stem).drop n := by
  unfold nameAt
  rw [TL.tl_append, TL.tl_append, tl_cut1 h, tl_cut2 h]
theorem name_inj {stem : Str} {n c d : Nat} (h : n ≤ stem.length) (e : nameAt stem n c = nameAt stem n d) : c = d := by
  have e := congrArg TL.tl e
  rw [tl_name h, tl_name h, List.append_assoc, List.append_assoc] at e
  have e := List.append_cancel_left e
  simpa using e
theorem name_ok {stem : Str} {n c : Nat} (h : n ≤ stem.length) (hl : stem.length ≤ 7) (hs : ∀ x ∈ TL.tl stem, 97 ≤ x ∧ x ≤ 122) (hc : 97 ≤ c ∧ c ≤ 122) : NameOk (nameAt stem n c) := by
  have e := tl_name (c := c) h
  have el : (nameAt stem n c).length = stem.length + 1 := by
    rw [TL.len_tl, e, List.length_append, List.length_append, List.length_take, List.length_drop, ← TL.len_tl stem, Nat.min_eq_left h]
    show n + 1 + (stem.length - n) = _
    omega
  refine ⟨by omega, by omega, fun x m => ?_⟩
  have m : x ∈ TL.tl (nameAt stem n c) := m
  rw [e] at m
  rcases List.mem_append.mp m with m | m
  · rcases List.mem_append.mp m with m | m
    · exact hs x (List.mem_of_mem_take m)
    · rw [List.mem_singleton] at m; rw [m]; exact hc
  · exact hs x (List.mem_of_mem_drop m)
theorem letter_ok (first pace : Int) (k : Nat) : 97 ≤ letter first pace k ∧ letter first pace k ≤ 122 := by
  unfold letter
  omega
theorem names_raw {stem : Str} {n many : Nat} {first pace : Int} (h : n ≤ stem.length) (hl : stem.length ≤ 7) (hs : ∀ x ∈ TL.tl stem, 97 ≤ x ∧ x ≤ 122)
    (hp : pace = 1 ∨ pace = 3 ∨ pace = 5 ∨ pace = 25) (hm : many ≤ 26) {ys : List Str} (p : ys.Perm ((List.range many).map fun k => nameAt stem n (letter first pace k))) (so : sortedS ys = true) : Names ys ∧ ys.length = many := by
  refine ⟨⟨fun x m => ?_, ?_, so⟩, by rw [p.length_eq, List.length_map, List.length_range]⟩
  · obtain ⟨k, _, rfl⟩ := List.mem_map.mp (p.mem_iff.mp m)
    exact name_ok h hl hs (letter_ok _ _ _)
  · refine p.nodup_iff.mpr ?_
    rw [List.nodup_iff_pairwise_ne, List.pairwise_map]
    refine List.Pairwise.imp_of_mem ?_ (List.nodup_iff_pairwise_ne.mp (List.nodup_range (n := many)))
    intro j k hj hk ne e
    rw [List.mem_range] at hj hk
    exact ne (letter_inj hp (by omega) (by omega) (name_inj h e))
def spNames : Sp := fun vs H Q _ => ∃ (b : Addr) (many : Nat), vs = [.ref b, .int many] ∧ Bag H b ∧ 1 ≤ many ∧ many ≤ 26 ∧
  ∀ t xs H', Names xs → xs.length = many → H t = none → Step b H H' → H' t = some (.tup (xs.map V.str)) → Q (.ref t) H'
theorem use_names {b : Addr} {many : Nat} {H : Hp} {Q : VK} {E : XK} (hb : Bag H b) (h1 : 1 ≤ many) (h2 : many ≤ 26)
    (k : ∀ t xs H', Names xs → xs.length = many → H t = none → Step b H H' → H' t = some (.tup (xs.map V.str)) → Q (.ref t) H') : spNames ([.ref b, .int many] ++ []) H Q E := ⟨b, many, rfl, hb, h1, h2, k⟩
theorem size_at {d : Int} (h0 : 0 ≤ d) (h1 : d < 5) : ∃ s : Nat, atI [V.int 0, .int 0, .int 1, .int 2, .int 7] d = some (.int (s : Int)) ∧ s ≤ 7 := by
  have h : d = 0 ∨ d = 1 ∨ d = 2 ∨ d = 3 ∨ d = 4 := by omega
  rcases h with rfl | rfl | rfl | rfl | rfl
  · exact ⟨0, rfl, by decide⟩
  · exact ⟨0, rfl, by decide⟩
  · exact ⟨1, rfl, by decide⟩
  · exact ⟨2, rfl, by decide⟩
  · exact ⟨7, rfl, by decide⟩
theorem pace_at {d : Int} (h0 : 0 ≤ d) (h1 : d < 4) : ∃ s : Int, atI [V.int 1, .int 3, .int 5, .int 25] d = some (.int s) ∧ (s = 1 ∨ s = 3 ∨ s = 5 ∨ s = 25) := by
  have h : d = 0 ∨ d = 1 ∨ d = 2 ∨ d = 3 := by omega
  rcases h with rfl | rfl | rfl | rfl
  · exact ⟨1, rfl, by decide⟩
  · exact ⟨3, rfl, by decide⟩
  · exact ⟨5, rfl, by decide⟩
  · exact ⟨25, rfl, by decide⟩
theorem stem_of : ∀ {acc : List V}, (∀ (j : Nat) (y : V), acc[j]? = some y → ∃ c, y = V.str ⟨#[c]⟩ ∧ 97 ≤ c ∧ c ≤ 122) → ∃ ys : List Nat, acc = (ys.map fun c => (⟨#[c]⟩ : Str)).map V.str ∧ ∀ c ∈ ys, 97 ≤ c ∧ c ≤ 122
  | [], _ => ⟨[], rfl, fun _ h => nomatch h⟩
  | v :: r, h => by
    obtain ⟨c, rfl, hc⟩ := h 0 v rfl
    obtain ⟨ys, rfl, hy⟩ := stem_of (acc := r) fun j y e => h (j + 1) y e
    refine ⟨c :: ys, rfl, fun d m => ?_⟩
    rcases List.mem_cons.mp m with rfl | m
    · exact hc
    · exact hy d m
theorem tl_stem (ys : List Nat) : TL.tl (Txt.join (Str.ofString "") (ys.map fun c => (⟨#[c]⟩ : Str))) = ys := by
  rw [TL.join_eq, TL.tl_join]
  show TL.joinL [] _ = _
  rw [joinL_nil, List.map_map]
  induction ys with
  | nil => rfl
  | cons c r ih =>
    rw [List.map_cons, List.flatten_cons, ih]; rfl
theorem sum_ones (ys : List Nat) : ((ys.map fun c => (⟨#[c]⟩ : Str)).map (·.length)).sum = ys.length := by
  induction ys with
  | nil => rfl
  | cons c r ih =>
    rw [List.map_cons, List.map_cons, List.sum_cons, ih]
    show 1 + r.length = r.length + 1
    omega
end Sil
set_option Elab.async false
set_option linter.all false
set_option maxRecDepth 100000
set_option maxHeartbeats 1000000
/-! P11: filters that draw; watches; numbers by names. -/
namespace Sil
open PySem L2 PySem.Spec PyProof.Rows
/-! ### filters that draw -/
section
variable {K : PySem.W.Frag} {a b : Addr} {g : TG} {tt : TT} {te : TE} {vs : List Nat} {σ : L2.St} {H1 : Hp} {Q : VK}
def TurnF (b : Addr) (g : TG) (tt : TT) (te : TE) (vs : List Nat) (σ : L2.St) (x : V) (G : Hp) : Prop :=
  ∀ (R : V → Hp → Prop) (Ny : Hp → Prop), (∀ G', Step b G G' → R x G') → (∀ G', Step b G G' → Ny G') → g x (wipe σ vs) G fun σ2 H2 => wipe σ2 vs = wipe σ vs ∧ tt σ2 H2 fun c H3 => if c = true then te σ2 H3 R else Ny H3
theorem take_snoc {α : Type} {xs : List α} {i : Nat} {x : α} (h : xs[i]? = some x) : xs.take (i + 1) = xs.take i ++ [x] := by
  obtain ⟨h1, rfl⟩ := List.getElem?_eq_some_iff.mp h
  rw [List.take_succ_eq_append_getElem h1]
theorem f_lcT {xs : List V} (hb : Bag H1 b) (hz : xs.length ≤ 100000) (hx : SqT K H1 a xs) (ht : ∀ (i : Nat) (x : V) (G : Hp), xs[i]? = some x → Step b H1 G → TurnF b g tt te vs σ x G)
    (k : ∀ D acc H, H1 D = none → H D = some (.lst acc) → Step b H1 H → acc.Sublist xs → Q (.ref D) H) : kLc (Itt K a) g tt te vs σ H1 Q := by
  refine k_lcT (xs := xs) hz (fun i acc G => Step b H1 G ∧ acc.Sublist (xs.take i)) ⟨.refl hb, List.Sublist.refl _⟩ (fun i acc G p => p.1.seqT hb hx) ?_ ?_
  · intro D i x acc H nD hi hD p Nx Ny k1 k2 hlen
    have nb := bag_new hb nD
    have st : Step b H1 H := p.1.more off_sub
    have back : ∀ G', Step b H G' → Step b H1 (off [D] G') := fun G' s' => by
      refine ⟨?_, fun c o hc => ?_⟩
      · obtain ⟨n, m, h1, h2, e⟩ := s'.1
        exact ⟨n, m, h1, h2, off_mk e (by rw [List.mem_singleton]; exact nb.symm)⟩
      · obtain ⟨e1, e2⟩ := off_get hc
        have e3 := (st.trans s').at e1 (by simpa using e2)
        refine off_mk (off_mk e3 ?_) e2
        rw [List.mem_singleton]
        rintro rfl
        rw [nD] at e1; cases e1
    refine ht i x H hi st _ Ny (fun G' s' => ?_) fun G' s' => ?_
    · refine ⟨acc, s'.at hD nb, hlen, k1 x G' (s'.at hD nb) ⟨back G' s', ?_⟩⟩
      rw [take_snoc hi]
      exact p.2.append (List.Sublist.refl _)
    · refine k2 G' (s'.at hD nb) ⟨back G' s', ?_⟩
      rw [take_snoc hi]
      exact p.2.trans (List.sublist_append_left _ _)
  · rintro D acc H nD hD ⟨p1, p2⟩
    rw [List.take_length] at p2
    exact k D acc H nD hD (p1.more off_sub) p2
theorem turnF_name {j : Nat} {x : V} {G : Hp} (hw : ∀ x, wipe ((wipe σ vs).set j (some x)) vs = wipe σ vs)
    (h : ∀ (R : V → Hp → Prop) (Ny : Hp → Prop), (∀ G', Step b G G' → R x G') → (∀ G', Step b G G' → Ny G') → tt ((wipe σ vs).set j (some x)) G fun c H3 => if c = true then te ((wipe σ vs).set j (some x)) H3 R else Ny H3) :
    TurnF b (gName j) tt te vs σ x G := fun R Ny k1 k2 => w_name ⟨hw x, h R Ny k1 k2⟩
/-- the target is a pair of names -/
theorem turn_pair {i j : Nat} {q : Addr} {v1 v2 : V} {c : Bool} {v : V} (hq : H1 q = some (.tup [v1, v2])) (hw : wipe (((wipe σ vs).set i (some v1)).set j (some v2)) vs = wipe σ vs)
    (ht : EvT tt (((wipe σ vs).set i (some v1)).set j (some v2)) H1 c) (he : c = true → EvE te (((wipe σ vs).set i (some v1)).set j (some v2)) H1 v) :
    TurnI (gTup K 2 (gCons (gName i) (gCons (gName j) gNil))) tt te vs σ H1 (.ref q) c v := fun H s R k =>
  w_gtup (SqT.at (s _ _ hq)) rfl (w_gcons (w_name (w_gcons (w_name (w_gnil (k _ hw ht he))))))
end
/-! ### texts are data -/
theorem NameOk.lay {x : Str} (h : NameOk x) : PyData.canLay0 (.str x) = true := by
  show x.cps.all (fun c => decide (c < 0x110000)) = true
  rw [Array.all_eq_true]
  intro i hi
  have m : x.cps[i] ∈ x.cps.toList := by simp
  exact decide_eq_true (Nat.lt_of_le_of_lt (h.let_ _ m).2 (by decide))
theorem dpAll_strs {K : PySem.W.Frag} {H : Hp} : ∀ xs : List Str, DpAll K H (xs.map V.str) (xs.map PyData.str)
  | [] => .nil
  | n :: r => .cons (.str n) (dpAll_strs r)
theorem canLay_strs : ∀ {xs : List Str}, (∀ x ∈ xs, NameOk x) → PyData.canLayAll0 (xs.map PyData.str) = true
  | [], _ => rfl
  | n :: r, h => by
    show (PyData.canLay0 (.str n) && PyData.canLayAll0 (r.map PyData.str)) = true
    rw [(h n List.mem_cons_self).lay, canLay_strs fun x m => h x (List.mem_cons_of_mem _ m)]; rfl
theorem depth_strs : ∀ ns : List Str, PyData.depthAll (ns.map PyData.str) = 0
  | [] => rfl
  | n :: r => by
    show max 0 (PyData.depthAll (r.map PyData.str)) = 0
    rw [depth_strs r]; rfl
theorem shaped_strs {xs : List Str} (h : ∀ x ∈ xs, NameOk x) : SeqAt.shaped (.list (xs.map PyData.str)) = true := by
  show (PyData.canLayAll0 (xs.map PyData.str) && decide (PyData.depthAll (xs.map PyData.str) + 1 ≤ 64)) = true
  rw [canLay_strs h, depth_strs]; rfl
/-! ### what stays -/
/-- tuples stay -/
def TKeep (H H' : Hp) : Prop := ∀ p xs, H p = some (.tup xs) → H' p = some (.tup xs)
theorem TKeep.same {H H' : Hp} (s : Same H H') : TKeep H H' := fun p xs e => s _ _ e
theorem TKeep.step {b : Addr} {H H' : Hp} (hb : Bag H b) (s : Step b H H') : TKeep H H' := fun p xs e => s.tup hb e
theorem TKeep.trans {H H' H2 : Hp} (s : TKeep H H') (t : TKeep H' H2) : TKeep H H2 := fun p xs e => t p xs (s p xs e)
/-! ### watches -/
inductive Wt where
  | sum (ws : List (Str × Int)) (l : Int)
  | over (ws : List (Str × Int)) (l : Int)
  | most (ns : List Str) (l : Int)
  | count (ns : List Str) (l : Int)
def PairsAt (H : Hp) (t : Addr) (ws : List (Str × Int)) : Prop := ∃ ps : List Addr, H t = some (.tup (ps.map V.ref)) ∧ Paired (fun q e => H q = some (.tup [.str e.1, .int e.2])) ps ws
def WatchAt (H : Hp) (p : Addr) : Wt → Prop
  | .sum ws l => ∃ t, H p = some (.tup [.str (Str.ofString "sum"), .ref t, .int l]) ∧ PairsAt H t ws
  | .over ws l => ∃ t, H p = some (.tup [.str (Str.ofString "over"), .ref t, .int l]) ∧ PairsAt H t ws
  | .most ns l => ∃ t, H p = some (.tup [.str (Str.ofString "most"), .ref t, .int l]) ∧ H t = some (.tup (ns.map V.str))
  | .count ns l => ∃ t, H p = some (.tup [.str (Str.ofString "count"), .ref t, .int l]) ∧ H t = some (.tup (ns.map V.str))
theorem paired_keep {H H' : Hp} (k : TKeep H H') : ∀ {ps : List Addr} {ws : List (Str × Int)}, Paired (fun q e => H q = some (.tup [.str e.1, .int e.2])) ps ws → Paired (fun q e => H' q = some (.tup [.str e.1, .int e.2])) ps ws
  | _, _, .nil => .nil
  | _, _, .cons h r => .cons (k _ _ h) (paired_keep k r)
theorem PairsAt.keep {H H' : Hp} {t : Addr} {ws : List (Str × Int)} (k : TKeep H H') : PairsAt H t ws → PairsAt H' t ws := fun ⟨ps, h1, h2⟩ => ⟨ps, k _ _ h1, paired_keep k h2⟩
theorem WatchAt.keep {H H' : Hp} {p : Addr} (k : TKeep H H') : ∀ {w : Wt}, WatchAt H p w → WatchAt H' p w
  | .sum _ _, ⟨t, h1, h2⟩ => ⟨t, k _ _ h1, h2.keep k⟩
  | .over _ _, ⟨t, h1, h2⟩ => ⟨t, k _ _ h1, h2.keep k⟩
  | .most _ _, ⟨t, h1, h2⟩ => ⟨t, k _ _ h1, k _ _ h2⟩
  | .count _ _, ⟨t, h1, h2⟩ => ⟨t, k _ _ h1, k _ _ h2⟩
def Wt.names : Wt → List Str
  | .sum ws _ => ws.map (·.1)
  | .over ws _ => ws.map (·.1)
  | .most ns _ => ns
  | .count ns _ => ns
def Wt.weights : Wt → List Int
  | .sum ws _ => ws.map (·.2)
  | .over ws _ => ws.map (·.2)
  | _ => []
/-- a watch of these names -/
structure WOk (xs : List Str) (w : Wt) : Prop where
  sub : ∀ n ∈ w.names, n ∈ xs
  ne : w.names ≠ []
  few : w.names.length ≤ 26
  wt : ∀ i ∈ w.weights, i.natAbs ≤ 1000000
theorem paired_at {H : Hp} : ∀ {ps : List Addr} {ws : List (Str × Int)} (_ : Paired (fun q e => H q = some (.tup [.str e.1, .int e.2])) ps ws) {i : Nat} {x : V}, (ps.map V.ref)[i]? = some x →
    ∃ q e, x = .ref q ∧ ws[i]? = some e ∧ H q = some (.tup [.str e.1, .int e.2])
  | _, _, .nil, i, x, h => by cases h
  | _, _, .cons (a := q) (b := e) h r, 0, x, hi => by cases hi; exact ⟨q, e, rfl, rfl, h⟩
  | _, _, .cons h r, i + 1, x, hi => paired_at r hi
theorem paired_len {α β : Type} {R : α → β → Prop} : ∀ {ps : List α} {ws : List β}, Paired R ps ws → ps.length = ws.length
  | _, _, .nil => rfl
  | _, _, .cons _ r => congrArg (· + 1) (paired_len r)
/-! ### numbers by names -/
def numKv (ns : List (Str × Int)) : List (L2.Key × V) := ns.map fun p => (.inr p.1, .int p.2)
def numOf (ns : List (Str × Int)) (x : Str) : Option Int := (ns.find? fun p => decide (p.1 = x)).map (·.2)
theorem val_num (x : Str) : ∀ ns : List (Str × Int), valV (numKv ns) (.inr x) = (numOf ns x).map V.int
  | [] => rfl
  | p :: r => by
    by_cases h : p.1 = x
    · have e : numOf (p :: r) x = some p.2 := by unfold numOf; rw [List.find?_cons_of_pos (by simpa using h)]; rfl
      rw [e]
      exact valV_pos (p := ((.inr p.1 : L2.Key), V.int p.2)) (by rw [h])
    · have e : numOf (p :: r) x = numOf r x := by unfold numOf; rw [List.find?_cons_of_neg (by simpa using h)]
      rw [e, ← val_num x r]
      exact valV_neg (p := ((.inr p.1 : L2.Key), V.int p.2)) (by intro q; exact h (by injection q))
theorem num_some {x : Str} : ∀ {ns : List (Str × Int)}, x ∈ ns.map (·.1) → ∃ i, numOf ns x = some i ∧ (x, i) ∈ ns
  | [], h => nomatch h
  | p :: r, h => by
    by_cases q : p.1 = x
    · refine ⟨p.2, by unfold numOf; rw [List.find?_cons_of_pos (by simpa using q)]; rfl, ?_⟩
      rw [← q]; exact List.mem_cons_self
    · obtain ⟨i, h1, h2⟩ := num_some (ns := r) (by
        rcases List.mem_cons.mp h with e | e
        · exact absurd e.symm q
        · exact e)
      exact ⟨i, by unfold numOf; rw [List.find?_cons_of_neg (by simpa using q)]; exact h1, List.mem_cons_of_mem _ h2⟩
def num (ns : List (Str × Int)) (x : Str) : Int := (numOf ns x).getD 0
theorem num_val {x : Str} {ns : List (Str × Int)} (h : x ∈ ns.map (·.1)) : valV (numKv ns) (.inr x) = some (.int (num ns x)) := by
  obtain ⟨i, e, _⟩ := num_some h
  rw [val_num]
  unfold num
  rw [e]; rfl
theorem num_mem {x : Str} {ns : List (Str × Int)} (h : x ∈ ns.map (·.1)) : (x, num ns x) ∈ ns := by
  obtain ⟨i, e, m⟩ := num_some h
  unfold num
  rw [e]; exact m
/-! ### worths -/
def total (f : Str → Int) (ws : List (Str × Int)) : Int := (ws.map fun e => e.2 * f e.1).sum
def worthV (f : Str → Int) : Wt → V
  | .sum ws _ => .int (total f ws)
  | .over ws l => .bl (decide (l ≤ total f ws))
  | .most ns _ => .int ((maxO (ns.map f)).getD 0)
  | .count ns l => .int ((ns.filter fun n => decide (l ≤ f n)).length : Nat)
theorem madeI_len (f : Nat → Bool) (v : Nat → V) : ∀ n, (madeI f v n).length = ((List.range n).filter f).length
  | 0 => rfl
  | n + 1 => by
    show (if f n = true then madeI f v n ++ [v n] else madeI f v n).length = _
    rw [List.range_succ, List.filter_append]
    by_cases h : f n = true
    · rw [if_pos h, List.length_append, madeI_len f v n, List.length_append]
      simp [h]
    · rw [if_neg h, madeI_len f v n]
      simp [h]
theorem range_at {α : Type} (d : α) (xs : List α) : (List.range xs.length).map (fun i => xs.getD i d) = xs := by
  apply List.ext_getElem
  · simp
  · intro i h1 h2
    simp [List.getD_eq_getElem?_getD, h2]
theorem filter_at {α : Type} (d : α) (p : α → Bool) (xs : List α) : ((List.range xs.length).filter fun i => p (xs.getD i d)).length = (xs.filter p).length := by
  have e := congrArg (fun l => (l.filter p).length) (range_at d xs)
  simp only [List.filter_map, List.length_map] at e
  exact e
/-! ### worths -/
theorem sum_list (f : Str → Int) (ws : List (Str × Int)) (n : Nat) (h : n = ws.length) : madeI (fun _ => true) (fun i => V.int ((ws.getD i (Str.empty, 0)).2 * f (ws.getD i (Str.empty, 0)).1)) n = (ws.map fun e => e.2 * f e.1).map V.int := by
  subst h
  rw [madeI_all]
  have e := congrArg (fun l => (l.map fun e : Str × Int => e.2 * f e.1).map V.int) (range_at (Str.empty, 0) ws)
  rw [List.map_map, List.map_map] at e
  exact e
theorem num_list (f : Str → Int) (ns : List Str) (n : Nat) (h : n = ns.length) : madeI (fun _ => true) (fun i => V.int (f (ns.getD i Str.empty))) n = (ns.map f).map V.int := by
  subst h
  rw [madeI_all]
  have e := congrArg (fun l => (l.map f).map V.int) (range_at Str.empty ns)
  rw [List.map_map, List.map_map] at e
  exact e
/-- numbers that have these names -/
structure NumAt (H : Hp) (d : Addr) (ns : List (Str × Int)) (xs : List Str) : Prop where
  at_ : H d = some (.dK (numKv ns))
  has : ∀ x ∈ xs, x ∈ ns.map (·.1)
theorem NumAt.same {H H' : Hp} {d : Addr} {ns : List (Str × Int)} {xs : List Str} (s : Same H H') (h : NumAt H d ns xs) : NumAt H' d ns xs := ⟨s _ _ h.at_, h.has⟩
theorem NumAt.sub {H : Hp} {d : Addr} {ns : List (Str × Int)} {xs ys : List Str} (s : ∀ y ∈ ys, y ∈ xs) (h : NumAt H d ns xs) : NumAt H d ns ys := ⟨h.at_, fun y m => h.has y (s y m)⟩
def WtLe (ws : List (Str × Int)) : Prop := ∀ e ∈ ws, e.2.natAbs ≤ 1000000
/-- the sum's comprehension -/
theorem sum_turn {K : PySem.W.Frag} {ps : List Addr} {ws : List (Str × Int)} {ns : List (Str × Int)} {d : Addr} {H : Hp} {tt : TT} {te : TE} {vs : List Nat} {σ : L2.St} {i j : Nat}
    (pp : Paired (fun q e => H q = some (.tup [.str e.1, .int e.2])) ps ws) (hd : NumAt H d ns (ws.map (·.1)))
    (hw : ∀ u v, wipe (((wipe σ vs).set i (some u)).set j (some v)) vs = wipe σ vs)
    (ht : ∀ u v H', tt (((wipe σ vs).set i (some u)).set j (some v)) H' = fun Q => Q true H')
    (he : ∀ (x : Str) (k : Int) (f : Int), valV (numKv ns) (.inr x) = some (.int f) → k.natAbs ≤ 1000000 → EvE te (((wipe σ vs).set i (some (.str x))).set j (some (.int k))) H (.int (k * f)))
    (wl : WtLe ws) : ∀ (a : Nat) (x : V), (ps.map V.ref)[a]? = some x → TurnI (gTup K 2 (gCons (gName i) (gCons (gName j) gNil))) tt te vs σ H x true (V.int ((ws.getD a (Str.empty, 0)).2 * num ns (ws.getD a (Str.empty, 0)).1)) := by
  intro a x ha
  obtain ⟨q, e, rfl, hwa, hq⟩ := paired_at pp ha
  have eg : ws.getD a (Str.empty, 0) = e := by rw [List.getD_eq_getElem?_getD, hwa]; rfl
  have me := List.mem_of_getElem? hwa
  refine turn_pair hq (hw _ _) (fun H' s' Q' k' => ?_) (fun _ => ?_)
  · rw [ht]; exact k' _ (Same.refl _)
  · rw [eg]
    exact he _ _ _ (num_val (hd.has _ (List.mem_map_of_mem me))) (wl e me)
theorem WOk.le {xs : List Str} {ws : List (Str × Int)} {l : Int} (h : WOk xs (.sum ws l)) : WtLe ws := fun e m => h.wt e.2 (List.mem_map_of_mem m)
theorem WOk.le' {xs : List Str} {ws : List (Str × Int)} {l : Int} (h : WOk xs (.over ws l)) : WtLe ws := fun e m => h.wt e.2 (List.mem_map_of_mem m)
theorem w_eqY {x : Str} {H : Hp} {Q : VK} (k : Q (.bl true) H) : rEq (.str x) (.str x) H Q := w_eq rfl (by rw [decide_eq_true rfl]; exact k)
theorem w_eqX {a b : Str} {H : Hp} {Q : VK} (h : ¬ a = b) (k : Q (.bl false) H) : rEq (.str a) (.str b) H Q := w_eq rfl (by rw [decide_eq_false (fun e => h (by injection e))]; exact k)
def spWorth : Sp := fun vs H Q _ => ∃ (p d : Addr) (w : Wt) (ns : List (Str × Int)), vs = [.ref p, .ref d] ∧ WatchAt H p w ∧ WOk w.names w ∧ NumAt H d ns w.names ∧
  ∀ H', Same H H' → Q (worthV (num ns) w) H'
theorem use_worth {p d : Addr} {w : Wt} {ns : List (Str × Int)} {H : Hp} {Q : VK} {E : XK} (h1 : WatchAt H p w) (h2 : WOk w.names w) (h3 : NumAt H d ns w.names) (k : ∀ H', Same H H' → Q (worthV (num ns) w) H') :
    spWorth ([.ref p, .ref d] ++ []) H Q E := ⟨p, d, w, ns, rfl, h1, h2, h3, k⟩
theorem getD_map {α : Type} {f : Str → α} {ns : List Str} {i : Nat} {x : α} (h : (ns.map f)[i]? = some x) : x = f (ns.getD i Str.empty) ∧ ns.getD i Str.empty ∈ ns := by
  obtain ⟨h1, h2⟩ := List.getElem?_eq_some_iff.mp h
  rw [List.length_map] at h1
  have e : ns.getD i Str.empty = ns[i] := by rw [List.getD_eq_getElem?_getD, List.getElem?_eq_getElem h1]; rfl
  rw [e]
  exact ⟨by rw [← h2, List.getElem_map], List.getElem_mem _⟩
end Sil
set_option Elab.async false
set_option linter.all false
set_option maxRecDepth 100000
set_option maxHeartbeats 1000000
/-! P12: pairs drawn, dicts made of them, how far worths go. -/
namespace Sil
open PySem L2 PySem.Spec PyProof.Rows
theorem acc_pairs {B : Int → Prop} {H : Hp} : ∀ {acc : List V} {ys : List Str}, acc.length = ys.length → (∀ (j : Nat) (y : V), acc[j]? = some y → ∃ q k, y = V.ref q ∧ H q = some (.tup [.str (ys.getD j Str.empty), .int k]) ∧ B k) →
    ∃ (ps : List Addr) (ws : List (Str × Int)), acc = ps.map V.ref ∧ Paired (fun q e => H q = some (.tup [.str e.1, .int e.2])) ps ws ∧ ws.map (·.1) = ys ∧ ∀ e ∈ ws, B e.2
  | [], [], _, _ => ⟨[], [], rfl, .nil, rfl, fun _ h => nomatch h⟩
  | [], _ :: _, h, _ => nomatch h
  | _ :: _, [], h, _ => nomatch h
  | v :: r, y :: ys, hl, h => by
    obtain ⟨q, k, rfl, hq, hk⟩ := h 0 v rfl
    obtain ⟨ps, ws, e1, e2, e3, e4⟩ := acc_pairs (acc := r) (ys := ys) (by simpa using hl) fun j z e => h (j + 1) z e
    refine ⟨q :: ps, (y, k) :: ws, by rw [e1]; rfl, .cons hq e2, by rw [List.map_cons, e3], fun e m => ?_⟩
    rcases List.mem_cons.mp m with rfl | m
    · exact hk
    · exact e4 e m
theorem valV_out {kvs : List (L2.Key × V)} {k : L2.Key} (h : k ∉ kvs.map (·.1)) : valV kvs k = none := by
  unfold valV
  rw [List.find?_eq_none.mpr]
  · rfl
  · intro p m q
    exact h (List.mem_map.mpr ⟨p, m, of_decide_eq_true q⟩)
theorem mergeK_new : ∀ (more kvs : List (L2.Key × V)), ((kvs ++ more).map (·.1)).Nodup → mergeK kvs more = kvs ++ more
  | [], kvs, _ => by rw [List.append_nil]; rfl
  | p :: r, kvs, h => by
    have out : p.1 ∉ kvs.map (·.1) := by
      rw [List.map_append, List.map_cons] at h
      exact fun m => (List.nodup_append.mp h).2.2 _ m _ List.mem_cons_self rfl
    show mergeK (putK kvs p.1 p.2) r = _
    rw [putK_new p.2 (valV_out out)]
    have e : kvs ++ [(p.1, p.2)] ++ r = kvs ++ p :: r := by simp
    rw [mergeK_new r _ (by rw [e]; exact h), e]
theorem keys_num (ns : List (Str × Int)) : (numKv ns).map (·.1) = (ns.map (·.1)).map (Sum.inr : Str → L2.Key) := by
  unfold numKv
  rw [List.map_map, List.map_map]; rfl
theorem merge_num {ns : List (Str × Int)} (h : (ns.map (·.1)).Nodup) : mergeK [] (numKv ns) = numKv ns := by
  have e := mergeK_new (numKv ns) [] (by
    rw [List.nil_append, keys_num, List.nodup_iff_pairwise_ne, List.pairwise_map]
    exact (List.nodup_iff_pairwise_ne.mp h).imp fun q z => q (by injection z))
  rw [List.nil_append] at e
  exact e
theorem put_num {ns : List (Str × Int)} {x : Str} {v : Int} (h : x ∈ ns.map (·.1)) : ∃ ns', putK (numKv ns) (.inr x) (.int v) = numKv ns' ∧ ns'.map (·.1) = ns.map (·.1) ∧ ∀ e ∈ ns', e ∈ ns ∨ e.2 = v := by
  refine ⟨ns.map fun p => if p.1 = x then (p.1, v) else p, ?_, ?_, ?_⟩
  · unfold putK
    rw [if_pos]
    · unfold numKv
      rw [List.map_map, List.map_map]
      apply List.map_congr_left
      intro p m
      by_cases q : p.1 = x
      · simp [q]
      · have : ¬ (Sum.inr p.1 : L2.Key) = Sum.inr x := fun z => q (by injection z)
        simp [q]
    · rw [List.any_eq_true]
      obtain ⟨p, m, rfl⟩ := List.mem_map.mp h
      exact ⟨(.inr p.1, .int p.2), List.mem_map.mpr ⟨p, m, rfl⟩, decide_eq_true rfl⟩
  · rw [List.map_map]
    apply List.map_congr_left
    intro p m
    show (if p.1 = x then (p.1, v) else p).1 = p.1
    split <;> rfl
  · intro e m
    obtain ⟨p, mp, rfl⟩ := List.mem_map.mp m
    by_cases q : p.1 = x
    · rw [if_pos q]; exact .inr rfl
    · rw [if_neg q]; exact .inl mp
theorem paired_sq {K : PySem.W.Frag} {H : Hp} : ∀ {ps : List Addr} {ws : List (Str × Int)}, Paired (fun q e => H q = some (.tup [.str e.1, .int e.2])) ps ws → Paired (fun p kv => SqT K H p [kV kv.1, kv.2]) ps (numKv ws)
  | _, _, .nil => .nil
  | _, _, .cons h r => .cons (SqT.at h) (paired_sq r)
/-! ### how far worths go -/
theorem total_le {f : Str → Int} {M : Nat} : ∀ {ws : List (Str × Int)}, (∀ e ∈ ws, e.2.natAbs ≤ 1000000 ∧ (f e.1).natAbs ≤ M) → (total f ws).natAbs ≤ ws.length * (1000000 * M)
  | [], _ => Nat.zero_le _
  | e :: r, h => by
    obtain ⟨h1, h2⟩ := h e List.mem_cons_self
    have ih := total_le (f := f) (ws := r) fun x m => h x (List.mem_cons_of_mem _ m)
    have e0 : total f (e :: r) = e.2 * f e.1 + total f r := by unfold total; rw [List.map_cons, List.sum_cons]
    rw [e0]
    have a := Int.natAbs_add_le (e.2 * f e.1) (total f r)
    have b : (e.2 * f e.1).natAbs ≤ 1000000 * M := by rw [Int.natAbs_mul]; exact Nat.mul_le_mul h1 h2
    rw [List.length_cons, Nat.succ_mul]
    omega
theorem dp_fl {K : PySem.W.Frag} {H : Hp} {v : V} (h : isFl v = true) : Dp K H v (fD v) := by
  cases v <;> first | cases h | skip
  · exact .non
  · exact .bl _
  · exact .int _
  · exact .str _
def Fits (f : Str → Int) (ns : List Str) : Prop := ∀ n ∈ ns, (f n).natAbs ≤ 2 ^ 80
theorem worth_fl (f : Str → Int) (w : Wt) : isFl (worthV f w) = true := by cases w <;> rfl
theorem worth_show {f : Str → Int} {w : Wt} (ok : WOk w.names w) (hf : Fits f w.names) : (fD (worthV f w)).showable = true := by
  have tot : ∀ ws : List (Str × Int), ws.length ≤ 26 → WtLe ws → Fits f (ws.map (·.1)) → SmallI (total f ws) := by
    intro ws hl hw hf
    have t := total_le (f := f) (M := 2 ^ 80) (ws := ws) fun e m => ⟨hw e m, hf _ (List.mem_map_of_mem m)⟩
    have : ws.length * (1000000 * 2 ^ 80) ≤ 26 * (1000000 * 2 ^ 80) := Nat.mul_le_mul_right _ hl
    exact Nat.lt_of_le_of_lt (Nat.le_trans t this) (by decide)
  have few := ok.few
  cases w with
  | sum ws l => exact showable_int (tot ws (by rwa [show (Wt.sum ws l).names = ws.map (·.1) from rfl, List.length_map] at few) ok.le hf)
  | over ws l => rfl
  | most ns l =>
    refine showable_int ?_
    show ((maxO (ns.map f)).getD 0).natAbs < 2 ^ 1000
    cases e : maxO (ns.map f) with
    | none => decide
    | some m =>
      obtain ⟨n, hn, rfl⟩ := List.mem_map.mp (maxO_in e).1
      exact Nat.lt_of_le_of_lt (hf n hn) (by decide)
  | count ns l =>
    refine showable_int ?_
    show (((ns.filter fun n => decide (l ≤ f n)).length : Nat) : Int).natAbs < 2 ^ 1000
    have := List.length_filter_le (fun n => decide (l ≤ f n)) ns
    have few : ns.length ≤ 26 := few
    exact Nat.lt_of_le_of_lt (m := 26) (by omega) (by decide)
theorem bnd_fl {v : V} (h : ∀ x, v ≠ .str x) : bnd (fD v) ≤ 2000 := by
  cases v <;> first | exact absurd rfl (h _) | exact Nat.le_of_ble_eq_true rfl
theorem worth_repr {K : PySem.W.Frag} {f : Str → Int} {w : Wt} {H : Hp} {Q : VK} (ok : WOk w.names w) (hf : Fits f w.names) (k : Q (.str (fD (worthV f w)).shown) H) : rRepr K [worthV f w] H Q := by
  refine w_repr (dp_fl (worth_fl f w)) (worth_show ok hf) ?_ ?_ ?_ k
  · cases w <;> rfl
  · cases w <;> exact Nat.zero_le _
  · exact Nat.le_trans (bnd_fl (by cases w <;> intro x h <;> cases h)) (by decide)
theorem w_pc {tk tv : TE} {r : List (TE × TE)} {σ : L2.St} {H : Hp} {Q : List (V × V) → Hp → Prop} (k : tk σ H fun x H1 => tv σ H1 fun y H2 => tPairs r σ H2 fun ps H3 => Q ((x, y) :: ps) H3) : tPairs ((tk, tv) :: r) σ H Q := k
theorem w_pn {σ : L2.St} {H : Hp} {Q : List (V × V) → Hp → Prop} (k : Q [] H) : tPairs [] σ H Q := k
theorem w_disp {trs : List (TE × TE)} {σ : L2.St} {H : Hp} {Q : VK} (k : ∀ p, H p = none → tPairs trs σ (upd H p (.dK [])) fun ps H2 => H2 p = some (.dK []) ∧ ∃ kvs : List (L2.Key × V), ps = kvs.map (fun kv => (kV kv.1, kv.2)) ∧ kvs.length ≤ 15 ∧ Q (.ref p) (upd H2 p (.dK (mergeK [] kvs)))) :
    tDisp trs σ H Q := k
end Sil
set_option Elab.async false
set_option linter.all false
set_option maxRecDepth 100000
set_option maxHeartbeats 1000000
/-! P13: t[::-1] of a tuple; a call of a local name that holds one of several defs; methods that change a list. -/
namespace Sil
open PySem L2 PySem.Spec PyProof.Rows
section
variable {prog : Program} {w : World} {A : Around} {E : Value → Shared → Prop} {s : Shared}
theorem adjust_rev (n : Nat) : Builtin.Slice.sliceAdjust none none (-1) (n : Int) = ((n : Int) - 1, -1) := by
  unfold Builtin.Slice.sliceAdjust
  rfl
theorem places_rev (n : Nat) : Builtin.Slice.slicePlaces ((n : Int) - 1) (-1) (-1) = n := by
  unfold Builtin.Slice.slicePlaces
  simp only [show ¬ ((-1 : Int) > 0) by decide, if_false]
  split
  · rw [show (- -1 : Int) = 1 by decide, Int.ediv_one]; omega
  · omega
theorem sliceApplied_rev {sl : Addr} {vs : Value} {n : Nat} {Q : Int × Int × Nat → Shared → Prop} (hs : s.heap.IsSliceOf sl .none .none vs) (ps : IsPart vs (some (-1))) (h : Q ((n : Int) - 1, -1, n) s) :
    wpAny (model prog w) A (Builtin.Slice.sliceApplied (.ref sl) (pure (n : Int))) Q E s := by
  obtain ⟨os, hos, hcs, hds⟩ := id hs
  unfold Builtin.Slice.sliceApplied Builtin.Slice.sliceFields
  refine wpAny_bind (wpAny_bind (wpAny_field hos hds (x := .none) rfl (wpAny_bind (wpAny_field hos hds (x := .none) rfl (wpAny_bind (wpAny_field hos hds (x := vs) rfl (wpAny_pure ?_)))))))
  refine wpAny_bind (HT.slicePart_ ps ?_)
  show wpAny _ _ (if ((-1 : Int) == 0) = true then _ else _) _ _ s
  rw [if_neg (by decide)]
  refine wpAny_bind (HT.slicePart_ .none (wpAny_bind (HT.slicePart_ .none (wpAny_bind (wpAny_pure ?_)))))
  show wpAny _ _ (match Builtin.Slice.sliceAdjust none none (-1) (n : Int) with | (lo, hi) => pure (lo, (-1 : Int), Builtin.Slice.slicePlaces lo hi (-1))) _ _ s
  rw [adjust_rev n]
  show wpAny _ _ (pure ((n : Int) - 1, (-1 : Int), Builtin.Slice.slicePlaces ((n : Int) - 1) (-1) (-1))) _ _ s
  rw [places_rev]
  exact wpAny_pure h
theorem fm_congr {α β : Type} {f g : α → Option β} : ∀ {l : List α}, (∀ x ∈ l, f x = g x) → l.filterMap f = l.filterMap g
  | [], _ => rfl
  | a :: r, h => by
    rw [List.filterMap_cons, List.filterMap_cons, h a List.mem_cons_self, fm_congr fun x m => h x (List.mem_cons_of_mem _ m)]
theorem pick_rev (xs : Array Value) : ((List.range xs.size).filterMap fun (m : Nat) => xs[((xs.size : Int) - 1 + (m : Int) * (-1)).toNat]?).toArray = xs.toList.reverse.toArray := by
  have e : ((List.range xs.size).filterMap fun (m : Nat) => xs[((xs.size : Int) - 1 + (m : Int) * (-1)).toNat]?) = ((List.range xs.size).map fun k => xs.size - 1 - k).filterMap (xs[·]?) := by
    rw [List.filterMap_map]
    apply fm_congr
    intro m hm
    have := List.mem_range.mp hm
    show xs[_]? = xs[xs.size - 1 - m]?
    rw [show ((xs.size : Int) - 1 + (m : Int) * (-1)).toNat = xs.size - 1 - m from by omega]
  rw [e, PySem.W.krv_range, List.filterMap_reverse, PySem.W.krv_all]
theorem getItem_tuple_rev {t sl : Addr} {items : Array Value} {vs : Value} {Q : Value → Shared → Prop} (ht : IsTup s.heap t items) (hs : s.heap.IsSliceOf sl .none .none vs) (ps : IsPart vs (some (-1)))
    (h : Q (.ref s.heap.objs.size) { s with heap := s.heap.push { cls := .type "tuple", data := .seq items.toList.reverse.toArray } }) (hsz : items.size ≤ sizeLine) : wpAny (model prog w) A (getItem (.ref t) (.ref sl)) Q E s := by
  have htake : sizeOk (.seq items.toList.reverse.toArray) := by
    show items.toList.reverse.toArray.size ≤ sizeLine
    rw [List.size_toArray, List.length_reverse, Array.length_toList]
    exact hsz
  obtain ⟨os, hos, hcs, hds⟩ := id hs
  have hTs : s.TypeIs (.ref sl) "slice" := ⟨os, hos, hcs⟩
  unfold getItem
  try with_reducible refine wpAny_holding ?_
  first | refine wpAny_bind (wpAny_pure ?_) | skip
  refine wpAny_bind (wpAny_sequenceKey ht.typeIs (by decide) ?_)
  refine wpAny_bind (wpAny_callSpecial?_slot (name := Str.ofString "__getitem__") ht.typeIs PyProof.Rows.slot_tuple_getitem
    (wpAny_call_entry PyProof.Rows.slot_tuple_getitem ht.typeIs entry_tuple_getitem ?_ (args_tuple_getitem _ _)))
  show wpAny _ _ (Builtin.Tuple.tupleItemsOf (.ref t) >>= _) _ _ s
  refine wpAny_bind (tupleItemsOf_ ht ?_)
  refine wpAny_bind (wpAny_typeOf hTs ?_)
  rw [if_pos (by decide)]
  refine wpAny_bind (sliceApplied_rev hs ps ?_)
  have hno : ¬ ((((items.size : Int) - 1) == 0 && (-1 : Int) == 1 && items.size == items.size) = true) := by
    rw [show ((-1 : Int) == 1) = false from rfl]; simp
  show wpAny _ _ (if (((items.size : Int) - 1) == 0 && (-1 : Int) == 1 && items.size == items.size) = true then _ else _) _ _ s
  rw [if_neg hno, pick_rev]
  first
    | exact wpAny_bind (m := Builtin.Tuple.tupleExact _) (wpAny_newObj_type (wpAny_pure ⟨_, rfl, wpAny_pure h⟩) htake)
    | exact wpAny_bind (m := Builtin.Tuple.tupleExact _) (wpAny_newObj_type (wpAny_bind (wpAny_pure (wpAny_pure ⟨_, rfl, wpAny_pure h⟩))) htake)
    | exact wpAny_bind (wpAny_bind (m := Builtin.Tuple.tupleExact _) (wpAny_newObj_type (wpAny_pure (wpAny_pure ⟨_, rfl, wpAny_pure h⟩)) htake))
    | exact wpAny_bind (wpAny_bind (m := Builtin.Tuple.tupleExact _) (wpAny_newObj_type (wpAny_pure ⟨_, rfl, wpAny_pure h⟩) htake))
end
def kRevT (K : PySem.W.Frag) (x : V) (H1 : Hp) (Q : VK) : Prop := ∃ a xs, x = .ref a ∧ SqT K H1 a xs ∧ ∀ p, H1 p = none → Q (.ref p) (upd H1 p (.tup xs.reverse))
def tRevT (K : PySem.W.Frag) (te : TE) : TE := fun σ H Q => te σ H fun x H1 => kRevT K x H1 Q
theorem pe_revT {X : Cx} (K : PySem.W.Frag) {e : Expr} {te : TE} {k : Nat} {p1 p2 p3 pos : Pos} (he : PE X e te) (hK : X.K = K := by rfl) : PE X (.Subscript e (.Slice none none (some (.UnaryOp .USub (.Constant (.int 1) k p1) p2)) p3) pos) (tRevT K te) := by
  subst hK
  refine ⟨fun pins s σ H Q I h => ?_⟩
  refine Subscript_ (thn (he.run pins s σ H _ I h) fun v s1 ⟨x, H1, I1, r1, q1⟩ => ?_)
  obtain ⟨a, xs, ex, hx, q⟩ := q1
  subst ex
  cases r1
  have hst : PO X (some (.UnaryOp .USub (.Constant (.int 1) k p1) p2)) (tPart (tUn (rU fun i => .int (-i)) (tC (.int 1)))) := po_some (pe_un un_neg pe_int)
  refine wpAny_Slice ?_
  rw [evalPart_none]
  refine wpAny_pure (wpAny_pure ?_)
  refine thn (hst.run pins s1 σ H1 (fun o H4 => o = some (-1) ∧ H4 = H1) I1 ⟨1, rfl, -1, rfl, rfl, rfl⟩) fun vs s4 ⟨o, H4, I4, ps, eo, e4⟩ => ?_
  subst eo e4
  have I5 : Inv X pins σ H4 { s4 with heap := s4.heap.push { cls := .type "slice", data := .fields #[.none, .none, vs] } } := I4.kept (t' := s4.toks) fun b ob q => Heap.get?_push_of_some _ q
  obtain ⟨its, r, ht, hz⟩ := I5.tuple hx
  have hlen := r.length
  show wpAny (model X.prog X.w) X.A (subscriptTail e (.Slice none none (some (.UnaryOp .USub (.Constant (.int 1) k p1) p2)) p3) (.ref a) (.ref s4.heap.objs.size)) (EP X pins σ Q) X.xe { s4 with heap := s4.heap.push { cls := .type "slice", data := .fields #[.none, .none, vs] } }
  refine tail_any (ops := [.ref a, .ref s4.heap.objs.size]) ht.typeIs PyProof.Rows.slot_tuple_getitem.lookup ?_ (by with_unfolding_all rfl)
  refine getItem_tuple_rev ht (Heap.IsSliceOf.new _ .none .none vs) ps ?_ (by rw [List.size_toArray]; omega)
  refine ⟨.ref _, _, I5.laid (t' := s4.toks) (o := .tup xs.reverse) (fun b ob q => Heap.get?_push_of_some _ q) (Nat.le_refl _) ?_, rfl, q _ (I5.hok.fresh (Nat.le_refl _))⟩
  exact ⟨by rw [List.length_reverse]; exact hz, _, r.reverse, IsTup.new _ _⟩
theorem w_revT {K : PySem.W.Frag} {te : TE} {σ : L2.St} {H : Hp} {Q : VK} (k : te σ H fun x H1 => kRevT K x H1 Q) : tRevT K te σ H Q := k
theorem k_revT {K : PySem.W.Frag} {H : Hp} {Q : VK} {a : Addr} {xs : List V} (h : SqT K H a xs) (k : ∀ p H', H p = none → Same H H' → H' p = some (.tup xs.reverse) → Q (.ref p) H') : kRevT K (.ref a) H Q :=
  ⟨a, xs, rfl, h, fun p np => k p _ np (same_new np) upd_same⟩
/-! ### a local name that holds one of several defs -/
def tCallR (i : Nat) (R : Addr → Sp → Prop) (t : TA) : TE := fun σ H Q => ∃ f sp, σ[i]? = some (some (.ref f)) ∧ R f sp ∧ t σ H fun vs H1 => sp vs H1 Q (fun _ _ _ => False)
theorem pe_callR {X : Cx} {k i : Nat} {x : Str} {p pos : Pos} {e : Expr} {es : List Expr} {t : TA} {R : Addr → Sp → Prop} (A : ∀ f sp, R f sp → Held X.prog X.w X.K X.mg X.base k f sp) (hr : Room k X.A) (hN : X.N[i]? = some x) (hv : Vis X.env.scope x) (ha : PA X (e :: es) t)
    (hdb : (x == ("__debug__" : Str)) = false := by decide) (hcd : (x == ("__classdict__" : Str)) = false := by decide)
    (he : starEach (e :: es) X.env = (false, eval e X.env) :: starEach es X.env := by rfl) (hpl : (backTo pos (starEach es X.env)).any (·.1) = false := by rfl) : PE X (.Call (.Name x p) (e :: es) [] pos) (tCallR i R t) := by
  refine ⟨fun pins s σ H Q I h => ?_⟩
  obtain ⟨f, sp, hs, hS, ht⟩ := h
  have z := pe_callA (X := X) (k := k) (i := i) (x := x) (p := p) (pos := pos) (e := e) (es := es) (t := t) (S := fun g => if g = f then some sp else none) (fun g sp' h' => by
    by_cases q : g = f
    · rw [if_pos q] at h'
      injection h' with h'
      subst h' q
      exact A _ _ hS
    · rw [if_neg q] at h'; cases h') hr hN hv ha hdb hcd he hpl
  exact z.run pins s σ H Q I ⟨f, sp, hs, if_pos rfl, ht⟩
end Sil
set_option Elab.async false
set_option linter.all false
set_option maxRecDepth 100000
set_option maxHeartbeats 1000000
/-! P14: what watches tell by bands. -/
namespace Sil
open PySem L2 PySem.Spec PyProof.Rows
abbrev EF := Str → Option Int × Option Int
def wE (w : Int) : Option Int → Option Int
  | none => none
  | some i => some (w * i)
def lowE (f : EF) (e : Str × Int) : Option Int := if 0 < e.2 then wE e.2 (f e.1).1 else wE e.2 (f e.1).2
def highE (f : EF) (e : Str × Int) : Option Int := if 0 < e.2 then wE e.2 (f e.1).2 else wE e.2 (f e.1).1
/-- the sum, none where an end is wanting -/
def addE (l : List (Option Int)) : Option Int := if l.all (·.isSome) = true then some (pres l).sum else none
inductive Told where
  | pair (lo hi : Option Int)
  | tri (o : Option Bool)
  deriving DecidableEq
def triE (lo hi : Option Int) (l : Int) : Option Bool :=
  match lo, hi with
  | some i, some j => if l ≤ i then some true else if j < l then some false else none
  | some i, none => if l ≤ i then some true else none
  | none, some j => if j < l then some false else none
  | none, none => none
def geE (l : Int) : Option Int → Bool
  | none => false
  | some i => decide (l ≤ i)
def geU (l : Int) : Option Int → Bool
  | none => true
  | some i => decide (l ≤ i)
def told (f : EF) : Wt → Told
  | .sum ws _ => .pair (addE (ws.map (lowE f))) (addE (ws.map (highE f)))
  | .over ws l => .tri (triE (addE (ws.map (lowE f))) (addE (ws.map (highE f))) l)
  | .most ns _ => .pair (maxO (pres (ns.map fun n => (f n).1))) (if (ns.map fun n => (f n).2).all (·.isSome) = true then maxO (pres (ns.map fun n => (f n).2)) else none)
  | .count ns l => .pair (some ((ns.filter fun n => geE l (f n).1).length : Nat)) (some ((ns.filter fun n => geU l (f n).2).length : Nat))
def Wt.lim : Wt → Int
  | .sum _ l => l
  | .over _ l => l
  | .most _ l => l
  | .count _ l => l
def within (lo hi : Option Int) (l : Int) : Bool :=
  match lo, hi with
  | some i, some j => decide (j - i ≤ l)
  | _, _ => false
def kept (f : EF) (w : Wt) : Bool :=
  match w, told f w with
  | .over _ _, .tri o => o.isSome
  | .count _ _, .pair lo hi => decide (lo = hi)
  | _, .pair lo hi => within lo hi w.lim
  | _, .tri _ => false
/-- what is told, as a value -/
def ToldV (H : Hp) (v : V) : Told → Prop
  | .pair lo hi => ∃ p, v = .ref p ∧ H p = some (.tup [eV lo, eV hi])
  | .tri o => v = match o with | none => .non | some b => .bl b
/-- bands by names -/
def BandsAt (C : Addr) (H : Hp) (d : Addr) (f : EF) (xs : List Str) : Prop := ∃ kvs : List (L2.Key × V), H d = some (.dK kvs) ∧ ∀ x ∈ xs, ∃ p, valV kvs (.inr x) = some (.ref p) ∧ BandAt C H p (f x).1 (f x).2
/-- pairs of ends by names -/
def PlacesAt (H : Hp) (d : Addr) (f : EF) (xs : List Str) : Prop := ∃ kvs : List (L2.Key × V), H d = some (.dK kvs) ∧ ∀ x ∈ xs, ∃ p, valV kvs (.inr x) = some (.ref p) ∧ H p = some (.tup [eV (f x).1, eV (f x).2])
theorem BandsAt.same {C d : Addr} {H H' : Hp} {f : EF} {xs : List Str} (s : Same H H') : BandsAt C H d f xs → BandsAt C H' d f xs := fun ⟨kvs, h, k⟩ => ⟨kvs, s _ _ h, fun x m => let ⟨p, e, b⟩ := k x m; ⟨p, e, b.mono s⟩⟩
theorem PlacesAt.same {d : Addr} {H H' : Hp} {f : EF} {xs : List Str} (s : Same H H') : PlacesAt H d f xs → PlacesAt H' d f xs := fun ⟨kvs, h, k⟩ => ⟨kvs, s _ _ h, fun x m => let ⟨p, e, b⟩ := k x m; ⟨p, e, s _ _ b⟩⟩
theorem BandsAt.sub {C d : Addr} {H : Hp} {f : EF} {xs ys : List Str} (s : ∀ y ∈ ys, y ∈ xs) : BandsAt C H d f xs → BandsAt C H d f ys := fun ⟨kvs, h, k⟩ => ⟨kvs, h, fun x m => k x (s x m)⟩
theorem PlacesAt.sub {d : Addr} {H : Hp} {f : EF} {xs ys : List Str} (s : ∀ y ∈ ys, y ∈ xs) : PlacesAt H d f xs → PlacesAt H d f ys := fun ⟨kvs, h, k⟩ => ⟨kvs, h, fun x m => k x (s x m)⟩
theorem BandsAt.step {b C d : Addr} {H H' : Hp} {f : EF} {xs : List Str} (hb : Bag H b) (s : Step b H H') : BandsAt C H d f xs → BandsAt C H' d f xs := fun ⟨kvs, h, k⟩ => ⟨kvs, s.dk hb h, fun x m => let ⟨p, e, dx, q⟩ := k x m; ⟨p, e, dx, s.ins hb q⟩⟩
theorem PlacesAt.step {b d : Addr} {H H' : Hp} {f : EF} {xs : List Str} (hb : Bag H b) (s : Step b H H') : PlacesAt H d f xs → PlacesAt H' d f xs := fun ⟨kvs, h, k⟩ => ⟨kvs, s.dk hb h, fun x m => let ⟨p, e, q⟩ := k x m; ⟨p, e, s.tup hb q⟩⟩
/-! ### None in ends -/
theorem flat_ends (l : List (Option Int)) : (l.map eV).all flatV = true := by
  rw [List.all_map]
  exact List.all_eq_true.mpr fun e _ => by cases e <;> rfl
theorem none_in : ∀ l : List (Option Int), inV .non (l.map eV) = !l.all (·.isSome)
  | [] => rfl
  | none :: r => rfl
  | some i :: r => by
    show (eqV (.int i) .non || inV .non (r.map eV)) = !((true && r.all (·.isSome)))
    rw [none_in r]; rfl
theorem ends_ints : ∀ {l : List (Option Int)}, l.all (·.isSome) = true → l.map eV = (pres l).map V.int
  | [], _ => rfl
  | none :: r, h => nomatch h
  | some i :: r, h => by
    rw [List.all_cons, Bool.and_eq_true] at h
    show V.int i :: r.map eV = V.int i :: (pres r).map V.int
    rw [ends_ints h.2]
theorem pres_len : ∀ {l : List (Option Int)}, l.all (·.isSome) = true → (pres l).length = l.length
  | [], _ => rfl
  | none :: r, h => nomatch h
  | some i :: r, h => by
    rw [List.all_cons, Bool.and_eq_true] at h
    show (pres r).length + 1 = r.length + 1
    rw [pres_len h.2]
def spAdded (K : PySem.W.Frag) : Sp := fun vs H Q _ => ∃ (l : Addr) (os : List (Option Int)), vs = [.ref l] ∧ SqL K H l (os.map eV) ∧ Q (eV (addE os)) H
theorem use_added {K : PySem.W.Frag} {l : Addr} {os : List (Option Int)} {H : Hp} {Q : VK} {E : XK} (h : SqL K H l (os.map eV)) (k : Q (eV (addE os)) H) : spAdded K ([.ref l] ++ []) H Q E := ⟨l, os, rfl, h, k⟩
def spWeighed : Sp := fun vs H Q _ => ∃ (w : Int) (e : Option Int), vs = [.int w, eV e] ∧ w.natAbs ≤ 1000000 ∧ Q (eV (wE w e)) H
theorem use_weighed {w : Int} {e : Option Int} {H : Hp} {Q : VK} {E : XK} (h : w.natAbs ≤ 1000000) (k : Q (eV (wE w e)) H) : spWeighed ([.int w, eV e] ++ []) H Q E := ⟨w, e, rfl, h, k⟩
def spSumEnds (C : Addr) : Sp := fun vs H Q _ => ∃ (t d : Addr) (ws : List (Str × Int)) (f : EF), vs = [.ref t, .ref d] ∧ PairsAt H t ws ∧ BandsAt C H d f (ws.map (·.1)) ∧ WtLe ws ∧ ws.length ≤ 26 ∧
  ∀ p H', Same H H' → H' p = some (.tup [eV (addE (ws.map (lowE f))), eV (addE (ws.map (highE f)))]) → Q (.ref p) H'
theorem use_sum_ends {C t d : Addr} {ws : List (Str × Int)} {f : EF} {H : Hp} {Q : VK} {E : XK} (h1 : PairsAt H t ws) (h2 : BandsAt C H d f (ws.map (·.1))) (h3 : WtLe ws) (h4 : ws.length ≤ 26)
    (k : ∀ p H', Same H H' → H' p = some (.tup [eV (addE (ws.map (lowE f))), eV (addE (ws.map (highE f)))]) → Q (.ref p) H') : spSumEnds C ([.ref t, .ref d] ++ []) H Q E := ⟨t, d, ws, f, rfl, h1, h2, h3, h4, k⟩
/-- what a teller is handed -/
def SomeAt (H : Hp) (t : Addr) : Wt → Prop
  | .sum ws _ => PairsAt H t ws
  | .over ws _ => PairsAt H t ws
  | .most ns _ => H t = some (.tup (ns.map V.str))
  | .count ns _ => H t = some (.tup (ns.map V.str))
def Wt.kind : Wt → Nat
  | .sum _ _ => 0
  | .over _ _ => 1
  | .most _ _ => 2
  | .count _ _ => 3
def spTell (C : Addr) (n : Nat) : Sp := fun vs H Q _ => ∃ (t d : Addr) (w : Wt) (f : EF), vs = [.ref t, .int w.lim, .ref d] ∧ w.kind = n ∧ SomeAt H t w ∧ WOk w.names w ∧ BandsAt C H d f w.names ∧
  ∀ v H', Same H H' → ToldV H' v (told f w) → Q v H'
def spTold (C : Addr) : Sp := fun vs H Q _ => ∃ (p d : Addr) (w : Wt) (f : EF), vs = [.ref p, .ref d] ∧ WatchAt H p w ∧ WOk w.names w ∧ BandsAt C H d f w.names ∧
  ∀ v H', Same H H' → ToldV H' v (told f w) → Q v H'
theorem use_told {C p d : Addr} {w : Wt} {f : EF} {H : Hp} {Q : VK} {E : XK} (h1 : WatchAt H p w) (h2 : WOk w.names w) (h3 : BandsAt C H d f w.names) (k : ∀ v H', Same H H' → ToldV H' v (told f w) → Q v H') :
    spTold C ([.ref p, .ref d] ++ []) H Q E := ⟨p, d, w, f, rfl, h1, h2, h3, k⟩
def spKept (C : Addr) : Sp := fun vs H Q _ => ∃ (p d : Addr) (w : Wt) (f : EF), vs = [.ref p, .ref d] ∧ WatchAt H p w ∧ WOk w.names w ∧ BandsAt C H d f w.names ∧ ∀ H', Same H H' → Q (.bl (kept f w)) H'
theorem use_kept {C p d : Addr} {w : Wt} {f : EF} {H : Hp} {Q : VK} {E : XK} (h1 : WatchAt H p w) (h2 : WOk w.names w) (h3 : BandsAt C H d f w.names) (k : ∀ H', Same H H' → Q (.bl (kept f w)) H') :
    spKept C ([.ref p, .ref d] ++ []) H Q E := ⟨p, d, w, f, rfl, h1, h2, h3, k⟩
theorem WOk.few_sum {xs : List Str} {ws : List (Str × Int)} {l : Int} (h : WOk xs (.sum ws l)) : ws.length ≤ 26 := by have := h.few; rwa [show (Wt.sum ws l).names = ws.map (·.1) from rfl, List.length_map] at this
theorem WOk.few_over {xs : List Str} {ws : List (Str × Int)} {l : Int} (h : WOk xs (.over ws l)) : ws.length ≤ 26 := by have := h.few; rwa [show (Wt.over ws l).names = ws.map (·.1) from rfl, List.length_map] at this
theorem k_bmL {K : PySem.W.Frag} {H : Hp} {p : Addr} {xs : List V} {R : Prop} (h : SqL K H p xs) (k : R) : kBM K "list" (.ref p) H R := ⟨.inl ⟨rfl, xs, h⟩, k⟩
theorem w_append {H : Hp} {l : Addr} {xs : List V} {y : V} {Q : VK} (h : H l = some (.lst xs)) (hl : xs.length < 1000) (k : Q .non (upd H l (.lst (xs ++ [y])))) : rAppend (.ref l) [y] H Q :=
  ⟨l, xs, y, rfl, rfl, h, Nat.lt_trans hl (by decide), k⟩
theorem take_map {α β : Type} (g : α → β) (ws : List α) (i : Nat) {e : α} (h : ws[i]? = some e) : (ws.take (i + 1)).map g = (ws.take i).map g ++ [g e] := by
  rw [take_snoc h, List.map_append]; rfl
theorem all_ends (g : Str → Option Int) (ns : List Str) : madeI (fun _ => true) (fun i => eV (g (ns.getD i Str.empty))) ns.length = (ns.map g).map eV := by
  rw [madeI_all]
  have e := congrArg (fun l => (l.map g).map eV) (range_at Str.empty ns)
  rw [List.map_map, List.map_map] at e
  exact e
theorem madeI_filter (f : Nat → Bool) (v : Nat → V) : ∀ n, madeI f v n = ((List.range n).filter f).map v
  | 0 => rfl
  | n + 1 => by
    show (if f n = true then madeI f v n ++ [v n] else madeI f v n) = _
    rw [List.range_succ, List.filter_append, List.map_append, madeI_filter f v n]
    by_cases h : f n = true
    · rw [if_pos h]; simp [h]
    · rw [if_neg h]; simp [h]
theorem filter_list {α : Type} (d : α) (p : α → Bool) (g : α → V) (xs : List α) : madeI (fun i => p (xs.getD i d)) (fun i => g (xs.getD i d)) xs.length = (xs.filter p).map g := by
  rw [madeI_filter]
  have e := congrArg (fun l => (l.filter p).map g) (range_at d xs)
  rw [List.filter_map, List.map_map] at e
  exact e
theorem pres_filter (g : Str → Option Int) : ∀ ns : List Str, (ns.filter fun n => (g n).isSome).map (fun n => eV (g n)) = (pres (ns.map g)).map V.int
  | [] => rfl
  | n :: r => by
    have ih := pres_filter g r
    cases e : g n with
    | none =>
      rw [List.filter_cons_of_neg (by rw [e]; decide), ih, List.map_cons, e]; rfl
    | some i =>
      rw [List.filter_cons_of_pos (by rw [e]; rfl), List.map_cons, ih, List.map_cons, e]; rfl
theorem made_ends (g : Str → Option Int) (ns : List Str) : madeI (fun i => (g (ns.getD i Str.empty)).isSome) (fun i => eV (g (ns.getD i Str.empty))) ns.length = (pres (ns.map g)).map V.int := by
  rw [← pres_filter g ns]
  exact filter_list Str.empty (fun n => (g n).isSome) (fun n => eV (g n)) ns
theorem k_ixD {X : Cx} (K : PySem.W.Frag) (w : World) (h : X.K = K := by rfl) (hw : X.w = w := by rfl) : IxR X (rIxD K w) := by subst h hw; exact ix_kdict
end Sil
set_option Elab.async false
set_option linter.all false
set_option maxRecDepth 100000
set_option maxHeartbeats 1000000
/-! P15: a list taken apart; dicts made of drawn pairs of any values. -/
namespace Sil
open PySem L2 PySem.Spec PyProof.Rows
theorem w_unl {K : PySem.W.Frag} {n : Nat} {t : TGs} {p : Addr} {xs : List V} {σ : L2.St} {H : Hp} {Q : L2.St → Hp → Prop} (h : SqL K H p xs) (hl : xs.length = n) (k : t xs σ H Q) : gUnl K n t (.ref p) σ H Q :=
  ⟨p, xs, rfl, h, hl, k⟩
/-- an end that is tiny -/
def Tiny (e : Option Int) : Prop := ∀ i, e = some i → i.natAbs < 1000
theorem Tiny.small {e : Option Int} (h : Tiny e) : Small e := fun i q => Nat.lt_trans (h i q) (by decide)
def spDEnds : Sp := fun vs H Q _ => ∃ b, vs = [.ref b] ∧ Bag H b ∧
  ∀ p lo hi H', Tiny lo → Tiny hi → atMost lo hi = true → H p = none → Step b H H' → H' p = some (.tup [eV lo, eV hi]) → Q (.ref p) H'
theorem use_dends {b : Addr} {H : Hp} {Q : VK} {E : XK} (hb : Bag H b) (k : ∀ p lo hi H', Tiny lo → Tiny hi → atMost lo hi = true → H p = none → Step b H H' → H' p = some (.tup [eV lo, eV hi]) → Q (.ref p) H') :
    spDEnds ([.ref b] ++ []) H Q E := ⟨b, rfl, hb, k⟩
/-! ### dicts made of drawn pairs of any values -/
def genKv (ws : List (Str × V)) : List (L2.Key × V) := ws.map fun p => (.inr p.1, p.2)
theorem acc_pairsG {B : Str → V → Prop} {H : Hp} : ∀ {acc : List V} {ys : List Str}, acc.length = ys.length → (∀ (j : Nat) (y : V), acc[j]? = some y → ∃ q v, y = V.ref q ∧ H q = some (.tup [.str (ys.getD j Str.empty), v]) ∧ B (ys.getD j Str.empty) v) →
    ∃ (ps : List Addr) (ws : List (Str × V)), acc = ps.map V.ref ∧ Paired (fun q e => H q = some (.tup [.str e.1, e.2])) ps ws ∧ ws.map (·.1) = ys ∧ ∀ e ∈ ws, B e.1 e.2
  | [], [], _, _ => ⟨[], [], rfl, .nil, rfl, fun _ h => nomatch h⟩
  | [], _ :: _, h, _ => nomatch h
  | _ :: _, [], h, _ => nomatch h
  | v :: r, y :: ys, hl, h => by
    obtain ⟨q, k, rfl, hq, hk⟩ := h 0 v rfl
    obtain ⟨ps, ws, e1, e2, e3, e4⟩ := acc_pairsG (acc := r) (ys := ys) (by simpa using hl) fun j z e => h (j + 1) z e
    refine ⟨q :: ps, (y, k) :: ws, by rw [e1]; rfl, .cons hq e2, by rw [List.map_cons, e3], fun e m => ?_⟩
    rcases List.mem_cons.mp m with rfl | m
    · exact hk
    · exact e4 e m
theorem keys_gen (ws : List (Str × V)) : (genKv ws).map (·.1) = (ws.map (·.1)).map (Sum.inr : Str → L2.Key) := by
  unfold genKv
  rw [List.map_map, List.map_map]; rfl
theorem merge_gen {ws : List (Str × V)} (h : (ws.map (·.1)).Nodup) : mergeK [] (genKv ws) = genKv ws := by
  have e := mergeK_new (genKv ws) [] (by
    rw [List.nil_append, keys_gen, List.nodup_iff_pairwise_ne, List.pairwise_map]
    exact (List.nodup_iff_pairwise_ne.mp h).imp fun q z => q (by injection z))
  rw [List.nil_append] at e
  exact e
theorem paired_sqG {K : PySem.W.Frag} {H : Hp} : ∀ {ps : List Addr} {ws : List (Str × V)}, Paired (fun q e => H q = some (.tup [.str e.1, e.2])) ps ws → Paired (fun p kv => SqT K H p [kV kv.1, kv.2]) ps (genKv ws)
  | _, _, .nil => .nil
  | _, _, .cons h r => .cons (SqT.at h) (paired_sqG r)
theorem gen_val {x : Str} : ∀ {ws : List (Str × V)}, x ∈ ws.map (·.1) → ∃ v, valV (genKv ws) (.inr x) = some v ∧ (x, v) ∈ ws
  | [], h => nomatch h
  | p :: r, h => by
    by_cases q : p.1 = x
    · subst q
      exact ⟨p.2, valV_pos (p := ((.inr p.1 : L2.Key), p.2)) rfl, List.mem_cons_self⟩
    · obtain ⟨i, h1, h2⟩ := gen_val (ws := r) (by
        rcases List.mem_cons.mp h with e | e
        · exact absurd e.symm q
        · exact e)
      refine ⟨i, ?_, List.mem_cons_of_mem _ h2⟩
      rw [← h1]
      exact valV_neg (p := ((.inr p.1 : L2.Key), p.2)) (by intro z; exact q (by injection z))
/-- a pair of a name and what B says -/
def PairElG (ys : List Str) (B : Str → V → Hp → Prop) (i : Nat) (y : V) (G : Hp) : Prop := ∃ q v, y = V.ref q ∧ G q = some (.tup [.str (ys.getD i Str.empty), v]) ∧ B (ys.getD i Str.empty) v G
theorem pairElG_ok {b : Addr} {ys : List Str} {B : Str → V → Hp → Prop} (h1 : ∀ x v G G', Bag G b → Step b G G' → B x v G → B x v G') (h2 : ∀ x v G D acc, G D = some (.lst acc) → B x v G → B x v (off [D] G)) : ElOk b (PairElG ys B) :=
  ⟨fun i y G G' hb s ⟨q, k, e, h, hk⟩ => ⟨q, k, e, s.tup hb h, h1 _ _ _ _ hb s hk⟩, fun i y G D acc hD ⟨q, k, e, h, hk⟩ => ⟨q, k, e, off_tup hD h, h2 _ _ _ _ _ hD hk⟩⟩
/-- a value is a pair of ends -/
def EndsV (x : Str) (v : V) (G : Hp) : Prop := ∃ q lo hi, v = .ref q ∧ G q = some (.tup [eV lo, eV hi]) ∧ Small lo ∧ Small hi ∧ atMost lo hi = true
theorem endsV_ok (b : Addr) (ys : List Str) : ElOk b (PairElG ys EndsV) := pairElG_ok (fun x v G G' hb s ⟨q, lo, hi, e, h, r⟩ => ⟨q, lo, hi, e, s.tup hb h, r⟩) fun x v G D acc hD ⟨q, lo, hi, e, h, r⟩ => ⟨q, lo, hi, e, off_tup hD h, r⟩
/-- a value is the band of a name -/
def BandV (C : Addr) (f : EF) (x : Str) (v : V) (G : Hp) : Prop := ∃ q, v = .ref q ∧ BandAt C G q (f x).1 (f x).2
theorem bandV_ok (b : Addr) (ys : List Str) (C : Addr) (f : EF) : ElOk b (PairElG ys (BandV C f)) :=
  pairElG_ok (fun x v G G' hb s ⟨q, e, dx, h⟩ => ⟨q, e, dx, s.ins hb h⟩) fun x v G D acc hD ⟨q, e, dx, h⟩ => ⟨q, e, dx, off_ins hD h⟩
theorem places_of {H : Hp} {d : Addr} {ws : List (Str × V)} (hd : H d = some (.dK (genKv ws))) (h : ∀ e ∈ ws, EndsV e.1 e.2 H) :
    ∃ f : EF, PlacesAt H d f (ws.map (·.1)) ∧ ∀ x ∈ ws.map (·.1), Small (f x).1 ∧ Small (f x).2 ∧ atMost (f x).1 (f x).2 = true := by
  have hx : ∀ x : Str, ∃ e : Option Int × Option Int, x ∈ ws.map (·.1) → (∃ p, valV (genKv ws) (.inr x) = some (.ref p) ∧ H p = some (.tup [eV e.1, eV e.2])) ∧ Small e.1 ∧ Small e.2 ∧ atMost e.1 e.2 = true := fun x => by
    by_cases m : x ∈ ws.map (·.1)
    · obtain ⟨v, h1, h2⟩ := gen_val m
      obtain ⟨q, lo, hi, e, h3, h4, h5, h6⟩ := h _ h2
      dsimp only at e
      subst e
      exact ⟨(lo, hi), fun _ => ⟨⟨q, h1, h3⟩, h4, h5, h6⟩⟩
    · exact ⟨(none, none), fun m' => absurd m' m⟩
  obtain ⟨f, hf⟩ := Classical.axiomOfChoice hx
  exact ⟨f, ⟨_, hd, fun x m => (hf x m).1⟩, fun x m => (hf x m).2⟩
theorem bands_of {C : Addr} {H : Hp} {d : Addr} {ws : List (Str × V)} {f : EF} (hd : H d = some (.dK (genKv ws))) (h : ∀ e ∈ ws, BandV C f e.1 e.2 H) : BandsAt C H d f (ws.map (·.1)) := by
  refine ⟨_, hd, fun x m => ?_⟩
  obtain ⟨v, h1, h2⟩ := gen_val m
  obtain ⟨q, e, h3⟩ := h _ h2
  dsimp only at e
  subst e
  exact ⟨q, h1, h3⟩
end Sil
set_option Elab.async false
set_option linter.all false
set_option maxRecDepth 100000
set_option maxHeartbeats 1000000
/-! P16: the text of a dict whose values are written by an own __repr__. -/
namespace Sil
open PySem L2 PySem.Spec PyProof.Rows
/-! ### heaps with locked lists and dicts -/
def isBox : HO → Bool
  | .lst _ => true
  | .dK _ => true
  | _ => false
def Lk (H H' : Hp) : Prop := ∀ b o, H b = some o → H' b = some o ∨ (isBox o = true ∧ ∃ od, H' b = some (.frz od o))
theorem Lk.refl (H : Hp) : Lk H H := fun b o h => .inl h
theorem Lk.ins {H H' : Hp} (k : Lk H H') {a C dx : Addr} {fs : List (Str × V)} (h : H a = some (.ins C dx fs)) : H' a = some (.ins C dx fs) := by
  rcases k a _ h with q | ⟨q, _⟩
  · exact q
  · cases q
theorem Lk.tup {H H' : Hp} (k : Lk H H') {a : Addr} {xs : List V} (h : H a = some (.tup xs)) : H' a = some (.tup xs) := by
  rcases k a _ h with q | ⟨q, _⟩
  · exact q
  · cases q
theorem Lk.band {H H' : Hp} (k : Lk H H') {C p : Addr} {lo hi : Option Int} : BandAt C H p lo hi → BandAt C H' p lo hi := fun ⟨dx, h⟩ => ⟨dx, k.ins h⟩
/-- the text of a value, wherever it is asked under X -/
def Shows (X : Cx) (n : Nat) (as : List Addr) (H : Hp) (v : V) (t : Str) : Prop :=
  ∀ (base : Nat) (A : Around) (g : List Code) (pins : List (Addr × Obj)) (σ : L2.St) (H' : Hp) (s : Shared) (u : Value) (Q : Str → Shared → Prop),
    base + t.length ≤ sizeLine → A.frames = X.A.frames → A.guards = some g → (∀ b ∈ as, Clear g b) → Room n A → Lk H H' → Inv X pins σ H' s → RelV v u →
    (∀ s', Inv X pins σ H' s' → Q t s') → wpAny (model X.prog X.w) A (pyReprUnder base u) Q X.xe s
section
variable {X : Cx}
theorem Shows.more {n m : Nat} {as bs : List Addr} {H : Hp} {v : V} {t : Str} (h : Shows X n as H v t) (hs : ∀ b ∈ as, b ∈ bs) (hn : n ≤ m) : Shows X m bs H v t :=
  fun base A g pins σ H' s u Q h1 h2 h3 h4 h5 => h base A g pins σ H' s u Q h1 h2 h3 (fun b m => h4 b (hs b m)) (h5.mono hn)
theorem shows_str {H : Hp} {x : Str} (hz : (reprText x).length ≤ sizeLine) : Shows X 0 [] H (.str x) (reprText x) := by
  intro base A g pins σ H' s u Q h1 _ _ _ _ _ I ru q
  obtain ⟨t, rfl⟩ := ru
  exact ReprIs.str x t hz base h1 A X.xe s Q fun tk => q _ (I.kept (t' := tk) fun _ _ e => e)
theorem shows_int {H : Hp} {i : Int} (hz : i.natAbs.log2 < 1920) : Shows X 0 [] H (.int i) (toString i) := by
  intro base A g pins σ H' s u Q h1 _ _ _ _ _ I ru q
  obtain ⟨t, rfl⟩ := ru
  exact ReprIs.int t hz base h1 A X.xe s Q fun tk => q _ (I.kept (t' := tk) fun _ _ e => e)
/-- an instance by its own __repr__ -/
theorem shows_own {CX : CXT} {k : Nat} {C f a dx : Addr} {fs : List (Str × V)} {fd : FuncData} {ps : List Str} {sp : Sp} {E : XK} {H : Hp} {t : Str}
    (F : FnOk X.prog X.w X.K X.mg X.base CX k f fd ps sp) (hs : PySem.W.findIn X.K (.ref C) "__repr__" = some (some (.ref f)))
    (hf : PySem.W.isFn X.K (.ref f) = true) (hb : Binds X.K fd ps []) (hx : Passes CX X E) (ha : H a = some (.ins C dx fs))
    (hp : ∀ H', Lk H H' → ∀ Q : VK, Q (.str t) H' → sp [.ref a] H' Q E) : Shows X k [] H (.ref a) t := by
  intro base A g pins σ H' s u Q h1 hA _ _ hr lk I ru q
  cases ru
  have ha' := lk.ins ha
  obtain ⟨mA, J, _⟩ := ins_get I.hok ha'
  obtain ⟨od, J, _⟩ := J.look
  refine wpAny_pyReprUnder_ref (by omega) ?_
  unfold pyReprObjUnder pyReprObjBy
  refine wpAny_bind (wpAny_cRoomFor hr.units0 ?_)
  refine wpAny_bind (m := specialOf (.ref a) (Str.ofString "__repr__")) (wpAny_bind (J.type.here ((PySem.W.looks_findIn I.kIn hs).here ?_)))
  show wpAny _ _ (if (some (Value.ref f)).isNone = true then _ else _) _ _ _
  rw [if_neg (by simp)]
  have run : wpAny (model X.prog X.w) A (call (.ref f) [.ref a]) (fun v s' => (∃ x w, v = Value.str x w ∧ x = t) ∧ Inv X pins σ H' s') X.xe s := by
    refine wpAny_mono (run_fnA (Q := fun v H2 => v = .str t ∧ H2 = H') (vs := [V.ref a]) hA F hr hb hx I (.cons rfl .nil) (hp H' lk _ ⟨rfl, rfl⟩)) (fun v s' hv => ?_) fun _ _ z => z
    obtain ⟨z, H2, I2, rz, e1, e2⟩ := hv
    subst e1 e2
    obtain ⟨w, rfl⟩ := rz
    exact ⟨⟨t, w, rfl, rfl⟩, I2⟩
  have fin : wpAny (model X.prog X.w) A (call (.ref f) ([.ref a] ++ []) >>= fun v => pure (some v)) (fun o s' => ∃ w, o = some (Value.str t w) ∧ Inv X pins σ H' s') X.xe s :=
    wpAny_bind (wpAny_mono run (fun v s' h' => by obtain ⟨⟨x, w, rfl, rfl⟩, I2⟩ := h'; exact wpAny_pure ⟨w, rfl, I2⟩) fun _ _ h' => h')
  refine wpAny_bind (wpAny_mono (Q := fun o s' => ∃ w, o = some (Value.str t w) ∧ Inv X pins σ H' s') ?_ (fun o s' h' => ?_) fun _ _ h' => h')
  · simp only [callSpecialIfBoundBy?, bindSpecialIfBound?]
    refine wpAny_holding (wpAny_bind (wpAny_bind (wpAny_bind (J.type.here ((PySem.W.looks_findIn I.kIn hs).here ?_)))))
    refine wpAny_bind (wpAny_askSetting (wpAny_ite ?_))
    split
    · exact wpAny_bind ((PySem.W.bind_fn I.kIn _ (beq_iff_eq.mp hf)).here (wpAny_pure (by exact fin)))
    · exact wpAny_tryCatch (wpAny_bind ((PySem.W.bind_fn I.kIn _ (beq_iff_eq.mp hf)).here (wpAny_pure (by exact fin))))
  · obtain ⟨w, rfl, I2⟩ := h'
    refine wpAny_bind (wpAny_isInstance (T := "str") (b := true) (typeIs_str _ _ _) isSubtype_str_str ?_)
    first
      | exact wpAny_pure ⟨_, _, rfl, q _ I2⟩
      | (rw [if_pos rfl]; exact wpAny_pure ⟨_, _, rfl, q _ I2⟩)
/-- the dict's text -/
def kvT (ts : List (Str × Str)) : List Str := ts.map fun p => p.1 ++ ": " ++ p.2
theorem entries_rel {pins : List (Addr × Obj)} {σ : L2.St} {H : Hp} {s : Shared} {a : Addr} {od : Obj} {kvs : List (L2.Key × V)} (I : Inv X pins σ H s) (h : H a = some (.frz od (.dK kvs))) :
    (a == sysModules) = false ∧ s.heap.get? a = some od ∧ od.cls = .type "dict" ∧ ∃ (es : Array DictEntry) (ep : Nat), od.data = .dict es ep ∧ es.size = kvs.length ∧
      ∀ (i : Nat) (e : DictEntry) (k : L2.Key) (v : V), es[i]? = some e → kvs[i]? = some (k, v) → RelV (kV k) e.key ∧ RelV v e.val := by
  obtain ⟨h1, h2, h3, es, ep, vs, h4, h5, kv, o', es', h6, h7, h8, h9, h10, h11⟩ := I.frzK h
  rw [h2] at h6
  cases h6
  rw [h4] at h8
  cases h8
  refine ⟨h1, h2, h3.1, es, ep, h4, h5, fun i e k v he hk => ?_⟩
  obtain ⟨u, hu, e1, r1⟩ : ∃ u : Value, vs[i]? = some (k, u) ∧ True ∧ RelV v u := by
    clear h9 h10 h11 h7 he h5 h
    induction kv generalizing i with
    | nil => cases hk
    | cons hh _ ih =>
      cases i with
      | zero => cases hk; exact ⟨_, congrArg some (Prod.ext hh.1.symm rfl), trivial, hh.2⟩
      | succ j => exact ih j hk
  obtain ⟨k1, k2⟩ := h10.get? (by rw [Array.getElem?_toList]; exact he) hu
  exact ⟨relV_key k1, by rw [k2]; exact r1⟩
theorem own_dict_repr {n : Nat} {as : List Addr} {H H' : Hp} {a : Addr} {od : Obj} {kvs : List (L2.Key × V)} {ts : List (Str × Str)} {A : Around} {g : List Code} {pins : List (Addr × Obj)} {σ : L2.St} {s : Shared} {R : Result → Shared → Prop}
    {base : Nat} {id : String} {rest : List Value} (hlk : Lk H H') (hd : H' a = some (.frz od (.dK kvs))) (hl : ts.length = kvs.length) (hna : a ∉ as)
    (hE : ∀ (i : Nat) (k : L2.Key) (v : V) (p : Str × Str), kvs[i]? = some (k, v) → ts[i]? = some p → Shows X n as H (kV k) p.1 ∧ Shows X n as H v p.2)
    (hcg : (Code.builtin id ⟨.ref a :: rest, []⟩).isGuard = true) (hfr : (A.under (.builtin id ⟨.ref a :: rest, []⟩)).frames = X.A.frames) (hr : Room n (A.under (.builtin id ⟨.ref a :: rest, []⟩)))
    (hg : A.guards = some g) (hcl : ∀ b ∈ a :: as, Clear g b) (I : Inv X pins σ H' s)
    (hR : ∀ s' w, Inv X pins σ H' s' → R (.ok (.ret (.str (dictText (kvT ts)) w))) s') (hsz : base + (dictText (kvT ts)).length ≤ sizeLine) (hxe : ∀ e s', X.xe e s' → R (.error e) s') :
    wpOwn (model X.prog X.w) A (.builtin id ⟨.ref a :: rest, []⟩) (Builtin.dictReprAt base ⟨[.ref a], []⟩) (fun fin s' => match fin with | .done f => R (.ok f) s' | .again c' => c'.quiet = true ∧ codeAny (model X.prog X.w) A c' R s') (fun e s' => R (.error e) s') s := by
  obtain ⟨hsys, ho, hc, es, ep, hdt, hes, _⟩ := entries_rel I hd
  have hTy : s.TypeIs (.ref a) "dict" := ⟨od, ho, hc⟩
  have hpl := piled_le_dictText (kvT ts)
  have hlen : (kvT ts).length = es.size := by unfold kvT; rw [List.length_map, hl, hes]
  unfold Builtin.dictReprAt Builtin.Dict.dictSlotNone
  refine wpOwn_bind (wpOwn_of_wpAny (wpAny_bind (wpAny_notOrdered_dict hTy (wpAny_pure ?_))))
  rw [dictReprRunning_eq]
  refine wpOwn_bind (wpOwn_stackTailAny hg (dictGuardF_off _) (dictGuardF_pos _) ?_)
  rw [show (g.any fun c => dictGuardF (.ref a) (c, default)) = false from List.any_eq_false.mpr fun c m => by rw [dictGuardF_of_clear (hcl a List.mem_cons_self) c m]; exact Bool.false_ne_true]
  refine wpOwn_of_wpAny ?_
  have hg' := guards_under_guard hcg hg
  have hcl' : ∀ b ∈ as, Clear (.builtin id ⟨.ref a :: rest, []⟩ :: g) b := fun b m => (hcl b (List.mem_cons_of_mem _ m)).cons (a := a) fun e => hna (e ▸ m)
  generalize hA' : A.under (.builtin id ⟨.ref a :: rest, []⟩) = A' at *
  show wpAny _ _ (Builtin.Dict.addrOf (.ref a) >>= _) _ _ s
  refine wpAny_bind (wpAny_pure ?_)
  show wpAny _ _ (Builtin.Dict.showsAll a >>= _) _ _ s
  unfold Builtin.Dict.showsAll
  rw [if_neg (by rw [hsys]; exact Bool.false_ne_true)]
  refine wpAny_bind (wpAny_pure (wpAny_bind (wpAny_dictEpoch ho hdt (wpAny_bind (wpAny_dictEntries ho hdt ?_)))))
  refine wpAny_bind ?_
  rw [Std.Legacy.Range.forIn_eq_forIn_range']
  simp only [Std.Legacy.Range.size, Nat.sub_zero, Nat.add_sub_cancel, Nat.div_one]
  refine wpAny_forIn_list _ (fun left r s' => ∃ i, left = List.range' i (es.size - i) ∧ i ≤ es.size ∧ r = (⟨((kvT ts).take i).toArray, base + piled ((kvT ts).take i)⟩ : (Array Str × Nat)) ∧ Inv X pins σ H' s') _ ?_ ?_ _ _
    ⟨0, by simp, Nat.zero_le _, by simp [piled], I⟩
  · rintro x left r s' ⟨i, e1, e2, rfl, I'⟩
    have lt : i < es.size := by
      rcases Nat.lt_or_ge i es.size with h | h
      · exact h
      · rw [Nat.sub_eq_zero_of_le h] at e1; simp at e1
    rw [show es.size - i = (es.size - (i + 1)) + 1 from by omega, List.range'_succ] at e1
    injection e1 with e3 e4
    subst e3
    obtain ⟨_, ho', _, es', ep', hdt', hes', rel⟩ := entries_rel I' hd
    rw [hdt] at hdt'
    cases hdt'
    have hlk1 : x < kvs.length := by omega
    have hlk2 : x < ts.length := by omega
    obtain ⟨k, v, ekv⟩ : ∃ k v, kvs[x]? = some (k, v) := ⟨_, _, List.getElem?_eq_getElem hlk1⟩
    obtain ⟨p, ep⟩ : ∃ p, ts[x]? = some p := ⟨_, List.getElem?_eq_getElem hlk2⟩
    obtain ⟨rk, rv⟩ := rel x es[x] k v (Array.getElem?_eq_getElem lt) ekv
    obtain ⟨sk, sv⟩ := hE x k v p ekv ep
    have ept : (kvT ts)[x]? = some (p.1 ++ ": " ++ p.2) := by unfold kvT; rw [List.getElem?_map, ep]; rfl
    have hpl2 : (p.1 ++ ": " ++ p.2).length = p.1.length + 2 + p.2.length := by rw [strLen_append, strLen_append]; rfl
    have hp1 := piled_take_succ ept
    have hp2 := piled_take_le (kvT ts) (x + 1)
    rw [hpl2] at hp1
    refine wpAny_bind (wpAny_dictEntries ho' hdt ?_)
    rw [Array.getElem?_eq_getElem lt]
    refine wpAny_bind (wpAny_holding (wpAny_bind ?_))
    refine wpAny_mono (sk _ A' _ pins σ H' _ _ (fun y s2 => y = p.1 ∧ Inv X pins σ H' s2) (by omega) hfr hg' hcl' hr hlk I' rk fun s2 I2 => ⟨rfl, I2⟩) (fun y s2 hy => ?_) fun e s2 he => hxe _ _ he
    obtain ⟨rfl, I2⟩ := hy
    refine wpAny_bind (wpAny_mono (sv _ A' _ pins σ H' _ _ (fun y s2 => y = p.2 ∧ Inv X pins σ H' s2) (by omega) hfr hg' hcl' hr hlk I2 rv fun s2 I2 => ⟨rfl, I2⟩) (fun y s3 hy => ?_) fun e s2 he => hxe _ _ he)
    obtain ⟨rfl, I3⟩ := hy
    refine wpAny_pure ?_
    obtain ⟨_, ho3, _⟩ := entries_rel I3 hd
    refine wpAny_bind (wpAny_dictEpoch ho3 hdt ?_)
    rw [if_neg (by simp)]
    refine wpAny_pure ⟨x + 1, e4, lt, ?_, I3⟩
    have q1 : ((kvT ts).take x).toArray.push (p.1 ++ ": " ++ p.2) = ((kvT ts).take (x + 1)).toArray := by
      rw [List.take_add_one, ept]; simp
    rw [q1, show base + piled ((kvT ts).take x) + (p.1.length + p.2.length + 4) = base + piled ((kvT ts).take (x + 1)) from by omega]
  · rintro r s' ⟨i, e1, e2, rfl, I'⟩
    have ei : i = es.size := by
      rcases Nat.lt_or_ge i es.size with h | h
      · rw [show es.size - i = (es.size - (i + 1)) + 1 from by omega, List.range'_succ] at e1; exact nomatch e1
      · exact Nat.le_antisymm e2 h
    rw [ei, ← hlen, List.take_length]
    refine wpAny_bind (wpAny_mkStr (wpAny_pure ?_) (by simpa [dictText] using Nat.le_trans (Nat.le_add_left _ _) hsz))
    have := hR _ s'.toks (I'.kept (t' := s'.toks + 1) fun _ _ e => e)
    simpa [dictText] using this
/-- a dict is locked, if it isn't yet -/
theorem lock_dict {pins : List (Addr × Obj)} {σ : L2.St} {H H' : Hp} {s : Shared} {a : Addr} {kvs : List (L2.Key × V)} (lk : Lk H H') (h : H a = some (.dK kvs)) (I : Inv X pins σ H' s) :
    ∃ (H2 : Hp) (od : Obj), Lk H H2 ∧ H2 a = some (.frz od (.dK kvs)) ∧ Inv X pins σ H2 s ∧ ∀ s', Inv X pins σ H2 s' → Inv X pins σ H' s' := by
  rcases lk a _ h with q | ⟨_, od, q⟩
  · obtain ⟨od, I2⟩ := I.lock q trivial
    refine ⟨_, od, fun b o e => ?_, upd_same, I2, fun s' I3 => ?_⟩
    · by_cases hb : b = a
      · subst hb
        rw [h] at e
        cases e
        exact .inr ⟨rfl, od, upd_same⟩
      · rw [upd_ne hb]; exact lk b o e
    · have I4 := I3.unlock upd_same (I.nofrz q trivial)
      have e : upd (upd H' a (.frz od (.dK kvs))) a (.dK kvs) = H' := by
        funext b
        by_cases hb : b = a
        · subst hb; rw [upd_same, q]
        · rw [upd_ne hb, upd_ne hb]
      rw [e] at I4
      exact I4
  · exact ⟨H', od, lk, q, I, fun s' I' => I'⟩
theorem frames_under_repr (A : Around) (args : Args) : (A.under (.builtin "dict.__repr__" args)).frames = A.frames := by
  first | rfl | simp [Around.under, Code.envs, pushEnvs]
theorem frames_under_repr_u (A : Around) (args : Args) : (A.under (.builtin "dict.__repr__.under" args)).frames = A.frames := by
  first | rfl | simp [Around.under, Code.envs, pushEnvs]
theorem room_under_repr {n : Nat} {A : Around} (args : Args) (hr : Room (n + 1) A) : Room n (A.under (.builtin "dict.__repr__" args)) := by
  refine ⟨hr.hd, ?_, ?_⟩
  · have := hr.dp
    have e : (A.under (.builtin "dict.__repr__" args)).depth ≤ A.depth + 1 := by
      first
        | exact Nat.le_succ _
        | exact Nat.le_refl _
        | (simp [Around.under, Code.weight, Code.isCreation, Code.isGuard, Code.isCaller, Code.frames, Code.isFrame, guardIds])
    omega
  · have := hr.un
    rw [units_under_dict_repr]
    omega
theorem room_under_repr_u {n : Nat} {A : Around} (args : Args) (hr : Room (n + 1) A) : Room n (A.under (.builtin "dict.__repr__.under" args)) := by
  refine ⟨hr.hd, ?_, ?_⟩
  · have := hr.dp
    have e : (A.under (.builtin "dict.__repr__.under" args)).depth ≤ A.depth + 1 := by
      first
        | exact Nat.le_succ _
        | exact Nat.le_refl _
        | (simp [Around.under, Code.weight, Code.isCreation, Code.isGuard, Code.isCaller, Code.frames, Code.isFrame, guardIds])
    omega
  · have := hr.un
    rw [units_under_dict_repr_under]
    omega
theorem shows_dict {n : Nat} {as : List Addr} {H : Hp} {a : Addr} {kvs : List (L2.Key × V)} {ts : List (Str × Str)} (h : H a = some (.dK kvs)) (hl : ts.length = kvs.length) (hna : a ∉ as)
    (hE : ∀ (i : Nat) (k : L2.Key) (v : V) (p : Str × Str), kvs[i]? = some (k, v) → ts[i]? = some p → Shows X n as H (kV k) p.1 ∧ Shows X n as H v p.2) : Shows X (n + 1) (a :: as) H (.ref a) (dictText (kvT ts)) := by
  intro base A g pins σ H' s u Q h1 hA hg hcl hr lk I ru q
  cases ru
  obtain ⟨H2, od, lk2, hd, I2, back⟩ := lock_dict lk h I
  obtain ⟨hsys, ho, hc, _⟩ := entries_rel I2 hd
  have hu := hr.units0
  refine wpAny_pyReprUnder_ref (by omega) ?_
  refine wpAny_pyReprObjUnder_twin (twin := "dict.__repr__.under") ⟨od, ho, hc⟩ F.slot_dict_repr rfl hu ?_
  refine call_twin_own (F.quiet_dict_repr_under _) F.entry_dict_repr_under F.check_dict_repr_under ⟨od, ho, hc⟩ F.slot_dict_repr (F.args_dict_repr_1 _) ?_
  exact own_dict_repr lk2 hd hl hna hE (isGuard_dict_repr_under _) ((frames_under_repr_u _ _).trans hA) (room_under_repr_u _ hr) hg hcl I2 (fun s' w I' => ⟨⟨_, _, rfl⟩, _, _, rfl, q _ (back _ I')⟩) h1 fun e s' he => he
/-- repr(d) -/
def rReprO (X : Cx) (n : Nat) : List V → Hp → VK → Prop := fun xs H Q => ∃ (a : Addr) (as : List Addr) (kvs : List (L2.Key × V)) (ts : List (Str × Str)), xs = [.ref a] ∧ H a = some (.dK kvs) ∧ ts.length = kvs.length ∧ a ∉ as ∧
  (∀ (i : Nat) (k : L2.Key) (v : V) (p : Str × Str), kvs[i]? = some (k, v) → ts[i]? = some p → Shows X n as H (kV k) p.1 ∧ Shows X n as H v p.2) ∧ (dictText (kvT ts)).length ≤ sizeLine ∧ Q (.str (dictText (kvT ts))) H
theorem cr_reprOD {n : Nat} (hr : Room (n + 2) X.A) (hg : Calm X.A) : CallR X (.builtin "repr") (rReprO X n) := by
  intro pins s σ H xs us Q I r h
  obtain ⟨a, as, kvs, ts, rfl, ha, hl, hna, hE, hz, q⟩ := h
  obtain ⟨u, rfl, ru⟩ := vals1 r
  cases ru
  obtain ⟨H2, od, lk2, hd, I2, back⟩ := lock_dict (Lk.refl H) ha I
  obtain ⟨hsys, ho, hc, _⟩ := entries_rel I2 hd
  have hu := hr.units
  have hr2 : Room (n + 1) X.A.in1 := Room.in1 hr
  refine call_repr_slot (by omega) ⟨od, ho, hc⟩ F.slot_dict_repr ?_
  refine wpAny_call (codeAny_call_builtin_own (Code.quiet_builtin _ (by decide +kernel)) F.entry_dict_repr (F.slot_dict_repr.check _ _ _ _ _ _ _ _ ⟨od, ho, hc⟩ (F.args_dict_repr_1 _) ?_))
  refine own_dict_repr (R := callEnd (fun r s₁ => ∃ x t, r = .str x t ∧ EP X pins σ Q r s₁) X.xe) (A := X.A.in1) (base := 0) lk2 hd hl hna hE (isGuard_dict_repr _) (frames_under_repr _ _) (room_under_repr _ hr2) hg (fun b _ => Clear.nil b) I2 (fun s' w I' => ⟨_, _, rfl, .str _, H, back _ I', ⟨_, rfl⟩, q⟩) (by omega) fun e s' he => he
end
end Sil
set_option Elab.async false
set_option linter.all false
set_option maxRecDepth 100000
set_option maxHeartbeats 1000000
/-! P17: how far what is told goes. -/
namespace Sil
open PySem L2 PySem.Spec PyProof.Rows
/-- ends no farther than M -/
def EndLe (M : Nat) (e : Option Int) : Prop := ∀ i, e = some i → i.natAbs ≤ M
def FitE (M : Nat) (f : EF) (xs : List Str) : Prop := ∀ x ∈ xs, EndLe M (f x).1 ∧ EndLe M (f x).2
theorem FitE.sub {M : Nat} {f : EF} {xs ys : List Str} (h : FitE M f xs) (s : ∀ y ∈ ys, y ∈ xs) : FitE M f ys := fun y m => h y (s y m)
theorem EndLe.mono {M N : Nat} {e : Option Int} (h : EndLe M e) (l : M ≤ N) : EndLe N e := fun i q => Nat.le_trans (h i q) l
theorem endLe_wE {M : Nat} {w : Int} {e : Option Int} (hw : w.natAbs ≤ 1000000) (h : EndLe M e) : EndLe (1000000 * M) (wE w e) := fun i q => by
  cases e with
  | none => cases q
  | some j =>
    cases q
    rw [Int.natAbs_mul]
    exact Nat.mul_le_mul hw (h j rfl)
theorem endLe_addE {M : Nat} : ∀ {l : List (Option Int)}, (∀ e ∈ l, EndLe M e) → EndLe (l.length * M) (addE l) := fun {l} h i q => by
  unfold addE at q
  split at q
  · cases q
    rename_i ha
    clear ha
    induction l with
    | nil => exact Nat.zero_le _
    | cons e r ih =>
      have ih := ih fun x m => h x (List.mem_cons_of_mem _ m)
      rw [List.length_cons, Nat.succ_mul]
      cases e with
      | none =>
        have e1 : pres (none :: r) = pres r := rfl
        rw [e1]; omega
      | some j =>
        have e1 : pres (some j :: r) = j :: pres r := rfl
        rw [e1, List.sum_cons]
        have := Int.natAbs_add_le j (pres r).sum
        have := h (some j) List.mem_cons_self j rfl
        omega
  · cases q
theorem pres_mem {l : List (Option Int)} {i : Int} (h : i ∈ pres l) : some i ∈ l := by
  unfold pres at h
  obtain ⟨e, m, q⟩ := List.mem_filterMap.mp h
  cases (show e = some i from q)
  exact m
theorem endLe_max {M : Nat} {l : List (Option Int)} (h : ∀ e ∈ l, EndLe M e) : EndLe M (maxO (pres l)) := fun i q => h _ (pres_mem (maxO_in q).1) i rfl
theorem told_le {M : Nat} {f : EF} {w : Wt} {lo hi : Option Int} (ok : WOk w.names w) (hf : FitE M f w.names) (h : told f w = .pair lo hi) : EndLe (26 * (1000000 * M) + 26) lo ∧ EndLe (26 * (1000000 * M) + 26) hi := by
  have few := ok.few
  cases w with
  | over ws l => cases h
  | sum ws l =>
    cases h
    have fl : ws.length ≤ 26 := ok.few_sum
    have w1 : ∀ e ∈ ws.map (lowE f), EndLe (1000000 * M) e := fun e m => by
      obtain ⟨x, mx, rfl⟩ := List.mem_map.mp m
      have a := hf x.1 (List.mem_map_of_mem mx)
      unfold lowE
      split
      · exact endLe_wE (ok.le x mx) a.1
      · exact endLe_wE (ok.le x mx) a.2
    have w2 : ∀ e ∈ ws.map (highE f), EndLe (1000000 * M) e := fun e m => by
      obtain ⟨x, mx, rfl⟩ := List.mem_map.mp m
      have a := hf x.1 (List.mem_map_of_mem mx)
      unfold highE
      split
      · exact endLe_wE (ok.le x mx) a.2
      · exact endLe_wE (ok.le x mx) a.1
    have m : ws.length * (1000000 * M) ≤ 26 * (1000000 * M) := Nat.mul_le_mul_right _ fl
    refine ⟨(endLe_addE w1).mono ?_, (endLe_addE w2).mono ?_⟩ <;> (rw [List.length_map]; omega)
  | most ns l =>
    injection h with h1 h2
    subst h1 h2
    have a : ∀ e ∈ ns.map fun n => (f n).1, EndLe M e := fun e m => by obtain ⟨x, mx, rfl⟩ := List.mem_map.mp m; exact (hf x mx).1
    have b : ∀ e ∈ ns.map fun n => (f n).2, EndLe M e := fun e m => by obtain ⟨x, mx, rfl⟩ := List.mem_map.mp m; exact (hf x mx).2
    refine ⟨(endLe_max a).mono (by omega), ?_⟩
    split
    · exact (endLe_max b).mono (by omega)
    · exact fun i q => nomatch q
  | count ns l =>
    injection h with h1 h2
    subst h1 h2
    have few : ns.length ≤ 26 := few
    have l1 := List.length_filter_le (fun n => geE l (f n).1) ns
    have l2 := List.length_filter_le (fun n => geU l (f n).2) ns
    exact ⟨fun i q => by cases q; omega, fun i q => by cases q; omega⟩
theorem told_kind {f : EF} {w : Wt} : (∃ lo hi, told f w = .pair lo hi) ∨ ∃ o, told f w = .tri o := by
  cases w
  · exact .inl ⟨_, _, rfl⟩
  · exact .inr ⟨_, rfl⟩
  · exact .inl ⟨_, _, rfl⟩
  · exact .inl ⟨_, _, rfl⟩
theorem toldV_same {H H' : Hp} {v : V} (s : Same H H') : ∀ {t : Told}, ToldV H v t → ToldV H' v t
  | .pair _ _, ⟨p, e, h⟩ => ⟨p, e, s _ _ h⟩
  | .tri _, h => h
/-! ### bands by names, all of them -/
structure BandsX (C : Addr) (H : Hp) (d : Addr) (f : EF) (ns : List (Str × V)) : Prop where
  at_ : H d = some (.dK (genKv ns))
  band : ∀ e ∈ ns, BandV C f e.1 e.2 H
theorem BandsX.same {C d : Addr} {H H' : Hp} {f : EF} {ns : List (Str × V)} (s : Same H H') (h : BandsX C H d f ns) : BandsX C H' d f ns :=
  ⟨s _ _ h.at_, fun e m => let ⟨q, e1, e2⟩ := h.band e m; ⟨q, e1, e2.mono s⟩⟩
theorem BandsX.step {b C d : Addr} {H H' : Hp} {f : EF} {ns : List (Str × V)} (hb : Bag H b) (s : Step b H H') (h : BandsX C H d f ns) : BandsX C H' d f ns :=
  ⟨s.dk hb h.at_, fun e m => let ⟨q, e1, dx, e2⟩ := h.band e m; ⟨q, e1, dx, s.ins hb e2⟩⟩
theorem BandsX.bands {C d : Addr} {H : Hp} {f : EF} {ns : List (Str × V)} (h : BandsX C H d f ns) : BandsAt C H d f (ns.map (·.1)) := bands_of h.at_ h.band
end Sil
set_option Elab.async false
set_option linter.all false
set_option maxRecDepth 100000
set_option maxHeartbeats 1000000
/-! P18: == and != of dicts whose values are compared by an own __eq__. -/
namespace Sil
open PySem L2 PySem.Spec PyProof.Rows
section
variable {X : Cx} {n : Nat} {D : Eqv}
theorem same_pairsG {nm : String} {A : Around} {pins : List (Addr × Obj)} {σ : L2.St} {H : Hp} {s : Shared} {a b : Addr} {oa ob : Obj} {ks ls : List (L2.Key × V)} (hD : Mon D) (h : EqG X n D) (sb : Sub X n A) (I : Inv X pins σ H s)
    (ha : H a = some (.frz oa (.dK ks))) (hb : H b = some (.frz ob (.dK ls))) (hl : ks.length = ls.length) (hp : ∀ p ∈ ks, ∃ v, valV ls p.1 = some v ∧ D p.2 v H) :
    wpAny (model X.prog X.w) A (Builtin.Dict.samePairs nm a b) (fun r s' => r = true ∧ LoopI X pins σ H s') X.xe s := by
  obtain ⟨ya, ga, xa, es, ea, va, da, la, ra, oa', es0, ga0, _, da0, keya, paira, _⟩ := I.frzK ha
  rw [ga] at ga0; cases ga0; rw [da] at da0; cases da0
  obtain ⟨yb, gb, xb, et, eb, vb, db, lb, rb, ob', et0, gb0, _, db0, keyb, pairb, _⟩ := I.frzK hb
  rw [gb] at gb0; cases gb0; rw [db] at db0; cases db0
  have gA : ∀ s', LoopI X pins σ H s' → s'.heap.get? a = some oa := fun s' ⟨H', I', e⟩ => (I'.frzK (e _ _ ha)).2.1
  have gB : ∀ s', LoopI X pins σ H s' → s'.heap.get? b = some ob := fun s' ⟨H', I', e⟩ => (I'.frzK (e _ _ hb)).2.1
  have hfind : ∀ k, findBy (mixKind X.prog X.w).is et k = valueAt vb k := fun k => by
    rw [← pairb.find k]
    generalize et = e0
    obtain ⟨l⟩ := e0
    simp [findBy]
  have len1 : va.length = es.size := by rw [← paira.length]; exact Array.length_toList
  have len2 : ks.length = va.length := Paired.length ra
  unfold Builtin.Dict.samePairs Builtin.Dict.showsAll
  rw [if_neg (show ¬ (a == sysModules) = true by rw [ya]; exact Bool.false_ne_true), if_neg (show ¬ (b == sysModules) = true by rw [yb]; exact Bool.false_ne_true)]
  refine wpAny_bind (wpAny_pure (wpAny_bind (wpAny_pure ?_)))
  refine wpAny_bind (wpAny_dictEntries ga da ?_)
  dsimp only
  refine wpAny_bind (wpAny_dictEntries gb db ?_)
  rw [if_neg (by simp; omega)]
  refine wpAny_bind (wpAny_dictEpoch ga da ?_)
  refine wpAny_bind ?_
  rw [Std.Legacy.Range.forIn_eq_forIn_range']
  simp only [Std.Legacy.Range.size, Nat.sub_zero, Nat.add_sub_cancel, Nat.div_one]
  refine wpAny_forIn_list _ (fun left q s' => q = (none, ()) ∧ LoopI X pins σ H s' ∧ ∃ i, left = List.range' i (es.size - i) ∧ i ≤ es.size) _ ?_ ?_ _ _ ⟨rfl, ⟨H, I, Ext.rfl'⟩, 0, by simp, Nat.zero_le _⟩
  · rintro x left q s' ⟨rfl, hI, i, e1, e2⟩
    have lt : i < es.size := by
      rcases Nat.lt_or_ge i es.size with h | h
      · exact h
      · rw [Nat.sub_eq_zero_of_le h] at e1; simp at e1
    rw [show es.size - i = (es.size - (i + 1)) + 1 from by omega, List.range'_succ] at e1
    injection e1 with e3 e4
    subst e3
    refine wpAny_bind (wpAny_dictEntries (gA s' hI) da ?_)
    rw [Array.getElem?_eq_getElem lt]
    have lk : x < ks.length := by omega
    have lv : x < va.length := by omega
    obtain ⟨hk1, hk2⟩ : ks[x].1 = va[x].1 ∧ RelV ks[x].2 va[x].2 := by
      have aux : ∀ {l1 : List (L2.Key × V)} {l2 : List (L2.Key × Value)}, KV l1 l2 → ∀ (j : Nat) (h1 : j < l1.length) (h2 : j < l2.length), l1[j].1 = l2[j].1 ∧ RelV l1[j].2 l2[j].2 := by
        intro l1 l2 r
        induction r with
        | nil => intro j h1; exact absurd h1 (Nat.not_lt_zero _)
        | cons hh _ ih =>
          intro j h1 h2
          cases j with
          | zero => exact hh
          | succ j => exact ih j (Nat.lt_of_succ_lt_succ h1) (Nat.lt_of_succ_lt_succ h2)
      exact aux ra x lk lv
    obtain ⟨hkey, hval⟩ := paira.get? (i := x) (e := es[x]) (k := va[x].1) (v := va[x].2) (by rw [Array.getElem?_toList]; exact Array.getElem?_eq_getElem lt) (List.getElem?_eq_getElem lv)
    obtain ⟨k', hk', hh⟩ := keya es[x] (Array.getElem_mem lt)
    have ekk : k' = va[x].1 := (mixKind X.prog X.w).inj _ _ _ hk' hkey
    rw [ekk] at hh
    obtain ⟨v, ev, dv⟩ := hp ks[x] (List.getElem_mem lk)
    have rr : RelO (some v) (valueAt vb va[x].1) := by rw [← ev, hk1]; exact rb.val va[x].1
    obtain ⟨y, hy, ry⟩ := rr.some_of
    show wpAny _ _ (holding [es[x].key, es[x].val] _ >>= _) _ _ _
    rw [hh]
    refine wpAny_bind (wpAny_holding (wpAny_bind (wpAny_dictFind_of hkey (gB s' hI) db keyb ?_)))
    cases hj : et.findIdx? fun e => (mixKind X.prog X.w).is va[x].1 e.key with
    | none =>
      have hn : valueAt vb va[x].1 = none := by rw [← hfind, findBy_of_findIdx?, hj]
      rw [hn] at hy; cases hy
    | some j =>
      obtain ⟨hjl, _, _⟩ := Array.findIdx?_eq_some_iff_getElem.mp hj
      have hv' : valueAt vb va[x].1 = some et[j].val := by
        rw [← hfind, findBy_of_findIdx?, hj]
        simp [Array.getElem?_eq_getElem hjl]
      have ey : et[j].val = y := Option.some.inj (hv'.symm.trans hy)
      refine wpAny_bind (wpAny_dictEntries (gB s' hI) db ?_)
      rw [Array.getElem?_eq_getElem hjl]
      obtain ⟨H1, I1, x1⟩ := hI
      refine wpAny_holding (wpAny_mono (h A pins s' σ H1 ks[x].2 v es[x].val et[j].val sb I1 (by rw [hval]; exact hk2) (by rw [ey]; exact ry) (hD _ _ _ _ x1 dv)) (fun r s2 hq => ?_) fun _ _ z => z)
      obtain ⟨rfl, H2, I2, x2⟩ := hq
      have hI2 : LoopI X pins σ H s2 := ⟨H2, I2, x1.trans x2⟩
      show wpAny _ _ (if (!true) = true then _ else _) _ _ _
      rw [if_neg (by decide)]
      refine wpAny_bind (wpAny_dictEpoch (gA s2 hI2) da ?_)
      rw [if_neg (by simp)]
      exact wpAny_pure ⟨rfl, hI2, x + 1, e4, lt⟩
  · rintro q s' ⟨rfl, hI, i, e1, e2⟩
    exact wpAny_pure ⟨rfl, hI⟩
def DDict (D : Eqv) : Eqv := fun x y H => ∃ a b ks ls, x = .ref a ∧ y = .ref b ∧ a ≠ b ∧ H a = some (.dK ks) ∧ H b = some (.dK ls) ∧ ks.length = ls.length ∧ ∀ p ∈ ks, ∃ v, valV ls p.1 = some v ∧ ∀ H', Lk H H' → D p.2 v H'
theorem lk_upd {H : Hp} {a : Addr} {o : HO} {od : Obj} (h : H a = some o) (hb : isBox o = true) {H0 : Hp} (k : Lk H0 H) : Lk H0 (upd H a (.frz od o)) := fun b u e => by
  by_cases hq : b = a
  · subst hq
    rcases k b u e with q | ⟨q1, od', q⟩
    · rw [h] at q; cases q
      exact .inr ⟨hb, od, upd_same⟩
    · rw [h] at q; cases q
      cases hb
  · rw [upd_ne hq]; exact k b u e
/-- both dicts locked -/
theorem with_locks {pins : List (Addr × Obj)} {σ : L2.St} {H : Hp} {s : Shared} {a b : Addr} {ks ls : List (L2.Key × V)} (I : Inv X pins σ H s) (hne : a ≠ b) (ha : H a = some (.dK ks)) (hb : H b = some (.dK ls)) :
    ∃ (H2 : Hp) (oa ob : Obj), Lk H H2 ∧ H2 a = some (.frz oa (.dK ks)) ∧ H2 b = some (.frz ob (.dK ls)) ∧ Inv X pins σ H2 s ∧ ∀ s', LoopI X pins σ H2 s' → LoopI X pins σ H s' := by
  obtain ⟨oa, I1⟩ := I.lock ha trivial
  have hb1 : upd H a (.frz oa (.dK ks)) b = some (.dK ls) := by rw [upd_ne hne.symm]; exact hb
  obtain ⟨ob, I2⟩ := I1.lock hb1 trivial
  refine ⟨_, oa, ob, lk_upd hb1 rfl (lk_upd ha rfl (Lk.refl H)), by rw [upd_ne hne]; exact upd_same, upd_same, I2, fun s' ⟨H3, I3, e3⟩ => ?_⟩
  have hb3 : H3 b = some (.frz ob (.dK ls)) := e3 _ _ upd_same
  have ha3 : H3 a = some (.frz oa (.dK ks)) := e3 _ _ (by rw [upd_ne hne]; exact upd_same)
  have I4 := I3.unlock hb3 (I1.nofrz hb1 trivial)
  have I5 := I4.unlock (d := a) (by rw [upd_ne hne]; exact ha3) (I.nofrz ha trivial)
  refine ⟨_, I5, fun c o e => ?_⟩
  by_cases ca : c = a
  · subst ca; rw [upd_same]; rw [ha] at e; exact e
  · rw [upd_ne ca]
    by_cases cb : c = b
    · subst cb; rw [upd_same]; rw [hb] at e; exact e
    · rw [upd_ne cb]
      exact e3 c o (by rw [upd_ne cb, upd_ne ca]; exact e)
theorem rcG_dict (hD : Mon D) (h : EqG X n D) : RcG X (n + 1) (DDict D) := by
  intro A pins s σ H x y u v sb I rx ry d
  obtain ⟨a, b, ks, ls, rfl, rfl, hne, ha, hb, hl, hp⟩ := d
  cases rx
  cases ry
  obtain ⟨H2, oa, ob, lk, ha2, hb2, I2, back⟩ := with_locks I hne ha hb
  obtain ⟨_, ga, xa, _⟩ := I2.frzK ha2
  obtain ⟨_, gb, xb, _⟩ := I2.frzK hb2
  have ta : s.TypeIs (.ref a) "dict" := ⟨oa, ga, xa.1⟩
  have tb : s.TypeIs (.ref b) "dict" := ⟨ob, gb, xb.1⟩
  refine wpAny_richCompare_same_room (op := .Eq) ta tb PySem.F.slot_dict_eq (wpAny_call_entry PySem.F.slot_dict_eq ta PySem.F.entry_dict_eq ?_ (PySem.F.args_dict_eq_2 _ _)) sb.room.units0
  show wpAny _ _ (Builtin.Dict.dictSlotArgs "__eq__" ⟨[.ref a, .ref b], []⟩ >>= _) _ _ s
  unfold Builtin.Dict.dictSlotArgs
  refine wpAny_bind (wpAny_bind (wpAny_notOrdered_dict ta (wpAny_pure ?_)))
  refine wpAny_bind (wpAny_isInstance (T := "dict") tb PySem.F.sub_dict_dict ?_)
  simp only [Bool.not_true, Bool.false_eq_true, if_false]
  refine wpAny_bind (wpAny_pure (wpAny_bind (wpAny_pure ?_)))
  refine wpAny_bind (wpAny_mono (same_pairsG hD h sb.in1 I2 ha2 hb2 hl fun p m => let ⟨v, e, q⟩ := hp p m; ⟨v, e, q _ lk⟩) (fun r s' q => ?_) fun _ _ z => z)
  obtain ⟨rfl, q⟩ := q
  refine wpAny_pure ⟨_, rfl, ?_, ?_⟩
  · exact fun x => nomatch x
  · exact ⟨rfl, back _ q⟩
def rNeDO (D : Eqv) : R2 := fun x y H Q => DDict D x y H ∧ ∀ H', Ext H H' → Q (.bl false) H'
theorem op_neDO (hD : Mon D) (h : EqG X n D) (hr : Room (n + 1) X.A) : OpR X (compareOp .NotEq) (rNeDO D) := by
  intro pins s σ H x y v u Q I rx ry hq
  obtain ⟨⟨a, b, ks, ls, rfl, rfl, hne, ha, hb, hl, hp⟩, q⟩ := hq
  cases rx
  cases ry
  obtain ⟨H2, oa, ob, lk, ha2, hb2, I2, back⟩ := with_locks I hne ha hb
  obtain ⟨_, ga, xa, _⟩ := I2.frzK ha2
  obtain ⟨_, gb, xb, _⟩ := I2.frzK hb2
  have ta : s.TypeIs (.ref a) "dict" := ⟨oa, ga, xa.1⟩
  have tb : s.TypeIs (.ref b) "dict" := ⟨ob, gb, xb.1⟩
  have sb : Sub X (n + 1) X.A := ⟨hr, rfl⟩
  refine wpAny_richCompare_same_room (op := .NotEq) ta tb PySem.F.slot_dict_ne (wpAny_call_entry PySem.F.slot_dict_ne ta PySem.F.entry_dict_ne ?_ (PySem.F.args_dict_ne_2 _ _)) sb.room.units0
  show wpAny _ _ (Builtin.Dict.dictSlotArgs "__ne__" ⟨[.ref a, .ref b], []⟩ >>= _) _ _ s
  unfold Builtin.Dict.dictSlotArgs
  refine wpAny_bind (wpAny_bind (wpAny_notOrdered_dict ta (wpAny_pure ?_)))
  refine wpAny_bind (wpAny_isInstance (T := "dict") tb PySem.F.sub_dict_dict ?_)
  simp only [Bool.not_true, Bool.false_eq_true, if_false]
  refine wpAny_bind (wpAny_pure (wpAny_bind (wpAny_pure ?_)))
  refine wpAny_bind (wpAny_mono (same_pairsG hD h sb.in1 I2 ha2 hb2 hl fun p m => let ⟨v, e, q⟩ := hp p m; ⟨v, e, q _ lk⟩) (fun r s' q => ?_) fun _ _ z => z)
  obtain ⟨rfl, hI⟩ := q
  obtain ⟨H3, I3, e3⟩ := back _ hI
  refine wpAny_pure ⟨_, rfl, ?_, ?_⟩
  · exact fun x => nomatch x
  · exact ⟨.bl false, H3, I3, rfl, q H3 e3⟩
end
end Sil
set_option Elab.async false
set_option linter.all false
set_option maxRecDepth 100000
set_option maxHeartbeats 1000000
/-! P19: what is told by narrower bands. -/
namespace Sil
open PySem L2 PySem.Spec PyProof.Rows
/-- a low end, and one that is no lower -/
def LoLe : Option Int → Option Int → Prop
  | none, _ => True
  | some _, none => False
  | some i, some j => i ≤ j
/-- a high end, and one that is no higher -/
def HiLe : Option Int → Option Int → Prop
  | none, _ => True
  | some _, none => False
  | some i, some j => j ≤ i
theorem LoLe.refl : ∀ e : Option Int, LoLe e e
  | none => trivial
  | some i => Int.le_refl i
theorem HiLe.refl : ∀ e : Option Int, HiLe e e
  | none => trivial
  | some i => Int.le_refl i
theorem LoLe.trans : ∀ {a b c : Option Int}, LoLe a b → LoLe b c → LoLe a c
  | none, _, _, _, _ => trivial
  | some _, some _, some _, h, k => Int.le_trans h k
  | some _, some _, none, _, k => k.elim
  | some _, none, _, h, _ => h.elim
theorem HiLe.trans : ∀ {a b c : Option Int}, HiLe a b → HiLe b c → HiLe a c
  | none, _, _, _, _ => trivial
  | some _, some _, some _, h, k => Int.le_trans k h
  | some _, some _, none, _, k => k.elim
  | some _, none, _, h, _ => h.elim
/-- the bands f' are within the bands f -/
def Nar (f' f : EF) (xs : List Str) : Prop := ∀ x ∈ xs, LoLe (f x).1 (f' x).1 ∧ HiLe (f x).2 (f' x).2
def OkE (f : EF) (xs : List Str) : Prop := ∀ x ∈ xs, atMost (f x).1 (f x).2 = true
theorem Nar.refl (f : EF) (xs : List Str) : Nar f f xs := fun x _ => ⟨.refl _, .refl _⟩
theorem Nar.trans {f g h : EF} {xs : List Str} (a : Nar h g xs) (b : Nar g f xs) : Nar h f xs := fun x m => ⟨(b x m).1.trans (a x m).1, (b x m).2.trans (a x m).2⟩
theorem Nar.sub {f g : EF} {xs ys : List Str} (a : Nar g f xs) (s : ∀ y ∈ ys, y ∈ xs) : Nar g f ys := fun y m => a y (s y m)
theorem OkE.sub {f : EF} {xs ys : List Str} (a : OkE f xs) (s : ∀ y ∈ ys, y ∈ xs) : OkE f ys := fun y m => a y (s y m)
theorem most_le {lo hi : Option Int} : atMost lo hi = true → ∀ i j, lo = some i → hi = some j → i ≤ j := fun h i j e1 e2 => by subst e1 e2; exact of_decide_eq_true h
theorem most_of {lo hi : Option Int} (h : ∀ i j, lo = some i → hi = some j → i ≤ j) : atMost lo hi = true := by
  cases lo with
  | none => rfl
  | some i =>
    cases hi with
    | none => rfl
    | some j => exact decide_eq_true (h i j rfl rfl)
/-! ### sums -/
def plusE : Option Int → Option Int → Option Int
  | some i, some j => some (i + j)
  | _, _ => none
theorem addE_cons (e : Option Int) (r : List (Option Int)) : addE (e :: r) = plusE e (addE r) := by
  cases e with
  | none => rfl
  | some i =>
    unfold addE
    rw [List.all_cons]
    cases h : r.all (·.isSome) with
    | false => rfl
    | true =>
      show some (pres (some i :: r)).sum = some (i + (pres r).sum)
      rw [show pres (some i :: r) = i :: pres r from rfl, List.sum_cons]
theorem addE_lo {α : Type} {g g' : α → Option Int} : ∀ {ws : List α}, (∀ e ∈ ws, LoLe (g e) (g' e)) → LoLe (addE (ws.map g)) (addE (ws.map g'))
  | [], _ => Int.le_refl 0
  | e :: r, h => by
    have a := h e List.mem_cons_self
    have b := addE_lo (ws := r) fun x m => h x (List.mem_cons_of_mem _ m)
    rw [List.map_cons, List.map_cons, addE_cons, addE_cons]
    revert a b
    generalize g e = x1, g' e = x2, addE (r.map g) = y1, addE (r.map g') = y2
    intro a b
    cases x1 with
    | none => trivial
    | some i =>
      cases y1 with
      | none => trivial
      | some j =>
        cases x2 with
        | none => exact a.elim
        | some i' =>
          cases y2 with
          | none => exact b.elim
          | some j' => exact Int.add_le_add a b
theorem addE_hi {α : Type} {g g' : α → Option Int} : ∀ {ws : List α}, (∀ e ∈ ws, HiLe (g e) (g' e)) → HiLe (addE (ws.map g)) (addE (ws.map g'))
  | [], _ => Int.le_refl 0
  | e :: r, h => by
    have a := h e List.mem_cons_self
    have b := addE_hi (ws := r) fun x m => h x (List.mem_cons_of_mem _ m)
    rw [List.map_cons, List.map_cons, addE_cons, addE_cons]
    revert a b
    generalize g e = x1, g' e = x2, addE (r.map g) = y1, addE (r.map g') = y2
    intro a b
    cases x1 with
    | none => trivial
    | some i =>
      cases y1 with
      | none => trivial
      | some j =>
        cases x2 with
        | none => exact a.elim
        | some i' =>
          cases y2 with
          | none => exact b.elim
          | some j' => exact Int.add_le_add a b
theorem addE_most {α : Type} {g g' : α → Option Int} : ∀ {ws : List α}, (∀ e ∈ ws, atMost (g e) (g' e) = true) → atMost (addE (ws.map g)) (addE (ws.map g')) = true
  | [], _ => rfl
  | e :: r, h => by
    have a := h e List.mem_cons_self
    have b := addE_most (ws := r) fun x m => h x (List.mem_cons_of_mem _ m)
    rw [List.map_cons, List.map_cons, addE_cons, addE_cons]
    revert a b
    generalize g e = x1, g' e = x2, addE (r.map g) = y1, addE (r.map g') = y2
    intro a b
    refine most_of fun i j e1 e2 => ?_
    cases x1 <;> cases y1 <;> first | cases e1 | skip
    cases x2 <;> cases y2 <;> first | cases e2 | skip
    exact Int.add_le_add (of_decide_eq_true a) (of_decide_eq_true b)
theorem lowE_lo {f f' : EF} {e : Str × Int} (h : LoLe (f e.1).1 (f' e.1).1 ∧ HiLe (f e.1).2 (f' e.1).2) : LoLe (lowE f e) (lowE f' e) := by
  obtain ⟨a, b⟩ := h
  unfold lowE
  revert a b
  generalize (f e.1).1 = x1, (f' e.1).1 = x2, (f e.1).2 = y1, (f' e.1).2 = y2, e.2 = w
  intro a b
  by_cases hw : 0 < w
  · rw [if_pos hw, if_pos hw]
    cases x1 with
    | none => trivial
    | some i =>
      cases x2 with
      | none => exact a.elim
      | some j => exact Int.mul_le_mul_of_nonneg_left a (by omega)
  · rw [if_neg hw, if_neg hw]
    cases y1 with
    | none => trivial
    | some i =>
      cases y2 with
      | none => exact b.elim
      | some j => exact Int.mul_le_mul_of_nonpos_left (by omega) b
theorem highE_hi {f f' : EF} {e : Str × Int} (h : LoLe (f e.1).1 (f' e.1).1 ∧ HiLe (f e.1).2 (f' e.1).2) : HiLe (highE f e) (highE f' e) := by
  obtain ⟨a, b⟩ := h
  unfold highE
  revert a b
  generalize (f e.1).1 = x1, (f' e.1).1 = x2, (f e.1).2 = y1, (f' e.1).2 = y2, e.2 = w
  intro a b
  by_cases hw : 0 < w
  · rw [if_pos hw, if_pos hw]
    cases y1 with
    | none => trivial
    | some i =>
      cases y2 with
      | none => exact b.elim
      | some j => exact Int.mul_le_mul_of_nonneg_left b (by omega)
  · rw [if_neg hw, if_neg hw]
    cases x1 with
    | none => trivial
    | some i =>
      cases x2 with
      | none => exact a.elim
      | some j => exact Int.mul_le_mul_of_nonpos_left (by omega) a
theorem ends_most {f : EF} {e : Str × Int} (h : atMost (f e.1).1 (f e.1).2 = true) : atMost (lowE f e) (highE f e) = true := by
  unfold lowE highE
  revert h
  generalize (f e.1).1 = x, (f e.1).2 = y, e.2 = w
  intro h
  refine most_of fun i j e1 e2 => ?_
  by_cases hw : 0 < w
  · rw [if_pos hw] at e1 e2
    cases x <;> cases e1
    cases y <;> cases e2
    exact Int.mul_le_mul_of_nonneg_left (of_decide_eq_true h) (by omega)
  · rw [if_neg hw] at e1 e2
    cases y <;> cases e1
    cases x <;> cases e2
    exact Int.mul_le_mul_of_nonpos_left (by omega) (of_decide_eq_true h)
/-! ### the greatest -/
theorem maxO_none {ns : List Int} : maxO ns = none → ns = [] := fun h => by
  cases ns with
  | nil => rfl
  | cons i r =>
    exfalso
    have : ∃ m, maxO (i :: r) = some m := by
      have aux : ∀ (l : List Int), l ≠ [] → ∃ m, m ∈ l ∧ ∀ y ∈ l, y ≤ m := by
        intro l
        induction l with
        | nil => intro q; exact absurd rfl q
        | cons a t ih =>
          intro _
          by_cases ht : t = []
          · subst ht
            exact ⟨a, List.mem_cons_self, fun y m => by rw [List.mem_singleton] at m; rw [m]; exact Int.le_refl _⟩
          · obtain ⟨m, m1, m2⟩ := ih ht
            by_cases hc : a ≤ m
            · exact ⟨m, List.mem_cons_of_mem _ m1, fun y q => by
                rcases List.mem_cons.mp q with rfl | q
                · exact hc
                · exact m2 y q⟩
            · exact ⟨a, List.mem_cons_self, fun y q => by
                rcases List.mem_cons.mp q with rfl | q
                · exact Int.le_refl _
                · have := m2 y q; omega⟩
      obtain ⟨m, m1, m2⟩ := aux (i :: r) (by simp)
      exact ⟨m, maxO_of m1 m2⟩
    obtain ⟨m, e⟩ := this
    rw [h] at e; cases e
theorem mem_pres {l : List (Option Int)} {i : Int} (h : some i ∈ l) : i ∈ pres l := List.mem_filterMap.mpr ⟨_, h, rfl⟩
theorem max_lo {α : Type} {g g' : α → Option Int} {ns : List α} (h : ∀ n ∈ ns, LoLe (g n) (g' n)) : LoLe (maxO (pres (ns.map g))) (maxO (pres (ns.map g'))) := by
  cases e : maxO (pres (ns.map g)) with
  | none => trivial
  | some m =>
    obtain ⟨n, mn, en⟩ := List.mem_map.mp (pres_mem (maxO_in e).1)
    have hn := h n mn
    rw [en] at hn
    cases e2 : g' n with
    | none => rw [e2] at hn; exact hn.elim
    | some j =>
      rw [e2] at hn
      have mj : j ∈ pres (ns.map g') := mem_pres (List.mem_map.mpr ⟨n, mn, e2⟩)
      cases e3 : maxO (pres (ns.map g')) with
      | none => rw [maxO_none e3] at mj; cases mj
      | some m' => exact Int.le_trans hn ((maxO_in e3).2 j mj)
/-- the greatest of ends, none where one is wanting -/
def topE (l : List (Option Int)) : Option Int := if l.all (·.isSome) = true then maxO (pres l) else none
theorem all_map {α : Type} {g : α → Option Int} {ns : List α} : (ns.map g).all (·.isSome) = true ↔ ∀ n ∈ ns, ∃ i, g n = some i := by
  rw [List.all_map, List.all_eq_true]
  exact ⟨fun h n m => Option.isSome_iff_exists.mp (h n m), fun h n m => Option.isSome_iff_exists.mpr (h n m)⟩
theorem top_hi {α : Type} {g g' : α → Option Int} {ns : List α} (h : ∀ n ∈ ns, HiLe (g n) (g' n)) (ne : ns ≠ []) : HiLe (topE (ns.map g)) (topE (ns.map g')) := by
  unfold topE
  by_cases ha : (ns.map g).all (·.isSome) = true
  · have hb : (ns.map g').all (·.isSome) = true := all_map.mpr fun n m => by
      obtain ⟨i, e⟩ := all_map.mp ha n m
      have q := h n m
      rw [e] at q
      cases e2 : g' n with
      | none => rw [e2] at q; exact q.elim
      | some j => exact ⟨j, rfl⟩
    rw [if_pos ha, if_pos hb]
    cases e : maxO (pres (ns.map g)) with
    | none => trivial
    | some m =>
      cases e3 : maxO (pres (ns.map g')) with
      | none =>
        exfalso
        obtain ⟨n, r, rfl⟩ : ∃ n r, ns = n :: r := by cases ns with | nil => exact absurd rfl ne | cons n r => exact ⟨n, r, rfl⟩
        obtain ⟨i, ei⟩ := all_map.mp hb n List.mem_cons_self
        have : i ∈ pres ((n :: r).map g') := mem_pres (List.mem_map.mpr ⟨n, List.mem_cons_self, ei⟩)
        rw [maxO_none e3] at this; cases this
      | some m' =>
        obtain ⟨n, mn, en⟩ := List.mem_map.mp (pres_mem (maxO_in e3).1)
        have q := h n mn
        rw [en] at q
        cases e2 : g n with
        | none => obtain ⟨i, ei⟩ := all_map.mp ha n mn; rw [e2] at ei; cases ei
        | some j =>
          rw [e2] at q
          exact Int.le_trans q ((maxO_in e).2 j (mem_pres (List.mem_map.mpr ⟨n, mn, e2⟩)))
  · rw [if_neg ha]; trivial
theorem max_most {f : EF} {ns : List Str} (h : OkE f ns) : atMost (maxO (pres (ns.map fun n => (f n).1))) (topE (ns.map fun n => (f n).2)) = true := by
  refine most_of fun i j e1 e2 => ?_
  obtain ⟨n, mn, en⟩ := List.mem_map.mp (pres_mem (maxO_in e1).1)
  unfold topE at e2
  split at e2
  · rename_i ha
    obtain ⟨k, ek⟩ := all_map.mp ha n mn
    have := (maxO_in e2).2 k (mem_pres (List.mem_map.mpr ⟨n, mn, ek⟩))
    exact Int.le_trans (most_le (h n mn) i k en ek) this
  · cases e2
/-! ### counts -/
theorem filter_le {α : Type} {p q : α → Bool} : ∀ {ns : List α}, (∀ n ∈ ns, p n = true → q n = true) → (ns.filter p).length ≤ (ns.filter q).length
  | [], _ => Nat.le_refl _
  | n :: r, h => by
    have ih := filter_le (ns := r) fun x m => h x (List.mem_cons_of_mem _ m)
    by_cases hp : p n = true
    · rw [List.filter_cons_of_pos hp, List.filter_cons_of_pos (h n List.mem_cons_self hp), List.length_cons, List.length_cons]; omega
    · rw [List.filter_cons_of_neg hp]
      by_cases hq : q n = true
      · rw [List.filter_cons_of_pos hq, List.length_cons]; omega
      · rw [List.filter_cons_of_neg hq]; exact ih
theorem geE_lo {l : Int} {a b : Option Int} (h : LoLe a b) : geE l a = true → geE l b = true := fun q => by
  cases a with
  | none => cases q
  | some i =>
    cases b with
    | none => exact h.elim
    | some j => exact decide_eq_true (Int.le_trans (of_decide_eq_true q) h)
theorem geU_hi {l : Int} {a b : Option Int} (h : HiLe a b) : geU l b = true → geU l a = true := fun q => by
  cases a with
  | none => rfl
  | some i =>
    cases b with
    | none => exact h.elim
    | some j => exact decide_eq_true (Int.le_trans (of_decide_eq_true q) h)
theorem ge_most {l : Int} {a b : Option Int} (h : atMost a b = true) : geE l a = true → geU l b = true := fun q => by
  cases a with
  | none => cases q
  | some i =>
    cases b with
    | none => rfl
    | some j => exact decide_eq_true (Int.le_trans (of_decide_eq_true q) (of_decide_eq_true h))
/-! ### what is told -/
def TIn : Told → Told → Prop
  | .pair lo' hi', .pair lo hi => LoLe lo lo' ∧ HiLe hi hi'
  | .tri o', .tri o => o = none ∨ o' = o
  | _, _ => False
theorem tri_in {lo hi lo' hi' : Option Int} {l : Int} (a : LoLe lo lo') (b : HiLe hi hi') (c : atMost lo' hi' = true) : triE lo hi l = none ∨ triE lo' hi' l = triE lo hi l := by
  cases lo with
  | none =>
    cases hi with
    | none => exact .inl rfl
    | some j =>
      cases hi' with
      | none => exact b.elim
      | some j' =>
        have b : j' ≤ j := b
        by_cases h : j < l
        · right
          show triE lo' (some j') l = if j < l then some false else none
          rw [if_pos h]
          cases lo' with
          | none => show (if j' < l then some false else none) = _; rw [if_pos (by omega)]
          | some i' =>
            have c : i' ≤ j' := of_decide_eq_true c
            show (if l ≤ i' then some true else if j' < l then some false else none) = _
            rw [if_neg (by omega), if_pos (by omega)]
        · left; show (if j < l then some false else none) = none; rw [if_neg h]
  | some i =>
    cases lo' with
    | none => exact a.elim
    | some i' =>
      have a : i ≤ i' := a
      by_cases h : l ≤ i
      · right
        have e1 : triE (some i) hi l = some true := by cases hi <;> (dsimp only [triE]; rw [if_pos h])
        have e2 : triE (some i') hi' l = some true := by cases hi' <;> (dsimp only [triE]; rw [if_pos (by omega)])
        rw [e1, e2]
      · cases hi with
        | none => left; show (if l ≤ i then some true else none) = none; rw [if_neg h]
        | some j =>
          cases hi' with
          | none => exact b.elim
          | some j' =>
            have b : j' ≤ j := b
            have c : i' ≤ j' := of_decide_eq_true c
            by_cases h2 : j < l
            · right
              show (if l ≤ i' then some true else if j' < l then some false else none) = (if l ≤ i then some true else if j < l then some false else none)
              rw [if_neg h, if_pos h2, if_neg (by omega), if_pos (by omega)]
            · left
              show (if l ≤ i then some true else if j < l then some false else none) = none
              rw [if_neg h, if_neg h2]
theorem told_in {f f' : EF} {w : Wt} (ne : w.names ≠ []) (hn : Nar f' f w.names) (ok : OkE f' w.names) : TIn (told f' w) (told f w) := by
  cases w with
  | sum ws l => exact ⟨addE_lo fun e m => lowE_lo (hn e.1 (List.mem_map_of_mem m)), addE_hi fun e m => highE_hi (hn e.1 (List.mem_map_of_mem m))⟩
  | over ws l => exact tri_in (addE_lo fun e m => lowE_lo (hn e.1 (List.mem_map_of_mem m))) (addE_hi fun e m => highE_hi (hn e.1 (List.mem_map_of_mem m))) (addE_most fun e m => ends_most (ok e.1 (List.mem_map_of_mem m)))
  | most ns l => exact ⟨max_lo fun n m => (hn n m).1, top_hi (fun n m => (hn n m).2) ne⟩
  | count ns l => exact ⟨Int.ofNat_le.mpr (filter_le fun n m => geE_lo (hn n m).1), Int.ofNat_le.mpr (filter_le fun n m => geU_hi (hn n m).2)⟩
theorem within_in {lo hi lo' hi' : Option Int} {l : Int} (a : LoLe lo lo') (b : HiLe hi hi') (h : within lo hi l = true) : within lo' hi' l = true := by
  cases lo <;> cases hi <;> first | cases h | skip
  cases lo' with
  | none => exact a.elim
  | some i' =>
    cases hi' with
    | none => exact b.elim
    | some j' =>
      have h := of_decide_eq_true h
      have a : _ ≤ i' := a
      have b : j' ≤ _ := b
      exact decide_eq_true (by omega)
theorem kept_in {f f' : EF} {w : Wt} (ne : w.names ≠ []) (hn : Nar f' f w.names) (ok : OkE f' w.names) (h : kept f w = true) : kept f' w = true := by
  have t := told_in ne hn ok
  cases w with
  | sum ws l => exact within_in t.1 t.2 h
  | most ns l => exact within_in t.1 t.2 h
  | over ws l =>
    have h : (triE (addE (ws.map (lowE f))) (addE (ws.map (highE f))) l).isSome = true := h
    show (triE (addE (ws.map (lowE f'))) (addE (ws.map (highE f'))) l).isSome = true
    rcases (show _ ∨ _ from t) with q | q
    · rw [q] at h; cases h
    · rw [q]; exact h
  | count ns l =>
    obtain ⟨t1, t2⟩ := t
    have h : decide (some (((ns.filter fun n => geE l (f n).1).length : Nat) : Int) = some (((ns.filter fun n => geU l (f n).2).length : Nat) : Int)) = true := h
    have h := Option.some.inj (of_decide_eq_true h)
    have m : (ns.filter fun n => geE l (f' n).1).length ≤ (ns.filter fun n => geU l (f' n).2).length := filter_le fun n m => ge_most (ok n m)
    show decide (some (((ns.filter fun n => geE l (f' n).1).length : Nat) : Int) = some (((ns.filter fun n => geU l (f' n).2).length : Nat) : Int)) = true
    have t1 := Int.ofNat_le.mp t1
    have t2 := Int.ofNat_le.mp t2
    have h := Int.ofNat.inj h
    exact decide_eq_true (congrArg some (congrArg Int.ofNat (by omega)))
/-! ### single numbers -/
def Wt.slk : Wt → Prop
  | .sum _ l => 0 ≤ l
  | .most _ l => 0 ≤ l
  | _ => True
def ptE (g : Str → Int) : EF := fun x => (some (g x), some (g x))
theorem addE_some {α : Type} (g : α → Int) (ws : List α) : addE (ws.map fun e => some (g e)) = some ((ws.map g).sum) := by
  induction ws with
  | nil => rfl
  | cons e r ih => rw [List.map_cons, addE_cons, ih, List.map_cons, List.sum_cons]; rfl
theorem ends_pt (g : Str → Int) (e : Str × Int) : lowE (ptE g) e = some (e.2 * g e.1) ∧ highE (ptE g) e = some (e.2 * g e.1) := by
  unfold lowE highE ptE
  constructor <;> (split <;> rfl)
theorem pres_some {α : Type} (g : α → Int) (ns : List α) : pres (ns.map fun n => some (g n)) = ns.map g := by
  induction ns with
  | nil => rfl
  | cons n r ih => rw [List.map_cons, List.map_cons, ← ih]; rfl
theorem max_some {ns : List Int} (h : ns ≠ []) : ∃ m, maxO ns = some m := by
  cases e : maxO ns with
  | none => exact absurd (maxO_none e) h
  | some m => exact ⟨m, rfl⟩
theorem kept_pt {g : Str → Int} {w : Wt} (ne : w.names ≠ []) (hs : w.slk) : kept (ptE g) w = true := by
  cases w with
  | sum ws l =>
    have e1 : ws.map (lowE (ptE g)) = ws.map fun e => some (e.2 * g e.1) := List.map_congr_left fun e _ => (ends_pt g e).1
    have e2 : ws.map (highE (ptE g)) = ws.map fun e => some (e.2 * g e.1) := List.map_congr_left fun e _ => (ends_pt g e).2
    show within (addE (ws.map (lowE (ptE g)))) (addE (ws.map (highE (ptE g)))) l = true
    rw [e1, e2, addE_some (fun e : Str × Int => e.2 * g e.1)]
    have hs : 0 ≤ l := hs
    exact decide_eq_true (by omega)
  | over ws l =>
    have e1 : ws.map (lowE (ptE g)) = ws.map fun e => some (e.2 * g e.1) := List.map_congr_left fun e _ => (ends_pt g e).1
    have e2 : ws.map (highE (ptE g)) = ws.map fun e => some (e.2 * g e.1) := List.map_congr_left fun e _ => (ends_pt g e).2
    show (triE (addE (ws.map (lowE (ptE g)))) (addE (ws.map (highE (ptE g)))) l).isSome = true
    rw [e1, e2, addE_some (fun e : Str × Int => e.2 * g e.1)]
    generalize (ws.map fun e : Str × Int => e.2 * g e.1).sum = z
    show (if l ≤ z then some true else if z < l then some false else none).isSome = true
    by_cases h : l ≤ z
    · rw [if_pos h]; rfl
    · rw [if_neg h, if_pos (by omega)]; rfl
  | most ns l =>
    have hs : 0 ≤ l := hs
    have e1 : (ns.map fun n => (ptE g n).1) = ns.map fun n => some (g n) := rfl
    have e2 : (ns.map fun n => (ptE g n).2) = ns.map fun n => some (g n) := rfl
    have ha : (ns.map fun n => some (g n)).all (·.isSome) = true := all_map.mpr fun n _ => ⟨_, rfl⟩
    show within (maxO (pres (ns.map fun n => (ptE g n).1))) (if (ns.map fun n => (ptE g n).2).all (·.isSome) = true then maxO (pres (ns.map fun n => (ptE g n).2)) else none) l = true
    rw [e1, e2, if_pos ha, pres_some g ns]
    obtain ⟨m, e⟩ := max_some (ns := ns.map g) (fun q => ne (List.map_eq_nil_iff.mp q))
    rw [e]
    exact decide_eq_true (by omega)
  | count ns l => exact decide_eq_true rfl
theorem kept_congr {f f' : EF} {w : Wt} (h : ∀ x ∈ w.names, f x = f' x) : told f w = told f' w ∧ kept f w = kept f' w := by
  have t : told f w = told f' w := by
    cases w with
    | sum ws l =>
      have e1 : ws.map (lowE f) = ws.map (lowE f') := List.map_congr_left fun e m => by unfold lowE; rw [h e.1 (List.mem_map_of_mem m)]
      have e2 : ws.map (highE f) = ws.map (highE f') := List.map_congr_left fun e m => by unfold highE; rw [h e.1 (List.mem_map_of_mem m)]
      show Told.pair _ _ = Told.pair _ _
      rw [e1, e2]
    | over ws l =>
      have e1 : ws.map (lowE f) = ws.map (lowE f') := List.map_congr_left fun e m => by unfold lowE; rw [h e.1 (List.mem_map_of_mem m)]
      have e2 : ws.map (highE f) = ws.map (highE f') := List.map_congr_left fun e m => by unfold highE; rw [h e.1 (List.mem_map_of_mem m)]
      show Told.tri _ = Told.tri _
      rw [e1, e2]
    | most ns l =>
      have e1 : (ns.map fun n => (f n).1) = ns.map fun n => (f' n).1 := List.map_congr_left fun e m => by rw [h e m]
      have e2 : (ns.map fun n => (f n).2) = ns.map fun n => (f' n).2 := List.map_congr_left fun e m => by rw [h e m]
      show Told.pair _ _ = Told.pair _ _
      rw [e1, e2]
    | count ns l =>
      have e1 : (ns.filter fun n => geE l (f n).1) = ns.filter fun n => geE l (f' n).1 := List.filter_congr fun e m => by rw [h e m]
      have e2 : (ns.filter fun n => geU l (f n).2) = ns.filter fun n => geU l (f' n).2 := List.filter_congr fun e m => by rw [h e m]
      show Told.pair _ _ = Told.pair _ _
      rw [e1, e2]
  refine ⟨t, ?_⟩
  cases w <;> (unfold kept; rw [t])
end Sil
set_option Elab.async false
set_option linter.all false
set_option maxRecDepth 100000
set_option maxHeartbeats 1000000
/-! P20: what stays where lists change; pairs as targets; bands cut. -/
namespace Sil
open PySem L2 PySem.Spec PyProof.Rows
/-- all but lists stays -/
def NKeep (H H' : Hp) : Prop := ∀ p o, H p = some o → (∀ xs, o ≠ .lst xs) → H' p = some o
theorem NKeep.same {H H' : Hp} (s : Same H H') : NKeep H H' := fun p o e _ => s p o e
theorem NKeep.step {b : Addr} {H H' : Hp} (hb : Bag H b) (s : Step b H H') : NKeep H H' := fun p o e n => s.at e (bag_ne hb e n)
theorem NKeep.trans {H H1 H2 : Hp} (a : NKeep H H1) (b : NKeep H1 H2) : NKeep H H2 := fun p o e n => b p o (a p o e n) n
theorem NKeep.upd {H : Hp} {c : Addr} {xs ys : List V} (h : H c = some (.lst xs)) : NKeep H (upd H c (.lst ys)) := fun p o e n => by
  rw [upd_ne (ne_of e h (n xs))]; exact e
theorem NKeep.tup {H H' : Hp} (k : NKeep H H') {p : Addr} {xs : List V} (h : H p = some (.tup xs)) : H' p = some (.tup xs) := k p _ h fun _ q => nomatch q
theorem NKeep.dk {H H' : Hp} (k : NKeep H H') {p : Addr} {xs : List (L2.Key × V)} (h : H p = some (.dK xs)) : H' p = some (.dK xs) := k p _ h fun _ q => nomatch q
theorem NKeep.ins {H H' : Hp} (k : NKeep H H') {p C dx : Addr} {fs : List (Str × V)} (h : H p = some (.ins C dx fs)) : H' p = some (.ins C dx fs) := k p _ h fun _ q => nomatch q
theorem NKeep.band {H H' : Hp} (k : NKeep H H') {C p : Addr} {lo hi : Option Int} : BandAt C H p lo hi → BandAt C H' p lo hi := fun ⟨dx, h⟩ => ⟨dx, k.ins h⟩
theorem NKeep.tk {H H' : Hp} (k : NKeep H H') : TKeep H H' := fun p xs h => k.tup h
theorem NKeep.bands {H H' : Hp} (k : NKeep H H') {C d : Addr} {f : EF} {ns : List (Str × V)} (h : BandsX C H d f ns) : BandsX C H' d f ns :=
  ⟨k.dk h.at_, fun e m => let ⟨q, e1, e2⟩ := h.band e m; ⟨q, e1, k.band e2⟩⟩
theorem NKeep.num {H H' : Hp} (k : NKeep H H') {d : Addr} {ns : List (Str × Int)} {xs : List Str} (h : NumAt H d ns xs) : NumAt H' d ns xs := ⟨k.dk h.at_, h.has⟩
theorem NumAt.stp {b d : Addr} {H H' : Hp} {ns : List (Str × Int)} {xs : List Str} (hb : Bag H b) (s : Step b H H') (h : NumAt H d ns xs) : NumAt H' d ns xs := (NKeep.step hb s).num h
/-- the target of a comprehension that draws is a pair of names -/
theorem turnB_pair {K : PySem.W.Frag} {b q : Addr} {tt : TT} {te : TE} {vs : List Nat} {σ : L2.St} {i j : Nat} {El : V → Hp → Prop} {v1 v2 : V} {G : Hp} (hq : G q = some (.tup [v1, v2]))
    (hw : wipe (((wipe σ vs).set i (some v1)).set j (some v2)) vs = wipe σ vs)
    (h : ∀ (R : V → Hp → Prop) (Ny : Hp → Prop), (∀ y G', Step b G G' → El y G' → R y G') → tt (((wipe σ vs).set i (some v1)).set j (some v2)) G fun c H3 => if c = true then te (((wipe σ vs).set i (some v1)).set j (some v2)) H3 R else Ny H3) :
    TurnB b (gTup K 2 (gCons (gName i) (gCons (gName j) gNil))) tt te vs σ El (.ref q) G := fun R Ny k =>
  w_gtup (SqT.at hq) rfl (w_gcons (w_name (w_gcons (w_name (w_gnil ⟨hw, h R Ny k⟩)))))
/-! ### dicts of any values -/
theorem put_gen {ns : List (Str × V)} {x : Str} {v : V} (h : x ∈ ns.map (·.1)) : ∃ ns', putK (genKv ns) (.inr x) v = genKv ns' ∧ ns'.map (·.1) = ns.map (·.1) ∧ ∀ e ∈ ns', (e.1 ≠ x ∧ e ∈ ns) ∨ (e.1 = x ∧ e.2 = v) := by
  refine ⟨ns.map fun p => if p.1 = x then (p.1, v) else p, ?_, ?_, ?_⟩
  · unfold putK
    rw [if_pos]
    · unfold genKv
      rw [List.map_map, List.map_map]
      apply List.map_congr_left
      intro p m
      by_cases q : p.1 = x
      · simp [q]
      · have : ¬ (Sum.inr p.1 : L2.Key) = Sum.inr x := fun z => q (by injection z)
        simp [q]
    · rw [List.any_eq_true]
      obtain ⟨p, m, rfl⟩ := List.mem_map.mp h
      exact ⟨(.inr p.1, p.2), List.mem_map.mpr ⟨p, m, rfl⟩, decide_eq_true rfl⟩
  · rw [List.map_map]
    apply List.map_congr_left
    intro p m
    show (if p.1 = x then (p.1, v) else p).1 = p.1
    split <;> rfl
  · intro e m
    obtain ⟨p, mp, rfl⟩ := List.mem_map.mp m
    by_cases q : p.1 = x
    · rw [if_pos q]; exact .inr ⟨q, rfl⟩
    · rw [if_neg q]; exact .inl ⟨q, mp⟩
theorem nodup_snd {α β : Type} : ∀ {ws : List (α × β)} {e e' : α × β}, (ws.map (·.1)).Nodup → e ∈ ws → e' ∈ ws → e.1 = e'.1 → e = e'
  | [], _, _, _, h, _, _ => nomatch h
  | w :: r, e, e', nd, h, h', q => by
    rw [List.map_cons, List.nodup_cons] at nd
    rcases List.mem_cons.mp h with rfl | m
    · rcases List.mem_cons.mp h' with rfl | m'
      · rfl
      · exact absurd (List.mem_map.mpr ⟨e', m', q.symm⟩) nd.1
    · rcases List.mem_cons.mp h' with rfl | m'
      · exact absurd (List.mem_map.mpr ⟨e, m, q⟩) nd.1
      · exact nodup_snd nd.2 m m' q
/-- the ends of names as a function -/
theorem ends_fn {H : Hp} {ws : List (Str × V)} (nd : (ws.map (·.1)).Nodup) (h : ∀ e ∈ ws, EndsV e.1 e.2 H) :
    ∃ f : EF, ∀ e ∈ ws, ∃ q, e.2 = .ref q ∧ H q = some (.tup [eV (f e.1).1, eV (f e.1).2]) ∧ Small (f e.1).1 ∧ Small (f e.1).2 ∧ atMost (f e.1).1 (f e.1).2 = true := by
  have hx : ∀ x : Str, ∃ p : Option Int × Option Int, ∀ e ∈ ws, e.1 = x → ∃ q, e.2 = .ref q ∧ H q = some (.tup [eV p.1, eV p.2]) ∧ Small p.1 ∧ Small p.2 ∧ atMost p.1 p.2 = true := fun x => by
    by_cases m : ∃ e ∈ ws, e.1 = x
    · obtain ⟨e, me, ex⟩ := m
      obtain ⟨q, lo, hi, e1, e2, e3, e4, e5⟩ := h e me
      refine ⟨(lo, hi), fun e' me' ex' => ?_⟩
      have : e' = e := nodup_snd nd me' me (ex'.trans ex.symm)
      subst this
      exact ⟨q, e1, e2, e3, e4, e5⟩
    · exact ⟨(none, none), fun e me ex => absurd ⟨e, me, ex⟩ m⟩
  obtain ⟨f, hf⟩ := Classical.axiomOfChoice hx
  exact ⟨f, fun e me => hf e.1 e me rfl⟩
theorem gen_num {ws : List (Str × V)} {g : Str → Int} {xs : List Str} (h1 : ws.map (·.1) = xs) (h2 : ∀ e ∈ ws, e.2 = .int (g e.1)) : genKv ws = numKv (xs.map fun x => (x, g x)) := by
  subst h1
  unfold genKv numKv
  rw [List.map_map, List.map_map]
  apply List.map_congr_left
  intro e m
  show ((Sum.inr e.1 : L2.Key), e.2) = (.inr e.1, .int (g e.1))
  rw [h2 e m]
theorem num_fn {g : Str → Int} {xs : List Str} {x : Str} (h : x ∈ xs) : num (xs.map fun x => (x, g x)) x = g x := by
  have m := num_mem (ns := xs.map fun x => (x, g x)) (x := x) (by rw [List.map_map]; exact List.mem_map.mpr ⟨x, h, rfl⟩)
  obtain ⟨y, _, e⟩ := List.mem_map.mp m
  injection e with e1 e2
  subst e1
  exact e2.symm
/-! ### cuts -/
def HasI (e : Option Int × Option Int) (i : Int) : Prop := LoLe e.1 (some i) ∧ HiLe e.2 (some i)
theorem HasI.most {e : Option Int × Option Int} {i : Int} (h : HasI e i) : atMost e.1 e.2 = true := most_of fun a b e1 e2 => by
  obtain ⟨h1, h2⟩ := h
  rw [e1] at h1
  rw [e2] at h2
  exact Int.le_trans h1 h2
def cutE (a b : Option Int × Option Int) : Option Int × Option Int := (maxE a.1 b.1, minE a.2 b.2)
theorem HasI.cut {a b : Option Int × Option Int} {i : Int} (h : HasI a i) (k : HasI b i) : HasI (cutE a b) i := by
  obtain ⟨a1, a2⟩ := a
  obtain ⟨b1, b2⟩ := b
  obtain ⟨h1, h2⟩ := h
  obtain ⟨k1, k2⟩ := k
  refine ⟨?_, ?_⟩
  · cases a1 with
    | none => exact k1
    | some x =>
      cases b1 with
      | none => exact h1
      | some y =>
        have h1 : x ≤ i := h1
        have k1 : y ≤ i := k1
        show max x y ≤ i
        omega
  · cases a2 with
    | none => exact k2
    | some x =>
      cases b2 with
      | none => exact h2
      | some y =>
        have h2 : i ≤ x := h2
        have k2 : i ≤ y := k2
        show i ≤ min x y
        omega
theorem cut_nar (a b : Option Int × Option Int) : LoLe a.1 (cutE a b).1 ∧ HiLe a.2 (cutE a b).2 := by
  obtain ⟨a1, a2⟩ := a
  obtain ⟨b1, b2⟩ := b
  refine ⟨?_, ?_⟩
  · cases a1 with
    | none => trivial
    | some x =>
      cases b1 with
      | none => exact Int.le_refl x
      | some y => show x ≤ max x y; omega
  · cases a2 with
    | none => trivial
    | some x =>
      cases b2 with
      | none => exact Int.le_refl x
      | some y => show min x y ≤ x; omega
theorem maxE_comm (a b c : Option Int) : maxE (maxE a b) c = maxE (maxE a c) b := by
  cases a <;> cases b <;> cases c <;> simp only [maxE] <;> (try rfl) <;> (congr 1; omega)
theorem minE_comm (a b c : Option Int) : minE (minE a b) c = minE (minE a c) b := by
  cases a <;> cases b <;> cases c <;> simp only [minE] <;> (try rfl) <;> (congr 1; omega)
theorem cutE_comm (a b c : Option Int × Option Int) : cutE (cutE a b) c = cutE (cutE a c) b := by
  unfold cutE
  rw [maxE_comm, minE_comm]
abbrev Cut := Str × (Option Int × Option Int)
def cutF (f : EF) (c : Cut) : EF := fun x => if x = c.1 then cutE (f x) c.2 else f x
theorem cutF_comm (f : EF) (a b : Cut) : cutF (cutF f a) b = cutF (cutF f b) a := by
  funext x
  unfold cutF
  by_cases h1 : x = a.1 <;> by_cases h2 : x = b.1
  · simp only [if_pos h1, if_pos h2, cutE_comm]
  · simp only [if_pos h1, if_neg h2]
  · simp only [if_neg h1, if_pos h2]
  · simp only [if_neg h1, if_neg h2]
theorem fold_comm (cs : List Cut) (f : EF) (c : Cut) : cs.foldl cutF (cutF f c) = cutF (cs.foldl cutF f) c := by
  induction cs generalizing f with
  | nil => rfl
  | cons d r ih => rw [List.foldl_cons, List.foldl_cons, cutF_comm, ih]
theorem fold_rev (cs : List Cut) (f : EF) : cs.reverse.foldl cutF f = cs.foldl cutF f := by
  induction cs generalizing f with
  | nil => rfl
  | cons d r ih => rw [List.reverse_cons, List.foldl_append, ih, List.foldl_cons, List.foldl_cons, List.foldl_nil, fold_comm]
theorem fold_has {g : Str → Int} : ∀ {cs : List Cut} {f : EF} {xs : List Str}, (∀ x ∈ xs, HasI (f x) (g x)) → (∀ c ∈ cs, HasI c.2 (g c.1)) → ∀ x ∈ xs, HasI (cs.foldl cutF f x) (g x)
  | [], f, xs, h, _, x, m => h x m
  | c :: r, f, xs, h, k, x, m => by
    refine fold_has (cs := r) (f := cutF f c) (xs := xs) (fun y my => ?_) (fun d md => k d (List.mem_cons_of_mem _ md)) x m
    unfold cutF
    by_cases hq : y = c.1
    · rw [if_pos hq]
      refine (h y my).cut ?_
      rw [hq]
      exact k c List.mem_cons_self
    · rw [if_neg hq]; exact h y my
theorem fold_nar : ∀ {cs : List Cut} {f : EF} {xs : List Str}, Nar (cs.foldl cutF f) f xs
  | [], f, xs => Nar.refl f xs
  | c :: r, f, xs => (fold_nar (cs := r) (f := cutF f c)).trans fun x m => by
    unfold cutF
    by_cases hq : x = c.1
    · rw [if_pos hq]; exact cut_nar _ _
    · rw [if_neg hq]; exact ⟨.refl _, .refl _⟩
def ptOf : Option Int × Option Int → Int
  | (some i, _) => i
  | (none, some j) => j
  | (none, none) => 0
theorem pt_has {e : Option Int × Option Int} (h : atMost e.1 e.2 = true) : HasI e (ptOf e) := by
  obtain ⟨lo, hi⟩ := e
  cases lo with
  | none =>
    cases hi with
    | none => exact ⟨trivial, trivial⟩
    | some j => exact ⟨trivial, Int.le_refl j⟩
  | some i =>
    cases hi with
    | none => exact ⟨Int.le_refl i, trivial⟩
    | some j =>
      have h : decide (i ≤ j) = true := h
      exact ⟨Int.le_refl i, (of_decide_eq_true h : i ≤ j)⟩
theorem pt_nar {g : Str → Int} {f : EF} {xs : List Str} (h : ∀ x ∈ xs, HasI (f x) (g x)) : Nar (ptE g) f xs := fun x m => h x m
/-- a cut: a name and a band -/
def CutAt (C : Addr) (H : Hp) (q : Addr) (e : Cut) : Prop := ∃ p, H q = some (.tup [.str e.1, .ref p]) ∧ BandAt C H p e.2.1 e.2.2
theorem CutAt.keep {C q : Addr} {H H' : Hp} {e : Cut} (k : NKeep H H') : CutAt C H q e → CutAt C H' q e := fun ⟨p, h1, h2⟩ => ⟨p, k.tup h1, k.band h2⟩
theorem cuts_keep {C : Addr} {H H' : Hp} (k : NKeep H H') : ∀ {ps : List Addr} {cs : List Cut}, Paired (CutAt C H) ps cs → Paired (CutAt C H') ps cs
  | _, _, .nil => .nil
  | _, _, .cons h r => .cons (h.keep k) (cuts_keep k r)
theorem paired_get {α β : Type} {R : α → β → Prop} : ∀ {ps : List α} {cs : List β} (_ : Paired R ps cs) {i : Nat} {p : α}, ps[i]? = some p → ∃ c, cs[i]? = some c ∧ R p c
  | _, _, .nil, i, p, h => by cases h
  | _, _, .cons (b := c) h r, 0, p, hi => by cases hi; exact ⟨c, rfl, h⟩
  | _, _, .cons h r, i + 1, p, hi => paired_get r hi
theorem paired_app {α β : Type} {R : α → β → Prop} : ∀ {ps qs : List α} {cs ds : List β}, Paired R ps cs → Paired R qs ds → Paired R (ps ++ qs) (cs ++ ds)
  | _, _, _, _, .nil, k => k
  | _, _, _, _, .cons h r, k => .cons h (paired_app r k)
theorem paired_rev {α β : Type} {R : α → β → Prop} : ∀ {ps : List α} {cs : List β}, Paired R ps cs → Paired R ps.reverse cs.reverse
  | _, _, .nil => .nil
  | _, _, .cons h r => by
    rw [List.reverse_cons, List.reverse_cons]
    exact paired_app (paired_rev r) (.cons h .nil)
theorem HasI.tiny {e : Option Int × Option Int} (h1 : Small e.1) (h2 : Small e.2) : (ptOf e).natAbs < 2 ^ 200 := by
  obtain ⟨lo, hi⟩ := e
  cases lo with
  | none =>
    cases hi with
    | none => decide
    | some j => exact h2 j rfl
  | some i => exact h1 i rfl
/-! ### xs[::-1] -/
def kRevL (K : PySem.W.Frag) (x : V) (H1 : Hp) (Q : VK) : Prop := ∃ a xs, x = .ref a ∧ SqL K H1 a xs ∧ ∀ p, H1 p = none → Q (.ref p) (upd H1 p (.lst xs.reverse))
theorem pe_revLK {X : Cx} (K : PySem.W.Frag) {e : Expr} {te : TE} {k : Nat} {p1 p2 p3 pos : Pos} (he : PE X e te) (h : X.K = K := by rfl) : PE X (.Subscript e (.Slice none none (some (.UnaryOp .USub (.Constant (.int 1) k p1) p2)) p3) pos) (tRevL K te) := by
  subst h; exact pe_revL he
theorem w_revL {K : PySem.W.Frag} {te : TE} {σ : L2.St} {H : Hp} {Q : VK} (k : te σ H fun x H1 => kRevL K x H1 Q) : tRevL K te σ H Q := k
theorem k_revL {K : PySem.W.Frag} {H : Hp} {Q : VK} {a : Addr} {xs : List V} (h : SqL K H a xs) (k : ∀ p H', H p = none → Same H H' → H' p = some (.lst xs.reverse) → Q (.ref p) H') : kRevL K (.ref a) H Q :=
  ⟨a, xs, rfl, h, fun p np => k p _ np (same_new np) upd_same⟩
/-! ### bands that are the same -/
def RBand (C : Addr) (a b : Addr) (H : Hp) : Prop := ∃ lo hi, BandAt C H a lo hi ∧ BandAt C H b lo hi
theorem mon_band (C : Addr) : Mon (DIns C (RBand C)) := mon_ins fun a b H H' e ⟨lo, hi, h1, h2⟩ => ⟨lo, hi, h1.mono e, h2.mono e⟩
theorem dband {C a b : Addr} {H : Hp} {lo hi : Option Int} (h1 : BandAt C H a lo hi) (h2 : BandAt C H b lo hi) : DIns C (RBand C) (.ref a) (.ref b) H :=
  let ⟨dx, e1⟩ := h1; let ⟨dy, e2⟩ := h2; ⟨a, b, dx, dy, _, _, rfl, rfl, e1, e2, lo, hi, ⟨dx, e1⟩, ⟨dy, e2⟩⟩
theorem fnOk_imp {P : Program} {w : World} {K : PySem.W.Frag} {mg : Str → Option Value} {base : Heap} {CX : CXT} {k : Nat} {f : Addr} {fd : FuncData} {ps : List Str} {sp sp' : Sp} (F : FnOk P w K mg base CX k f fd ps sp) (h : ∀ vs H Q E, sp' vs H Q E → sp vs H Q E) :
    FnOk P w K mg base CX k f fd ps sp' := ⟨fun vs H Q E q => F.len vs H Q E (h _ _ _ _ q), fun A o s H a us vs Q E r e b v q => F.run A o s H a us vs Q E r e b v (h _ _ _ _ q)⟩
/-- two dicts of bands with the same ends by the same names are the same -/
theorem ddict_bands {C a b : Addr} {H : Hp} {f : EF} {ns ms : List (Str × V)} (hne : a ≠ b) (h1 : BandsX C H a f ns) (h2 : BandsX C H b f ms) (hl : ns.map (·.1) = ms.map (·.1)) : DDict (DIns C (RBand C)) (.ref a) (.ref b) H := by
  refine ⟨a, b, _, _, rfl, rfl, hne, h1.at_, h2.at_, ?_, fun p m => ?_⟩
  · have := congrArg List.length hl
    unfold genKv
    rw [List.length_map, List.length_map] at *
    exact this
  · unfold genKv at m
    obtain ⟨e, me, rfl⟩ := List.mem_map.mp m
    obtain ⟨v, ev, mv⟩ := gen_val (ws := ms) (x := e.1) (by rw [← hl]; exact List.mem_map_of_mem me)
    obtain ⟨q, e1, b1⟩ := h1.band e me
    obtain ⟨q2, e2, b2⟩ := h2.band _ mv
    refine ⟨v, ev, fun H' lk => ?_⟩
    dsimp only at e2 b2 ⊢
    rw [e1, e2]
    exact dband (lk.band b1) (lk.band b2)
end Sil
set_option Elab.async false
set_option linter.all false
set_option maxRecDepth 100000
set_option maxHeartbeats 3200000
/-! P23: len(set(xs)) of numbers or of truths. -/
namespace Sil
open PySem PySem.Spec PyProof.Rows
section
variable {κ : Type} [DecidableEq κ]
def stepD (σ : List κ) (v : κ) : List κ := if v ∈ σ then σ else σ ++ [v]
def nubTo (val : Nat → κ) (i : Nat) : List κ := ((List.range i).map val).foldl stepD []
theorem nubTo_succ (val : Nat → κ) (i : Nat) : nubTo val (i + 1) = stepD (nubTo val i) (val i) := by
  unfold nubTo; rw [List.range_succ, List.map_append, List.foldl_append]; rfl
theorem nubTo_le (val : Nat → κ) : ∀ i, (nubTo val i).length ≤ i
  | 0 => Nat.le_refl _
  | i + 1 => by
    rw [nubTo_succ]; unfold stepD
    have ih := nubTo_le val i
    split
    · omega
    · rw [List.length_append, List.length_singleton]; omega
theorem nubTo_mem (val : Nat → κ) (k : κ) : ∀ i, k ∈ nubTo val i ↔ ∃ j, j < i ∧ val j = k
  | 0 => ⟨fun h => (by cases h), fun h => (by obtain ⟨j, h, _⟩ := h; exact absurd h (Nat.not_lt_zero _))⟩
  | i + 1 => by
    have ih := nubTo_mem val k i
    have e : k ∈ nubTo val (i + 1) ↔ k ∈ nubTo val i ∨ k = val i := by
      rw [nubTo_succ]; unfold stepD
      split
      · rename_i h
        refine ⟨.inl, fun q => q.elim id fun q => by rw [q]; exact h⟩
      · rw [List.mem_append, List.mem_singleton]
    rw [e, ih]
    refine ⟨fun q => ?_, fun ⟨j, hj, ej⟩ => ?_⟩
    · rcases q with ⟨j, hj, ej⟩ | q
      · exact ⟨j, Nat.lt_succ_of_lt hj, ej⟩
      · exact ⟨i, Nat.lt_succ_self _, q.symm⟩
    · rcases Nat.lt_succ_iff_lt_or_eq.mp hj with q | q
      · exact .inl ⟨j, q, ej⟩
      · subst q; exact .inr ej.symm
theorem nubTo_nodup (val : Nat → κ) : ∀ i, (nubTo val i).Nodup
  | 0 => List.nodup_nil
  | i + 1 => by
    rw [nubTo_succ]; unfold stepD
    have ih := nubTo_nodup val i
    split
    · exact ih
    · rename_i h
      rw [List.nodup_append]
      exact ⟨ih, by simp, fun a ha b hb e => by rw [List.mem_singleton] at hb; subst hb; subst e; exact h ha⟩
end
section
variable {prog : Program} {w : World} {κ : Type} [DecidableEq κ] {knd : KeyKind prog w κ}
theorem setOf_congr {h : Heap} {a : Addr} {S S' : κ → Bool} {n n' : Nat} (hS : h.SetOf knd a S n) (e : ∀ k, S k = S' k) (en : n = n') : h.SetOf knd a S' n' := by
  have : S = S' := funext e
  subst this en; exact hS
variable {A : Around} {R : Result → Shared → Prop} {I : Addr} {fp wr : List Addr} {G : Array GenState → Array GenState → Prop} {n : Nat} {P : Nat → Value → Prop} {St : Nat → Shared → Prop}
theorem set_goes (W : WalksS prog w A.in1 I fp wr G n P St) (S : Addr) (hSf : S ∉ fp) (val : Nat → κ) (hval : ∀ i v, P i v → knd.is (val i) v = true ∧ v.scannable = true) (hb : n + 1 < scanBound) :
    ∀ (k i : Nat) (s : Shared), n - i = k → i ≤ n → St i s → s.heap.SetOf knd S (fun z => decide (z ∈ nubTo val i)) (nubTo val i).length →
      (∀ s', Moved (S :: wr) G s s' → s'.heap.SetOf knd S (fun z => decide (z ∈ nubTo val n)) (nubTo val n).length → R (.ok (.ret .none)) s') →
      codeAny (model prog w) A (.builtin "set.update.loop" ⟨[.ref S, .ref I], []⟩) R s := by
  have hSw : S ∉ wr := fun h => hSf (W.sub _ h)
  have up : ∀ b ∈ wr, b ∈ S :: wr := fun b m => List.mem_cons_of_mem _ m
  intro k
  induction k with
  | zero =>
    intro i s hk hi st hS hR
    have en : i = n := by omega
    subst en
    refine codeAny_builtin PyProof.Rows.F.entry_set_update_loop ?_
    rw [Around.under_plainId PyProof.Rows.F.plain_set_update_loop _]
    show wpAny _ A.in1 (pyNext (.ref I) >>= _) _ _ s
    refine wpAny_bind (W.done s _ _ st fun s' hm => wpAny_pure (hR s' (hm.mono up) ?_))
    obtain ⟨o, es, ep, t, ho, rest⟩ := hS
    exact ⟨o, es, ep, t, hm.heap S _ hSw ho, rest⟩
  | succ k ih =>
    intro i s hk hi st hS hR
    have lt : i < n := by omega
    refine codeAny_builtin PyProof.Rows.F.entry_set_update_loop ?_
    rw [Around.under_plainId PyProof.Rows.F.plain_set_update_loop _]
    show wpAny _ A.in1 (pyNext (.ref I) >>= _) _ _ s
    refine wpAny_bind (W.item i s _ _ lt st fun v s' hP st' hm => ?_)
    obtain ⟨hv, hsc⟩ := hval i v hP
    have hS' : s'.heap.SetOf knd S (fun z => decide (z ∈ nubTo val i)) (nubTo val i).length := by
      obtain ⟨o, es, ep, tb, ho, rest⟩ := hS
      exact ⟨o, es, ep, tb, hm.heap S _ hSw ho, rest⟩
    show wpAny _ A.in1 (holding [v] (setAdd S v) >>= _) _ _ s'
    refine wpAny_bind (wpAny_holding ?_)
    unfold setAdd
    refine wpAny_holding (wpAny_bind (knd.pyHash (k := val i) hv ?_))
    have room : (nubTo val i).length + 1 < scanBound := by have := nubTo_le val i; omega
    refine wpAny_setAddHashed_of (knd := knd) (s := { s' with toks := s'.toks + 1 }) hv hsc hS' room fun h' hsb hS2 => ?_
    have hSi : h'.SetOf knd S (fun z => decide (z ∈ nubTo val (i + 1))) (nubTo val (i + 1)).length := by
      refine setOf_congr hS2 (fun z => ?_) ?_
      · rw [nubTo_succ]
        unfold stepD
        by_cases q : val i ∈ nubTo val i
        · rw [if_pos q]
          by_cases e : z = val i
          · subst e; simp [q]
          · simp [e]
        · rw [if_neg q]
          simp
      · rw [nubTo_succ]
        unfold stepD
        by_cases q : val i ∈ nubTo val i
        · rw [if_pos q, if_pos (by simpa using q)]
        · rw [if_neg q, if_neg (by simpa using q), List.length_append]; rfl
    refine wpAny_pure ⟨plainId_quiet PyProof.Rows.F.plain_set_update_loop _, ih (i + 1) _ (by omega) lt (W.frame _ s' _ _ st' (Nat.le_succ _) fun b m o e => ?_) hSi fun s2 hm2 hS3 => ?_⟩
    · rw [hsb.2 b (fun h : b = S => hSf (by rw [← h]; exact m))]; exact e
    · refine hR s2 (Moved.trans W.gtrans ((hm.mono up).then_heap (Nat.le_succ _) fun b o m e => ?_) hm2) hS3
      rw [hsb.2 b (fun h : b = S => m (by rw [h]; exact List.mem_cons_self))]; exact e
end
section
variable {prog : Program} {w : World} {κ : Type} [DecidableEq κ] {knd : KeyKind prog w κ} {A : Around} {E : Value → Shared → Prop} {s : Shared}
theorem set_of_list {l : Addr} {items : Array Value} {val : Nat → κ} {Q : Value → Shared → Prop} (hh : A.handled = none) (hl : s.heap.IsList l items) (hval : ∀ i v, items[i]? = some v → knd.is (val i) v = true ∧ v.scannable = true) (hb : items.size + 1 < scanBound)
    (h : ∀ (h' : Heap) (tk : Nat), h'.SetOf knd s.heap.objs.size (fun z => decide (z ∈ nubTo val items.size)) (nubTo val items.size).length →
      (∀ b o, b < s.heap.objs.size → s.heap.get? b = some o → h'.get? b = some o) → Q (.ref s.heap.objs.size) { s with heap := h', toks := tk }) :
    wpAny (model prog w) A (call (.type "set") [.ref l]) Q E s := by
  obtain ⟨c, tl, hmro⟩ := PySem.F.called_set.mro
  have hmade := PySem.F.called_set.made
  have hsub := PySem.F.called_set.sub
  refine wpAny_call (codeAny_of_tree ?_)
  show wpAny _ _ (callAny (.type "set") _) _ _ _
  refine wpAny_pure ⟨Code.quiet_builtin _ (by decide +kernel), codeAny_builtin PySem.F.entry_type_call ?_⟩
  rw [Around.under_plain (weight_type_call_type "set" [.ref l] []) rfl]
  have h1 := PySem.F.called_set.notType
  have h2 := PySem.F.called_set.canCreate
  have hct := PySem.F.typeCall_set_1 (.ref l)
  repeat (any_goals (first | assumption | wp_step))
  refine codeAny_mono (code_set_new_1 (.ref l) (E := E) (Q₁ := fun obj s₁ => ∃ led : Bool, obj = .ref s.heap.objs.size ∧ s₁ = { s with heap := s.heap.push { cls := .type "set", dict := none, data := .set #[] 0 (.fresh 0 0 led) } }) fun led => ⟨led, rfl, rfl⟩) fun r s₁ hr => ?_
  cases r with
  | error e => exact hr
  | ok fl =>
    cases fl with
    | ret obj =>
      obtain ⟨led, rfl, rfl⟩ := hr
      have hS : (s.heap.push { cls := .type "set", dict := none, data := .set #[] 0 (.fresh 0 0 led) }).get? s.heap.objs.size = some { cls := .type "set", dict := none, data := .set #[] 0 (.fresh 0 0 led) } := Heap.get?_push_size _ rfl
      have hT : Shared.TypeIs { s with heap := s.heap.push { cls := .type "set", dict := none, data := .set #[] 0 (.fresh 0 0 led) } } (.ref s.heap.objs.size) "set" := ⟨_, hS, rfl⟩
      have hli := PySem.F.called_set.init.lookup
      have hbi := PySem.F.called_set.init.bind (.ref s.heap.objs.size)
      repeat (any_goals (first | assumption | wp_step))
      refine codeAny_mono (codeAny_call_builtin (R := wants (fun r s₂ => r = .none ∧ ∃ h' tk, s₂ = { s with heap := h', toks := tk } ∧
          h'.SetOf knd s.heap.objs.size (fun z => decide (z ∈ nubTo val items.size)) (nubTo val items.size).length ∧
          (∀ b o, b < s.heap.objs.size → s.heap.get? b = some o → h'.get? b = some o)) E) PySem.F.called_set.init.plain PySem.F.entry_set_init (check_set_init_1 hT ?_)) fun r₂ s₂ hr₂ => ?_
      · obtain ⟨⟨ocls, odict, odata, oslots⟩, hol, hcl, nl, hdl⟩ := hl
        simp only at hcl hdl
        subst hcl hdl
        have hol' : (s.heap.push { cls := .type "set", dict := none, data := .set #[] 0 (.fresh 0 0 led) }).get? l = some { cls := .type "list", dict := odict, data := .seq items nl, slots := oslots } := Heap.get?_push_of_some _ hol
        have hsls := PySem.F.sub_list_set
        have hslf := PySem.F.sub_list_frozenset
        have hne : (Value.type "list" == Value.type "dict") = false := by decide
        have hl1 : (s.heap.push { cls := .type "set", dict := none, data := .set #[] 0 (.fresh 0 0 led) }).IsList l items := ⟨_, hol', rfl, nl, rfl⟩
        unfold Builtin.«set.__init__» noKeywords Builtin.Frozenset.updateFrom
        generalize hPI : pyIter = PI
        wp_walk
        subst hPI
        refine wpAny_pyIter_list hl1 ?_
        refine wpAny_bind (wpAny_runValue ?_)
        have hlS : l < s.heap.objs.size := Heap.lt_size hol
        have hh3 : A.in1.in1.in1.handled = none := by simp [hh]
        have hneI : l ≠ (s.heap.push { cls := .type "set", dict := none, data := .set #[] 0 (.fresh 0 0 led) }).objs.size := by rw [Heap.size_push]; exact Nat.ne_of_lt (Nat.lt_succ_of_lt hlS)
        have hSf : s.heap.objs.size ∉ [(s.heap.push { cls := .type "set", dict := none, data := .set #[] 0 (.fresh 0 0 led) }).objs.size, l] := by
          rw [Heap.size_push]
          intro m
          rcases List.mem_cons.mp m with q | q
          · exact absurd q (Nat.ne_of_lt (Nat.lt_succ_self _))
          · exact absurd (List.mem_singleton.mp q) (Nat.ne_of_gt hlS)
        refine set_goes (knd := knd) ((Walks.list hh3 _ l hneI items).toS) s.heap.objs.size hSf val hval hb (items.size - 0) 0 _ (by omega) (Nat.zero_le _) ⟨⟨_, Heap.get?_push_size _ rfl, rfl, rfl⟩, hl1.push _⟩ ?_ fun s' hm hS' => ?_
        · have hget : ((s.heap.push { cls := .type "set", dict := none, data := .set #[] 0 (.fresh 0 0 led) }).push { cls := .type "list_iterator", data := .fields #[.ref l, .int 0 0] }).get? s.heap.objs.size = some { cls := .type "set", dict := none, data := .set #[] 0 (.fresh 0 0 led) } := Heap.get?_push_of_some _ hS
          exact setOf_congr ((PyProof.Rows.setObjOf_fresh (knd := knd) led).setOf hget (by unfold scanBound; omega)) (fun z => by simp [nubTo]) rfl
        · obtain ⟨h', g', d', tk', os'⟩ := s'
          have eg : g' = s.gens := hm.gens
          have ed : d' = s.drawn := hm.drawn
          have eo : os' = s.os := hm.os
          subst eg ed eo
          show wpAny _ _ _ _ _ _
          refine wpAny_pure ?_
          show wpAny _ _ (ret Value.none) _ _ _
          refine wpAny_pure ⟨rfl, h', tk', rfl, hS', fun b o hb e => ?_⟩
          refine hm.heap b o (fun m => ?_) (Heap.get?_push_of_some _ (Heap.get?_push_of_some _ e))
          rcases List.mem_cons.mp m with q | q
          · exact absurd q (Nat.ne_of_lt hb)
          · rw [List.mem_singleton, Heap.size_push] at q
            exact absurd q (Nat.ne_of_lt (Nat.lt_succ_of_lt hb))
      · cases r₂ with
        | error e => exact hr₂
        | ok fl₂ =>
          cases fl₂ with
          | ret r =>
            obtain ⟨rfl, h', tk, rfl, hS', hk'⟩ := hr₂
            repeat (any_goals (first | assumption | wp_step))
            exact h _ _ hS' hk'
          | _ => exact hr₂.elim
    | _ => exact hr.elim
end
open L2
def kLenSet (K : PySem.W.Frag) (x : V) (H1 : Hp) (Q : VK) : Prop := ∃ l : Addr, x = .ref l ∧ ((∃ ns : List Int, SqL K H1 l (ns.map V.int) ∧ ns.length ≤ 4000 ∧ Q (.int ((nubTo (fun i => ns.getD i 0) ns.length).length : Nat)) H1) ∨
  ∃ bs : List Bool, SqL K H1 l (bs.map V.bl) ∧ bs.length ≤ 4000 ∧ Q (.int ((nubTo (fun i => bs.getD i false) bs.length).length : Nat)) H1)
def tLenSet (K : PySem.W.Frag) (ta : TE) : TE := fun σ H Q => ta σ H fun x H1 => kLenSet K x H1 Q
theorem w_lenSet {K : PySem.W.Frag} {ta : TE} {σ : L2.St} {H : Hp} {Q : VK} (k : ta σ H fun x H1 => kLenSet K x H1 Q) : tLenSet K ta σ H Q := k
theorem vals_getI : ∀ {ns : List Int} {us : List Value}, Vals (ns.map V.int) us → ∀ (i : Nat) (v : Value), us[i]? = some v → ∃ t, v = .int (ns.getD i 0) t
  | [], _, .nil, i, v, h => by cases h
  | n :: ns, _, .cons r t, 0, v, h => by cases h; obtain ⟨k, rfl⟩ := r; exact ⟨k, rfl⟩
  | n :: ns, _, .cons r t, i + 1, v, h => vals_getI t i v h
theorem vals_getB : ∀ {ns : List Bool} {us : List Value}, Vals (ns.map V.bl) us → ∀ (i : Nat) (v : Value), us[i]? = some v → v = .bool (ns.getD i false)
  | [], _, .nil, i, v, h => by cases h
  | n :: ns, _, .cons r t, 0, v, h => by cases h; cases r; rfl
  | n :: ns, _, .cons r t, i + 1, v, h => vals_getB t i v h
theorem pe_lenSetK {X : Cx} (K : PySem.W.Frag) {a : Expr} {ta : TE} {p p2 q pos : Pos} (hg : Gl X "len") (hm : X.mg "len" = none) (hg2 : Gl X "set") (hm2 : X.mg "set" = none) (ha : PE X a ta) (hc : X.calm = true := by rfl)
    (na : starEach [a] X.env = (false, eval a X.env) :: starEach [] X.env := by rfl) (hK : X.K = K := by rfl) : PE X (.Call (.Name "len" p) [.Call (.Name "set" p2) [a] [] q] [] pos) (tLenSet K ta) := by
  subst hK
  refine ⟨fun pins s σ H Q I h => ?_⟩
  refine Call_ (ld_blt I hg hm boot_len ?_)
  refine PyProof.Rows.callWith_builtin1 (PyProof.Rows.args_cons ?_ rfl) rfl rfl
  refine Call_ (ld_blt I hg2 hm2 boot_set ?_)
  refine PyProof.Rows.callWith_type1 (PyProof.Rows.args_cons (thn (ha.run pins s σ H _ I h) fun v s1 ⟨x, H1, I1, r1, q1⟩ => PyProof.Rows.args_nil ?_) na) na rfl
  obtain ⟨l, rfl, ⟨ns, hq, hl, q1⟩ | ⟨bs, hq, hl, q1⟩⟩ := q1
  · cases r1
    obtain ⟨its, r, pl, hz⟩ := I1.list hq
    have hlen : its.toArray.size = ns.length := by rw [List.size_toArray, ← r.length, List.length_map]
    refine set_of_list (knd := intKind X.prog X.w) (val := fun i => ns.getD i 0) (I1.ok.hd hc) pl.isList (fun i v e => ?_) (by rw [hlen]; unfold scanBound; omega) fun h' tk hS hk => ?_
    · obtain ⟨t, rfl⟩ := vals_getI r i v (by simpa using e)
      exact ⟨intKind_is _ _ _ _, rfl⟩
    refine PyProof.Rows.args_nil ?_
    rw [hlen] at hS
    obtain ⟨o, es, ep, t, ho, hex, hd, _, _, _, hf, hn⟩ := hS
    have I2 : Inv X pins σ H1 { s1 with heap := h', toks := tk } := I1.kept fun b o e => hk b o (Heap.lt_size e) e
    have := nubTo_le (fun i => ns.getD i 0) ns.length
    exact call_len_set ho hex hd hf (by rw [hn]; omega) ⟨.int _, H1, I2.tok _, ⟨_, by rw [hn]⟩, q1⟩
  · cases r1
    obtain ⟨its, r, pl, hz⟩ := I1.list hq
    have hlen : its.toArray.size = bs.length := by rw [List.size_toArray, ← r.length, List.length_map]
    refine set_of_list (knd := PpSet.boolK X.prog X.w) (val := fun i => bs.getD i false) (I1.ok.hd hc) pl.isList (fun i v e => ?_) (by rw [hlen]; unfold scanBound; omega) fun h' tk hS hk => ?_
    · obtain rfl := vals_getB r i v (by simpa using e)
      exact ⟨PpSet.boolK_is _ _ _, rfl⟩
    refine PyProof.Rows.args_nil ?_
    rw [hlen] at hS
    obtain ⟨o, es, ep, t, ho, hex, hd, _, _, _, hf, hn⟩ := hS
    have I2 : Inv X pins σ H1 { s1 with heap := h', toks := tk } := I1.kept fun b o e => hk b o (Heap.lt_size e) e
    have := nubTo_le (fun i => bs.getD i false) bs.length
    exact call_len_set ho hex hd hf (by rw [hn]; omega) ⟨.int _, H1, I2.tok _, ⟨_, by rw [hn]⟩, q1⟩
/-! ### how many -/
theorem getD_get {α : Type} {d : α} {xs : List α} {x : α} : (∃ j, j < xs.length ∧ xs.getD j d = x) ↔ x ∈ xs := by
  refine ⟨fun ⟨j, hj, e⟩ => ?_, fun m => ?_⟩
  · rw [← e, List.getD_eq_getElem?_getD, List.getElem?_eq_getElem hj]; exact List.getElem_mem _
  · obtain ⟨j, hj, e⟩ := List.mem_iff_getElem.mp m
    exact ⟨j, hj, by rw [List.getD_eq_getElem?_getD, List.getElem?_eq_getElem hj]; exact e⟩
def nDist {α : Type} [DecidableEq α] (d : α) (xs : List α) : Nat := (nubTo (fun i => xs.getD i d) xs.length).length
theorem nDist_one {α : Type} [DecidableEq α] {d : α} {xs : List α} : nDist d xs = 1 ↔ ∃ x ∈ xs, ∀ y ∈ xs, y = x := by
  unfold nDist
  have mem : ∀ k, k ∈ nubTo (fun i => xs.getD i d) xs.length ↔ k ∈ xs := fun k => (nubTo_mem _ k _).trans getD_get
  have nd := nubTo_nodup (fun i => xs.getD i d) xs.length
  generalize nubTo (fun i => xs.getD i d) xs.length = zs at *
  refine ⟨fun h => ?_, fun ⟨x, mx, hx⟩ => ?_⟩
  · match zs, h with
    | [x], _ => exact ⟨x, (mem x).mp (by simp), fun y my => by have := (mem y).mpr my; simpa using this⟩
  · match zs, mem, nd with
    | [], mem, _ => exact absurd ((mem x).mpr mx) (by simp)
    | [z], _, _ => rfl
    | a :: b :: r, mem, nd =>
      have ea := hx a ((mem a).mp (by simp))
      have eb := hx b ((mem b).mp (by simp))
      rw [ea, eb] at nd
      simp at nd
theorem nDist_two {xs : List Bool} : nDist false xs = 2 ↔ true ∈ xs ∧ false ∈ xs := by
  unfold nDist
  have mem : ∀ k, k ∈ nubTo (fun i => xs.getD i false) xs.length ↔ k ∈ xs := fun k => (nubTo_mem _ k _).trans getD_get
  have nd := nubTo_nodup (fun i => xs.getD i false) xs.length
  generalize nubTo (fun i => xs.getD i false) xs.length = zs at *
  rw [← mem true, ← mem false]
  match zs, nd with
  | [], _ => simp
  | [a], _ => cases a <;> simp
  | [a, b], nd => cases a <;> cases b <;> simp at nd ⊢
  | a :: b :: c :: r, nd => cases a <;> cases b <;> cases c <;> simp at nd
end Sil
set_option Elab.async false
set_option linter.all false
set_option maxRecDepth 100000
set_option maxHeartbeats 1000000
/-! P24: worths of all numbers of bands. -/
namespace Sil
open PySem L2 PySem.Spec PyProof.Rows
/-! ### worths as numbers -/
def worthI (g : Str → Int) : Wt → Int
  | .sum ws _ => total g ws
  | .over ws _ => total g ws
  | .most ns _ => (maxO (ns.map g)).getD 0
  | .count ns l => ((ns.filter fun n => decide (l ≤ g n)).length : Nat)
/-- the ends of what a watch's number can be -/
def ends (f : EF) : Wt → Option Int × Option Int
  | .sum ws _ => (addE (ws.map (lowE f)), addE (ws.map (highE f)))
  | .over ws _ => (addE (ws.map (lowE f)), addE (ws.map (highE f)))
  | .most ns _ => (maxO (pres (ns.map fun n => (f n).1)), topE (ns.map fun n => (f n).2))
  | .count ns l => (some ((ns.filter fun n => geE l (f n).1).length : Nat), some ((ns.filter fun n => geU l (f n).2).length : Nat))
theorem ends_in {f f' : EF} {w : Wt} (ne : w.names ≠ []) (hn : Nar f' f w.names) : LoLe (ends f w).1 (ends f' w).1 ∧ HiLe (ends f w).2 (ends f' w).2 := by
  cases w with
  | sum ws l => exact ⟨addE_lo fun e m => lowE_lo (hn e.1 (List.mem_map_of_mem m)), addE_hi fun e m => highE_hi (hn e.1 (List.mem_map_of_mem m))⟩
  | over ws l => exact ⟨addE_lo fun e m => lowE_lo (hn e.1 (List.mem_map_of_mem m)), addE_hi fun e m => highE_hi (hn e.1 (List.mem_map_of_mem m))⟩
  | most ns l => exact ⟨max_lo fun n m => (hn n m).1, top_hi (fun n m => (hn n m).2) ne⟩
  | count ns l => exact ⟨Int.ofNat_le.mpr (filter_le fun n m => geE_lo (hn n m).1), Int.ofNat_le.mpr (filter_le fun n m => geU_hi (hn n m).2)⟩
theorem ends_pt1 {g : Str → Int} {w : Wt} (ne : w.names ≠ []) : ends (ptE g) w = (some (worthI g w), some (worthI g w)) := by
  have sm : ∀ ws : List (Str × Int), addE (ws.map (lowE (ptE g))) = some (total g ws) ∧ addE (ws.map (highE (ptE g))) = some (total g ws) := fun ws => by
    have e1 : ws.map (lowE (ptE g)) = ws.map fun e => some (e.2 * g e.1) := List.map_congr_left fun e _ => (ends_pt g e).1
    have e2 : ws.map (highE (ptE g)) = ws.map fun e => some (e.2 * g e.1) := List.map_congr_left fun e _ => (ends_pt g e).2
    rw [e1, e2, addE_some (fun e : Str × Int => e.2 * g e.1)]
    exact ⟨rfl, rfl⟩
  cases w with
  | sum ws l => show (addE _, addE _) = _; rw [(sm ws).1, (sm ws).2]; rfl
  | over ws l => show (addE _, addE _) = _; rw [(sm ws).1, (sm ws).2]; rfl
  | most ns l =>
    have ha : (ns.map fun n => some (g n)).all (·.isSome) = true := all_map.mpr fun n _ => ⟨_, rfl⟩
    obtain ⟨m, e⟩ := max_some (ns := ns.map g) (fun q => ne (List.map_eq_nil_iff.mp q))
    show (maxO (pres (ns.map fun n => some (g n))), topE (ns.map fun n => some (g n))) = (some ((maxO (ns.map g)).getD 0), some ((maxO (ns.map g)).getD 0))
    unfold topE
    rw [if_pos ha, pres_some g ns, e]; rfl
  | count ns l => rfl
/-- finite bands -/
def finE (lo hi : Str → Int) : EF := fun x => (some (lo x), some (hi x))
theorem worth_between {lo hi g : Str → Int} {w : Wt} (ne : w.names ≠ []) (h : ∀ x ∈ w.names, lo x ≤ g x ∧ g x ≤ hi x) : LoLe (ends (finE lo hi) w).1 (some (worthI g w)) ∧ HiLe (ends (finE lo hi) w).2 (some (worthI g w)) := by
  have := ends_in (f := finE lo hi) (f' := ptE g) ne fun x m => h x m
  rw [ends_pt1 ne] at this
  exact this
open Classical in
/-- the ends are come to -/
theorem ends_met {lo hi : Str → Int} {w : Wt} (ne : w.names ≠ []) (nd : w.names.Nodup) : ∃ g1 g2 : Str → Int, (∀ x, g1 x = lo x ∨ g1 x = hi x) ∧ (∀ x, g2 x = lo x ∨ g2 x = hi x) ∧ ends (finE lo hi) w = (some (worthI g1 w), some (worthI g2 w)) := by
  have sm : ∀ ws : List (Str × Int), (ws.map (·.1)).Nodup → ∃ g1 g2 : Str → Int, (∀ x, g1 x = lo x ∨ g1 x = hi x) ∧ (∀ x, g2 x = lo x ∨ g2 x = hi x) ∧ addE (ws.map (lowE (finE lo hi))) = some (total g1 ws) ∧ addE (ws.map (highE (finE lo hi))) = some (total g2 ws) := fun ws nd => by
    refine ⟨fun x => if ∃ e ∈ ws, e.1 = x ∧ 0 < e.2 then lo x else hi x, fun x => if ∃ e ∈ ws, e.1 = x ∧ 0 < e.2 then hi x else lo x, fun x => ?_, fun x => ?_, ?_, ?_⟩
    · dsimp only; split
      · exact .inl rfl
      · exact .inr rfl
    · dsimp only; split
      · exact .inr rfl
      · exact .inl rfl
    · have e1 : ws.map (lowE (finE lo hi)) = ws.map fun e => some (e.2 * (fun x => if ∃ e ∈ ws, e.1 = x ∧ 0 < e.2 then lo x else hi x) e.1) := List.map_congr_left fun e m => by
        unfold lowE
        by_cases q : 0 < e.2
        · rw [if_pos q]
          dsimp only
          rw [if_pos ⟨e, m, rfl, q⟩]; rfl
        · rw [if_neg q]
          dsimp only
          rw [if_neg]
          · rfl
          · rintro ⟨e', m', ee, q'⟩
            have := nodup_snd nd m' m ee
            subst this
            exact q q'
      rw [e1, addE_some (fun e : Str × Int => e.2 * (fun x => if ∃ e ∈ ws, e.1 = x ∧ 0 < e.2 then lo x else hi x) e.1)]; rfl
    · have e1 : ws.map (highE (finE lo hi)) = ws.map fun e => some (e.2 * (fun x => if ∃ e ∈ ws, e.1 = x ∧ 0 < e.2 then hi x else lo x) e.1) := List.map_congr_left fun e m => by
        unfold highE
        by_cases q : 0 < e.2
        · rw [if_pos q]
          dsimp only
          rw [if_pos ⟨e, m, rfl, q⟩]; rfl
        · rw [if_neg q]
          dsimp only
          rw [if_neg]
          · rfl
          · rintro ⟨e', m', ee, q'⟩
            have := nodup_snd nd m' m ee
            subst this
            exact q q'
      rw [e1, addE_some (fun e : Str × Int => e.2 * (fun x => if ∃ e ∈ ws, e.1 = x ∧ 0 < e.2 then hi x else lo x) e.1)]; rfl
  cases w with
  | sum ws l =>
    obtain ⟨g1, g2, h1, h2, e1, e2⟩ := sm ws nd
    exact ⟨g1, g2, h1, h2, by show (addE _, addE _) = _; rw [e1, e2]; rfl⟩
  | over ws l =>
    obtain ⟨g1, g2, h1, h2, e1, e2⟩ := sm ws nd
    exact ⟨g1, g2, h1, h2, by show (addE _, addE _) = _; rw [e1, e2]; rfl⟩
  | most ns l =>
    refine ⟨lo, hi, fun _ => .inl rfl, fun _ => .inr rfl, ?_⟩
    have ha : (ns.map fun n => some (hi n)).all (·.isSome) = true := all_map.mpr fun n _ => ⟨_, rfl⟩
    obtain ⟨m, e⟩ := max_some (ns := ns.map lo) (fun q => ne (List.map_eq_nil_iff.mp q))
    obtain ⟨m2, e2⟩ := max_some (ns := ns.map hi) (fun q => ne (List.map_eq_nil_iff.mp q))
    show (maxO (pres (ns.map fun n => some (lo n))), topE (ns.map fun n => some (hi n))) = (some ((maxO (ns.map lo)).getD 0), some ((maxO (ns.map hi)).getD 0))
    unfold topE
    rw [if_pos ha, pres_some lo ns, pres_some hi ns, e, e2]; rfl
  | count ns l => exact ⟨lo, hi, fun _ => .inl rfl, fun _ => .inr rfl, rfl⟩
/-! ### all rows of numbers -/
abbrev Row := List (Str × Int)
def rowsStep (vf : Str → List Int) (rows : List Row) (x : Str) : List Row := rows.flatMap fun r => (vf x).map fun v => r ++ [(x, v)]
def rowsOf (vf : Str → List Int) (xs : List Str) : List Row := xs.foldl (rowsStep vf) [[]]
theorem rows_snoc (vf : Str → List Int) (xs : List Str) (x : Str) : rowsOf vf (xs ++ [x]) = rowsStep vf (rowsOf vf xs) x := by unfold rowsOf; rw [List.foldl_append]; rfl
theorem rows_mem (vf : Str → List Int) : ∀ (n : Nat) (xs : List Str), xs.length = n → ∀ r : Row, r ∈ rowsOf vf xs ↔ (r.map (·.1) = xs ∧ ∀ e ∈ r, e.2 ∈ vf e.1) := by
  intro n
  induction n with
  | zero =>
    intro xs hl r
    have : xs = [] := List.eq_nil_of_length_eq_zero hl
    subst this
    show r ∈ [[]] ↔ _
    rw [List.mem_singleton]
    refine ⟨fun e => by subst e; exact ⟨rfl, fun e m => nomatch m⟩, fun ⟨h, _⟩ => List.map_eq_nil_iff.mp h⟩
  | succ n ih =>
    intro xs hl r
    obtain ⟨ys, x, rfl⟩ : ∃ ys x, xs = ys ++ [x] := by
      have hne : xs ≠ [] := by rintro rfl; cases hl
      exact ⟨xs.dropLast, xs.getLast hne, (List.dropLast_concat_getLast hne).symm⟩
    have hy : ys.length = n := by rw [List.length_append] at hl; simpa using hl
    rw [rows_snoc]
    unfold rowsStep
    rw [List.mem_flatMap]
    refine ⟨fun ⟨r', m', q⟩ => ?_, fun ⟨h1, h2⟩ => ?_⟩
    · obtain ⟨v, mv, rfl⟩ := List.mem_map.mp q
      obtain ⟨a, b⟩ := (ih ys hy r').mp m'
      refine ⟨by rw [List.map_append, a]; rfl, fun e me => ?_⟩
      rcases List.mem_append.mp me with me | me
      · exact b e me
      · rw [List.mem_singleton] at me; subst me; exact mv
    · have hrn : r ≠ [] := by rintro rfl; simp at h1
      obtain ⟨r', e, rfl⟩ : ∃ r' e, r = r' ++ [e] := ⟨r.dropLast, r.getLast hrn, (List.dropLast_concat_getLast hrn).symm⟩
      rw [List.map_append] at h1
      obtain ⟨a, b⟩ := List.append_inj_left' h1 rfl, List.append_inj_right' h1 rfl
      injection b with b _
      refine ⟨r', (ih ys hy r').mpr ⟨a, fun z mz => h2 z (List.mem_append_left _ mz)⟩, List.mem_map.mpr ⟨e.2, ?_, ?_⟩⟩
      · rw [← b]; exact h2 e (by simp)
      · rw [← b]
theorem rows_fn {vf : Str → List Int} {xs : List Str} {g : Str → Int} (h : ∀ x ∈ xs, g x ∈ vf x) : (xs.map fun x => (x, g x)) ∈ rowsOf vf xs := by
  rw [rows_mem vf _ xs rfl]
  refine ⟨by rw [List.map_map]; exact List.map_id _, fun e m => ?_⟩
  obtain ⟨x, mx, rfl⟩ := List.mem_map.mp m
  exact h x mx
theorem row_num {vf : Str → List Int} {xs : List Str} {r : Row} (h : r ∈ rowsOf vf xs) {x : Str} (m : x ∈ xs) : num r x ∈ vf x := by
  obtain ⟨a, b⟩ := (rows_mem vf _ xs rfl r).mp h
  exact b _ (num_mem (by rw [a]; exact m))
theorem worth_congr {g g' : Str → Int} {w : Wt} (h : ∀ x ∈ w.names, g x = g' x) : worthI g w = worthI g' w := by
  cases w with
  | sum ws l => exact congrArg List.sum (List.map_congr_left fun e m => by rw [h e.1 (List.mem_map_of_mem m)])
  | over ws l => exact congrArg List.sum (List.map_congr_left fun e m => by rw [h e.1 (List.mem_map_of_mem m)])
  | most ns l => show (maxO (ns.map g)).getD 0 = (maxO (ns.map g')).getD 0; rw [show ns.map g = ns.map g' from List.map_congr_left h]
  | count ns l =>
    show (((ns.filter fun n => decide (l ≤ g n)).length : Nat) : Int) = ((ns.filter fun n => decide (l ≤ g' n)).length : Nat)
    rw [List.filter_congr fun n m => by rw [h n m]]
/-- the worths of all rows have the ends as their least and greatest -/
theorem worths_ends {vf : Str → List Int} {lo hi : Str → Int} {w : Wt} (ne : w.names ≠ []) (nd : w.names.Nodup) (hv : ∀ x ∈ w.names, lo x ∈ vf x ∧ hi x ∈ vf x ∧ ∀ v ∈ vf x, lo x ≤ v ∧ v ≤ hi x) :
    ∃ L U, ends (finE lo hi) w = (some L, some U) ∧ L ∈ ((rowsOf vf w.names).map fun r => worthI (num r) w) ∧ U ∈ ((rowsOf vf w.names).map fun r => worthI (num r) w) ∧ ∀ r ∈ rowsOf vf w.names, L ≤ worthI (num r) w ∧ worthI (num r) w ≤ U := by
  obtain ⟨g1, g2, h1, h2, e⟩ := ends_met (lo := lo) (hi := hi) ne nd
  have put : ∀ g : Str → Int, (∀ x, g x = lo x ∨ g x = hi x) → worthI g w ∈ ((rowsOf vf w.names).map fun r => worthI (num r) w) := fun g hg => by
    refine List.mem_map.mpr ⟨w.names.map fun x => (x, g x), rows_fn fun x m => ?_, worth_congr fun x m => num_fn m⟩
    rcases hg x with q | q
    · rw [q]; exact (hv x m).1
    · rw [q]; exact (hv x m).2.1
  refine ⟨_, _, e, put g1 h1, put g2 h2, fun r m => ?_⟩
  obtain ⟨a, b⟩ := worth_between (lo := lo) (hi := hi) (g := num r) ne fun x mx => (hv x mx).2.2 _ (row_num m mx)
  rw [e] at a b
  exact ⟨a, b⟩
/-! ### small bands, far ends for those without -/
def Sml (e : Option Int × Option Int) : Prop := (∃ a b, e = (some a, some b) ∧ -4 ≤ a ∧ a ≤ b ∧ b ≤ 7) ∨ (∃ b, e = (none, some b) ∧ -4 ≤ b ∧ b ≤ 7) ∨ ∃ a, e = (some a, none) ∧ -4 ≤ a ∧ a ≤ 7
def loC (f : EF) (x : Str) : Int := ((f x).1).getD (-1000)
def hiC (f : EF) (x : Str) : Int := ((f x).2).getD 1000
theorem mulB {w v : Int} (hw : w.natAbs ≤ 5) (hv : -7 ≤ v ∧ v ≤ 7) : -35 ≤ w * v ∧ w * v ≤ 35 := by
  have h : (w * v).natAbs ≤ 35 := by
    rw [Int.natAbs_mul]
    exact Nat.le_trans (Nat.mul_le_mul hw (show v.natAbs ≤ 7 by omega)) (by decide)
  omega
theorem mulL {w : Int} (h0 : w ≠ 0) : (0 < w → w * (-1000) ≤ -1000 ∧ 1000 ≤ w * 1000) ∧ (¬ 0 < w → w * 1000 ≤ -1000 ∧ 1000 ≤ w * (-1000)) := by
  constructor <;> intro h <;> omega
theorem low_C {f : EF} {e : Str × Int} (hs : Sml (f e.1)) (hw : e.2.natAbs ≤ 5) (h0 : e.2 ≠ 0) : ∃ v, lowE (finE (loC f) (hiC f)) e = some v ∧ ((lowE f e = some v ∧ -35 ≤ v ∧ v ≤ 35) ∨ (lowE f e = none ∧ v ≤ -1000)) := by
  obtain ⟨m1, m2⟩ := mulL h0
  unfold lowE finE loC hiC
  by_cases q : 0 < e.2
  · simp only [if_pos q]
    rcases hs with ⟨a, b, h, h1, h2, h3⟩ | ⟨b, h, h1, h2⟩ | ⟨a, h, h1, h2⟩ <;> rw [h]
    · exact ⟨e.2 * a, rfl, .inl ⟨rfl, mulB hw ⟨by omega, by omega⟩⟩⟩
    · exact ⟨e.2 * (-1000), rfl, .inr ⟨rfl, (m1 q).1⟩⟩
    · exact ⟨e.2 * a, rfl, .inl ⟨rfl, mulB hw ⟨by omega, by omega⟩⟩⟩
  · simp only [if_neg q]
    rcases hs with ⟨a, b, h, h1, h2, h3⟩ | ⟨b, h, h1, h2⟩ | ⟨a, h, h1, h2⟩ <;> rw [h]
    · exact ⟨e.2 * b, rfl, .inl ⟨rfl, mulB hw ⟨by omega, by omega⟩⟩⟩
    · exact ⟨e.2 * b, rfl, .inl ⟨rfl, mulB hw ⟨by omega, by omega⟩⟩⟩
    · exact ⟨e.2 * 1000, rfl, .inr ⟨rfl, (m2 q).1⟩⟩
theorem high_C {f : EF} {e : Str × Int} (hs : Sml (f e.1)) (hw : e.2.natAbs ≤ 5) (h0 : e.2 ≠ 0) : ∃ v, highE (finE (loC f) (hiC f)) e = some v ∧ ((highE f e = some v ∧ -35 ≤ v ∧ v ≤ 35) ∨ (highE f e = none ∧ 1000 ≤ v)) := by
  obtain ⟨m1, m2⟩ := mulL h0
  unfold highE finE loC hiC
  by_cases q : 0 < e.2
  · simp only [if_pos q]
    rcases hs with ⟨a, b, h, h1, h2, h3⟩ | ⟨b, h, h1, h2⟩ | ⟨a, h, h1, h2⟩ <;> rw [h]
    · exact ⟨e.2 * b, rfl, .inl ⟨rfl, mulB hw ⟨by omega, by omega⟩⟩⟩
    · exact ⟨e.2 * b, rfl, .inl ⟨rfl, mulB hw ⟨by omega, by omega⟩⟩⟩
    · exact ⟨e.2 * 1000, rfl, .inr ⟨rfl, (m1 q).2⟩⟩
  · simp only [if_neg q]
    rcases hs with ⟨a, b, h, h1, h2, h3⟩ | ⟨b, h, h1, h2⟩ | ⟨a, h, h1, h2⟩ <;> rw [h]
    · exact ⟨e.2 * a, rfl, .inl ⟨rfl, mulB hw ⟨by omega, by omega⟩⟩⟩
    · exact ⟨e.2 * (-1000), rfl, .inr ⟨rfl, (m2 q).2⟩⟩
    · exact ⟨e.2 * a, rfl, .inl ⟨rfl, mulB hw ⟨by omega, by omega⟩⟩⟩
theorem sum_C {F G : Str × Int → Option Int} : ∀ {ws : List (Str × Int)}, (∀ e ∈ ws, ∃ v, G e = some v ∧ ((F e = some v ∧ -35 ≤ v ∧ v ≤ 35) ∨ (F e = none ∧ v ≤ -1000))) →
    ∃ L, addE (ws.map G) = some L ∧ ((addE (ws.map F) = some L ∧ -(35 * (ws.length : Int)) ≤ L ∧ L ≤ 35 * (ws.length : Int)) ∨ (addE (ws.map F) = none ∧ L ≤ -1000 + 35 * (ws.length : Int)))
  | [], _ => ⟨0, rfl, .inl ⟨rfl, by decide, by decide⟩⟩
  | e :: r, h => by
    obtain ⟨v, g1, k⟩ := h e List.mem_cons_self
    obtain ⟨L, g2, k2⟩ := sum_C (ws := r) fun x m => h x (List.mem_cons_of_mem _ m)
    refine ⟨v + L, by rw [List.map_cons, addE_cons, g1, g2]; rfl, ?_⟩
    rw [List.map_cons, addE_cons, List.length_cons]
    rcases k with ⟨k, k3, k4⟩ | ⟨k, k3⟩
    · rcases k2 with ⟨q, q3, q4⟩ | ⟨q, q3⟩
      · left; rw [k, q]; exact ⟨rfl, by omega, by omega⟩
      · right; rw [k, q]; exact ⟨rfl, by omega⟩
    · right
      rw [k]
      refine ⟨rfl, ?_⟩
      rcases k2 with ⟨q, q3, q4⟩ | ⟨q, q3⟩ <;> omega
theorem sum_CH {F G : Str × Int → Option Int} : ∀ {ws : List (Str × Int)}, (∀ e ∈ ws, ∃ v, G e = some v ∧ ((F e = some v ∧ -35 ≤ v ∧ v ≤ 35) ∨ (F e = none ∧ 1000 ≤ v))) →
    ∃ L, addE (ws.map G) = some L ∧ ((addE (ws.map F) = some L ∧ -(35 * (ws.length : Int)) ≤ L ∧ L ≤ 35 * (ws.length : Int)) ∨ (addE (ws.map F) = none ∧ 1000 - 35 * (ws.length : Int) ≤ L))
  | [], _ => ⟨0, rfl, .inl ⟨rfl, by decide, by decide⟩⟩
  | e :: r, h => by
    obtain ⟨v, g1, k⟩ := h e List.mem_cons_self
    obtain ⟨L, g2, k2⟩ := sum_CH (ws := r) fun x m => h x (List.mem_cons_of_mem _ m)
    refine ⟨v + L, by rw [List.map_cons, addE_cons, g1, g2]; rfl, ?_⟩
    rw [List.map_cons, addE_cons, List.length_cons]
    rcases k with ⟨k, k3, k4⟩ | ⟨k, k3⟩
    · rcases k2 with ⟨q, q3, q4⟩ | ⟨q, q3⟩
      · left; rw [k, q]; exact ⟨rfl, by omega, by omega⟩
      · right; rw [k, q]; exact ⟨rfl, by omega⟩
    · right
      rw [k]
      refine ⟨rfl, ?_⟩
      rcases k2 with ⟨q, q3, q4⟩ | ⟨q, q3⟩ <;> omega
/-- a watch as the law draws it here -/
structure W9 (f : EF) (w : Wt) : Prop where
  ne : w.names ≠ []
  few : w.names.length ≤ 4
  sml : ∀ x ∈ w.names, Sml (f x)
  wt : ∀ i ∈ w.weights, i.natAbs ≤ 5 ∧ i ≠ 0
  lim : w.lim.natAbs ≤ 400
  slk : w.slk
/-- what is told by bands, and by the far ones -/
def Told9 (a c : Option Int × Option Int) : Prop := ∃ L U, c = (some L, some U) ∧ ((a.1 = some L ∧ -200 ≤ L ∧ L ≤ 200) ∨ (a.1 = none ∧ L ≤ -800)) ∧ ((a.2 = some U ∧ -200 ≤ U ∧ U ≤ 200) ∨ (a.2 = none ∧ 800 ≤ U))
theorem told9 {f : EF} {w : Wt} (h : W9 f w) : Told9 (ends f w) (ends (finE (loC f) (hiC f)) w) := by
  have sm : ∀ ws : List (Str × Int), ws.length ≤ 4 → (∀ e ∈ ws, Sml (f e.1) ∧ e.2.natAbs ≤ 5 ∧ e.2 ≠ 0) → Told9 (addE (ws.map (lowE f)), addE (ws.map (highE f))) (addE (ws.map (lowE (finE (loC f) (hiC f)))), addE (ws.map (highE (finE (loC f) (hiC f))))) := fun ws hl hh => by
    obtain ⟨L, e1, k1⟩ := sum_C (ws := ws) (F := lowE f) (G := lowE (finE (loC f) (hiC f))) fun e m => low_C (hh e m).1 (hh e m).2.1 (hh e m).2.2
    obtain ⟨U, e2, k2⟩ := sum_CH (ws := ws) (F := highE f) (G := highE (finE (loC f) (hiC f))) fun e m => high_C (hh e m).1 (hh e m).2.1 (hh e m).2.2
    refine ⟨L, U, by rw [e1, e2], ?_, ?_⟩
    · rcases k1 with ⟨q, q1, q2⟩ | ⟨q, q1⟩
      · exact .inl ⟨q, by omega, by omega⟩
      · exact .inr ⟨q, by omega⟩
    · rcases k2 with ⟨q, q1, q2⟩ | ⟨q, q1⟩
      · exact .inl ⟨q, by omega, by omega⟩
      · exact .inr ⟨q, by omega⟩
  cases w with
  | sum ws l => exact sm ws (by have := h.few; rwa [show (Wt.sum ws l).names = ws.map (·.1) from rfl, List.length_map] at this) fun e m => ⟨h.sml e.1 (List.mem_map_of_mem m), h.wt e.2 (List.mem_map_of_mem m)⟩
  | over ws l => exact sm ws (by have := h.few; rwa [show (Wt.over ws l).names = ws.map (·.1) from rfl, List.length_map] at this) fun e m => ⟨h.sml e.1 (List.mem_map_of_mem m), h.wt e.2 (List.mem_map_of_mem m)⟩
  | most ns l =>
    have hs : ∀ n ∈ ns, Sml (f n) := h.sml
    have hne : ns ≠ [] := h.ne
    have ha : (ns.map fun n => some (hiC f n)).all (·.isSome) = true := all_map.mpr fun n _ => ⟨_, rfl⟩
    obtain ⟨L, eL⟩ := max_some (ns := ns.map (loC f)) (fun q => hne (List.map_eq_nil_iff.mp q))
    obtain ⟨U, eU⟩ := max_some (ns := ns.map (hiC f)) (fun q => hne (List.map_eq_nil_iff.mp q))
    refine ⟨L, U, ?_, ?_, ?_⟩
    · show (maxO (pres (ns.map fun n => some (loC f n))), topE (ns.map fun n => some (hiC f n))) = _
      unfold topE
      rw [if_pos ha, pres_some (loC f) ns, pres_some (hiC f) ns, eL, eU]
    · show (maxO (pres (ns.map fun n => (f n).1)) = some L ∧ _) ∨ (maxO (pres (ns.map fun n => (f n).1)) = none ∧ _)
      obtain ⟨nL, mL, enL⟩ := List.mem_map.mp (maxO_in eL).1
      have upL := (maxO_in eL).2
      cases e : maxO (pres (ns.map fun n => (f n).1)) with
      | none =>
        right
        refine ⟨rfl, ?_⟩
        have e0 := maxO_none e
        have : (f nL).1 = none := by
          cases q : (f nL).1 with
          | none => rfl
          | some i =>
            have : i ∈ pres (ns.map fun n => (f n).1) := mem_pres (List.mem_map.mpr ⟨nL, mL, q⟩)
            rw [e0] at this; cases this
        rw [← enL]
        unfold loC
        rw [this]; decide
      | some a =>
        left
        obtain ⟨n, mn, en⟩ := List.mem_map.mp (pres_mem (maxO_in e).1)
        have en : (f n).1 = some a := en
        have lb : -4 ≤ a ∧ a ≤ 7 := by
          rcases hs n mn with ⟨a', b, h, h1, h2, h3⟩ | ⟨b, h, h1, h2⟩ | ⟨a', h, h1, h2⟩ <;> (rw [h] at en; cases en) <;> omega
        have : a ≤ L := by
          have := upL (loC f n) (List.mem_map_of_mem mn)
          unfold loC at this
          rw [en] at this; exact this
        have : L ≤ a := by
          rw [← enL]
          unfold loC
          cases q : (f nL).1 with
          | none => show (-1000 : Int) ≤ a; omega
          | some i => exact (maxO_in e).2 i (mem_pres (List.mem_map.mpr ⟨nL, mL, q⟩))
        have : a = L := by omega
        exact ⟨by rw [this], by omega, by omega⟩
    · show (topE (ns.map fun n => (f n).2) = some U ∧ _) ∨ (topE (ns.map fun n => (f n).2) = none ∧ _)
      obtain ⟨nU, mU, enU⟩ := List.mem_map.mp (maxO_in eU).1
      have upU := (maxO_in eU).2
      unfold topE
      by_cases q : (ns.map fun n => (f n).2).all (·.isSome) = true
      · left
        rw [if_pos q]
        have hc : ∀ n ∈ ns, (f n).2 = some (hiC f n) := fun n mn => by
          obtain ⟨i, ei⟩ := all_map.mp q n mn
          unfold hiC; rw [ei]; rfl
        have e3 : (ns.map fun n => (f n).2) = ns.map fun n => some (hiC f n) := List.map_congr_left hc
        rw [e3, pres_some (hiC f) ns, eU]
        have := hc nU mU
        have lb : -4 ≤ hiC f nU ∧ hiC f nU ≤ 7 := by
          rcases hs nU mU with ⟨a', b, h, h1, h2, h3⟩ | ⟨b, h, h1, h2⟩ | ⟨a', h, h1, h2⟩
          · rw [h] at this; cases this; omega
          · rw [h] at this; cases this; omega
          · rw [h] at this; cases this
        exact ⟨rfl, by omega, by omega⟩
      · right
        rw [if_neg q]
        refine ⟨rfl, ?_⟩
        obtain ⟨n, mn, en⟩ : ∃ n ∈ ns, (f n).2 = none := by
          apply Classical.byContradiction
          intro hno
          refine q (all_map.mpr fun n mn => ?_)
          cases e : (f n).2 with
          | none => exact absurd ⟨n, mn, e⟩ hno
          | some i => exact ⟨i, rfl⟩
        have := upU (hiC f n) (List.mem_map_of_mem mn)
        unfold hiC at this
        rw [en] at this
        have : (1000 : Int) ≤ U := this
        omega
  | count ns l =>
    have hl : l.natAbs ≤ 400 := h.lim
    have few : ns.length ≤ 4 := h.few
    have e1 : (ns.filter fun n => geE l (finE (loC f) (hiC f) n).1) = ns.filter fun n => geE l (f n).1 := List.filter_congr fun n mn => by
      show decide (l ≤ loC f n) = _
      unfold loC
      cases q : (f n).1 with
      | none => show decide (l ≤ -1000) = false; exact decide_eq_false (by omega)
      | some i => rfl
    have e2 : (ns.filter fun n => geU l (finE (loC f) (hiC f) n).2) = ns.filter fun n => geU l (f n).2 := List.filter_congr fun n mn => by
      show decide (l ≤ hiC f n) = _
      unfold hiC
      cases q : (f n).2 with
      | none => show decide (l ≤ 1000) = true; exact decide_eq_true (by omega)
      | some i => rfl
    have l1 := List.length_filter_le (fun n => geE l (f n).1) ns
    have l2 := List.length_filter_le (fun n => geU l (f n).2) ns
    refine ⟨_, _, rfl, ?_, ?_⟩
    · left; rw [e1]; exact ⟨rfl, by omega, by omega⟩
    · left; rw [e2]; exact ⟨rfl, by omega, by omega⟩
def keptV (L U : Int) : Wt → Bool
  | .sum _ l => decide (U - L ≤ l)
  | .most _ l => decide (U - L ≤ l)
  | .count _ _ => decide (L = U)
  | .over _ l => decide (l ≤ L) || decide (U < l)
theorem kept9 {f : EF} {w : Wt} (h : W9 f w) {L U : Int} (e : ends (finE (loC f) (hiC f)) w = (some L, some U)) : kept f w = keptV L U w := by
  obtain ⟨L', U', e', k1, k2⟩ := told9 h
  rw [e] at e'
  injection e' with e1 e2
  injection e1 with e1
  injection e2 with e2
  subst e1 e2
  have wi : ∀ l : Int, l.natAbs ≤ 400 → within (ends f w).1 (ends f w).2 l = decide (U - L ≤ l) := fun l hl => by
    rcases k1 with ⟨q, q1, q2⟩ | ⟨q, q1⟩
    · rw [q]
      rcases k2 with ⟨z, z1, z2⟩ | ⟨z, z1⟩
      · rw [z]; rfl
      · rw [z]
        show false = _
        rw [decide_eq_false (by omega)]
    · rw [q]
      show false = _
      rcases k2 with ⟨z, z1, z2⟩ | ⟨z, z1⟩ <;> rw [decide_eq_false (by omega)]
  have hl := h.lim
  cases w with
  | sum ws l => exact wi l hl
  | most ns l => exact wi l hl
  | count ns l =>
    show decide ((ends f (.count ns l)).1 = (ends f (.count ns l)).2) = decide (L = U)
    rcases k1 with ⟨q, _⟩ | ⟨q, _⟩
    · rcases k2 with ⟨z, _⟩ | ⟨z, _⟩
      · rw [q, z]
        exact decide_eq_decide.mpr ⟨fun h => by injection h, fun h => by rw [h]⟩
      · cases z
    · cases q
  | over ws l =>
    have hl : l.natAbs ≤ 400 := hl
    show (triE (ends f (.over ws l)).1 (ends f (.over ws l)).2 l).isSome = (decide (l ≤ L) || decide (U < l))
    rcases k1 with ⟨q, q1, q2⟩ | ⟨q, q1⟩
    · rcases k2 with ⟨z, z1, z2⟩ | ⟨z, z1⟩
      · rw [q, z]
        dsimp only [triE]
        by_cases c1 : l ≤ L
        · rw [if_pos c1, decide_eq_true c1]; rfl
        · rw [if_neg c1, decide_eq_false c1]
          by_cases c2 : U < l
          · rw [if_pos c2, decide_eq_true c2]; rfl
          · rw [if_neg c2, decide_eq_false c2]; rfl
      · rw [q, z]
        dsimp only [triE]
        rw [decide_eq_false (show ¬ U < l by omega)]
        by_cases c1 : l ≤ L
        · rw [if_pos c1, decide_eq_true c1]; rfl
        · rw [if_neg c1, decide_eq_false c1]; rfl
    · rw [q, decide_eq_false (show ¬ l ≤ L by omega)]
      rcases k2 with ⟨z, z1, z2⟩ | ⟨z, z1⟩
      · rw [z]
        dsimp only [triE]
        by_cases c2 : U < l
        · rw [if_pos c2, decide_eq_true c2]; rfl
        · rw [if_neg c2, decide_eq_false c2]; rfl
      · rw [z, decide_eq_false (show ¬ U < l by omega)]; rfl
theorem tri9 {f : EF} {ws : List (Str × Int)} {l : Int} (h : W9 f (.over ws l)) {L U : Int} (e : ends (finE (loC f) (hiC f)) (.over ws l) = (some L, some U)) :
    told f (.over ws l) = .tri (if l ≤ L then some true else if U < l then some false else none) := by
  obtain ⟨L', U', e', k1, k2⟩ := told9 h
  rw [e] at e'
  injection e' with e1 e2
  injection e1 with e1
  injection e2 with e2
  subst e1 e2
  have hl : l.natAbs ≤ 400 := h.lim
  show Told.tri (triE (ends f (.over ws l)).1 (ends f (.over ws l)).2 l) = _
  rcases k1 with ⟨q, q1, q2⟩ | ⟨q, q1⟩
  · rcases k2 with ⟨z, z1, z2⟩ | ⟨z, z1⟩
    · rw [q, z]; rfl
    · rw [q, z]
      dsimp only [triE]
      by_cases c1 : l ≤ L
      · rw [if_pos c1, if_pos c1]
      · rw [if_neg c1, if_neg c1, if_neg (by omega)]
  · rw [q, if_neg (show ¬ l ≤ L by omega)]
    rcases k2 with ⟨z, z1, z2⟩ | ⟨z, z1⟩
    · rw [z]; rfl
    · rw [z, if_neg (show ¬ U < l by omega)]; rfl
/-- how many unlike worths there are -/
theorem dist_one {W : List Int} {L U : Int} (h1 : L ∈ W) (h2 : U ∈ W) (h : ∀ x ∈ W, L ≤ x ∧ x ≤ U) : nDist 0 W = 1 ↔ L = U := by
  rw [nDist_one]
  refine ⟨fun ⟨x, _, k⟩ => (k L h1).trans (k U h2).symm, fun e => ⟨L, h1, fun y m => ?_⟩⟩
  have := h y m
  omega
theorem dist_over {W : List Int} {L U l : Int} (h1 : L ∈ W) (h2 : U ∈ W) (h : ∀ x ∈ W, L ≤ x ∧ x ≤ U) :
    (nDist false (W.map fun x => decide (l ≤ x)) = 1 ↔ (l ≤ L ∨ U < l)) ∧ (nDist false (W.map fun x => decide (l ≤ x)) = 2 ↔ ¬ (l ≤ L ∨ U < l)) := by
  have hLU := (h L h1).2
  have t : true ∈ (W.map fun x => decide (l ≤ x)) ↔ l ≤ U := by
    rw [List.mem_map]
    refine ⟨fun ⟨x, m, e⟩ => ?_, fun q => ⟨U, h2, decide_eq_true q⟩⟩
    have := of_decide_eq_true e
    have := (h x m).2
    omega
  have f : false ∈ (W.map fun x => decide (l ≤ x)) ↔ L < l := by
    rw [List.mem_map]
    refine ⟨fun ⟨x, m, e⟩ => ?_, fun q => ⟨L, h1, decide_eq_false (by omega)⟩⟩
    have := of_decide_eq_false e
    have := (h x m).1
    omega
  refine ⟨?_, ?_⟩
  · rw [nDist_one]
    refine ⟨fun ⟨b, m, k⟩ => ?_, fun q => ?_⟩
    · cases b with
      | true =>
        left
        have := mt (fun z => k false (f.mpr z)) (by simp)
        omega
      | false =>
        right
        have := mt (fun z => k true (t.mpr z)) (by simp)
        omega
    · rcases q with q | q
      · refine ⟨true, t.mpr (by omega), fun y m => ?_⟩
        cases y with
        | true => rfl
        | false => have := f.mp m; omega
      · refine ⟨false, f.mpr (by omega), fun y m => ?_⟩
        cases y with
        | false => rfl
        | true => have := t.mp m; omega
  · rw [nDist_two, t, f]
    omega
end Sil
set_option Elab.async false
set_option linter.all false
set_option maxRecDepth 100000
set_option maxHeartbeats 2000000
/-! P25: list(range(a, b)); comprehensions that only make objects. -/
namespace Sil
open PySem L2 PySem.Spec PyProof.Rows
/-- the numbers from a on, n of them -/
def upFrom (a : Int) (n : Nat) : List Int := (List.range n).map fun (i : Nat) => a + (i : Int)
theorem rgV_up (a b : Int) : rgV a b = (upFrom a (b - a).toNat).map V.int := by
  unfold rgV upFrom
  rw [List.map_map]; rfl
theorem w_lstRg {ta tb : TE} {σ : L2.St} {H : Hp} {Q : VK} (h : ta σ H fun x H1 => tb σ H1 fun y H2 => ∃ i j, x = .int i ∧ y = .int j ∧ RgOk i j ∧ ∀ q, H2 q = none → Q (.ref q) (upd H2 q (.lst ((upFrom i (j - i).toNat).map V.int)))) : tLstRg (tRg2 ta tb) σ H Q := by
  unfold tLstRg tRg2
  simp only [rgV_up]
  exact h
/-! ### comprehensions that only make objects -/
section
variable {K : PySem.W.Frag} {a : Addr} {g : TG} {tt : TT} {te : TE} {vs : List Nat} {σ : L2.St} {H1 : Hp} {Q : VK} {El : Nat → V → Hp → Prop}
structure ElOkS (El : Nat → V → Hp → Prop) : Prop where
  same : ∀ i y G G', Same G G' → El i y G → El i y G'
  off : ∀ i y G D acc, G D = some (.lst acc) → El i y G → El i y (off [D] G)
def TurnS (g : TG) (tt : TT) (te : TE) (vs : List Nat) (σ : L2.St) (El : V → Hp → Prop) (x : V) (G : Hp) : Prop :=
  ∀ (R : V → Hp → Prop) (Ny : Hp → Prop), (∀ y G', Same G G' → El y G' → R y G') → g x (wipe σ vs) G fun σ2 H2 => wipe σ2 vs = wipe σ vs ∧ tt σ2 H2 fun c H3 => if c = true then te σ2 H3 R else Ny H3
theorem turnS (ok : ElOkS El) {D : Addr} {i : Nat} {x : V} {acc : List V} {H : Hp} (nD : H1 D = none) (hD : H D = some (.lst acc))
    (p : Same H1 (off [D] H) ∧ AccOk El i acc (off [D] H)) (h : Same H1 H → TurnS g tt te vs σ (El i) x H) :
    LcTurnQ g tt te vs σ D x (fun i acc G => Same H1 G ∧ AccOk El i acc G) i acc H := by
  intro Nx Ny k1 k2 hlen
  have st : Same H1 H := p.1.trans off_sub
  refine h st _ Ny fun y G' s' hy => ?_
  have hD' := s' _ _ hD
  refine ⟨acc, hD', hlen, k1 y G' hD' ⟨?_, ?_⟩⟩
  · intro c o hc
    refine off_mk (s' _ _ (st _ _ hc)) ?_
    rw [List.mem_singleton]
    rintro rfl
    rw [nD] at hc; cases hc
  · have q : AccOk El i acc G' := ⟨p.2.1, fun j z e => ok.same _ _ _ _ (off_sub.trans s') (p.2.2 j z e)⟩
    have r := accOk_push q hy
    exact ⟨r.1, fun j z e => ok.off _ _ _ _ _ hD' (r.2 j z e)⟩
theorem s_end (ok : ElOkS El) {D : Addr} {n : Nat} {acc : List V} {H : Hp} (nD : H1 D = none) (hD : H D = some (.lst acc)) (p : Same H1 (off [D] H) ∧ AccOk El n acc (off [D] H))
    (k : ∀ D acc H, H1 D = none → H D = some (.lst acc) → Same H1 H → AccOk El n acc H → Q (.ref D) H) : Q (.ref D) H :=
  k D acc H nD hD (p.1.trans off_sub) ⟨p.2.1, fun j z e => ok.same _ _ _ _ off_sub (p.2.2 j z e)⟩
theorem s_lcT {xs : List V} (ok : ElOkS El) (hz : xs.length ≤ 100000) (hx : SqT K H1 a xs) (ht : ∀ i x G, xs[i]? = some x → Same H1 G → TurnS g tt te vs σ (El i) x G)
    (k : ∀ D acc H, H1 D = none → H D = some (.lst acc) → Same H1 H → AccOk El xs.length acc H → Q (.ref D) H) : kLc (Itt K a) g tt te vs σ H1 Q :=
  k_lcT (xs := xs) hz (fun i acc G => Same H1 G ∧ AccOk El i acc G) ⟨Same.refl _, rfl, fun j y e => by cases e⟩ (fun i acc G p => same_seqT p.1 hx)
    (fun D i x acc H nD hi hD p => turnS ok nD hD p fun st => ht i x H hi st) fun D acc H nD hD p => s_end ok nD hD p k
theorem turnS_name {j : Nat} {El : V → Hp → Prop} {x : V} {G : Hp} (hw : ∀ x, wipe ((wipe σ vs).set j (some x)) vs = wipe σ vs)
    (h : ∀ (R : V → Hp → Prop) (Ny : Hp → Prop), (∀ y G', Same G G' → El y G' → R y G') → tt ((wipe σ vs).set j (some x)) G fun c H3 => if c = true then te ((wipe σ vs).set j (some x)) H3 R else Ny H3) :
    TurnS (gName j) tt te vs σ El x G := fun R Ny k => w_name ⟨hw x, h R Ny k⟩
theorem pairElG_okS {ys : List Str} {B : Str → V → Hp → Prop} (h1 : ∀ x v G G', Same G G' → B x v G → B x v G') (h2 : ∀ x v G D acc, G D = some (.lst acc) → B x v G → B x v (off [D] G)) : ElOkS (PairElG ys B) :=
  ⟨fun i y G G' s ⟨q, k, e, h, hk⟩ => ⟨q, k, e, s _ _ h, h1 _ _ _ _ s hk⟩, fun i y G D acc hD ⟨q, k, e, h, hk⟩ => ⟨q, k, e, off_tup hD h, h2 _ _ _ _ _ hD hk⟩⟩
theorem bandV_okS (ys : List Str) (C : Addr) (f : EF) : ElOkS (PairElG ys (BandV C f)) :=
  pairElG_okS (fun x v G G' s ⟨q, e, h⟩ => ⟨q, e, h.mono s⟩) fun x v G D acc hD ⟨q, e, dx, h⟩ => ⟨q, e, dx, off_ins hD h⟩
end
/-! ### the numbers of a band -/
def valsE : Option Int × Option Int → List Int
  | (some a, some b) => upFrom a (b + 1 - a).toNat
  | (none, some b) => [-1000, b]
  | (some a, none) => [a, 1000]
  | (none, none) => []
theorem vals_ok {f : EF} {x : Str} (h : Sml (f x)) (hd : ∀ a b, f x = (some a, some b) → b ≤ a + 3) : loC f x ∈ valsE (f x) ∧ hiC f x ∈ valsE (f x) ∧ (∀ v ∈ valsE (f x), loC f x ≤ v ∧ v ≤ hiC f x) ∧ (valsE (f x)).length ≤ 4 := by
  unfold loC hiC
  rcases h with ⟨a, b, h, h1, h2, h3⟩ | ⟨b, h, h1, h2⟩ | ⟨a, h, h1, h2⟩
  · have hb := hd a b h
    rw [h]
    show a ∈ upFrom a (b + 1 - a).toNat ∧ b ∈ upFrom a (b + 1 - a).toNat ∧ (∀ v ∈ upFrom a (b + 1 - a).toNat, a ≤ v ∧ v ≤ b) ∧ (upFrom a (b + 1 - a).toNat).length ≤ 4
    unfold upFrom
    refine ⟨List.mem_map.mpr ⟨0, List.mem_range.mpr (by omega), by omega⟩, List.mem_map.mpr ⟨(b - a).toNat, List.mem_range.mpr (by omega), by omega⟩, fun v m => ?_, by rw [List.length_map, List.length_range]; omega⟩
    obtain ⟨i, mi, rfl⟩ := List.mem_map.mp m
    have := List.mem_range.mp mi
    omega
  · rw [h]
    show (-1000 : Int) ∈ [-1000, b] ∧ b ∈ [-1000, b] ∧ (∀ v ∈ [-1000, b], -1000 ≤ v ∧ v ≤ b) ∧ 2 ≤ 4
    refine ⟨by simp, by simp, fun v m => ?_, by decide⟩
    rcases List.mem_cons.mp m with rfl | m
    · omega
    · rw [List.mem_singleton] at m; omega
  · rw [h]
    show a ∈ [a, 1000] ∧ (1000 : Int) ∈ [a, 1000] ∧ (∀ v ∈ [a, 1000], a ≤ v ∧ v ≤ 1000) ∧ 2 ≤ 4
    refine ⟨by simp, by simp, fun v m => ?_, by decide⟩
    rcases List.mem_cons.mp m with rfl | m
    · omega
    · rw [List.mem_singleton] at m; omega
theorem flat_len {α β : Type} {F : α → List β} : ∀ {xs : List α}, (∀ x ∈ xs, (F x).length ≤ 4) → (xs.flatMap F).length ≤ 4 * xs.length
  | [], _ => Nat.zero_le _
  | x :: r, h => by
    rw [List.flatMap_cons, List.length_append, List.length_cons]
    have a := h x List.mem_cons_self
    have b := flat_len (xs := r) fun y m => h y (List.mem_cons_of_mem _ m)
    omega
theorem rows_len {vf : Str → List Int} : ∀ (n : Nat) {xs : List Str}, xs.length = n → (∀ x ∈ xs, (vf x).length ≤ 4) → (rowsOf vf xs).length ≤ 4 ^ n := by
  intro n
  induction n with
  | zero => intro xs hl _; rw [List.eq_nil_of_length_eq_zero hl]; exact Nat.le_refl 1
  | succ n ih =>
    intro xs hl h
    obtain ⟨ys, x, rfl⟩ : ∃ ys x, xs = ys ++ [x] := by
      have hne : xs ≠ [] := by rintro rfl; cases hl
      exact ⟨xs.dropLast, xs.getLast hne, (List.dropLast_concat_getLast hne).symm⟩
    rw [rows_snoc]
    unfold rowsStep
    have a := ih (xs := ys) (by rw [List.length_append] at hl; simpa using hl) fun y m => h y (List.mem_append_left _ m)
    have b := flat_len (xs := rowsOf vf ys) (F := fun r => (vf x).map fun v => r ++ [(x, v)]) fun r _ => by rw [List.length_map]; exact h x (by simp)
    exact Nat.le_trans b (by rw [Nat.pow_succ]; omega)
theorem put_new_num {r : Row} {x : Str} {v : Int} (h : x ∉ r.map (·.1)) : putK (numKv r) (.inr x) (.int v) = numKv (r ++ [(x, v)]) := by
  rw [putK_new _ (valV_out (by rw [keys_num]; intro m; obtain ⟨y, my, e⟩ := List.mem_map.mp m; injection e with e; subst e; exact h my))]
  unfold numKv
  rw [List.map_append]; rfl
theorem worth_val {g : Str → Int} {w : Wt} : worthV g w = match w with | .over _ l => .bl (decide (l ≤ worthI g w)) | _ => .int (worthI g w) := by
  cases w <;> rfl
end Sil
set_option Elab.async false
set_option linter.all false
set_option maxRecDepth 100000
set_option maxHeartbeats 1000000
namespace Sil
open PySem L2
def top (i : Nat) : Stmt := PySem.Challenge.pw_silencetells_k09_whole_told_is_what_can.main.body.getD i (.Pass ⟨0, 0, 0, 0⟩)
local macro_rules | `(tactic| walk_at "g1") => `(tactic| first
  | (with_reducible refine w_seq ?_)
  | ((with_reducible refine' w_var ?hv ?_); (case hv => rfl))
  | (with_reducible refine w_c ?_)
  | (with_reducible refine w_cons ?_)
  | (with_reducible refine w_nil ?_)
  | (with_reducible refine w_op ?_)
  | (with_reducible refine w_I0 ?_)
  | (with_reducible refine w_asg ?_)
  | (with_reducible refine w_name ?_)
  | (with_reducible refine w_ifS ?_)
  | (with_reducible refine w_test ?_)
  | (with_reducible refine w_B ?_)
  | (with_reducible refine w_cb ?_)
  | (with_reducible refine w_ret ?_)
  | (with_reducible refine w_un ?_)
  | (with_reducible refine w_U ?_)
  | (with_reducible refine w_call ?_)
  | (with_reducible refine w_make ?_)
  | (with_reducible refine w_tup ?_)
  | (with_reducible refine w_lst ?_)
  | (with_reducible refine w_if ?_)
  | (with_reducible refine w_and ?_)
  | (with_reducible refine w_or ?_)
  | (with_reducible refine w_not ?_)
  | (with_reducible refine w_andV ?_)
  | (with_reducible refine w_orV ?_)
  | (with_reducible refine w_notV ?_)
  | (with_reducible refine w_chain ?_)
  | (with_reducible refine w_par ?_)
  | (with_reducible refine w_drop ?_)
  | (with_reducible refine w_next ?_)
  | (with_reducible refine w_cont ?_)
  | (with_reducible refine w_fld ?_)
  | (with_reducible refine w_ckw ?_)
  | (with_reducible refine w_sub ?_)
  | (with_reducible refine w_meth ?_)
  | (with_reducible refine w_some ?_)
  | (with_reducible refine w_lcT ?_)
  | (with_reducible refine w_lcL ?_)
  | (with_reducible refine w_lcR ?_)
  | (with_reducible refine w_forT ?_)
  | (with_reducible refine w_forL ?_)
  | (with_reducible refine w_forR ?_)
  | (with_reducible refine w_gcons ?_)
  | (with_reducible refine w_gnil ?_)
  | (with_reducible refine w_isN ?_)
  | (with_reducible refine w_notN ?_)
  | (with_reducible refine w_abs ?_)
  | (with_reducible refine w_max2 ?_)
  | (with_reducible refine w_min2 ?_)
  | (with_reducible refine w_makeK0 ?_)
  | (with_reducible refine w_makeS ?_)
  | (with_reducible refine w_join ?_)
  | (with_reducible refine w_js ?_)
  | (with_reducible refine w_jsN ?_)
  | (with_reducible refine w_fmtN ?_)
  | (with_reducible refine w_fmtO ?_)
  | (with_reducible refine w_dget ?_)
  | (with_reducible refine w_dput ?_)
  | (with_reducible refine w_sl ?_)
  | (with_reducible refine w_part ?_)
  | (with_reducible refine k_part ?_)
  | (with_reducible refine w_noPart ?_)
  | (with_reducible refine w_yes ?_)
  | (with_reducible refine w_bm ?_)
  | (with_reducible refine k_bmS ?_)
  | (with_reducible refine w_pc ?_)
  | (with_reducible refine w_pn ?_)
  | (with_reducible refine w_revT ?_)
  | (with_reducible refine w_revL ?_)
  | (with_reducible refine w_lenSet ?_)
  | (with_reducible refine w_lstRg ?_))
local macro_rules | `(tactic| walk_at "go") => `(tactic| repeat (walk_at "g1"))
abbrev s_is_whole : Stmt := top 4
theorem sc_is_whole : FnScope ["thing"] ["thing"] (defScope s_is_whole) :=
  ⟨rfl, rfl, rfl, by decide +kernel, rfl, by decide +kernel, by decide +kernel⟩
abbrev s_hands_of : Stmt := top 7
theorem sc_hands_of : FnScope ["watch", "word", "some", "limit", "name", "weight"] ["watch"] (defScope s_hands_of) :=
  ⟨rfl, rfl, rfl, by decide +kernel, rfl, by decide +kernel, by decide +kernel⟩
abbrev s_sum_of : Stmt := top 8
theorem sc_sum_of : FnScope ["watch", "numbers", "name", "weight"] ["watch", "numbers"] (defScope s_sum_of) :=
  ⟨rfl, rfl, rfl, by decide +kernel, rfl, by decide +kernel, by decide +kernel⟩
abbrev s_worth_of : Stmt := top 9
theorem sc_worth_of : FnScope ["watch", "numbers", "word", "some", "limit", "name"] ["watch", "numbers"] (defScope s_worth_of) :=
  ⟨rfl, rfl, rfl, by decide +kernel, rfl, by decide +kernel, by decide +kernel⟩
abbrev s_added : Stmt := top 10
theorem sc_added : FnScope ["ends"] ["ends"] (defScope s_added) :=
  ⟨rfl, rfl, rfl, by decide +kernel, rfl, by decide +kernel, by decide +kernel⟩
abbrev s_weighed : Stmt := top 11
theorem sc_weighed : FnScope ["weight", "end"] ["weight", "end"] (defScope s_weighed) :=
  ⟨rfl, rfl, rfl, by decide +kernel, rfl, by decide +kernel, by decide +kernel⟩
abbrev s_sum_ends : Stmt := top 12
theorem sc_sum_ends : FnScope ["some", "bands", "lows", "highs", "name", "weight", "ends", "low", "high"] ["some", "bands"] (defScope s_sum_ends) :=
  ⟨rfl, rfl, rfl, by decide +kernel, rfl, by decide +kernel, by decide +kernel⟩
abbrev s_told_sum : Stmt := top 13
theorem sc_told_sum : FnScope ["some", "limit", "bands"] ["some", "limit", "bands"] (defScope s_told_sum) :=
  ⟨rfl, rfl, rfl, by decide +kernel, rfl, by decide +kernel, by decide +kernel⟩
abbrev s_told_over : Stmt := top 14
theorem sc_told_over : FnScope ["some", "limit", "bands", "low", "high"] ["some", "limit", "bands"] (defScope s_told_over) :=
  ⟨rfl, rfl, rfl, by decide +kernel, rfl, by decide +kernel, by decide +kernel⟩
abbrev s_told_most : Stmt := top 15
theorem sc_told_most : FnScope ["some", "limit", "bands", "lows", "highs", "name"] ["some", "limit", "bands"] (defScope s_told_most) :=
  ⟨rfl, rfl, rfl, by decide +kernel, rfl, by decide +kernel, by decide +kernel⟩
abbrev s_told_count : Stmt := top 16
theorem sc_told_count : FnScope ["some", "limit", "bands", "least", "most", "name"] ["some", "limit", "bands"] (defScope s_told_count) :=
  ⟨rfl, rfl, rfl, by decide +kernel, rfl, by decide +kernel, by decide +kernel⟩
abbrev s_told_of : Stmt := top 18
theorem sc_told_of : FnScope ["watch", "bands", "word", "some", "limit", "teller"] ["watch", "bands"] (defScope s_told_of) :=
  ⟨rfl, rfl, rfl, by decide +kernel, rfl, by decide +kernel, by decide +kernel⟩
abbrev s_is_kept : Stmt := top 19
theorem sc_is_kept : FnScope ["watch", "bands", "word", "some", "limit", "told", "low", "high"] ["watch", "bands"] (defScope s_is_kept) :=
  ⟨rfl, rfl, rfl, by decide +kernel, rfl, by decide +kernel, by decide +kernel⟩
abbrev s_is_end : Stmt := top 21
theorem sc_is_end : FnScope ["thing"] ["thing"] (defScope s_is_end) :=
  ⟨rfl, rfl, rfl, by decide +kernel, rfl, by decide +kernel, by decide +kernel⟩
abbrev s_is_at_most : Stmt := top 22
theorem sc_is_at_most : FnScope ["low", "high"] ["low", "high"] (defScope s_is_at_most) :=
  ⟨rfl, rfl, rfl, by decide +kernel, rfl, by decide +kernel, by decide +kernel⟩
abbrev s_Band_init : Stmt := inClass (top 24) 0
theorem sc_Band_init : FnScope ["self", "low", "high"] ["self", "low", "high"] (defScope s_Band_init) :=
  ⟨rfl, rfl, rfl, by decide +kernel, rfl, by decide +kernel, by decide +kernel⟩
abbrev s_l_bag : Stmt := top 26
theorem sc_l_bag : FnScope ["_law_script", "_law_at", "_law_primes", "_law_cell", "_law_great", "_law_mixed"] ["_law_script", "_law_at"] (defScope s_l_bag) :=
  ⟨rfl, rfl, rfl, by decide +kernel, rfl, by decide +kernel, by decide +kernel⟩
abbrev s_l_take : Stmt := top 27
theorem sc_l_take : FnScope ["_law_bag_here", "_law_many", "_law_digit"] ["_law_bag_here", "_law_many"] (defScope s_l_take) :=
  ⟨rfl, rfl, rfl, by decide +kernel, rfl, by decide +kernel, by decide +kernel⟩
abbrev s_l_names : Stmt := top 28
theorem sc_l_names : FnScope ["_law_bag_here", "_law_many", "_law_signs", "_law_size", "_law_stem", "_law_spot", "_law_first", "_law_pace", "_law_own", "_law_k", "_law_sign"] ["_law_bag_here", "_law_many"] (defScope s_l_names) :=
  ⟨rfl, rfl, rfl, by decide +kernel, rfl, by decide +kernel, by decide +kernel⟩
abbrev s_l_some : Stmt := top 30
theorem sc_l_some : FnScope ["_law_bag_here", "_law_names_here", "_law_found", "_law_name"] ["_law_bag_here", "_law_names_here"] (defScope s_l_some) :=
  ⟨rfl, rfl, rfl, by decide +kernel, rfl, by decide +kernel, by decide +kernel⟩
abbrev s_l_watch : Stmt := top 31
theorem sc_l_watch : FnScope ["_law_bag_here", "_law_names_here", "_law_middles", "_law_road", "_law_some_here", "_law_small", "_law_weights", "_law_total", "_law_near", "_law_name", "_law_weight"] ["_law_bag_here", "_law_names_here", "_law_middles"] (defScope s_l_watch) :=
  ⟨rfl, rfl, rfl, by decide +kernel, rfl, by decide +kernel, by decide +kernel⟩
abbrev s_l_drawn_ends : Stmt := top 32
theorem sc_l_drawn_ends : FnScope ["_law_bag_here", "_law_low_end", "_law_ends"] ["_law_bag_here"] (defScope s_l_drawn_ends) :=
  ⟨rfl, rfl, rfl, by decide +kernel, rfl, by decide +kernel, by decide +kernel⟩
abbrev s_l_all : Stmt := top 33
theorem sc_l_all : FnScope ["_law_names_here", "_law_places", "_law_found", "_law_name", "_law_low_end", "_law_top", "_law_some_here", "_law_longer", "_law_row", "_law_number_here", "_law_more"] ["_law_names_here", "_law_places"] (defScope s_l_all) :=
  ⟨rfl, rfl, rfl, by decide +kernel, rfl, by decide +kernel, by decide +kernel⟩
abbrev s_l_far_end : Stmt := top 34
theorem sc_l_far_end : FnScope ["_law_names_here", "_law_places", "_law_watch_here", "_law_worths", "_law_bands", "_law_told", "_law_least", "_law_most", "_law_due", "_law_name"] ["_law_names_here", "_law_places", "_law_watch_here", "_law_worths"] (defScope s_l_far_end) :=
  ⟨rfl, rfl, rfl, by decide +kernel, rfl, by decide +kernel, by decide +kernel⟩
abbrev s_law : Stmt := top 35
theorem sc_law : FnScope ["_law_script", "_law_at", "_law_bag_here", "_law_names_here", "_law_places", "_law_bands", "_law_near", "_law_turn", "_law_watch_here", "_law_worths", "_law_due", "_law_name", "_law_row", "_law_end"] ["_law_script"] (defScope s_law) :=
  ⟨rfl, rfl, rfl, by decide +kernel, rfl, by decide +kernel, by decide +kernel⟩
structure Gs where
  c_Band : Addr
  c_TELLERS : Addr
  c_WEIGHED : Addr
  f_is_whole : Addr
  d_is_whole : FuncData
  f_hands_of : Addr
  d_hands_of : FuncData
  f_sum_of : Addr
  d_sum_of : FuncData
  f_worth_of : Addr
  d_worth_of : FuncData
  f_added : Addr
  d_added : FuncData
  f_weighed : Addr
  d_weighed : FuncData
  f_sum_ends : Addr
  d_sum_ends : FuncData
  f_told_sum : Addr
  d_told_sum : FuncData
  f_told_over : Addr
  d_told_over : FuncData
  f_told_most : Addr
  d_told_most : FuncData
  f_told_count : Addr
  d_told_count : FuncData
  f_told_of : Addr
  d_told_of : FuncData
  f_is_kept : Addr
  d_is_kept : FuncData
  f_is_end : Addr
  d_is_end : FuncData
  f_is_at_most : Addr
  d_is_at_most : FuncData
  f_Band_init : Addr
  d_Band_init : FuncData
  f_l_bag : Addr
  d_l_bag : FuncData
  f_l_take : Addr
  d_l_take : FuncData
  f_l_names : Addr
  d_l_names : FuncData
  f_l_some : Addr
  d_l_some : FuncData
  f_l_watch : Addr
  d_l_watch : FuncData
  f_l_drawn_ends : Addr
  d_l_drawn_ends : FuncData
  f_l_all : Addr
  d_l_all : FuncData
  f_l_far_end : Addr
  d_l_far_end : FuncData
  f_law : Addr
  d_law : FuncData
structure Gk (w : World) (K : PySem.W.Frag) (mg : Str → Option Value) (g : Gs) : Prop where
  m_Band : mg "Band" = some (.ref g.c_Band)
  cl_Band : Cls K g.c_Band
  k_Band : Mk K g.c_Band g.f_Band_init
  na_Band_low : NoAttr K g.c_Band "low"
  na_Band_high : NoAttr K g.c_Band "high"
  F_is_whole : Fun K "is_whole" "is_whole" s_is_whole g.f_is_whole g.d_is_whole
  b_is_whole : Binds K g.d_is_whole ["thing"] []
  m_is_whole : mg "is_whole" = some (.ref g.f_is_whole)
  F_hands_of : Fun K "hands_of" "hands_of" s_hands_of g.f_hands_of g.d_hands_of
  b_hands_of : Binds K g.d_hands_of ["watch"] []
  m_hands_of : mg "hands_of" = some (.ref g.f_hands_of)
  F_sum_of : Fun K "sum_of" "sum_of" s_sum_of g.f_sum_of g.d_sum_of
  b_sum_of : Binds K g.d_sum_of ["watch", "numbers"] []
  m_sum_of : mg "sum_of" = some (.ref g.f_sum_of)
  F_worth_of : Fun K "worth_of" "worth_of" s_worth_of g.f_worth_of g.d_worth_of
  b_worth_of : Binds K g.d_worth_of ["watch", "numbers"] []
  m_worth_of : mg "worth_of" = some (.ref g.f_worth_of)
  F_added : Fun K "added" "added" s_added g.f_added g.d_added
  b_added : Binds K g.d_added ["ends"] []
  m_added : mg "added" = some (.ref g.f_added)
  F_weighed : Fun K "weighed" "weighed" s_weighed g.f_weighed g.d_weighed
  b_weighed : Binds K g.d_weighed ["weight", "end"] []
  m_weighed : mg "weighed" = some (.ref g.f_weighed)
  F_sum_ends : Fun K "sum_ends" "sum_ends" s_sum_ends g.f_sum_ends g.d_sum_ends
  b_sum_ends : Binds K g.d_sum_ends ["some", "bands"] []
  m_sum_ends : mg "sum_ends" = some (.ref g.f_sum_ends)
  F_told_sum : Fun K "told_sum" "told_sum" s_told_sum g.f_told_sum g.d_told_sum
  b_told_sum : Binds K g.d_told_sum ["some", "limit", "bands"] []
  m_told_sum : mg "told_sum" = some (.ref g.f_told_sum)
  F_told_over : Fun K "told_over" "told_over" s_told_over g.f_told_over g.d_told_over
  b_told_over : Binds K g.d_told_over ["some", "limit", "bands"] []
  m_told_over : mg "told_over" = some (.ref g.f_told_over)
  F_told_most : Fun K "told_most" "told_most" s_told_most g.f_told_most g.d_told_most
  b_told_most : Binds K g.d_told_most ["some", "limit", "bands"] []
  m_told_most : mg "told_most" = some (.ref g.f_told_most)
  F_told_count : Fun K "told_count" "told_count" s_told_count g.f_told_count g.d_told_count
  b_told_count : Binds K g.d_told_count ["some", "limit", "bands"] []
  m_told_count : mg "told_count" = some (.ref g.f_told_count)
  F_told_of : Fun K "told_of" "told_of" s_told_of g.f_told_of g.d_told_of
  b_told_of : Binds K g.d_told_of ["watch", "bands"] []
  m_told_of : mg "told_of" = some (.ref g.f_told_of)
  F_is_kept : Fun K "is_kept" "is_kept" s_is_kept g.f_is_kept g.d_is_kept
  b_is_kept : Binds K g.d_is_kept ["watch", "bands"] []
  m_is_kept : mg "is_kept" = some (.ref g.f_is_kept)
  F_is_end : Fun K "is_end" "is_end" s_is_end g.f_is_end g.d_is_end
  b_is_end : Binds K g.d_is_end ["thing"] []
  m_is_end : mg "is_end" = some (.ref g.f_is_end)
  F_is_at_most : Fun K "is_at_most" "is_at_most" s_is_at_most g.f_is_at_most g.d_is_at_most
  b_is_at_most : Binds K g.d_is_at_most ["low", "high"] []
  m_is_at_most : mg "is_at_most" = some (.ref g.f_is_at_most)
  b_Band_init : Binds K g.d_Band_init ["self", "low", "high"] []
  b0_Band_init : ∃ ds, Vals [.non, .non] ds ∧ Binds K g.d_Band_init ["self", "low", "high"] ds
  b1_Band_init : ∃ ds, Vals [.non] ds ∧ Binds K g.d_Band_init ["self", "low", "high"] ds
  D_Band_init : FunD K "__init__" "Band.__init__" (defArgs s_Band_init) (defBody s_Band_init) (defScope s_Band_init) [.non, .non] [] g.f_Band_init g.d_Band_init
  F_l_bag : Fun K "_law_bag" "_law_bag" s_l_bag g.f_l_bag g.d_l_bag
  b_l_bag : Binds K g.d_l_bag ["_law_script", "_law_at"] []
  m_l_bag : mg "_law_bag" = some (.ref g.f_l_bag)
  F_l_take : Fun K "_law_take" "_law_take" s_l_take g.f_l_take g.d_l_take
  b_l_take : Binds K g.d_l_take ["_law_bag_here", "_law_many"] []
  m_l_take : mg "_law_take" = some (.ref g.f_l_take)
  F_l_names : Fun K "_law_names" "_law_names" s_l_names g.f_l_names g.d_l_names
  b_l_names : Binds K g.d_l_names ["_law_bag_here", "_law_many"] []
  m_l_names : mg "_law_names" = some (.ref g.f_l_names)
  F_l_some : Fun K "_law_some" "_law_some" s_l_some g.f_l_some g.d_l_some
  b_l_some : Binds K g.d_l_some ["_law_bag_here", "_law_names_here"] []
  m_l_some : mg "_law_some" = some (.ref g.f_l_some)
  F_l_watch : Fun K "_law_watch" "_law_watch" s_l_watch g.f_l_watch g.d_l_watch
  b_l_watch : Binds K g.d_l_watch ["_law_bag_here", "_law_names_here", "_law_middles"] []
  m_l_watch : mg "_law_watch" = some (.ref g.f_l_watch)
  F_l_drawn_ends : Fun K "_law_drawn_ends" "_law_drawn_ends" s_l_drawn_ends g.f_l_drawn_ends g.d_l_drawn_ends
  b_l_drawn_ends : Binds K g.d_l_drawn_ends ["_law_bag_here"] []
  m_l_drawn_ends : mg "_law_drawn_ends" = some (.ref g.f_l_drawn_ends)
  F_l_all : Fun K "_law_all" "_law_all" s_l_all g.f_l_all g.d_l_all
  b_l_all : Binds K g.d_l_all ["_law_names_here", "_law_places"] []
  m_l_all : mg "_law_all" = some (.ref g.f_l_all)
  F_l_far_end : Fun K "_law_far_end" "_law_far_end" s_l_far_end g.f_l_far_end g.d_l_far_end
  b_l_far_end : Binds K g.d_l_far_end ["_law_names_here", "_law_places", "_law_watch_here", "_law_worths"] []
  m_l_far_end : mg "_law_far_end" = some (.ref g.f_l_far_end)
  F_law : Fun K "law" "law" s_law g.f_law g.d_law
  b_law : Binds K g.d_law ["_law_script"] []
  m_law : mg "law" = some (.ref g.f_law)
  z_len : mg "len" = none
  z_abs : mg "abs" = none
  z_max : mg "max" = none
  z_min : mg "min" = none
  z_isinstance : mg "isinstance" = none
  z_range : mg "range" = none
  z_sum : mg "sum" = none
  z_sorted : mg "sorted" = none
  z_tuple : mg "tuple" = none
  z_dict : mg "dict" = none
  z_int : mg "int" = none
  z_bool : mg "bool" = none
  z_list : mg "list" = none
  z_repr : mg "repr" = none
  z_set : mg "set" = none
  m_TELLERS : mg "TELLERS" = some (.ref g.c_TELLERS)
  kd_TELLERS_sum : KDct K w g.c_TELLERS "sum" (.ref g.f_told_sum)
  kd_TELLERS_over : KDct K w g.c_TELLERS "over" (.ref g.f_told_over)
  kd_TELLERS_most : KDct K w g.c_TELLERS "most" (.ref g.f_told_most)
  kd_TELLERS_count : KDct K w g.c_TELLERS "count" (.ref g.f_told_count)
  m_WEIGHED : mg "WEIGHED" = some (.ref g.c_WEIGHED)
  tp_WEIGHED : ∀ H, SqT K H g.c_WEIGHED [.str (Str.ofString "sum"), .str (Str.ofString "over")]
section
variable {P : Program} {w : World} {K : PySem.W.Frag} {mg : Str → Option Value} {base : Heap} {g : Gs}
/-! ### the bag -/
def spTake : Sp := fun vs H Q _ => ∃ (b : Addr) (many : Int), vs = [.ref b, .int many] ∧ Bag H b ∧ 0 < many ∧ many < 2 ^ 200 ∧
  ∀ (d : Int) (H' : Hp), 0 ≤ d → d < many → Step b H H' → Q (.int d) H'
theorem use_take {b : Addr} {many : Int} {H : Hp} {Q : VK} {E : XK} (hb : Bag H b) (h0 : 0 < many) (h1 : many < 2 ^ 200)
    (k : ∀ (d : Int) (H' : Hp), 0 ≤ d → d < many → Step b H H' → Q (.int d) H') : spTake ([.ref b, .int many] ++ []) H Q E := ⟨b, many, rfl, hb, h0, h1, k⟩
theorem ok_l_take (T : Gk w K mg g) : FnOk P w K mg base CX0 1 g.f_l_take g.d_l_take ["_law_bag_here", "_law_many"] spTake := by
  refine T.F_l_take.ok sc_l_take (fun vs H Q E h => ?_) (fun cdv A outer s H vs Q E hr h => ?_)
  · obtain ⟨b, many, rfl, _⟩ := h; rfl
  · obtain ⟨b, many, rfl, ⟨n, m, hn, hm, hb⟩, h0, h1, k⟩ := h
    refine ⟨_, (pss_cons (ps_if (pt_cmpR op_gt (pe_ix (k_ixL K) (pv 0) pe_int (fun _ _ => rfl)) pe_int (nomark _)) (pss_cons (ps_set (i := 2) sc_l_take.nd rfl (Or.inl rfl) (pe_op op_mod (pe_ix (k_ixL K) (pv 0) pe_int (fun _ _ => rfl)) (pv 1)))
      (pss_cons (ps_asg (pe_op op_fdivW (pe_ix (k_ixL K) (pv 0) pe_int (fun _ _ => rfl)) (pv 1)) (pg_sub (pv 0) pe_int set_list))
      (pss_one (ps_ret (pv 2))))) pss_nil)
      (pss_cons (ps_asg (pe_op op_mod (pe_op op_add (pe_op op_mul (pe_ix (k_ixL K) (pv 0) pe_int (fun _ _ => rfl)) pe_int) pe_int) pe_int) (pg_sub (pv 0) pe_int set_list))
      (pss_one (ps_ret (pe_op op_mod (pe_op op_mod (pe_op op_pow (pe_op op_fdiv (pe_ix (k_ixL K) (pv 0) pe_int (fun _ _ => rfl)) pe_int) pe_int) pe_int) (pv 1)))))), ?_⟩
    have sq : SqL K H b [.int n, .int m] := SqL.of hb
    have step : ∀ (n' m' : Int), 0 ≤ n' → 0 ≤ m' → Step b H (upd H b (.lst [.int n', .int m'])) := fun n' m' a c =>
      ⟨⟨n', m', a, c, upd_same⟩, fun x o hx => by
        obtain ⟨e1, e2⟩ := off_get hx
        refine off_mk ?_ e2
        rw [upd_ne (by simpa using e2)]; exact e1⟩
    walk_at "go"
    refine w_ixL sq rfl ?_
    walk_at "go"
    refine ite_b (fun hc => ?_) (fun hc => ?_)
    · have hc := of_decide_eq_true hc
      walk_at "go"
      refine w_ixL sq rfl ?_
      walk_at "go"
      refine w_I h0 ?_
      walk_at "go"
      refine w_ixL sq rfl ?_
      walk_at "go"
      refine w_I (wide_div (b := 200) h0 (by omega) (by decide) (by decide)) ?_
      walk_at "go"
      refine w_setL hb rfl ?_
      walk_at "go"
      exact k _ _ (Int.emod_nonneg _ (by omega)) (Int.emod_lt_of_pos _ h0) (step _ _ (Int.ediv_nonneg hn (by omega)) hm)
    · walk_at "go"
      refine w_ixL sq rfl ?_
      walk_at "go"
      refine w_I (Or.inr ⟨by decide, by decide⟩) ?_
      walk_at "go"
      refine w_I (by decide) ?_
      walk_at "go"
      refine w_setL hb rfl ?_
      walk_at "go"
      refine w_ixL (SqL.at upd_same) rfl ?_
      walk_at "go"
      refine w_I ⟨by decide, by decide⟩ ?_
      walk_at "go"
      have m0 : 0 ≤ (m * 48271 + 11) % 2147483647 := Int.emod_nonneg _ (by decide)
      have m1 : (m * 48271 + 11) % 2147483647 < 2147483647 := Int.emod_lt_of_pos _ (by decide)
      refine w_I ⟨by decide, by decide, by omega⟩ ?_
      walk_at "go"
      refine w_I (by decide) ?_
      walk_at "go"
      refine w_I h0 ?_
      exact k _ _ (Int.emod_nonneg _ (by omega)) (Int.emod_lt_of_pos _ h0) (step _ _ hn m0)
/-- _law_bag: a bag, new -/
def spBag (K : PySem.W.Frag) : Sp := fun vs H Q _ => ∃ (a : Addr) (ns : List Int) (j : Nat), vs = [.ref a, .int j] ∧ SqL K H a (ns.map V.int) ∧ ns.length ≤ 63 ∧ j < 8 ∧
  ∀ (b : Addr) (H' : Hp), H b = none → Same H H' → Bag H' b → Q (.ref b) H'
theorem prime_at : ∀ j : Nat, j < 8 → ∃ p : Int, 0 < p ∧ atI [V.int 2147483629, .int 2147483587, .int 2147483579, .int 2147483563, .int 2147483549, .int 2147483543, .int 2147483497, .int 2147483489] ((j : Int) % 8) = some (.int p) ∧ p < 2147483648
  | 0, _ => ⟨_, by decide, rfl, by decide⟩
  | 1, _ => ⟨_, by decide, rfl, by decide⟩
  | 2, _ => ⟨_, by decide, rfl, by decide⟩
  | 3, _ => ⟨_, by decide, rfl, by decide⟩
  | 4, _ => ⟨_, by decide, rfl, by decide⟩
  | 5, _ => ⟨_, by decide, rfl, by decide⟩
  | 6, _ => ⟨_, by decide, rfl, by decide⟩
  | 7, _ => ⟨_, by decide, rfl, by decide⟩
  | n + 8, h => absurd h (by omega)
theorem ok_l_bag (T : Gk w K mg g) : FnOk P w K mg base CX0 1 g.f_l_bag g.d_l_bag ["_law_script", "_law_at"] (spBag K) := by
  refine T.F_l_bag.ok sc_l_bag (fun vs H Q E h => ?_) (fun cdv A outer s H vs Q E hr h => ?_)
  · obtain ⟨a, ns, j, rfl, _⟩ := h; rfl
  · obtain ⟨a, ns, j, rfl, hS, hlen, hj, k⟩ := h
    refine ⟨_, (pss_cons (ps_set (i := 2) sc_l_bag.nd rfl (Or.inl rfl) (pe_lst (pa_cons pe_int (pa_cons pe_int (pa_cons pe_int (pa_cons pe_int (pa_cons pe_int (pa_cons pe_int (pa_cons pe_int (pa_cons pe_int pa_nil))))))))))
      (pss_cons (ps_set (i := 3) sc_l_bag.nd rfl (Or.inl rfl) (pe_ifExp (pt_cmpR op_lt (pv 1) (pe_callB (k_len K) (by rfl) T.z_len (by decide +kernel) (pa_cons (pv 0) pa_nil)) (nomark _)) (pe_ix (k_ixL K) (pv 0) (pv 1) (fun _ _ => rfl)) pe_int))
      (pss_cons (ps_set (i := 4) sc_l_bag.nd rfl (Or.inl rfl) (pe_ifExp (pt_cmpR op_ge (pe_callB k_abs (by rfl) T.z_abs (by decide +kernel) (pa_cons (pv 3) pa_nil)) (pe_op op_pow pe_int pe_int) (nomark _)) (pe_callB k_abs (by rfl) T.z_abs (by decide +kernel) (pa_cons (pv 3) pa_nil)) pe_int))
      (pss_cons (ps_set (i := 5) sc_l_bag.nd rfl (Or.inl rfl) (pe_op op_mod (pe_op op_pow (pe_op op_add (pe_op op_add (pe_op op_mod (pv 3) pe_int) (pe_op op_mul pe_int (pv 1))) pe_int) pe_int) (pe_ix (k_ixL K) (pv 2) (pe_op op_mod (pv 1) pe_int) (fun _ _ => rfl))))
      (pss_one (ps_ret (pe_lst (pa_cons (pv 4) (pa_cons (pe_op op_mod (pe_op op_pow (pe_op op_add (pe_op op_add (pe_op op_mul (pv 5) pe_int) (pe_op op_mul pe_int (pv 1))) pe_int) pe_int) pe_int) pa_nil))))))))), ?_⟩
    walk_at "go"
    refine k_lst (by show 8 ≤ sizeLine; decide) fun pr H1 np s1 hp => ?_
    have hS1 := s1.seq hS
    walk_at "go"
    refine ⟨a, _, rfl, .inl hS1, ?_⟩
    walk_at "go"
    refine if_join (fun v H' => H1 = H' ∧ ∃ c : Int, v = .int c) (fun hc Q' kQ => ?_) (fun _ Q' kQ => ?_) ?_
    · have hc := of_decide_eq_true hc
      rw [List.length_map] at hc
      walk_at "go"
      have hl : j < ns.length := by omega
      refine w_ixL hS1 (atI_nat (by rw [List.getElem?_map, List.getElem?_eq_getElem hl]; rfl)) ?_
      exact kQ _ _ ⟨rfl, _, rfl⟩
    · walk_at "go"
      exact kQ _ _ ⟨rfl, _, rfl⟩
    · rintro v H' ⟨rfl, cell, rfl⟩
      walk_at "go"
      refine w_I ⟨by decide, by decide, by decide⟩ ?_
      walk_at "go"
      refine if_join (fun v H' => H1 = H' ∧ ∃ c : Int, v = .int c ∧ 0 ≤ c) (fun hc Q' kQ => ?_) (fun _ Q' kQ => ?_) ?_
      · walk_at "go"
        refine kQ _ _ ⟨rfl, _, rfl, ?_⟩
        split <;> omega
      · walk_at "go"
        exact kQ _ _ ⟨rfl, _, rfl, Int.le_refl 0⟩
      · rintro v H' ⟨rfl, great, rfl, g0⟩
        walk_at "go"
        refine w_I (by decide) ?_
        walk_at "go"
        refine w_I (Or.inl ⟨by decide, by decide⟩) ?_
        walk_at "go"
        have c0 : 0 ≤ cell % 2147483647 := Int.emod_nonneg _ (by decide)
        have c1 : cell % 2147483647 < 2147483647 := Int.emod_lt_of_pos _ (by decide)
        have e64 : (2 : Nat) ^ 64 = 18446744073709551616 := by decide
        refine w_I ⟨by decide, by decide, by rw [e64]; omega⟩ ?_
        walk_at "go"
        refine w_I (by decide) ?_
        obtain ⟨p, p0, pe, p1⟩ := prime_at j hj
        refine w_ixL (SqL.at hp) pe ?_
        refine w_I p0 ?_
        walk_at "go"
        generalize hm : (cell % 2147483647 + 104729 * (j : Int) + 7) ^ (5 : Int).toNat % p = mixed
        have m0 : 0 ≤ mixed := hm ▸ Int.emod_nonneg _ (by omega)
        have m1 : mixed < p := hm ▸ Int.emod_lt_of_pos _ p0
        refine w_I (Or.inr ⟨by decide, by decide⟩) ?_
        walk_at "go"
        refine w_I (Or.inl ⟨by decide, by decide⟩) ?_
        walk_at "go"
        refine w_I ⟨by decide, by decide, by rw [e64]; omega⟩ ?_
        walk_at "go"
        refine w_I (by decide) ?_
        walk_at "go"
        refine k_lst (by show 2 ≤ sizeLine; decide) fun b H2 nb s2 hb => ?_
        exact k b H2 (s1.free nb) (s1.trans s2) ⟨_, _, g0, Int.emod_nonneg _ (by decide), hb⟩
theorem use_bag {a : Addr} {ns : List Int} {j : Nat} {H : Hp} {Q : VK} {E : XK} (hS : SqL K H a (ns.map V.int)) (hl : ns.length ≤ 63) (hj : j < 8)
    (k : ∀ (b : Addr) (H' : Hp), H b = none → Same H H' → Bag H' b → Q (.ref b) H') : spBag K ([.ref a, .int j] ++ []) H Q E := ⟨a, ns, j, rfl, hS, hl, hj, k⟩
/-! ### drawn names -/
theorem ok_l_names (T : Gk w K mg g) : FnOk P w K mg base CX0 2 g.f_l_names g.d_l_names ["_law_bag_here", "_law_many"] spNames := by
  refine T.F_l_names.ok sc_l_names (fun vs H Q E h => ?_) (fun cdv A outer s H vs Q E hr h => ?_)
  · obtain ⟨b, many, rfl, _⟩ := h; rfl
  · obtain ⟨b, many, rfl, hb, hm1, hm2, k⟩ := h
    have O_l_take := ok_l_take (P := P) (w := w) (base := base) T
    have hr_1 : Room 1 _ := hr.mono (by decide)
    refine ⟨_, (pss_cons (ps_set (i := 2) sc_l_names.nd rfl (Or.inr rfl) pe_str)
      (pss_cons (ps_set (i := 3) sc_l_names.nd rfl (Or.inl rfl) (pe_ix (k_ixL K) (pe_lst (pa_cons pe_int (pa_cons pe_int (pa_cons pe_int (pa_cons pe_int (pa_cons pe_int pa_nil)))))) (pe_call O_l_take hr_1 rfl T.m_l_take T.F_l_take.kp T.b_l_take .nil pass0 (pa_cons (pv 0) (pa_cons pe_int pa_nil))) (fun _ _ => rfl)))
      (pss_cons (ps_set (i := 4) sc_l_names.nd rfl (Or.inr rfl) (pe_bmK K PySem.F.plainAttrs_str PySem.F.slot_str_join PySem.F.type_str_join (k_join K) pe_str (pa_cons (pe_lc (own := [("_law_k", 9)]) (g := (gName 9)) rfl sc_l_names.nd (pi_range1 (by rfl) T.z_range (pa_cons (pv 3) pa_nil)) (blkOk_by (N := ["_law_bag_here", "_law_many", "_law_signs", "_law_size", "_law_stem", "_law_spot", "_law_first", "_law_pace", "_law_own", "_law_k", "_law_sign"]) (sc := defScope s_l_names) (by decide +kernel)) (fun _ _ _ _ _ => pg_name (i := 9) sc_l_names.nd rfl (Or.inl rfl)) (fun _ _ _ _ _ => pts_nil) (fun _ _ _ _ _ => (pe_ix ix_str (pv 2) (pe_call O_l_take hr_1 rfl T.m_l_take T.F_l_take.kp T.b_l_take .nil pass0 (pa_cons (pv 0) (pa_cons pe_int pa_nil))) (fun _ _ => rfl)))) pa_nil)))
      (pss_cons (ps_asg (pe_tup (pa_cons (pe_call O_l_take hr_1 rfl T.m_l_take T.F_l_take.kp T.b_l_take .nil pass0 (pa_cons (pv 0) (pa_cons (pe_op op_add (pe_callB k_lenStr (by rfl) T.z_len (by decide +kernel) (pa_cons (pv 4) pa_nil)) pe_int) pa_nil))) (pa_cons (pe_call O_l_take hr_1 rfl T.m_l_take T.F_l_take.kp T.b_l_take .nil pass0 (pa_cons (pv 0) (pa_cons pe_int pa_nil))) pa_nil))) (pg_tup rfl (pgs_cons (pg_name (i := 5) sc_l_names.nd rfl (Or.inr rfl)) (pgs_cons (pg_name (i := 6) sc_l_names.nd rfl (Or.inr rfl)) pgs_nil))))
      (pss_cons (ps_set (i := 7) sc_l_names.nd rfl (Or.inr rfl) (pe_ix (k_ixL K) (pe_lst (pa_cons pe_int (pa_cons pe_int (pa_cons pe_int (pa_cons pe_int pa_nil))))) (pe_call O_l_take hr_1 rfl T.m_l_take T.F_l_take.kp T.b_l_take .nil pass0 (pa_cons (pv 0) (pa_cons pe_int pa_nil))) (fun _ _ => rfl)))
      (pss_cons (ps_setLc (i := 8) (own := [("_law_k", 9)]) (g := (gName 9)) rfl sc_l_names.nd rfl rfl (sw_true rfl rfl rfl (by decide +kernel)) (pi_range1 (by rfl) T.z_range (pa_cons (pv 1) pa_nil)) (blkOk_by (N := ["_law_bag_here", "_law_many", "_law_signs", "_law_size", "_law_stem", "_law_spot", "_law_first", "_law_pace", "_law_own", "_law_k", "_law_sign"]) (sc := defScope s_l_names) (by decide +kernel)) (fun _ _ _ _ _ => pg_name (i := 9) sc_l_names.nd rfl (Or.inl rfl)) (fun _ _ _ _ _ => pts_nil) (fun _ _ _ _ _ => (pe_ix ix_str (pv 2) (pe_op op_mod (pe_op op_add (pv 6) (pe_op op_mul (pv 7) (pv 9))) pe_int) (fun _ _ => rfl))))
      (pss_one (ps_ret (pe_callTy (k_tuple K) (by rfl) T.z_tuple (by decide +kernel) (pa_cons (pe_callB (k_sortedS K) (by rfl) T.z_sorted (by decide +kernel) (pa_cons (pe_lc (own := [("_law_sign", 10)]) (g := (gName 10)) rfl sc_l_names.nd (pi_listK K (pv 8)) (blkOk_by (N := ["_law_bag_here", "_law_many", "_law_signs", "_law_size", "_law_stem", "_law_spot", "_law_first", "_law_pace", "_law_own", "_law_k", "_law_sign"]) (sc := defScope s_l_names) (by decide +kernel)) (fun _ _ _ _ _ => pg_name (i := 10) sc_l_names.nd rfl (Or.inl rfl)) (fun _ _ _ _ _ => pts_nil) (fun _ _ _ _ _ => (pe_op k_addS (pe_op k_addS (pe_slice sl_str (pv 4) po_none (po_some (pv 5))) (pv 10)) (pe_slice sl_str (pv 4) (po_some (pv 5)) po_none)))) pa_nil)) pa_nil)))))))))), ?_⟩
    walk_at "go"
    refine k_lst (by show 5 ≤ sizeLine; decide) fun l1 H1 nl1 s1 hl1 => ?_
    walk_at "go"
    have hb1 := hb.mono s1
    have nb1 := bag_new hb nl1
    refine use_take hb1 (by decide) (by decide) fun d1 H2 d10 d11 s2 => ?_
    obtain ⟨size, es, hsz⟩ := size_at d10 d11
    refine w_ixL (SqL.at (s2.at hl1 nb1)) es ?_
    have st2 : Step b H H2 := (Step.same hb s1).trans s2
    walk_at "go"
    refine ⟨_, rfl, by omega, by omega, ?_⟩
    rw [Int.toNat_natCast]
    refine b_lcR (n := size) (El := fun _ y _ => ∃ c, y = V.str ⟨#[c]⟩ ∧ 97 ≤ c ∧ c ≤ 122) st2.1 (ElOk.flat fun _ y => ∃ c, y = V.str ⟨#[c]⟩ ∧ 97 ≤ c ∧ c ≤ 122) (by omega)
      (fun i G hi st => turnB_name (fun _ => rfl) fun R Ny kR => ?_) fun D acc H3 nD hD st3 hacc => ?_
    · walk_at "go"
      refine iteT ?_
      walk_at "go"
      refine use_take st.1 (by decide) (by decide) fun d G' d0 d1' s' => ?_
      refine w_ixS (by decide) (abc_at d0 d1') ?_
      exact kR _ _ s' ⟨_, rfl, by omega, by omega⟩
    obtain ⟨ys, rfl, hy⟩ := stem_of fun j y e => hacc.2 j y e
    have hys : ys.length = size := by have := hacc.1; rwa [List.length_map, List.length_map] at this
    walk_at "go"
    refine ⟨_, D, _, rfl, rfl, .inl (SqL.at hD), ?_, ?_⟩
    · rw [sum_ones, List.length_map]
      have : (Str.ofString "").length = 0 := rfl
      rw [this]; omega
    generalize hst : Txt.join (Str.ofString "") (ys.map fun c => (⟨#[c]⟩ : Str)) = stem
    have tls : TL.tl stem = ys := by rw [← hst]; exact tl_stem ys
    have stl : stem.length = size := by rw [TL.len_tl, tls, hys]
    have sts : ∀ x ∈ TL.tl stem, 97 ≤ x ∧ x ≤ 122 := by rw [tls]; exact hy
    have st3 := st2.trans st3
    walk_at "go"
    refine w_lenS (by rw [stl]; exact Nat.le_trans hsz (by decide)) ?_
    walk_at "go"
    refine use_take st3.1 (by omega) (by rw [stl]; exact Int.lt_of_le_of_lt (b := 8) (by omega) (by decide)) fun spot H4 p0 p1 s4 => ?_
    walk_at "go"
    refine use_take s4.1 (by decide) (by decide) fun first H5 f0 f1 s5 => ?_
    have st5 := (st3.trans s4).trans s5
    walk_at "go"
    refine k_tup (by show 2 ≤ sizeLine; decide) fun t H6 nt s6 ht => ?_
    walk_at "go"
    refine w_gtup (K := K) (SqT.at ht) rfl ?_
    have st6 := st5.more s6
    walk_at "go"
    refine k_lst (by show 4 ≤ sizeLine; decide) fun l7 H7 nl7 s7 hl7 => ?_
    have st7 := st6.more s7
    have nb7 := bag_new st6.1 nl7
    walk_at "go"
    refine use_take st7.1 (by decide) (by decide) fun d8 H8 d80 d81 s8 => ?_
    obtain ⟨pace, ep, hp⟩ := pace_at d80 d81
    refine w_ixL (SqL.at (s8.at hl7 nb7)) ep ?_
    have st8 := st7.trans s8
    walk_at "go"
    refine ⟨_, rfl, by omega, by omega, ?_⟩
    rw [Int.toNat_natCast]
    refine i_lcR (n := many) (fun _ => true) (fun i => .str ⟨#[letter first pace i]⟩) (by omega) (fun i hi => turn_name (fun _ => rfl) ?_ ?_) fun D9 H9 nD9 s9 hD9 => ?_
    · intro H' s' Q' k'
      walk_at "go"
      exact k' _ (Same.refl _)
    · intro _ H' s' Q' k'
      walk_at "go"
      refine w_I (Or.inl (by rcases hp with rfl | rfl | rfl | rfl <;> decide)) ?_
      walk_at "go"
      refine w_I (by decide) ?_
      refine w_ixS (by decide) (abc_at (Int.emod_nonneg _ (by decide)) (Int.emod_lt_of_pos _ (by decide))) ?_
      exact k' _ (Same.refl _)
    rw [madeI_all] at hD9
    walk_at "go"
    obtain ⟨n, rfl⟩ : ∃ n : Nat, spot = (n : Int) := ⟨spot.toNat, by omega⟩
    have hn : n ≤ stem.length := by omega
    refine ⟨D9, rfl, ⟨_, SqL.at hD9⟩, ?_⟩
    refine i_lcL (fun _ => true) (fun i => .str (nameAt stem n (letter first pace i))) (by rw [List.length_map, List.length_range]; omega) (SqL.at hD9) (fun i x hi => ?_) fun D10 H10 nD10 s10 hD10 => ?_
    · obtain ⟨hlt, rfl⟩ : i < many ∧ x = V.str ⟨#[letter first pace i]⟩ := by
        obtain ⟨h1, h2⟩ := List.getElem?_eq_some_iff.mp hi
        rw [List.length_map, List.length_range] at h1
        refine ⟨h1, ?_⟩
        rw [← h2, List.getElem_map, List.getElem_range]
      refine turn_name (fun _ => rfl) ?_ ?_
      · intro H' s' Q' k'
        walk_at "go"
        exact k' _ (Same.refl _)
      · intro _ H' s' Q' k'
        have c1 : (cutS stem none (some (n : Int))).length ≤ 7 := by
          rw [TL.len_tl, tl_cut1 hn, List.length_take, ← TL.len_tl]; omega
        have c2 : (cutS stem (some (n : Int)) none).length ≤ 7 := by
          rw [TL.len_tl, tl_cut2 hn, List.length_drop, ← TL.len_tl]; omega
        have c3 : (⟨#[letter first pace i]⟩ : Str).length = 1 := rfl
        walk_at "go"
        refine w_slS (by omega) ?_
        walk_at "go"
        refine w_addS (Nat.le_trans (m := 8) (by omega) (by decide)) ?_
        walk_at "go"
        refine w_slS (by omega) ?_
        refine w_addS (Nat.le_trans (m := 15) (by rw [app_len]; omega) (by decide)) ?_
        exact k' _ (Same.refl _)
    rw [madeI_all, List.length_map, List.length_range] at hD10
    walk_at "go"
    have eD : (List.range many).map (fun i => V.str (nameAt stem n (letter first pace i))) = ((List.range many).map fun i => nameAt stem n (letter first pace i)).map V.str := by rw [List.map_map]; rfl
    rw [eD] at hD10
    refine ⟨D10, _, rfl, SqL.at hD10, by rw [List.length_map, List.length_range]; omega, fun zs p hper hso np => ?_⟩
    obtain ⟨nm, nl⟩ := names_raw hn (by omega) sts hp hm2 hper hso
    walk_at "go"
    refine w_tupleL (SqL.at upd_same) fun t2 H12 nt2 s12 ht2 => ?_
    have st12 : Step b H H12 := ((((st8.more s9).more s10).more (same_new np))).more s12
    exact k t2 zs H12 nm nl (((((st8.more s9).more s10).more (same_new np))).free hb nt2) st12 ht2
/-! ### some of the names -/
def spSome : Sp := fun vs H Q _ => ∃ (b t0 : Addr) (xs : List Str), vs = [.ref b, .ref t0] ∧ Bag H b ∧ H t0 = some (.tup (xs.map V.str)) ∧ xs ≠ [] ∧ xs.length ≤ 26 ∧ (∀ x ∈ xs, NameOk x) ∧
  ∀ t ys H', ys.Sublist xs → ys ≠ [] → Step b H H' → H' t = some (.tup (ys.map V.str)) → Q (.ref t) H'
theorem use_some {b t0 : Addr} {xs : List Str} {H : Hp} {Q : VK} {E : XK} (hb : Bag H b) (h0 : H t0 = some (.tup (xs.map V.str))) (h1 : xs ≠ []) (h2 : xs.length ≤ 26) (h3 : ∀ x ∈ xs, NameOk x)
    (k : ∀ t ys H', ys.Sublist xs → ys ≠ [] → Step b H H' → H' t = some (.tup (ys.map V.str)) → Q (.ref t) H') : spSome ([.ref b, .ref t0] ++ []) H Q E := ⟨b, t0, xs, rfl, hb, h0, h1, h2, h3, k⟩
theorem ok_l_some (T : Gk w K mg g) : FnOk P w K mg base CX0 2 g.f_l_some g.d_l_some ["_law_bag_here", "_law_names_here"] spSome := by
  refine T.F_l_some.ok sc_l_some (fun vs H Q E h => ?_) (fun cdv A outer s H vs Q E hr h => ?_)
  · obtain ⟨b, t0, xs, rfl, _⟩ := h; rfl
  · obtain ⟨b, t0, xs, rfl, hb, h0, hne, hlen, hok, k⟩ := h
    have O_l_take := ok_l_take (P := P) (w := w) (base := base) T
    have hr_1 : Room 1 _ := hr.mono (by decide)
    refine ⟨_, (pss_cons (ps_setLc (i := 2) (own := [("_law_name", 3)]) (g := (gName 3)) rfl sc_l_some.nd rfl rfl (sw_true rfl rfl rfl (by decide +kernel)) (pi_tupK K (pv 1)) (blkOk_by (N := ["_law_bag_here", "_law_names_here", "_law_found", "_law_name"]) (sc := defScope s_l_some) (by decide +kernel)) (fun _ _ _ _ _ => pg_name (i := 3) sc_l_some.nd rfl (Or.inl rfl)) (fun _ _ _ _ _ => pts_one (pt_cmpR op_gt (pe_call O_l_take hr_1 rfl T.m_l_take T.F_l_take.kp T.b_l_take .nil pass0 (pa_cons (pv 0) (pa_cons pe_int pa_nil))) pe_int (nomark _))) (fun _ _ _ _ _ => (pv 3)))
      (pss_one (ps_ret (pe_ifExp (pt_cmpR (k_neD K hr) (pv 2) (pe_lst pa_nil) (nomark _)) (pe_callTy (k_tuple K) (by rfl) T.z_tuple (by decide +kernel) (pa_cons (pv 2) pa_nil)) (pe_slice (k_slA K) (pv 1) po_none (po_some pe_int)))))), ?_⟩
    walk_at "go"
    refine ⟨t0, rfl, ⟨_, SqT.at h0⟩, ?_⟩
    refine f_lcT (b := b) (xs := xs.map V.str) hb (by rw [List.length_map]; omega) (SqT.at h0) (fun i x G hi st => turnF_name (fun _ => rfl) fun R Ny k1 k2 => ?_) fun D acc H1 nD hD st hsub => ?_
    · walk_at "go"
      refine use_take st.1 (by decide) (by decide) fun d G' d0 d1 s' => ?_
      walk_at "go"
      refine ite_b (fun _ => ?_) (fun _ => ?_)
      · walk_at "go"
        exact k1 _ s'
      · exact k2 _ s'
    obtain ⟨ys, hys, rfl⟩ := List.sublist_map_iff.mp hsub
    have yok : ∀ y ∈ ys, NameOk y := fun y m => hok y (hys.subset m)
    walk_at "go"
    refine k_lst (by show 0 ≤ sizeLine; decide) fun z H2 nz s2 hz => ?_
    have hD := s2 _ _ hD
    have h0 : H2 t0 = _ := s2 _ _ (st.tup hb h0)
    have st := st.more s2
    refine w_neD (.lst (SqL.at hD) (dpAll_strs ys)) (.lst (SqL.at hz) .nil) (shaped_strs yok) rfl ?_
    rw [eqv_nil]
    walk_at "go"
    refine ite_b (fun hc => ?_) (fun hc => ?_)
    · have ne : ys ≠ [] := by rintro rfl; exact absurd hc (by decide)
      walk_at "go"
      refine w_tupleL (SqL.at hD) fun t H3 nt s3 ht => ?_
      exact k t ys H3 hys ne (st.more s3) ht
    · walk_at "go"
      refine ⟨t0, _, rfl, SqT.at h0, fun hw => ?_, fun hw p np => ?_⟩
      · exact k t0 xs H2 (List.Sublist.refl _) hne st h0
      · obtain ⟨x0, r, rfl⟩ : ∃ x0 r, xs = x0 :: r := by
          cases xs with
          | nil => exact absurd rfl hne
          | cons x0 r => exact ⟨x0, r, rfl⟩
        have e : cutV ((x0 :: r).map V.str) none (some 1) = [x0].map V.str := by
          unfold cutV
          rw [HT.sIx_none, show (some (1 : Int)) = some ((1 : Nat) : Int) from rfl, HT.sIx_nat]
          simp
        rw [e]
        exact k p [x0] _ (by simp) (by simp) (st.more (same_new np)) upd_same
/-! ### bands -/
def spWhole (K : PySem.W.Frag) : Sp := fun vs H Q _ => ∃ v d, vs = [v] ∧ Dp K H v d ∧ Q (.bl (wholeD d)) H
theorem ok_is_whole (T : Gk w K mg g) : FnOk P w K mg base CX0 1 g.f_is_whole g.d_is_whole ["thing"] (spWhole K) := by
  refine T.F_is_whole.ok sc_is_whole (fun vs H Q E h => ?_) (fun cdv A outer s H vs Q E hr h => ?_)
  · obtain ⟨v, d, rfl, _⟩ := h; rfl
  · obtain ⟨v, d, rfl, hd, k⟩ := h
    refine ⟨_, (pss_one (ps_ret (pe_and (pe_callB (k_isi K) (by rfl) T.z_isinstance (by decide +kernel) (pa_cons (pv 0) (pa_cons (pe_bltn (v := .ty "int") (by rfl) T.z_int (by decide +kernel) rfl) pa_nil))) (pe_one (pe_not (pe_callB (k_isi K) (by rfl) T.z_isinstance (by decide +kernel) (pa_cons (pv 0) (pa_cons (pe_bltn (v := .ty "bool") (by rfl) T.z_bool (by decide +kernel) rfl) pa_nil)))))))), ?_⟩
    walk_at "go"
    refine w_isi hd (kit_int d) ?_
    walk_at "go"
    have both : (isIntD d && !isBoolD d) = wholeD d := by cases d <;> rfl
    refine ite_b (fun hc => ?_) (fun hc => ?_)
    · walk_at "go"
      refine w_isi hd (kit_bool d) ?_
      walk_at "go"
      rw [← both, hc] at k
      exact k
    · rw [← both, hc] at k
      exact k
def endD : PyData → Bool
  | .none => true
  | .int _ => true
  | _ => false
def spIsEnd (K : PySem.W.Frag) : Sp := fun vs H Q _ => ∃ v d, vs = [v] ∧ Dp K H v d ∧ Q (.bl (endD d)) H
theorem ok_is_end (T : Gk w K mg g) : FnOk P w K mg base CX0 2 g.f_is_end g.d_is_end ["thing"] (spIsEnd K) := by
  refine T.F_is_end.ok sc_is_end (fun vs H Q E h => ?_) (fun cdv A outer s H vs Q E hr h => ?_)
  · obtain ⟨v, d, rfl, _⟩ := h; rfl
  · obtain ⟨v, d, rfl, hd, k⟩ := h
    have O_is_whole := ok_is_whole (P := P) (w := w) (base := base) T
    have hr_1 : Room 1 _ := hr.mono (by decide)
    refine ⟨_, (pss_one (ps_ret (pe_or (pe_cmpR k_isN (pv 0) pe_non (nomark _)) (pe_one (pe_call O_is_whole hr_1 rfl T.m_is_whole T.F_is_whole.kp T.b_is_whole .nil pass0 (pa_cons (pv 0) pa_nil)))))), ?_⟩
    walk_at "go"
    refine ite_b (fun hc => ?_) (fun hc => ?_)
    · have e := of_decide_eq_true hc
      subst e
      cases hd
      exact k
    · have e := of_decide_eq_false hc
      walk_at "go"
      refine ⟨v, d, rfl, hd, ?_⟩
      cases hd <;> first | exact k | exact absurd rfl e
theorem endD_e (e : Option Int) : endD (eD e) = true := by cases e <;> rfl
def spAtMost : Sp := fun vs H Q _ => ∃ lo hi, vs = [eV lo, eV hi] ∧ Q (.bl (atMost lo hi)) H
theorem ok_is_at_most (T : Gk w K mg g) : FnOk P w K mg base CX0 1 g.f_is_at_most g.d_is_at_most ["low", "high"] spAtMost := by
  refine T.F_is_at_most.ok sc_is_at_most (fun vs H Q E h => ?_) (fun cdv A outer s H vs Q E hr h => ?_)
  · obtain ⟨lo, hi, rfl, _⟩ := h; rfl
  · obtain ⟨lo, hi, rfl, k⟩ := h
    refine ⟨_, (pss_one (ps_ret (pe_or (pe_cmpR k_isN (pv 0) pe_non (nomark _)) (pe_or (pe_cmpR k_isN (pv 1) pe_non (nomark _)) (pe_one (pe_cmpR op_le (pv 0) (pv 1) (nomark _))))))), ?_⟩
    walk_at "go"
    cases lo with
    | none => exact iteT k
    | some i =>
      refine iteF ?_
      walk_at "go"
      cases hi with
      | none => exact iteT k
      | some j =>
        refine iteF ?_
        walk_at "go"
        exact w_I0 (a := i) (b := j) k
/-- Band.__init__ with ends in order -/
def spInit (C : Addr) : Sp := fun vs H Q _ => ∃ (x dx : Addr) (lo hi : Option Int), vs = [.ref x, eV lo, eV hi] ∧ H x = some (.ins C dx []) ∧ atMost lo hi = true ∧
  ∀ H', H' x = some (.ins C dx (bandF lo hi)) → (∀ b o, H b = some o → b ≠ x → H' b = some o) → Q .non H'
theorem ok_Band_init (T : Gk w K mg g) : FnOk P w K mg base CX0 3 g.f_Band_init g.d_Band_init ["self", "low", "high"] (spInit g.c_Band) := by
  refine funD_ok T.D_Band_init sc_Band_init (fun vs H Q E h => ?_) (fun cdv A outer s H vs Q E hr h => ?_)
  · obtain ⟨x, dx, lo, hi, rfl, _⟩ := h; rfl
  · obtain ⟨x, dx, lo, hi, rfl, hx, hm, k⟩ := h
    have O_is_at_most := ok_is_at_most (P := P) (w := w) (base := base) T
    have O_is_end := ok_is_end (P := P) (w := w) (base := base) T
    have hr_1 : Room 1 _ := hr.mono (by decide)
    have hr_2 : Room 2 _ := hr.mono (by decide)
    refine ⟨_, (pss_cons (ps_if (PW.pt (pw_or (pt_not (pt_val (pe_call O_is_end hr_2 rfl T.m_is_end T.F_is_end.kp T.b_is_end .nil pass0 (pa_cons (pv 1) pa_nil)))) (pw_or (pt_not (pt_val (pe_call O_is_end hr_2 rfl T.m_is_end T.F_is_end.kp T.b_is_end .nil pass0 (pa_cons (pv 2) pa_nil)))) (pw_or1 (pt_not (pt_val (pe_call O_is_at_most hr_1 rfl T.m_is_at_most T.F_is_at_most.kp T.b_is_at_most .nil pass0 (pa_cons (pv 1) (pa_cons (pv 2) pa_nil))))))))) (pss_one ps_never) pss_nil)
      (pss_cons (ps_fld (pv 0) (pv 1) rfl)
      (pss_one (ps_fld (pv 0) (pv 2) rfl)))), ?_⟩
    walk_at "go"
    refine ⟨_, _, rfl, dp_e lo, ?_⟩
    walk_at "go"
    rw [endD_e]
    refine iteF ?_
    walk_at "go"
    refine ⟨_, _, rfl, dp_e hi, ?_⟩
    walk_at "go"
    rw [endD_e]
    refine iteF ?_
    walk_at "go"
    refine ⟨lo, hi, rfl, ?_⟩
    walk_at "go"
    rw [hm]
    refine iteF ?_
    walk_at "go"
    refine ⟨_, rfl, _, rfl, x, _, dx, [], rfl, hx, T.cl_Band, T.na_Band_low, (by show 0 < 1000; decide), ?_⟩
    refine ⟨_, rfl, _, rfl, x, _, dx, _, rfl, upd_same, T.cl_Band, T.na_Band_high, (by show 1 < 1000; decide), ?_⟩
    refine k _ ?_ fun b o e hb => ?_
    · rw [upd_same, bandF_put]
    · rw [upd_ne hb, upd_ne hb]; exact e
/-- a band is made -/
theorem use_band {C : Addr} {lo hi : Option Int} {H : Hp} {Q : VK} {E : XK} (hm : atMost lo hi = true)
    (k : ∀ x H', H x = none → Same H H' → BandAt C H' x lo hi → Q (.ref x) H') : kMake C (spInit C) [eV lo, eV hi] H Q E := by
  intro x dx nx nd ne
  refine ⟨x, dx, lo, hi, rfl, upd_same, hm, fun H' h1 h2 => ⟨rfl, k x H' nx (fun b o e => ?_) ⟨dx, h1⟩⟩⟩
  refine h2 b o ?_ (ne_of_none e nx)
  rw [upd_ne (ne_of_none e nx), upd_ne (ne_of_none e nd)]
  exact e
/-! ### what watches tell -/
theorem f_low (T : Gk w K mg g) {H : Hp} {p : Addr} {lo hi : Option Int} {Q : VK} (h : BandAt g.c_Band H p lo hi) (k : Q (eV lo) H) : kFld K "low" (.ref p) H Q :=
  let ⟨dx, h⟩ := h; ⟨p, _, dx, _, _, rfl, h, T.cl_Band, T.na_Band_low, bandF_low lo hi, k⟩
theorem f_high (T : Gk w K mg g) {H : Hp} {p : Addr} {lo hi : Option Int} {Q : VK} (h : BandAt g.c_Band H p lo hi) (k : Q (eV hi) H) : kFld K "high" (.ref p) H Q :=
  let ⟨dx, h⟩ := h; ⟨p, _, dx, _, _, rfl, h, T.cl_Band, T.na_Band_high, bandF_high lo hi, k⟩
theorem ok_added (T : Gk w K mg g) : FnOk P w K mg base CX0 1 g.f_added g.d_added ["ends"] (spAdded K) := by
  refine T.F_added.ok sc_added (fun vs H Q E h => ?_) (fun cdv A outer s H vs Q E hr h => ?_)
  · obtain ⟨l, os, rfl, _⟩ := h; rfl
  · obtain ⟨l, os, rfl, hl, k⟩ := h
    
    refine ⟨_, (pss_one (ps_ret (pe_ifExp (pt_cmpR (k_in K) pe_non (pv 0) (by rfl)) pe_non (pe_callBK (k_sumS K) (by rfl) T.z_sum (by decide +kernel) (pa_cons (pv 0) pa_nil) (pk_cons pe_int pk_nil))))), ?_⟩
    walk_at "go"
    refine w_inL hl rfl (flat_ends os) ?_
    rw [none_in]
    unfold addE at k
    walk_at "go"
    cases e : os.all (·.isSome) with
    | false =>
      rw [e] at k
      refine iteT ?_
      walk_at "go"
      exact k
    | true =>
      rw [if_pos e] at k
      refine iteF ?_
      walk_at "go"
      rw [ends_ints e] at hl
      exact ⟨l, _, rfl, rfl, hl, k⟩
theorem ok_weighed (T : Gk w K mg g) : FnOk P w K mg base CX0 1 g.f_weighed g.d_weighed ["weight", "end"] spWeighed := by
  refine T.F_weighed.ok sc_weighed (fun vs H Q E h => ?_) (fun cdv A outer s H vs Q E hr h => ?_)
  · obtain ⟨i, e, rfl, _⟩ := h; rfl
  · obtain ⟨i, e, rfl, hi, k⟩ := h
    
    refine ⟨_, (pss_one (ps_ret (pe_ifExp (pt_cmpR k_isN (pv 1) pe_non (nomark _)) pe_non (pe_op op_mul (pv 0) (pv 1))))), ?_⟩
    walk_at "go"
    cases e with
    | none => refine iteT ?_; walk_at "go"; exact k
    | some j =>
      refine iteF ?_
      walk_at "go"
      refine w_I (Or.inl (by omega)) ?_
      exact k
theorem ok_sum_ends (T : Gk w K mg g) : FnOk P w K mg base CX0 2 g.f_sum_ends g.d_sum_ends ["some", "bands"] (spSumEnds g.c_Band) := by
  refine T.F_sum_ends.ok sc_sum_ends (fun vs H Q E h => ?_) (fun cdv A outer s H vs Q E hr h => ?_)
  · obtain ⟨t, d, ws, f, rfl, _⟩ := h; rfl
  · obtain ⟨t, d, ws, f, rfl, ⟨ps, ht, pp⟩, hd, wl, hlen, k⟩ := h
    have O_added := ok_added (P := P) (w := w) (base := base) T
    have O_weighed := ok_weighed (P := P) (w := w) (base := base) T
    have hr_1 : Room 1 _ := hr.mono (by decide)
    have hu := hu_of hr
    refine ⟨_, (pss_cons (ps_par (i := 2) (j := 3) (by rfl) sc_sum_ends.nd rfl rfl (by decide) rfl rfl (pa_cons (pe_lst pa_nil) (pa_cons (pe_lst pa_nil) pa_nil)) (by rfl))
      (pss_cons (ps_for PassesOwn.never rfl (pi_tupK K (pv 0)) (pg_tup rfl (pgs_cons (pg_name (i := 4) sc_sum_ends.nd rfl (Or.inl rfl)) (pgs_cons (pg_name (i := 5) sc_sum_ends.nd rfl (Or.inl rfl)) pgs_nil))) (pss_cons (ps_set (i := 6) sc_sum_ends.nd rfl (Or.inl rfl) (pe_tup (pa_cons (pe_call O_weighed hr_1 rfl T.m_weighed T.F_weighed.kp T.b_weighed .nil pass0 (pa_cons (pv 5) (pa_cons (pe_fldK K (pe_dget hu (pv 1) (pv 4) (fun _ _ => rfl))) pa_nil))) (pa_cons (pe_call O_weighed hr_1 rfl T.m_weighed T.F_weighed.kp T.b_weighed .nil pass0 (pa_cons (pv 5) (pa_cons (pe_fldK K (pe_dget hu (pv 1) (pv 4) (fun _ _ => rfl))) pa_nil))) pa_nil))))
      (pss_cons (ps_asg (pe_ifExp (pt_cmpR op_gt (pv 5) pe_int (nomark _)) (pv 6) (pe_revT K (pv 6))) (pg_tup rfl (pgs_cons (pg_name (i := 7) sc_sum_ends.nd rfl (Or.inl rfl)) (pgs_cons (pg_name (i := 8) sc_sum_ends.nd rfl (Or.inl rfl)) pgs_nil))))
      (pss_cons (ps_expr (pe_bmK K PySem.F.plainAttrs_list PySem.F.slot_list_append PySem.F.type_list_append mt_append (pv 2) (pa_cons (pv 7) pa_nil)))
      (pss_one (ps_expr (pe_bmK K PySem.F.plainAttrs_list PySem.F.slot_list_append PySem.F.type_list_append mt_append (pv 3) (pa_cons (pv 8) pa_nil))))))))
      (pss_one (ps_ret (pe_tup (pa_cons (pe_call O_added hr_1 rfl T.m_added T.F_added.kp T.b_added .nil pass0 (pa_cons (pv 2) pa_nil)) (pa_cons (pe_call O_added hr_1 rfl T.m_added T.F_added.kp T.b_added .nil pass0 (pa_cons (pv 3) pa_nil)) pa_nil))))))), ?_⟩
    have hpl := paired_len pp
    walk_at "go"
    refine k_lst (by show 0 ≤ sizeLine; decide) fun l1 H1 n1 s1 h1 => ?_
    walk_at "go"
    refine k_lst (by show 0 ≤ sizeLine; decide) fun l2 H2 n2 s2 h2 => ?_
    walk_at "go"
    refine ⟨_, _, rfl, ?_⟩
    have s12 := s1.trans s2
    have n2' : H l2 = none := s1.free n2
    have n12 : l1 ≠ l2 := ne_of_none h1 n2
    walk_at "go"
    refine ⟨t, rfl, ⟨_, SqT.at (s12 _ _ ht)⟩, ?_⟩
    refine k_forT (xs := ps.map V.ref) (fun i σ H' => (∃ v4 v5 v6 v7 v8 : Option V, σ = [some (.ref t), some (.ref d), some (.ref l1), some (.ref l2), v4, v5, v6, v7, v8]) ∧ Same H H' ∧
      H' l1 = some (.lst (((ws.take i).map (lowE f)).map eV)) ∧ H' l2 = some (.lst (((ws.take i).map (highE f)).map eV))) ⟨⟨_, _, _, _, _, rfl⟩, s12, s2 _ _ h1, h2⟩ (fun i σ H' p => SqT.at (p.2.1 _ _ ht)) ?_ ?_
    · rintro i x σ H3 hi ⟨⟨v4, v5, v6, v7, v8, rfl⟩, s3, e1, e2⟩
      obtain ⟨q, e, rfl, hwe, hq⟩ := paired_at pp hi
      have me := List.mem_of_getElem? hwe
      have hil : i < 26 := by have := (List.getElem?_eq_some_iff.mp hwe).1; omega
      have wle := wl e me
      refine w_gtup (K := K) (SqT.at (s3 _ _ hq)) rfl ?_
      obtain ⟨kvs, hkv, hb⟩ := hd.same s3
      obtain ⟨p, ep, bp⟩ := hb e.1 (List.mem_map_of_mem me)
      walk_at "go"
      refine k_dget hkv ep ?_
      walk_at "go"
      refine f_low T bp ?_
      walk_at "go"
      refine use_weighed wle ?_
      walk_at "go"
      refine k_dget hkv ep ?_
      walk_at "go"
      refine f_high T bp ?_
      walk_at "go"
      refine use_weighed wle ?_
      walk_at "go"
      refine k_tup (by show 2 ≤ sizeLine; decide) fun u H4 nu s4 hu => ?_
      walk_at "go"
      have c1 : (((ws.take i).map (lowE f)).map eV).length < 1000 := by rw [List.length_map, List.length_map, List.length_take]; omega
      have c2 : (((ws.take i).map (highE f)).map eV).length < 1000 := by rw [List.length_map, List.length_map, List.length_take]; omega
      have t1 := take_map (lowE f) ws i hwe
      have t2 := take_map (highE f) ws i hwe
      refine ite_b (fun hc => ?_) (fun hc => ?_)
      · have hc := of_decide_eq_true hc
        walk_at "go"
        refine w_gtup (K := K) (SqT.at hu) rfl ?_
        walk_at "go"
        have e1 := s4 _ _ e1
        have e2 := s4 _ _ e2
        refine k_bmL (SqL.at e1) ?_
        walk_at "go"
        refine w_append e1 c1 ?_
        walk_at "go"
        have e2' : upd H4 l1 (.lst (((ws.take i).map (lowE f)).map eV ++ [eV (wE e.2 (f e.1).1)])) l2 = some (.lst (((ws.take i).map (highE f)).map eV)) := by rw [upd_ne n12.symm]; exact e2
        refine k_bmL (SqL.at e2') ?_
        walk_at "go"
        refine w_append e2' c2 ?_
        walk_at "go"
        refine ⟨⟨_, _, _, _, _, rfl⟩, ?_, ?_, ?_⟩
        · intro b o hb
          rw [upd_ne (ne_of_none hb n2'), upd_ne (ne_of_none hb n1)]
          exact s4 _ _ (s3 _ _ hb)
        · rw [upd_ne n12, upd_same, t1, List.map_append]
          have : lowE f e = wE e.2 (f e.1).1 := by unfold lowE; rw [if_pos hc]
          rw [this]; rfl
        · rw [upd_same, t2, List.map_append]
          have : highE f e = wE e.2 (f e.1).2 := by unfold highE; rw [if_pos hc]
          rw [this]; rfl
      · have hc := of_decide_eq_false hc
        walk_at "go"
        refine k_revT (SqT.at hu) fun u5 H5 nu5 s5 hu5 => ?_
        walk_at "go"
        have hu5 : H5 u5 = some (.tup [eV (wE e.2 (f e.1).2), eV (wE e.2 (f e.1).1)]) := hu5
        refine w_gtup (K := K) (SqT.at hu5) rfl ?_
        walk_at "go"
        have e1 := s5 _ _ (s4 _ _ e1)
        have e2 := s5 _ _ (s4 _ _ e2)
        refine k_bmL (SqL.at e1) ?_
        walk_at "go"
        refine w_append e1 c1 ?_
        walk_at "go"
        have e2' : upd H5 l1 (.lst (((ws.take i).map (lowE f)).map eV ++ [eV (wE e.2 (f e.1).2)])) l2 = some (.lst (((ws.take i).map (highE f)).map eV)) := by rw [upd_ne n12.symm]; exact e2
        refine k_bmL (SqL.at e2') ?_
        walk_at "go"
        refine w_append e2' c2 ?_
        walk_at "go"
        refine ⟨⟨_, _, _, _, _, rfl⟩, ?_, ?_, ?_⟩
        · intro b o hb
          rw [upd_ne (ne_of_none hb n2'), upd_ne (ne_of_none hb n1)]
          exact s5 _ _ (s4 _ _ (s3 _ _ hb))
        · rw [upd_ne n12, upd_same, t1, List.map_append]
          have : lowE f e = wE e.2 (f e.1).2 := by unfold lowE; rw [if_neg hc]
          rw [this]; rfl
        · rw [upd_same, t2, List.map_append]
          have : highE f e = wE e.2 (f e.1).1 := by unfold highE; rw [if_neg hc]
          rw [this]; rfl
    · rintro σ H3 ⟨⟨v4, v5, v6, v7, v8, rfl⟩, s3, e1, e2⟩
      rw [List.length_map, hpl, List.take_length] at e1 e2
      walk_at "go"
      refine use_added (SqL.at e1) ?_
      walk_at "go"
      refine use_added (SqL.at e2) ?_
      walk_at "go"
      refine k_tup (by show 2 ≤ sizeLine; decide) fun u H4 nu s4 hu => ?_
      exact k u H4 (s3.trans s4) hu
/-! the tellers -/
theorem ok_told_sum (T : Gk w K mg g) : FnOk P w K mg base CX0 3 g.f_told_sum g.d_told_sum ["some", "limit", "bands"] (spTell g.c_Band 0) := by
  refine T.F_told_sum.ok sc_told_sum (fun vs H Q E h => ?_) (fun cdv A outer s H vs Q E hr h => ?_)
  · obtain ⟨t, d, wt, f, rfl, _⟩ := h; rfl
  · obtain ⟨t, d, wt, f, rfl, hk, hs, ok, hd, k⟩ := h
    have O_sum_ends := ok_sum_ends (P := P) (w := w) (base := base) T
    have hr_2 : Room 2 _ := hr.mono (by decide)
    refine ⟨_, (pss_one (ps_ret (pe_call O_sum_ends hr_2 rfl T.m_sum_ends T.F_sum_ends.kp T.b_sum_ends .nil pass0 (pa_cons (pv 0) (pa_cons (pv 2) pa_nil))))), ?_⟩
    cases wt with
    | sum ws l =>
      walk_at "go"
      exact use_sum_ends hs hd ok.le ok.few_sum fun p H' s' hp => k _ _ s' ⟨p, rfl, hp⟩
    | over ws l => cases hk
    | most ns l => cases hk
    | count ns l => cases hk
theorem ok_told_over (T : Gk w K mg g) : FnOk P w K mg base CX0 3 g.f_told_over g.d_told_over ["some", "limit", "bands"] (spTell g.c_Band 1) := by
  refine T.F_told_over.ok sc_told_over (fun vs H Q E h => ?_) (fun cdv A outer s H vs Q E hr h => ?_)
  · obtain ⟨t, d, wt, f, rfl, _⟩ := h; rfl
  · obtain ⟨t, d, wt, f, rfl, hk, hs, ok, hd, k⟩ := h
    have O_sum_ends := ok_sum_ends (P := P) (w := w) (base := base) T
    have hr_2 : Room 2 _ := hr.mono (by decide)
    refine ⟨_, (pss_cons (ps_asg (pe_call O_sum_ends hr_2 rfl T.m_sum_ends T.F_sum_ends.kp T.b_sum_ends .nil pass0 (pa_cons (pv 0) (pa_cons (pv 2) pa_nil))) (pg_tup rfl (pgs_cons (pg_name (i := 3) sc_told_over.nd rfl (Or.inl rfl)) (pgs_cons (pg_name (i := 4) sc_told_over.nd rfl (Or.inl rfl)) pgs_nil))))
      (pss_cons (ps_if (PW.pt (pw_and (pt_cmpR k_notN (pv 3) pe_non (nomark _)) (pw_and1 (pt_cmpR op_ge (pv 3) (pv 1) (nomark _))))) (pss_one (ps_ret pe_bl)) pss_nil)
      (pss_one (ps_ret (pe_ifExp (PW.pt (pw_and (pt_cmpR k_notN (pv 4) pe_non (nomark _)) (pw_and1 (pt_cmpR op_lt (pv 4) (pv 1) (nomark _))))) pe_bl pe_non))))), ?_⟩
    cases wt with
    | sum ws l => cases hk
    | over ws l =>
      walk_at "go"
      refine use_sum_ends hs hd ok.le' ok.few_over fun p H' s' hp => ?_
      have k := fun v => k v H' s'
      refine w_gtup (K := K) (SqT.at hp) rfl ?_
      have kk : ∀ v, v = (match triE (addE (ws.map (lowE f))) (addE (ws.map (highE f))) l with | none => V.non | some b => .bl b) → Q v H' := fun v e => k v e
      clear k
      generalize addE (ws.map (lowE f)) = lo at *
      generalize addE (ws.map (highE f)) = hi at *
      walk_at "go"
      cases lo with
      | none =>
        refine iteF (iteF ?_)
        walk_at "go"
        cases hi with
        | none =>
          refine iteF (iteF ?_)
          walk_at "go"
          exact kk _ rfl
        | some j =>
          refine iteT ?_
          walk_at "go"
          refine w_I0 (a := j) (b := l) ?_
          walk_at "go"
          refine ite_b (fun hc => ?_) (fun hc => ?_)
          · walk_at "go"
            exact kk _ (by dsimp only [triE]; rw [if_pos (of_decide_eq_true hc)])
          · walk_at "go"
            exact kk _ (by dsimp only [triE]; rw [if_neg (of_decide_eq_false hc)])
      | some i =>
        refine iteT ?_
        walk_at "go"
        refine w_I0 (a := i) (b := l) ?_
        walk_at "go"
        refine ite_b (fun hc => ?_) (fun hc => ?_)
        · walk_at "go"
          exact kk _ (by cases hi <;> (dsimp only [triE]; rw [if_pos (of_decide_eq_true hc)]))
        · have hc := of_decide_eq_false hc
          walk_at "go"
          cases hi with
          | none =>
            refine iteF (iteF ?_)
            walk_at "go"
            exact kk _ (by dsimp only [triE]; rw [if_neg hc])
          | some j =>
            refine iteT ?_
            walk_at "go"
            refine w_I0 (a := j) (b := l) ?_
            walk_at "go"
            refine ite_b (fun hc2 => ?_) (fun hc2 => ?_)
            · walk_at "go"
              exact kk _ (by dsimp only [triE]; rw [if_neg hc, if_pos (of_decide_eq_true hc2)])
            · walk_at "go"
              exact kk _ (by dsimp only [triE]; rw [if_neg hc, if_neg (of_decide_eq_false hc2)])
    | most ns l => cases hk
    | count ns l => cases hk
theorem ok_told_most (T : Gk w K mg g) : FnOk P w K mg base CX0 1 g.f_told_most g.d_told_most ["some", "limit", "bands"] (spTell g.c_Band 2) := by
  refine T.F_told_most.ok sc_told_most (fun vs H Q E h => ?_) (fun cdv A outer s H vs Q E hr h => ?_)
  · obtain ⟨t, d, wt, f, rfl, _⟩ := h; rfl
  · obtain ⟨t, d, wt, f, rfl, hk, hs, ok, hd, k⟩ := h
    have hu := hu_of hr
    refine ⟨_, (pss_cons (ps_setLc (i := 3) (own := [("name", 5)]) (g := (gName 5)) rfl sc_told_most.nd rfl rfl (sw_true rfl rfl rfl (by decide +kernel)) (pi_tupK K (pv 0)) (blkOk_by (N := ["some", "limit", "bands", "lows", "highs", "name"]) (sc := defScope s_told_most) (by decide +kernel)) (fun _ _ _ _ _ => pg_name (i := 5) sc_told_most.nd rfl (Or.inl rfl)) (fun _ _ _ _ _ => pts_one (pt_cmpR k_notN (pe_fldK K (pe_dget hu (pv 2) (pv 5) (fun _ _ => rfl))) pe_non (nomark _))) (fun _ _ _ _ _ => (pe_fldK K (pe_dget hu (pv 2) (pv 5) (fun _ _ => rfl)))))
      (pss_cons (ps_setLc (i := 4) (own := [("name", 5)]) (g := (gName 5)) rfl sc_told_most.nd rfl rfl (sw_true rfl rfl rfl (by decide +kernel)) (pi_tupK K (pv 0)) (blkOk_by (N := ["some", "limit", "bands", "lows", "highs", "name"]) (sc := defScope s_told_most) (by decide +kernel)) (fun _ _ _ _ _ => pg_name (i := 5) sc_told_most.nd rfl (Or.inl rfl)) (fun _ _ _ _ _ => pts_nil) (fun _ _ _ _ _ => (pe_fldK K (pe_dget hu (pv 2) (pv 5) (fun _ _ => rfl)))))
      (pss_one (ps_ret (pe_tup (pa_cons (pe_callBK (k_maxD K) (by rfl) T.z_max (by decide +kernel) (pa_cons (pv 3) pa_nil) (pk_cons pe_non pk_nil)) (pa_cons (pe_ifExp (pt_cmpR (k_in K) pe_non (pv 4) (by rfl)) pe_non (pe_callB (k_max K) (by rfl) T.z_max (by decide +kernel) (pa_cons (pv 4) pa_nil))) pa_nil))))))), ?_⟩
    cases wt with
    | sum ws l => cases hk
    | over ws l => cases hk
    | count ns l => cases hk
    | most ns l =>
      have few : ns.length ≤ 26 := ok.few
      have hs : H t = some (.tup (ns.map V.str)) := hs
      walk_at "go"
      refine ⟨t, rfl, ⟨_, SqT.at hs⟩, ?_⟩
      refine i_lcT (fun i => (f (ns.getD i Str.empty)).1.isSome) (fun i => eV (f (ns.getD i Str.empty)).1) (by rw [List.length_map]; omega) (SqT.at hs) (fun i x hi => ?_) fun D1 H1 nD1 s1 hD1 => ?_
      · obtain ⟨rfl, mi⟩ := getD_map hi
        refine turn_name (fun _ => rfl) ?_ ?_
        · intro H' s' Q' k'
          obtain ⟨kvs, hkv, hb⟩ := hd.same s'
          obtain ⟨p, ep, bp⟩ := hb _ mi
          walk_at "go"
          refine k_dget hkv ep ?_
          walk_at "go"
          refine f_low T bp ?_
          walk_at "go"
          have e : (!decide (eV (f (ns.getD i Str.empty)).1 = V.non)) = (f (ns.getD i Str.empty)).1.isSome := by cases (f (ns.getD i Str.empty)).1 <;> rfl
          rw [e]
          exact k' _ (Same.refl _)
        · intro _ H' s' Q' k'
          obtain ⟨kvs, hkv, hb⟩ := hd.same s'
          obtain ⟨p, ep, bp⟩ := hb _ mi
          walk_at "go"
          refine k_dget hkv ep ?_
          walk_at "go"
          refine f_low T bp ?_
          exact k' _ (Same.refl _)
      rw [List.length_map, made_ends (fun n => (f n).1) ns] at hD1
      have hd1 := hd.same s1
      have hs1 := s1 _ _ hs
      walk_at "go"
      refine ⟨t, rfl, ⟨_, SqT.at hs1⟩, ?_⟩
      refine i_lcT (fun _ => true) (fun i => eV (f (ns.getD i Str.empty)).2) (by rw [List.length_map]; omega) (SqT.at hs1) (fun i x hi => ?_) fun D2 H2 nD2 s2 hD2 => ?_
      · obtain ⟨rfl, mi⟩ := getD_map hi
        refine turn_name (fun _ => rfl) ?_ ?_
        · intro H' s' Q' k'
          walk_at "go"
          exact k' _ (Same.refl _)
        · intro _ H' s' Q' k'
          obtain ⟨kvs, hkv, hb⟩ := hd1.same s'
          obtain ⟨p, ep, bp⟩ := hb _ mi
          walk_at "go"
          refine k_dget hkv ep ?_
          walk_at "go"
          refine f_high T bp ?_
          exact k' _ (Same.refl _)
      rw [List.length_map, all_ends (fun n => (f n).2) ns] at hD2
      walk_at "go"
      refine w_maxD (SqL.at (s2 _ _ hD1)) ?_
      walk_at "go"
      refine w_inL (SqL.at hD2) rfl (flat_ends _) ?_
      rw [none_in]
      walk_at "go"
      cases e : (ns.map fun n => (f n).2).all (·.isSome) with
      | false =>
        refine iteT ?_
        walk_at "go"
        refine k_tup (by show 2 ≤ sizeLine; decide) fun p H3 np s3 hp => ?_
        refine k _ H3 ((s1.trans s2).trans s3) ⟨p, rfl, ?_⟩
        rw [if_neg (by rw [e]; decide)]
        exact hp
      | true =>
        refine iteF ?_
        walk_at "go"
        have hD2' := hD2
        rw [ends_ints e] at hD2'
        refine w_max (SqL.at hD2') ?_ fun m hm => ?_
        · rw [pres_len e, List.length_map]; exact List.length_pos_iff.mpr ok.ne
        walk_at "go"
        refine k_tup (by show 2 ≤ sizeLine; decide) fun p H3 np s3 hp => ?_
        refine k _ H3 ((s1.trans s2).trans s3) ⟨p, rfl, ?_⟩
        rw [if_pos e, hm]
        exact hp
theorem ok_told_count (T : Gk w K mg g) : FnOk P w K mg base CX0 1 g.f_told_count g.d_told_count ["some", "limit", "bands"] (spTell g.c_Band 3) := by
  refine T.F_told_count.ok sc_told_count (fun vs H Q E h => ?_) (fun cdv A outer s H vs Q E hr h => ?_)
  · obtain ⟨t, d, wt, f, rfl, _⟩ := h; rfl
  · obtain ⟨t, d, wt, f, rfl, hk, hs, ok, hd, k⟩ := h
    have hu := hu_of hr
    refine ⟨_, (pss_cons (ps_setLc (i := 3) (own := [("name", 5)]) (g := (gName 5)) rfl sc_told_count.nd rfl rfl (sw_true rfl rfl rfl (by decide +kernel)) (pi_tupK K (pv 0)) (blkOk_by (N := ["some", "limit", "bands", "least", "most", "name"]) (sc := defScope s_told_count) (by decide +kernel)) (fun _ _ _ _ _ => pg_name (i := 5) sc_told_count.nd rfl (Or.inl rfl)) (fun _ _ _ _ _ => pts_one (PW.pt (pw_and (pt_cmpR k_notN (pe_fldK K (pe_dget hu (pv 2) (pv 5) (fun _ _ => rfl))) pe_non (nomark _)) (pw_and1 (pt_cmpR op_ge (pe_fldK K (pe_dget hu (pv 2) (pv 5) (fun _ _ => rfl))) (pv 1) (nomark _)))))) (fun _ _ _ _ _ => (pv 5)))
      (pss_cons (ps_setLc (i := 4) (own := [("name", 5)]) (g := (gName 5)) rfl sc_told_count.nd rfl rfl (sw_true rfl rfl rfl (by decide +kernel)) (pi_tupK K (pv 0)) (blkOk_by (N := ["some", "limit", "bands", "least", "most", "name"]) (sc := defScope s_told_count) (by decide +kernel)) (fun _ _ _ _ _ => pg_name (i := 5) sc_told_count.nd rfl (Or.inl rfl)) (fun _ _ _ _ _ => pts_one (PW.pt (pw_or (pt_cmpR k_isN (pe_fldK K (pe_dget hu (pv 2) (pv 5) (fun _ _ => rfl))) pe_non (nomark _)) (pw_or1 (pt_cmpR op_ge (pe_fldK K (pe_dget hu (pv 2) (pv 5) (fun _ _ => rfl))) (pv 1) (nomark _)))))) (fun _ _ _ _ _ => (pv 5)))
      (pss_one (ps_ret (pe_tup (pa_cons (pe_callB (k_len K) (by rfl) T.z_len (by decide +kernel) (pa_cons (pv 3) pa_nil)) (pa_cons (pe_callB (k_len K) (by rfl) T.z_len (by decide +kernel) (pa_cons (pv 4) pa_nil)) pa_nil))))))), ?_⟩
    cases wt with
    | sum ws l => cases hk
    | over ws l => cases hk
    | most ns l => cases hk
    | count ns l =>
      have few : ns.length ≤ 26 := ok.few
      have hs : H t = some (.tup (ns.map V.str)) := hs
      walk_at "go"
      refine ⟨t, rfl, ⟨_, SqT.at hs⟩, ?_⟩
      refine i_lcT (fun i => geE l (f (ns.getD i Str.empty)).1) (fun i => V.str (ns.getD i Str.empty)) (by rw [List.length_map]; omega) (SqT.at hs) (fun i x hi => ?_) fun D1 H1 nD1 s1 hD1 => ?_
      · obtain ⟨rfl, mi⟩ := getD_map hi
        refine turn_name (fun _ => rfl) ?_ ?_
        · intro H' s' Q' k'
          obtain ⟨kvs, hkv, hb⟩ := hd.same s'
          obtain ⟨p, ep, bp⟩ := hb _ mi
          walk_at "go"
          refine k_dget hkv ep ?_
          walk_at "go"
          refine f_low T bp ?_
          walk_at "go"
          generalize f (ns.getD i Str.empty) = fe at *
          obtain ⟨lo, hi'⟩ := fe
          cases lo with
          | none => refine iteF ?_; exact k' _ (Same.refl _)
          | some j =>
            refine iteT ?_
            walk_at "go"
            refine k_dget hkv ep ?_
            walk_at "go"
            refine f_low T bp ?_
            walk_at "go"
            refine w_I0 (a := j) (b := l) ?_
            walk_at "go"
            exact k' _ (Same.refl _)
        · intro _ H' s' Q' k'
          walk_at "go"
          exact k' _ (Same.refl _)
      have hd1 := hd.same s1
      have hs1 := s1 _ _ hs
      walk_at "go"
      refine ⟨t, rfl, ⟨_, SqT.at hs1⟩, ?_⟩
      refine i_lcT (fun i => geU l (f (ns.getD i Str.empty)).2) (fun i => V.str (ns.getD i Str.empty)) (by rw [List.length_map]; omega) (SqT.at hs1) (fun i x hi => ?_) fun D2 H2 nD2 s2 hD2 => ?_
      · obtain ⟨rfl, mi⟩ := getD_map hi
        refine turn_name (fun _ => rfl) ?_ ?_
        · intro H' s' Q' k'
          obtain ⟨kvs, hkv, hb⟩ := hd1.same s'
          obtain ⟨p, ep, bp⟩ := hb _ mi
          walk_at "go"
          refine k_dget hkv ep ?_
          walk_at "go"
          refine f_high T bp ?_
          walk_at "go"
          generalize f (ns.getD i Str.empty) = fe at *
          obtain ⟨lo, hi'⟩ := fe
          cases hi' with
          | none => refine iteT ?_; exact k' _ (Same.refl _)
          | some j =>
            refine iteF ?_
            walk_at "go"
            refine k_dget hkv ep ?_
            walk_at "go"
            refine f_high T bp ?_
            walk_at "go"
            refine w_I0 (a := j) (b := l) ?_
            walk_at "go"
            exact k' _ (Same.refl _)
        · intro _ H' s' Q' k'
          walk_at "go"
          exact k' _ (Same.refl _)
      walk_at "go"
      refine w_lenL (SqL.at (s2 _ _ hD1)) ?_
      walk_at "go"
      refine w_lenL (SqL.at hD2) ?_
      walk_at "go"
      rw [madeI_len, madeI_len, List.length_map, filter_at Str.empty (fun n => geE l (f n).1) ns, filter_at Str.empty (fun n => geU l (f n).2) ns]
      refine k_tup (by show 2 ≤ sizeLine; decide) fun p H3 np s3 hp => ?_
      exact k _ H3 ((s1.trans s2).trans s3) ⟨p, rfl, hp⟩
/-- the tellers that TELLERS has -/
def Teller (g : Gs) (f : Addr) (sp : Sp) : Prop := (f = g.f_told_sum ∧ sp = spTell g.c_Band 0) ∨ (f = g.f_told_over ∧ sp = spTell g.c_Band 1) ∨ (f = g.f_told_most ∧ sp = spTell g.c_Band 2) ∨ (f = g.f_told_count ∧ sp = spTell g.c_Band 3)
theorem cx0_false {k : Nat} {f : Addr} {fd : FuncData} {ps : List Str} {sp : Sp} (F : FnOk P w K mg base CX0 k f fd ps sp) : FnOk P w K mg base (fun _ _ _ _ _ _ => False) k f fd ps sp := F
theorem held (T : Gk w K mg g) {f : Addr} {sp : Sp} (h : Teller g f sp) : Held P w K mg base 3 f sp := by
  rcases h with ⟨rfl, rfl⟩ | ⟨rfl, rfl⟩ | ⟨rfl, rfl⟩ | ⟨rfl, rfl⟩
  · exact ⟨_, _, cx0_false ((ok_told_sum T).mono (by decide)), T.F_told_sum.kp, T.b_told_sum⟩
  · exact ⟨_, _, cx0_false ((ok_told_over T).mono (by decide)), T.F_told_over.kp, T.b_told_over⟩
  · exact ⟨_, _, cx0_false ((ok_told_most T).mono (by decide)), T.F_told_most.kp, T.b_told_most⟩
  · exact ⟨_, _, cx0_false ((ok_told_count T).mono (by decide)), T.F_told_count.kp, T.b_told_count⟩
theorem ok_told_of (T : Gk w K mg g) : FnOk P w K mg base CX0 4 g.f_told_of g.d_told_of ["watch", "bands"] (spTold g.c_Band) := by
  refine T.F_told_of.ok sc_told_of (fun vs H Q E h => ?_) (fun cdv A outer s H vs Q E hr h => ?_)
  · obtain ⟨p, d, wt, f, rfl, _⟩ := h; rfl
  · obtain ⟨p, d, wt, f, rfl, hw, ok, hd, k⟩ := h
    have hr_3 : Room 3 _ := hr.mono (by decide)
    refine ⟨_, (pss_cons (ps_asg (pv 0) (pg_tup rfl (pgs_cons (pg_name (i := 2) sc_told_of.nd rfl (Or.inl rfl)) (pgs_cons (pg_name (i := 3) sc_told_of.nd rfl (Or.inl rfl)) (pgs_cons (pg_name (i := 4) sc_told_of.nd rfl (Or.inl rfl)) pgs_nil)))))
      (pss_cons (ps_set (i := 5) sc_told_of.nd rfl (Or.inl rfl) (pe_ix (k_ixD K w) (pe_glob (v := .ref g.c_TELLERS) rfl T.m_TELLERS rfl) (pv 2) (fun _ _ => rfl)))
      (pss_one (ps_ret (pe_callR (i := 5) (fun _ _ h => held T h) hr_3 rfl (Or.inl rfl) (pa_cons (pv 3) (pa_cons (pv 4) (pa_cons (pv 1) pa_nil)))))))), ?_⟩
    walk_at "go"
    cases wt with
    | sum ws l =>
      obtain ⟨t, hp, hs⟩ := hw
      refine w_gtup (K := K) (SqT.at hp) rfl ?_
      walk_at "go"
      refine ⟨_, _, _, rfl, rfl, T.kd_TELLERS_sum, ?_⟩
      walk_at "go"
      refine ⟨_, _, rfl, .inl ⟨rfl, rfl⟩, ?_⟩
      walk_at "go"
      exact ⟨t, d, .sum ws l, f, rfl, rfl, hs, ok, hd, k⟩
    | over ws l =>
      obtain ⟨t, hp, hs⟩ := hw
      refine w_gtup (K := K) (SqT.at hp) rfl ?_
      walk_at "go"
      refine ⟨_, _, _, rfl, rfl, T.kd_TELLERS_over, ?_⟩
      walk_at "go"
      refine ⟨_, _, rfl, .inr (.inl ⟨rfl, rfl⟩), ?_⟩
      walk_at "go"
      exact ⟨t, d, .over ws l, f, rfl, rfl, hs, ok, hd, k⟩
    | most ws l =>
      obtain ⟨t, hp, hs⟩ := hw
      refine w_gtup (K := K) (SqT.at hp) rfl ?_
      walk_at "go"
      refine ⟨_, _, _, rfl, rfl, T.kd_TELLERS_most, ?_⟩
      walk_at "go"
      refine ⟨_, _, rfl, .inr (.inr (.inl ⟨rfl, rfl⟩)), ?_⟩
      walk_at "go"
      exact ⟨t, d, .most ws l, f, rfl, rfl, hs, ok, hd, k⟩
    | count ws l =>
      obtain ⟨t, hp, hs⟩ := hw
      refine w_gtup (K := K) (SqT.at hp) rfl ?_
      walk_at "go"
      refine ⟨_, _, _, rfl, rfl, T.kd_TELLERS_count, ?_⟩
      walk_at "go"
      refine ⟨_, _, rfl, .inr (.inr (.inr ⟨rfl, rfl⟩)), ?_⟩
      walk_at "go"
      exact ⟨t, d, .count ws l, f, rfl, rfl, hs, ok, hd, k⟩
theorem kept_over {f : EF} {ws : List (Str × Int)} {l : Int} {o : Option Bool} (h : told f (.over ws l) = .tri o) : kept f (.over ws l) = o.isSome := by
  unfold kept; rw [h]
theorem ok_is_kept (T : Gk w K mg g) : FnOk P w K mg base CX0 5 g.f_is_kept g.d_is_kept ["watch", "bands"] (spKept g.c_Band) := by
  refine T.F_is_kept.ok sc_is_kept (fun vs H Q E h => ?_) (fun cdv A outer s H vs Q E hr h => ?_)
  · obtain ⟨p, d, wt, f, rfl, _⟩ := h; rfl
  · obtain ⟨p, d, wt, f, rfl, hw, ok, hd, k⟩ := h
    have O_told_of := ok_told_of (P := P) (w := w) (base := base) T
    have hr_4 : Room 4 _ := hr.mono (by decide)
    refine ⟨_, (pss_cons (ps_asg (pv 0) (pg_tup rfl (pgs_cons (pg_name (i := 2) sc_is_kept.nd rfl (Or.inl rfl)) (pgs_cons (pg_name (i := 3) sc_is_kept.nd rfl (Or.inl rfl)) (pgs_cons (pg_name (i := 4) sc_is_kept.nd rfl (Or.inl rfl)) pgs_nil)))))
      (pss_cons (ps_set (i := 5) sc_is_kept.nd rfl (Or.inl rfl) (pe_call O_told_of hr_4 rfl T.m_told_of T.F_told_of.kp T.b_told_of .nil pass0 (pa_cons (pv 0) (pa_cons (pv 1) pa_nil))))
      (pss_cons (ps_if (pt_cmpR op_eq (pv 2) pe_str (nomark _)) (pss_one (ps_ret (pe_cmpR k_notN (pv 5) pe_non (nomark _)))) pss_nil)
      (pss_cons (ps_asg (pv 5) (pg_tup rfl (pgs_cons (pg_name (i := 6) sc_is_kept.nd rfl (Or.inl rfl)) (pgs_cons (pg_name (i := 7) sc_is_kept.nd rfl (Or.inl rfl)) pgs_nil))))
      (pss_cons (ps_if (pt_cmpR op_eq (pv 2) pe_str (nomark _)) (pss_one (ps_ret (pe_cmpR op_eq (pv 6) (pv 7) (nomark _)))) pss_nil)
      (pss_one (ps_ret (pe_and (pe_cmpR k_notN (pv 6) pe_non (nomark _)) (pe_and (pe_cmpR k_notN (pv 7) pe_non (nomark _)) (pe_one (pe_cmpR op_le (pe_op op_sub (pv 7) (pv 6)) (pv 4) (nomark _)))))))))))), ?_⟩
    walk_at "go"
    cases wt with
    | over ws l =>
      obtain ⟨t, hp, hs⟩ := id hw
      refine w_gtup (K := K) (SqT.at hp) rfl ?_
      walk_at "go"
      refine use_told hw ok hd fun v H1 s1 tv => ?_
      walk_at "go"
      refine w_eqY ?_
      walk_at "go"
      refine iteT ?_
      walk_at "go"
      have k := k H1 s1
      rw [kept_over rfl] at k
      cases (show v = _ from tv)
      generalize triE (addE (ws.map (lowE f))) (addE (ws.map (highE f))) l = o at *
      cases o <;> exact k
    | count ns l =>
      obtain ⟨t, hp, hs⟩ := id hw
      refine w_gtup (K := K) (SqT.at hp) rfl ?_
      walk_at "go"
      refine use_told hw ok hd fun v H1 s1 tv => ?_
      walk_at "go"
      refine w_eqX (by decide +kernel) ?_
      walk_at "go"
      refine iteF ?_
      walk_at "go"
      obtain ⟨q, rfl, hq⟩ := tv
      refine w_gtup (K := K) (SqT.at hq) rfl ?_
      walk_at "go"
      refine w_eqY ?_
      walk_at "go"
      refine iteT ?_
      walk_at "go"
      refine w_eq rfl ?_
      have k := k H1 s1
      have e : kept f (.count ns l) = decide (V.int ((ns.filter fun n => geE l (f n).1).length : Nat) = V.int ((ns.filter fun n => geU l (f n).2).length : Nat)) := by
        show decide (some (((ns.filter fun n => geE l (f n).1).length : Nat) : Int) = some (((ns.filter fun n => geU l (f n).2).length : Nat) : Int)) = _
        exact decide_eq_decide.mpr ⟨fun h => by injection h with h; rw [h], fun h => by injection h with h; rw [h]⟩
      rw [e] at k
      exact k
    | sum ws l =>
      obtain ⟨t, hp, hs⟩ := id hw
      refine w_gtup (K := K) (SqT.at hp) rfl ?_
      walk_at "go"
      refine use_told hw ok hd fun v H1 s1 tv => ?_
      walk_at "go"
      refine w_eqX (by decide +kernel) ?_
      walk_at "go"
      refine iteF ?_
      walk_at "go"
      obtain ⟨q, rfl, hq⟩ := tv
      refine w_gtup (K := K) (SqT.at hq) rfl ?_
      walk_at "go"
      refine w_eqX (by decide +kernel) ?_
      walk_at "go"
      refine iteF ?_
      walk_at "go"
      have k : Q (.bl (within (addE (ws.map (lowE f))) (addE (ws.map (highE f))) l)) H1 := k H1 s1
      clear hq
      generalize addE (ws.map (lowE f)) = lo at *
      generalize addE (ws.map (highE f)) = hi at *
      cases lo with
      | none => exact iteF k
      | some i =>
        refine iteT ?_
        walk_at "go"
        cases hi with
        | none => exact iteF k
        | some j =>
          refine iteT ?_
          walk_at "go"
          refine w_I0 (a := j) (b := i) ?_
          walk_at "go"
          exact k
    | most ns l =>
      obtain ⟨t, hp, hs⟩ := id hw
      refine w_gtup (K := K) (SqT.at hp) rfl ?_
      walk_at "go"
      refine use_told hw ok hd fun v H1 s1 tv => ?_
      walk_at "go"
      refine w_eqX (by decide +kernel) ?_
      walk_at "go"
      refine iteF ?_
      walk_at "go"
      obtain ⟨q, rfl, hq⟩ := tv
      refine w_gtup (K := K) (SqT.at hq) rfl ?_
      walk_at "go"
      refine w_eqX (by decide +kernel) ?_
      walk_at "go"
      refine iteF ?_
      walk_at "go"
      have k : Q (.bl (within (maxO (pres (ns.map fun n => (f n).1))) (if (ns.map fun n => (f n).2).all (·.isSome) = true then maxO (pres (ns.map fun n => (f n).2)) else none) l)) H1 := k H1 s1
      clear hq
      generalize maxO (pres (ns.map fun n => (f n).1)) = lo at *
      generalize (if (ns.map fun n => (f n).2).all (·.isSome) = true then maxO (pres (ns.map fun n => (f n).2)) else none) = hi at *
      cases lo with
      | none => exact iteF k
      | some i =>
        refine iteT ?_
        walk_at "go"
        cases hi with
        | none => exact iteF k
        | some j =>
          refine iteT ?_
          walk_at "go"
          refine w_I0 (a := j) (b := i) ?_
          walk_at "go"
          exact k
/-! ### watches drawn beside middles -/
def spWatch : Sp := fun vs H Q _ => ∃ (b t0 d : Addr) (xs : List Str) (ns : List (Str × Int)), vs = [.ref b, .ref t0, .ref d] ∧ Bag H b ∧ H t0 = some (.tup (xs.map V.str)) ∧ xs ≠ [] ∧ xs.length ≤ 4 ∧ (∀ x ∈ xs, NameOk x) ∧
  NumAt H d ns xs ∧ (∀ e ∈ ns, e.2.natAbs ≤ 7) ∧ ∀ p w H', WatchAt H' p w → WOk xs w → w.names.Sublist xs → (∀ i ∈ w.weights, i.natAbs ≤ 5 ∧ i ≠ 0) → w.slk → w.lim.natAbs ≤ 400 → Step b H H' → Q (.ref p) H'
theorem use_watch {b t0 d : Addr} {xs : List Str} {ns : List (Str × Int)} {H : Hp} {Q : VK} {E : XK} (hb : Bag H b) (h0 : H t0 = some (.tup (xs.map V.str))) (h1 : xs ≠ []) (h2 : xs.length ≤ 4) (h3 : ∀ x ∈ xs, NameOk x)
    (hd : NumAt H d ns xs) (hz : ∀ e ∈ ns, e.2.natAbs ≤ 7) (k : ∀ p w H', WatchAt H' p w → WOk xs w → w.names.Sublist xs → (∀ i ∈ w.weights, i.natAbs ≤ 5 ∧ i ≠ 0) → w.slk → w.lim.natAbs ≤ 400 → Step b H H' → Q (.ref p) H') : spWatch ([.ref b, .ref t0, .ref d] ++ []) H Q E := ⟨b, t0, d, xs, ns, rfl, hb, h0, h1, h2, h3, hd, hz, k⟩
def PairEl (ys : List Str) (B : Int → Prop) (i : Nat) (y : V) (G : Hp) : Prop := ∃ q k, y = V.ref q ∧ G q = some (.tup [.str (ys.getD i Str.empty), .int k]) ∧ B k
theorem pairEl_ok (b : Addr) (ys : List Str) (B : Int → Prop) : ElOk b (PairEl ys B) :=
  ⟨fun i y G G' hb s ⟨q, k, e, h, hk⟩ => ⟨q, k, e, s.tup hb h, hk⟩, fun i y G D acc hD ⟨q, k, e, h, hk⟩ => ⟨q, k, e, off_tup hD h, hk⟩⟩
theorem atI_nat {xs : List Str} {d : Int} (h0 : 0 ≤ d) (h1 : d < xs.length) : ∃ x, atI (xs.map V.str) d = some (.str x) ∧ x ∈ xs := by
  have hl : d.toNat < xs.length := by omega
  refine ⟨xs[d.toNat], ?_, List.getElem_mem _⟩
  unfold atI ixN
  rw [if_pos h0, List.length_map, if_pos h1]
  show (xs.map V.str)[d.toNat]? = _
  rw [List.getElem?_map, List.getElem?_eq_getElem hl]; rfl
theorem wsmall_at {d : Int} (h0 : 0 ≤ d) (h1 : d < 6) : ∃ s : Int, atI [V.int 1, .int 1, .int (-1), .int 2, .int (-3), .int 5] d = some (.int s) ∧ s.natAbs ≤ 5 ∧ s ≠ 0 := by
  have h : d = 0 ∨ d = 1 ∨ d = 2 ∨ d = 3 ∨ d = 4 ∨ d = 5 := by omega
  rcases h with rfl | rfl | rfl | rfl | rfl | rfl
  · exact ⟨1, rfl, by decide, by decide⟩
  · exact ⟨1, rfl, by decide, by decide⟩
  · exact ⟨-1, rfl, by decide, by decide⟩
  · exact ⟨2, rfl, by decide, by decide⟩
  · exact ⟨-3, rfl, by decide, by decide⟩
  · exact ⟨5, rfl, by decide, by decide⟩
theorem total_le5 {f : Str → Int} : ∀ {ws : List (Str × Int)}, (∀ e ∈ ws, e.2.natAbs ≤ 5 ∧ (f e.1).natAbs ≤ 7) → (total f ws).natAbs ≤ ws.length * 35
  | [], _ => Nat.zero_le _
  | e :: r, h => by
    obtain ⟨h1, h2⟩ := h e List.mem_cons_self
    have ih := total_le5 (f := f) (ws := r) fun x m => h x (List.mem_cons_of_mem _ m)
    have e0 : total f (e :: r) = e.2 * f e.1 + total f r := by unfold total; rw [List.map_cons, List.sum_cons]
    rw [e0]
    have a := Int.natAbs_add_le (e.2 * f e.1) (total f r)
    have b : (e.2 * f e.1).natAbs ≤ 5 * 7 := by rw [Int.natAbs_mul]; exact Nat.mul_le_mul h1 h2
    rw [List.length_cons, Nat.succ_mul]
    omega
theorem ok_l_watch (T : Gk w K mg g) : FnOk P w K mg base CX0 3 g.f_l_watch g.d_l_watch ["_law_bag_here", "_law_names_here", "_law_middles"] spWatch := by
  refine T.F_l_watch.ok sc_l_watch (fun vs H Q E h => ?_) (fun cdv A outer s H vs Q E hr h => ?_)
  · obtain ⟨b, t0, d, xs, ns, rfl, _⟩ := h; rfl
  · obtain ⟨b, t0, d, xs, ns, rfl, hb, h0, hne, hlen, hok, hd, hz, k⟩ := h
    have O_l_some := ok_l_some (P := P) (w := w) (base := base) T
    have O_l_take := ok_l_take (P := P) (w := w) (base := base) T
    have hr_1 : Room 1 _ := hr.mono (by decide)
    have hr_2 : Room 2 _ := hr.mono (by decide)
    have hu := hu_of hr
    refine ⟨_, (pss_cons (ps_par (i := 3) (j := 4) (by rfl) sc_l_watch.nd rfl rfl (by decide) rfl rfl (pa_cons (pe_call O_l_take hr_1 rfl T.m_l_take T.F_l_take.kp T.b_l_take .nil pass0 (pa_cons (pv 0) (pa_cons pe_int pa_nil))) (pa_cons (pe_call O_l_some hr_2 rfl T.m_l_some T.F_l_some.kp T.b_l_some .nil pass0 (pa_cons (pv 0) (pa_cons (pv 1) pa_nil))) pa_nil)) (by rfl))
      (pss_cons (ps_if (pt_cmpR op_eq (pv 3) pe_int (nomark _)) (pss_one (ps_ret (pe_tup (pa_cons pe_str (pa_cons (pv 4) (pa_cons (pe_call O_l_take hr_1 rfl T.m_l_take T.F_l_take.kp T.b_l_take .nil pass0 (pa_cons (pv 0) (pa_cons pe_int pa_nil))) pa_nil)))))) pss_nil)
      (pss_cons (ps_if (pt_cmpR op_eq (pv 3) pe_int (nomark _)) (pss_cons (ps_set (i := 8) sc_l_watch.nd rfl (Or.inl rfl) (pe_dget hu (pv 2) (pe_ix (k_ixT K) (pv 4) (pe_call O_l_take hr_1 rfl T.m_l_take T.F_l_take.kp T.b_l_take .nil pass0 (pa_cons (pv 0) (pa_cons (pe_callB (k_len K) (by rfl) T.z_len (by decide +kernel) (pa_cons (pv 4) pa_nil)) pa_nil))) (fun _ _ => rfl)) (fun _ _ => rfl)))
      (pss_one (ps_ret (pe_tup (pa_cons pe_str (pa_cons (pv 4) (pa_cons (pe_op op_sub (pe_op op_add (pv 8) (pe_call O_l_take hr_1 rfl T.m_l_take T.F_l_take.kp T.b_l_take .nil pass0 (pa_cons (pv 0) (pa_cons pe_int pa_nil)))) pe_int) pa_nil))))))) pss_nil)
      (pss_cons (ps_set (i := 5) sc_l_watch.nd rfl (Or.inr rfl) (pe_lst (pa_cons pe_int (pa_cons pe_int (pa_cons (pe_un un_neg pe_int) (pa_cons pe_int (pa_cons (pe_un un_neg pe_int) (pa_cons pe_int pa_nil))))))))
      (pss_cons (ps_set (i := 6) sc_l_watch.nd rfl (Or.inl rfl) (pe_callTy (k_tuple K) (by rfl) T.z_tuple (by decide +kernel) (pa_cons (pe_lc (own := [("_law_name", 9)]) (g := (gName 9)) rfl sc_l_watch.nd (pi_tupK K (pv 4)) (blkOk_by (N := ["_law_bag_here", "_law_names_here", "_law_middles", "_law_road", "_law_some_here", "_law_small", "_law_weights", "_law_total", "_law_near", "_law_name", "_law_weight"]) (sc := defScope s_l_watch) (by decide +kernel)) (fun _ _ _ _ _ => pg_name (i := 9) sc_l_watch.nd rfl (Or.inl rfl)) (fun _ _ _ _ _ => pts_nil) (fun _ _ _ _ _ => (pe_tup (pa_cons (pv 9) (pa_cons (pe_ix (k_ixL K) (pv 5) (pe_call O_l_take hr_1 rfl T.m_l_take T.F_l_take.kp T.b_l_take .nil pass0 (pa_cons (pv 0) (pa_cons pe_int pa_nil))) (fun _ _ => rfl)) pa_nil))))) pa_nil)))
      (pss_cons (ps_if (pt_cmpR op_eq (pv 3) pe_int (nomark _)) (pss_one (ps_ret (pe_tup (pa_cons pe_str (pa_cons (pv 6) (pa_cons (pe_call O_l_take hr_1 rfl T.m_l_take T.F_l_take.kp T.b_l_take .nil pass0 (pa_cons (pv 0) (pa_cons pe_int pa_nil))) pa_nil)))))) pss_nil)
      (pss_cons (ps_set (i := 7) sc_l_watch.nd rfl (Or.inl rfl) (pe_callB (k_sum K) (by rfl) T.z_sum (by decide +kernel) (pa_cons (pe_lc (own := [("_law_name", 9), ("_law_weight", 10)]) (g := (gTup K 2 (gCons (gName 9) (gCons (gName 10) gNil)))) rfl sc_l_watch.nd (pi_tupK K (pv 6)) (blkOk_by (N := ["_law_bag_here", "_law_names_here", "_law_middles", "_law_road", "_law_some_here", "_law_small", "_law_weights", "_law_total", "_law_near", "_law_name", "_law_weight"]) (sc := defScope s_l_watch) (by decide +kernel)) (fun _ _ _ _ _ => (pg_tup rfl (pgs_cons (pg_name (i := 9) sc_l_watch.nd rfl (Or.inl rfl)) (pgs_cons (pg_name (i := 10) sc_l_watch.nd rfl (Or.inl rfl)) pgs_nil)))) (fun _ _ _ _ _ => pts_nil) (fun _ _ _ _ _ => (pe_op op_mul (pv 10) (pe_dget hu (pv 2) (pv 9) (fun _ _ => rfl))))) pa_nil)))
      (pss_one (ps_ret (pe_tup (pa_cons pe_str (pa_cons (pv 6) (pa_cons (pe_op op_sub (pe_op op_add (pv 7) (pe_call O_l_take hr_1 rfl T.m_l_take T.F_l_take.kp T.b_l_take .nil pass0 (pa_cons (pv 0) (pa_cons pe_int pa_nil)))) pe_int) pa_nil))))))))))))), ?_⟩
    have numz : ∀ x ∈ xs, (num ns x).natAbs ≤ 7 := fun x m => hz _ (num_mem (hd.has x m))
    walk_at "go"
    refine use_take hb (by decide) (by decide) fun r H0 r0 r1 s0 => ?_
    walk_at "go"
    refine use_some s0.1 (s0.tup hb h0) hne (by omega) hok fun t ys H1 hsub hyne s1 ht => ?_
    refine ⟨_, _, rfl, ?_⟩
    have st1 := s0.trans s1
    have hd := hd.stp hb st1
    have ysub : ∀ y ∈ ys, y ∈ xs := fun y m => hsub.subset m
    have yl4 : ys.length ≤ 4 := Nat.le_trans hsub.length_le hlen
    have yl : ys.length ≤ 26 := by omega
    have ypos : 0 < ys.length := List.length_pos_iff.mpr hyne
    have okM : ∀ l, WOk xs (.most ys l) := fun l => ⟨ysub, hyne, yl, fun i m => nomatch m⟩
    have okC : ∀ l, WOk xs (.count ys l) := fun l => ⟨ysub, hyne, yl, fun i m => nomatch m⟩
    walk_at "go"
    refine w_eq rfl ?_
    walk_at "go"
    refine ite_b (fun _ => ?_) (fun _ => ?_)
    · walk_at "go"
      refine use_take st1.1 (by decide) (by decide) fun d2 H2 d20 d21 s2 => ?_
      walk_at "go"
      refine k_tup (by show 3 ≤ sizeLine; decide) fun p H3 np s3 hp => ?_
      exact k p (.most ys d2) H3 ⟨t, hp, s3 _ _ (s2.tup st1.1 ht)⟩ (okM _) hsub (fun i m => nomatch m) d20 (by show d2.natAbs ≤ _; omega) ((st1.trans s2).more s3)
    walk_at "go"
    refine w_eq rfl ?_
    walk_at "go"
    refine ite_b (fun _ => ?_) (fun _ => ?_)
    · walk_at "go"
      refine w_lenT (SqT.at ht) ?_
      rw [List.length_map]
      walk_at "go"
      refine use_take st1.1 (by omega) (by omega) fun d2 H2 d20 d21 s2 => ?_
      have ht := s2.tup st1.1 ht
      have hd := hd.stp st1.1 s2
      have st2 := st1.trans s2
      obtain ⟨y, ey, my⟩ := atI_nat d20 d21
      refine w_ixT (SqT.at ht) ey ?_
      refine k_dget hd.at_ (num_val (hd.has _ (ysub y my))) ?_
      walk_at "go"
      refine use_take st2.1 (by decide) (by decide) fun d3 H3 d30 d31 s3 => ?_
      walk_at "go"
      refine k_tup (by show 3 ≤ sizeLine; decide) fun p H4 np s4 hp => ?_
      have := numz y (ysub y my)
      exact k p (.count ys _) H4 ⟨t, hp, s4 _ _ (s3.tup st2.1 ht)⟩ (okC _) hsub (fun i m => nomatch m) trivial (by show (num ns y + d3 - 3).natAbs ≤ _; omega) ((st2.trans s3).more s4)
    walk_at "go"
    refine k_lst (by show 6 ≤ sizeLine; decide) fun l7 H7 nl7 s7 hl7 => ?_
    have st7 := st1.more s7
    have nb7 := bag_new st1.1 nl7
    have ht := s7 _ _ ht
    have hd := hd.same s7
    walk_at "go"
    refine ⟨t, rfl, ⟨_, SqT.at ht⟩, ?_⟩
    refine b_lcT (b := b) (El := PairEl ys fun i => i.natAbs ≤ 5 ∧ i ≠ 0) st7.1 (pairEl_ok b ys _) (by rw [List.length_map]; omega) (SqT.at ht) (fun i x G hi st => ?_) fun D acc H8 nD hD st8 hacc => ?_
    · obtain ⟨rfl, mi⟩ := getD_map hi
      refine turnB_name (fun _ => rfl) fun R Ny kR => ?_
      walk_at "go"
      refine iteT ?_
      walk_at "go"
      refine use_take st.1 (by decide) (by decide) fun d9 G' d90 d91 s' => ?_
      obtain ⟨sg, esg, hsg⟩ := wsmall_at d90 d91
      refine w_ixL (SqL.at (s'.at (st.at hl7 nb7) nb7)) esg ?_
      walk_at "go"
      refine k_tup (by show 2 ≤ sizeLine; decide) fun q G2 nq sq hq => ?_
      exact kR _ _ (s'.more sq) ⟨q, sg, rfl, hq, hsg⟩
    obtain ⟨ps, ws, rfl, pp, ews, hws⟩ := acc_pairs (by rw [hacc.1, List.length_map]) hacc.2
    have wl : WtLe ws := fun e m => Nat.le_trans (hws e m).1 (by decide)
    have wnz : ∀ e ∈ ws, e.2.natAbs ≤ 5 ∧ e.2 ≠ 0 := fun e m => hws e m
    have ht := st8.tup st7.1 ht
    have hd := hd.stp st7.1 st8
    have st8 := st7.trans st8
    walk_at "go"
    refine w_tupleL (SqL.at hD) fun tw H9 ntw s9 htw => ?_
    have st9 := st8.more s9
    have hd := hd.same s9
    have pp := paired_keep (TKeep.same s9) pp
    have hpl := paired_len pp
    have hwl : ws.length = ys.length := by rw [← ews, List.length_map]
    have hpa : PairsAt H9 tw ws := ⟨ps, htw, pp⟩
    have okS : ∀ l, WOk xs (.sum ws l) := fun l => ⟨by show ∀ n ∈ ws.map (·.1), _; rw [ews]; exact ysub, by show ws.map (·.1) ≠ []; rw [ews]; exact hyne, by show (ws.map (·.1)).length ≤ 26; rw [ews]; exact yl, fun i m => by
      obtain ⟨e, me, rfl⟩ := List.mem_map.mp m
      exact wl e me⟩
    have okO : ∀ l, WOk xs (.over ws l) := fun l => ⟨(okS 0).sub, (okS 0).ne, (okS 0).few, (okS 0).wt⟩
    have nzS : ∀ l, ∀ i ∈ (Wt.sum ws l).weights, i.natAbs ≤ 5 ∧ i ≠ 0 := fun l i m => by
      obtain ⟨e, me, rfl⟩ := List.mem_map.mp m
      exact wnz e me
    have subS : (ws.map (·.1)).Sublist xs := by rw [ews]; exact hsub
    walk_at "go"
    refine w_eq rfl ?_
    walk_at "go"
    refine ite_b (fun _ => ?_) (fun _ => ?_)
    · walk_at "go"
      refine use_take st9.1 (by decide) (by decide) fun d2 H10 d20 d21 s10 => ?_
      walk_at "go"
      refine k_tup (by show 3 ≤ sizeLine; decide) fun p H11 np s11 hp => ?_
      exact k p (.sum ws d2) H11 ⟨tw, hp, hpa.keep ((TKeep.step st9.1 s10).trans (TKeep.same s11))⟩ (okS _) subS (nzS _) d20 (by show d2.natAbs ≤ _; omega) ((st9.trans s10).more s11)
    walk_at "go"
    refine ⟨tw, rfl, ⟨_, SqT.at htw⟩, ?_⟩
    refine i_lcT (fun _ => true) (fun a => V.int ((ws.getD a (Str.empty, 0)).2 * num ns (ws.getD a (Str.empty, 0)).1)) (by rw [List.length_map]; omega) (SqT.at htw)
      (sum_turn pp (hd.sub (by rw [ews]; exact ysub)) (fun _ _ => rfl) (fun _ _ _ => rfl) (fun x k f e hk H' s' Q' k' => ?_) wl) fun D2 H10 nD2 s10 hD2 => ?_
    · walk_at "go"
      refine k_dget (s' _ _ hd.at_) e ?_
      refine w_I (Or.inl (by omega)) ?_
      exact k' _ (Same.refl _)
    rw [sum_list (num ns) ws _ (by rw [List.length_map, hpl])] at hD2
    walk_at "go"
    refine ⟨D2, _, rfl, SqL.at hD2, ?_⟩
    have st10 := st9.more s10
    have hpa := hpa.keep (TKeep.same s10)
    have tot : (total (num ns) ws).natAbs ≤ 4 * 35 := by
      have t := total_le5 (f := num ns) (ws := ws) fun e m => ⟨(hws e m).1, numz _ (ysub _ (by rw [← ews]; exact List.mem_map_of_mem m))⟩
      exact Nat.le_trans t (Nat.mul_le_mul_right _ (by omega))
    have et : (ws.map fun e => e.2 * num ns e.1).sum = total (num ns) ws := rfl
    rw [et]
    generalize total (num ns) ws = tt at *
    walk_at "go"
    refine use_take st10.1 (by decide) (by decide) fun d2 H11 d20 d21 s11 => ?_
    walk_at "go"
    refine k_tup (by show 3 ≤ sizeLine; decide) fun p H12 np s12 hp => ?_
    exact k p (.over ws _) H12 ⟨tw, hp, hpa.keep ((TKeep.step st10.1 s11).trans (TKeep.same s12))⟩ (okO _) subS (nzS 0) trivial (by show (tt + d2 - 10).natAbs ≤ _; omega) ((st10.trans s11).more s12)
/-! ### worths -/
def spSumOf : Sp := fun vs H Q _ => ∃ (p t d : Addr) (w1 w3 : V) (ws ns : List (Str × Int)), vs = [.ref p, .ref d] ∧ H p = some (.tup [w1, .ref t, w3]) ∧ PairsAt H t ws ∧ NumAt H d ns (ws.map (·.1)) ∧ WtLe ws ∧ ws.length ≤ 26 ∧
  ∀ H', Same H H' → Q (.int (total (num ns) ws)) H'
theorem ok_sum_of (T : Gk w K mg g) : FnOk P w K mg base CX0 1 g.f_sum_of g.d_sum_of ["watch", "numbers"] spSumOf := by
  refine T.F_sum_of.ok sc_sum_of (fun vs H Q E h => ?_) (fun cdv A outer s H vs Q E hr h => ?_)
  · obtain ⟨p, t, d, w1, w3, ws, ns, rfl, _⟩ := h; rfl
  · obtain ⟨p, t, d, w1, w3, ws, ns, rfl, hp, ⟨ps, ht, pp⟩, hd, wl, hl, k⟩ := h
    have hu := hu_of hr
    refine ⟨_, (pss_one (ps_ret (pe_callBK (k_sumS K) (by rfl) T.z_sum (by decide +kernel) (pa_cons (pe_lc (own := [("name", 2), ("weight", 3)]) (g := (gTup K 2 (gCons (gName 2) (gCons (gName 3) gNil)))) rfl sc_sum_of.nd (pi_tupK K (pe_ix (k_ixT K) (pv 0) pe_int (fun _ _ => rfl))) (blkOk_by (N := ["watch", "numbers", "name", "weight"]) (sc := defScope s_sum_of) (by decide +kernel)) (fun _ _ _ _ _ => (pg_tup rfl (pgs_cons (pg_name (i := 2) sc_sum_of.nd rfl (Or.inl rfl)) (pgs_cons (pg_name (i := 3) sc_sum_of.nd rfl (Or.inl rfl)) pgs_nil)))) (fun _ _ _ _ _ => pts_nil) (fun _ _ _ _ _ => (pe_op op_mul (pv 3) (pe_dget hu (pv 1) (pv 2) (fun _ _ => rfl))))) pa_nil) (pk_cons pe_int pk_nil)))), ?_⟩
    have hpl := paired_len pp
    walk_at "go"
    refine w_ixT (SqT.at hp) rfl ?_
    refine ⟨t, rfl, ⟨_, SqT.at ht⟩, ?_⟩
    refine i_lcT (fun _ => true) (fun a => V.int ((ws.getD a (Str.empty, 0)).2 * num ns (ws.getD a (Str.empty, 0)).1)) (by rw [List.length_map]; omega) (SqT.at ht)
      (sum_turn pp hd (fun _ _ => rfl) (fun _ _ _ => rfl) (fun x k f e hk H' s' Q' k' => ?_) wl) fun D H1 nD s1 hD => ?_
    · walk_at "go"
      refine k_dget (s' _ _ hd.at_) e ?_
      refine w_I (Or.inl (by omega)) ?_
      exact k' _ (Same.refl _)
    rw [sum_list (num ns) ws _ (by rw [List.length_map, hpl])] at hD
    walk_at "go"
    exact ⟨D, _, rfl, rfl, SqL.at hD, k _ s1⟩
theorem ok_worth_of (T : Gk w K mg g) : FnOk P w K mg base CX0 2 g.f_worth_of g.d_worth_of ["watch", "numbers"] spWorth := by
  refine T.F_worth_of.ok sc_worth_of (fun vs H Q E h => ?_) (fun cdv A outer s H vs Q E hr h => ?_)
  · obtain ⟨p, d, w, ns, rfl, _⟩ := h; rfl
  · obtain ⟨p, d, wt, ns, rfl, hw, ok, hd, k⟩ := h
    have O_sum_of := ok_sum_of (P := P) (w := w) (base := base) T
    have hr_1 : Room 1 _ := hr.mono (by decide)
    have hu := hu_of hr
    refine ⟨_, (pss_cons (ps_asg (pv 0) (pg_tup rfl (pgs_cons (pg_name (i := 2) sc_worth_of.nd rfl (Or.inl rfl)) (pgs_cons (pg_name (i := 3) sc_worth_of.nd rfl (Or.inl rfl)) (pgs_cons (pg_name (i := 4) sc_worth_of.nd rfl (Or.inr rfl)) pgs_nil)))))
      (pss_cons (ps_if (pt_cmpR op_eq (pv 2) pe_str (nomark _)) (pss_one (ps_ret (pe_call O_sum_of hr_1 rfl T.m_sum_of T.F_sum_of.kp T.b_sum_of .nil pass0 (pa_cons (pv 0) (pa_cons (pv 1) pa_nil))))) pss_nil)
      (pss_cons (ps_if (pt_cmpR op_eq (pv 2) pe_str (nomark _)) (pss_one (ps_ret (pe_cmpR op_ge (pe_call O_sum_of hr_1 rfl T.m_sum_of T.F_sum_of.kp T.b_sum_of .nil pass0 (pa_cons (pv 0) (pa_cons (pv 1) pa_nil))) (pv 4) (nomark _)))) pss_nil)
      (pss_cons (ps_if (pt_cmpR op_eq (pv 2) pe_str (nomark _)) (pss_one (ps_ret (pe_callB (k_max K) (by rfl) T.z_max (by decide +kernel) (pa_cons (pe_lc (own := [("name", 5)]) (g := (gName 5)) rfl sc_worth_of.nd (pi_tupK K (pv 3)) (blkOk_by (N := ["watch", "numbers", "word", "some", "limit", "name"]) (sc := defScope s_worth_of) (by decide +kernel)) (fun _ _ _ _ _ => pg_name (i := 5) sc_worth_of.nd rfl (Or.inl rfl)) (fun _ _ _ _ _ => pts_nil) (fun _ _ _ _ _ => (pe_dget hu (pv 1) (pv 5) (fun _ _ => rfl)))) pa_nil)))) pss_nil)
      (pss_one (ps_ret (pe_callB (k_len K) (by rfl) T.z_len (by decide +kernel) (pa_cons (pe_lc (own := [("name", 5)]) (g := (gName 5)) rfl sc_worth_of.nd (pi_tupK K (pv 3)) (blkOk_by (N := ["watch", "numbers", "word", "some", "limit", "name"]) (sc := defScope s_worth_of) (by decide +kernel)) (fun _ _ _ _ _ => pg_name (i := 5) sc_worth_of.nd rfl (Or.inl rfl)) (fun _ _ _ _ _ => pts_one (pt_cmpR op_ge (pe_dget hu (pv 1) (pv 5) (fun _ _ => rfl)) (pv 4) (nomark _))) (fun _ _ _ _ _ => (pv 5))) pa_nil)))))))), ?_⟩
    walk_at "go"
    cases wt with
    | sum ws l =>
      obtain ⟨t, hp, hpa⟩ := hw
      refine w_gtup (K := K) (SqT.at hp) rfl ?_
      walk_at "go"
      refine w_eqY ?_
      walk_at "go"
      refine iteT ?_
      walk_at "go"
      exact ⟨p, t, d, _, _, ws, ns, rfl, hp, hpa, hd, ok.le, by have := ok.few; rwa [show (Wt.sum ws l).names = ws.map (·.1) from rfl, List.length_map] at this, k⟩
    | over ws l =>
      obtain ⟨t, hp, hpa⟩ := hw
      refine w_gtup (K := K) (SqT.at hp) rfl ?_
      walk_at "go"
      refine w_eqX (by decide +kernel) ?_
      walk_at "go"
      refine iteF ?_
      walk_at "go"
      refine w_eqY ?_
      walk_at "go"
      refine iteT ?_
      walk_at "go"
      refine ⟨p, t, d, _, _, ws, ns, rfl, hp, hpa, hd, ok.le', by have := ok.few; rwa [show (Wt.over ws l).names = ws.map (·.1) from rfl, List.length_map] at this, fun H' s' => ?_⟩
      walk_at "go"
      exact k _ s'
    | most ls l =>
      obtain ⟨t, hp, hpa⟩ := hw
      refine w_gtup (K := K) (SqT.at hp) rfl ?_
      walk_at "go"
      refine w_eqX (by decide +kernel) ?_
      walk_at "go"
      refine iteF ?_
      walk_at "go"
      refine w_eqX (by decide +kernel) ?_
      walk_at "go"
      refine iteF ?_
      walk_at "go"
      refine w_eqY ?_
      walk_at "go"
      refine iteT ?_
      walk_at "go"
      refine ⟨t, rfl, ⟨_, SqT.at hpa⟩, ?_⟩
      refine i_lcT (fun _ => true) (fun i => V.int (num ns (ls.getD i Str.empty))) (by rw [List.length_map]; have := ok.few; exact Nat.le_trans this (by decide)) (SqT.at hpa) (fun i x hi => ?_) fun D H1 nD s1 hD => ?_
      · obtain ⟨rfl, mi⟩ := getD_map hi
        refine turn_name (fun _ => rfl) ?_ ?_
        · intro H' s' Q' k'
          walk_at "go"
          exact k' _ (Same.refl _)
        · intro _ H' s' Q' k'
          walk_at "go"
          refine k_dget (s' _ _ hd.at_) (num_val (hd.has _ mi)) ?_
          exact k' _ (Same.refl _)
      rw [num_list (num ns) ls _ (by rw [List.length_map])] at hD
      walk_at "go"
      refine w_max (SqL.at hD) ?_ fun m hm => ?_
      · rw [List.length_map]; exact List.length_pos_iff.mpr ok.ne
      · have e : worthV (num ns) (.most ls l) = .int m := by
          show V.int ((maxO (ls.map (num ns))).getD 0) = _
          rw [hm]; rfl
        rw [← e]
        exact k _ s1
    | count ls l =>
      obtain ⟨t, hp, hpa⟩ := hw
      refine w_gtup (K := K) (SqT.at hp) rfl ?_
      walk_at "go"
      refine w_eqX (by decide +kernel) ?_
      walk_at "go"
      refine iteF ?_
      walk_at "go"
      refine w_eqX (by decide +kernel) ?_
      walk_at "go"
      refine iteF ?_
      walk_at "go"
      refine w_eqX (by decide +kernel) ?_
      walk_at "go"
      refine iteF ?_
      walk_at "go"
      refine ⟨t, rfl, ⟨_, SqT.at hpa⟩, ?_⟩
      refine i_lcT (fun i => decide (l ≤ num ns (ls.getD i Str.empty))) (fun i => V.str (ls.getD i Str.empty)) (by rw [List.length_map]; have := ok.few; exact Nat.le_trans this (by decide)) (SqT.at hpa) (fun i x hi => ?_) fun D H1 nD s1 hD => ?_
      · obtain ⟨rfl, mi⟩ := getD_map hi
        refine turn_name (fun _ => rfl) ?_ ?_
        · intro H' s' Q' k'
          walk_at "go"
          refine k_dget (s' _ _ hd.at_) (num_val (hd.has _ mi)) ?_
          walk_at "go"
          exact k' _ (Same.refl _)
        · intro _ H' s' Q' k'
          walk_at "go"
          exact k' _ (Same.refl _)
      walk_at "go"
      refine w_lenL (SqL.at hD) ?_
      rw [madeI_len, List.length_map, filter_at Str.empty (fun n => decide (l ≤ num ns n)) ls]
      exact k _ s1
/-! ### hands of a watch -/
def spHands : Sp := fun vs H Q _ => ∃ (p : Addr) (w : Wt), vs = [.ref p] ∧ WatchAt H p w ∧ w.names.length ≤ 26 ∧ ∀ l H', H l = none → Same H H' → H' l = some (.lst (w.names.map V.str)) → Q (.ref l) H'
theorem use_hands {p : Addr} {w : Wt} {H : Hp} {Q : VK} {E : XK} (h1 : WatchAt H p w) (h2 : w.names.length ≤ 26) (k : ∀ l H', H l = none → Same H H' → H' l = some (.lst (w.names.map V.str)) → Q (.ref l) H') : spHands ([.ref p] ++ []) H Q E := ⟨p, w, rfl, h1, h2, k⟩
theorem name_list (ws : List (Str × Int)) (n : Nat) (h : n = ws.length) : madeI (fun _ => true) (fun i => V.str (ws.getD i (Str.empty, 0)).1) n = (ws.map (·.1)).map V.str := by
  subst h
  rw [madeI_all]
  have e := congrArg (fun l => (l.map fun e : Str × Int => e.1).map V.str) (range_at (Str.empty, 0) ws)
  rw [List.map_map, List.map_map] at e
  exact e
theorem ok_hands_of (T : Gk w K mg g) : FnOk P w K mg base CX0 1 g.f_hands_of g.d_hands_of ["watch"] spHands := by
  refine T.F_hands_of.ok sc_hands_of (fun vs H Q E h => ?_) (fun cdv A outer s H vs Q E hr h => ?_)
  · obtain ⟨p, w, rfl, _⟩ := h; rfl
  · obtain ⟨p, wt, rfl, hw, few, k⟩ := h
    
    refine ⟨_, (pss_cons (ps_asg (pv 0) (pg_tup rfl (pgs_cons (pg_name (i := 1) sc_hands_of.nd rfl (Or.inl rfl)) (pgs_cons (pg_name (i := 2) sc_hands_of.nd rfl (Or.inl rfl)) (pgs_cons (pg_name (i := 3) sc_hands_of.nd rfl (Or.inl rfl)) pgs_nil)))))
      (pss_one (ps_ret (pe_ifExp (pt_cmpR (k_in K) (pv 1) (pe_glob (v := .ref g.c_WEIGHED) rfl T.m_WEIGHED rfl) (by rfl)) (pe_lc (own := [("name", 4), ("weight", 5)]) (g := (gTup K 2 (gCons (gName 4) (gCons (gName 5) gNil)))) rfl sc_hands_of.nd (pi_tupK K (pv 2)) (blkOk_by (N := ["watch", "word", "some", "limit", "name", "weight"]) (sc := defScope s_hands_of) (by decide +kernel)) (fun _ _ _ _ _ => (pg_tup rfl (pgs_cons (pg_name (i := 4) sc_hands_of.nd rfl (Or.inl rfl)) (pgs_cons (pg_name (i := 5) sc_hands_of.nd rfl (Or.inl rfl)) pgs_nil)))) (fun _ _ _ _ _ => pts_nil) (fun _ _ _ _ _ => (pv 4))) (pe_callTy (k_list K) (by rfl) T.z_list (by decide +kernel) (pa_cons (pv 2) pa_nil)))))), ?_⟩
    walk_at "go"
    have go2 : ∀ (wd : Str) (ws : List (Str × Int)) (l : Int) (t : Addr), H p = some (.tup [.str wd, .ref t, .int l]) → PairsAt H t ws → ws.length ≤ 26 → (∀ D H1, H D = none → Same H H1 → H1 D = some (.lst ((ws.map (·.1)).map V.str)) → Q (.ref D) H1) →
        tLc (iTup K (tVar 2)) (gTup K 2 (gCons (gName 4) (gCons (gName 5) gNil))) (fun _ H Q => Q true H) (tVar 4) [4, 5] [some (.ref p), some (.str wd), some (.ref t), some (.int l), none, none] H Q := fun wd ws l t hp ⟨ps, ht, pp⟩ hl k => by
      have hpl := paired_len pp
      walk_at "go"
      refine ⟨t, rfl, ⟨_, SqT.at ht⟩, ?_⟩
      refine i_lcT (fun _ => true) (fun i => V.str (ws.getD i (Str.empty, 0)).1) (by rw [List.length_map]; omega) (SqT.at ht) (fun i x hi => ?_) fun D H1 nD s1 hD => ?_
      · obtain ⟨q, e, rfl, hwa, hq⟩ := paired_at pp hi
        have eg : ws.getD i (Str.empty, 0) = e := by rw [List.getD_eq_getElem?_getD, hwa]; rfl
        refine turn_pair hq rfl (fun H' s' Q' k' => k' _ (Same.refl _)) (fun _ H' s' Q' k' => ?_)
        rw [eg] at k'
        walk_at "go"
        exact k' _ (Same.refl _)
      rw [name_list ws _ (by rw [List.length_map, hpl])] at hD
      exact k D H1 nD s1 hD
    cases wt with
    | sum ws l =>
      obtain ⟨t, hp, hpa⟩ := hw
      refine w_gtup (K := K) (SqT.at hp) rfl ?_
      walk_at "go"
      refine w_inT (T.tp_WEIGHED _) rfl rfl ?_
      rw [show inV (V.str (Str.ofString "sum")) [.str (Str.ofString "sum"), .str (Str.ofString "over")] = true from by decide +kernel]
      walk_at "go"
      refine iteT ?_
      exact go2 _ ws l t hp hpa (by rwa [show (Wt.sum ws l).names = ws.map (·.1) from rfl, List.length_map] at few) k
    | over ws l =>
      obtain ⟨t, hp, hpa⟩ := hw
      refine w_gtup (K := K) (SqT.at hp) rfl ?_
      walk_at "go"
      refine w_inT (T.tp_WEIGHED _) rfl rfl ?_
      rw [show inV (V.str (Str.ofString "over")) [.str (Str.ofString "sum"), .str (Str.ofString "over")] = true from by decide +kernel]
      walk_at "go"
      refine iteT ?_
      exact go2 _ ws l t hp hpa (by rwa [show (Wt.over ws l).names = ws.map (·.1) from rfl, List.length_map] at few) k
    | most ls l =>
      obtain ⟨t, hp, hpa⟩ := hw
      refine w_gtup (K := K) (SqT.at hp) rfl ?_
      walk_at "go"
      refine w_inT (T.tp_WEIGHED _) rfl rfl ?_
      rw [show inV (V.str (Str.ofString "most")) [.str (Str.ofString "sum"), .str (Str.ofString "over")] = false from by decide +kernel]
      walk_at "go"
      refine iteF ?_
      walk_at "go"
      exact w_list (.inr (SqT.at hpa)) fun D H1 nD s1 hD => k D H1 nD s1 hD
    | count ls l =>
      obtain ⟨t, hp, hpa⟩ := hw
      refine w_gtup (K := K) (SqT.at hp) rfl ?_
      walk_at "go"
      refine w_inT (T.tp_WEIGHED _) rfl rfl ?_
      rw [show inV (V.str (Str.ofString "count")) [.str (Str.ofString "sum"), .str (Str.ofString "over")] = false from by decide +kernel]
      walk_at "go"
      refine iteF ?_
      walk_at "go"
      exact w_list (.inr (SqT.at hpa)) fun D H1 nD s1 hD => k D H1 nD s1 hD
/-! ### drawn ends -/
def Sml9 (e : Option Int × Option Int) : Prop := Sml e ∧ ∀ a b, e = (some a, some b) → b ≤ a + 3
theorem Sml9.most {e : Option Int × Option Int} (h : Sml9 e) : atMost e.1 e.2 = true := by
  rcases h.1 with ⟨a, b, rfl, _, h, _⟩ | ⟨b, rfl, _⟩ | ⟨a, rfl, _⟩
  · exact decide_eq_true h
  · rfl
  · rfl
def spDEnds9 : Sp := fun vs H Q _ => ∃ b, vs = [.ref b] ∧ Bag H b ∧ ∀ p e H', Sml9 e → Step b H H' → H' p = some (.tup [eV e.1, eV e.2]) → Q (.ref p) H'
theorem use_dends9 {b : Addr} {H : Hp} {Q : VK} {E : XK} (hb : Bag H b) (k : ∀ p e H', Sml9 e → Step b H H' → H' p = some (.tup [eV e.1, eV e.2]) → Q (.ref p) H') : spDEnds9 ([.ref b] ++ []) H Q E := ⟨b, rfl, hb, k⟩
theorem ok_l_drawn_ends (T : Gk w K mg g) : FnOk P w K mg base CX0 2 g.f_l_drawn_ends g.d_l_drawn_ends ["_law_bag_here"] spDEnds9 := by
  refine T.F_l_drawn_ends.ok sc_l_drawn_ends (fun vs H Q E h => ?_) (fun cdv A outer s H vs Q E hr h => ?_)
  · obtain ⟨b, rfl, _⟩ := h; rfl
  · obtain ⟨b, rfl, hb, k⟩ := h
    have O_l_take := ok_l_take (P := P) (w := w) (base := base) T
    have hr_1 : Room 1 _ := hr.mono (by decide)
    refine ⟨_, (pss_cons (ps_set (i := 1) sc_l_drawn_ends.nd rfl (Or.inl rfl) (pe_op op_sub (pe_call O_l_take hr_1 rfl T.m_l_take T.F_l_take.kp T.b_l_take .nil pass0 (pa_cons (pv 0) (pa_cons pe_int pa_nil))) pe_int))
      (pss_cons (ps_set (i := 2) sc_l_drawn_ends.nd rfl (Or.inl rfl) (pe_tup (pa_cons (pv 1) (pa_cons (pe_op op_add (pv 1) (pe_call O_l_take hr_1 rfl T.m_l_take T.F_l_take.kp T.b_l_take .nil pass0 (pa_cons (pv 0) (pa_cons pe_int pa_nil)))) pa_nil))))
      (pss_one (ps_ret (pe_ix (k_ixL K) (pe_lst (pa_cons (pv 2) (pa_cons (pv 2) (pa_cons (pv 2) (pa_cons (pe_tup (pa_cons pe_non (pa_cons (pe_ix (k_ixT K) (pv 2) pe_int (fun _ _ => rfl)) pa_nil))) (pa_cons (pe_tup (pa_cons (pv 1) (pa_cons pe_non pa_nil))) pa_nil)))))) (pe_call O_l_take hr_1 rfl T.m_l_take T.F_l_take.kp T.b_l_take .nil pass0 (pa_cons (pv 0) (pa_cons pe_int pa_nil))) (fun _ _ => rfl)))))), ?_⟩
    walk_at "go"
    refine use_take hb (by decide) (by decide) fun d1 H1 d10 d11 s1 => ?_
    walk_at "go"
    refine use_take s1.1 (by decide) (by decide) fun d2 H2 d20 d21 s2 => ?_
    walk_at "go"
    refine k_tup (by show 2 ≤ sizeLine; decide) fun t H3 nt s3 ht => ?_
    have st3 := (s1.trans s2).more s3
    walk_at "go"
    refine w_ixT (SqT.at ht) rfl ?_
    walk_at "go"
    refine k_tup (by show 2 ≤ sizeLine; decide) fun t2 H4 nt2 s4 ht2 => ?_
    walk_at "go"
    refine k_tup (by show 2 ≤ sizeLine; decide) fun t3 H5 nt3 s5 ht3 => ?_
    walk_at "go"
    refine k_lst (by show 5 ≤ sizeLine; decide) fun l H6 nl s6 hl => ?_
    have st6 := st3.more ((s4.trans s5).trans s6)
    have nb := bag_new (st3.1.mono (s4.trans s5)) nl
    walk_at "go"
    refine use_take st6.1 (by decide) (by decide) fun d3 H7 d30 d31 s7 => ?_
    have ht := s7.tup st6.1 (((s4.trans s5).trans s6) _ _ ht)
    have ht2 := s7.tup st6.1 ((s5.trans s6) _ _ ht2)
    have ht3 := s7.tup st6.1 (s6 _ _ ht3)
    have hl := s7.at hl nb
    have st7 := st6.trans s7
    have sm : Sml9 (some (d1 - 4), some (d1 - 4 + d2)) := ⟨.inl ⟨_, _, rfl, by omega, by omega, by omega⟩, fun a b e => by cases e; omega⟩
    have hd : d3 = 0 ∨ d3 = 1 ∨ d3 = 2 ∨ d3 = 3 ∨ d3 = 4 := by omega
    rcases hd with rfl | rfl | rfl | rfl | rfl
    · exact w_ixL (SqL.at hl) rfl (k t (some (d1 - 4), some (d1 - 4 + d2)) H7 sm st7 ht)
    · exact w_ixL (SqL.at hl) rfl (k t (some (d1 - 4), some (d1 - 4 + d2)) H7 sm st7 ht)
    · exact w_ixL (SqL.at hl) rfl (k t (some (d1 - 4), some (d1 - 4 + d2)) H7 sm st7 ht)
    · exact w_ixL (SqL.at hl) rfl (k t2 (none, some (d1 - 4 + d2)) H7 ⟨.inr (.inl ⟨_, rfl, by omega, by omega⟩), fun a b e => by cases e⟩ st7 ht2)
    · exact w_ixL (SqL.at hl) rfl (k t3 (some (d1 - 4), none) H7 ⟨.inr (.inr ⟨_, rfl, by omega, by omega⟩), fun a b e => by cases e⟩ st7 ht3)
/-! ### all rows of numbers -/
abbrev RowAt (H : Hp) (p : Addr) (r : Row) : Prop := H p = some (.dK (numKv r))
theorem rows_imp {H H' : Hp} (k : ∀ p r, RowAt H p r → RowAt H' p r) : ∀ {ps : List Addr} {rs : List Row}, Paired (RowAt H) ps rs → Paired (RowAt H') ps rs
  | _, _, .nil => .nil
  | _, _, .cons h r => .cons (k _ _ h) (rows_imp k r)
theorem not_take {xs : List Str} {i : Nat} {x : Str} (nd : xs.Nodup) (h : xs[i]? = some x) : x ∉ xs.take i := by
  have e := take_snoc h
  have n := (List.take_sublist (i + 1) xs).nodup nd
  rw [e, List.nodup_append] at n
  intro m
  exact n.2.2 x m x (by simp) rfl
def spAll (K : PySem.W.Frag) : Sp := fun vs H Q _ => ∃ (l d : Addr) (xs : List Str) (f : EF), vs = [.ref l, .ref d] ∧ SqL K H l (xs.map V.str) ∧ PlacesAt H d f xs ∧ (∀ x ∈ xs, Sml9 (f x)) ∧ xs.Nodup ∧ xs.length ≤ 4 ∧
  ∀ L ps H', Same H H' → H' L = some (.lst (ps.map V.ref)) → Paired (RowAt H') ps (rowsOf (fun x => valsE (f x)) xs) → Q (.ref L) H'
theorem use_all {l d : Addr} {xs : List Str} {f : EF} {H : Hp} {Q : VK} {E : XK} (h1 : SqL K H l (xs.map V.str)) (h2 : PlacesAt H d f xs) (h3 : ∀ x ∈ xs, Sml9 (f x)) (h4 : xs.Nodup) (h5 : xs.length ≤ 4)
    (k : ∀ L ps H', Same H H' → H' L = some (.lst (ps.map V.ref)) → Paired (RowAt H') ps (rowsOf (fun x => valsE (f x)) xs) → Q (.ref L) H') : spAll K ([.ref l, .ref d] ++ []) H Q E := ⟨l, d, xs, f, rfl, h1, h2, h3, h4, h5, k⟩
theorem ok_l_all (T : Gk w K mg g) : FnOk P w K mg base CX0 1 g.f_l_all g.d_l_all ["_law_names_here", "_law_places"] (spAll K) := by
  refine T.F_l_all.ok sc_l_all (fun vs H Q E h => ?_) (fun cdv A outer s H vs Q E hr h => ?_)
  · obtain ⟨l, d, xs, f, rfl, _⟩ := h; rfl
  · obtain ⟨l, d, xs, f, rfl, hl, hp, hf, nd, h4, k⟩ := h
    have hu := hu_of hr
    refine ⟨_, (pss_cons (ps_set (i := 2) sc_l_all.nd rfl (Or.inl rfl) (pe_lst (pa_cons pe_dnewK pa_nil)))
      (pss_cons (ps_for PassesOwn.never rfl (pi_listK K (pv 0)) (pg_name (i := 3) sc_l_all.nd rfl (Or.inl rfl)) (pss_cons (ps_asg (pe_dget hu (pv 1) (pv 3) (fun _ _ => rfl)) (pg_tup rfl (pgs_cons (pg_name (i := 4) sc_l_all.nd rfl (Or.inl rfl)) (pgs_cons (pg_name (i := 5) sc_l_all.nd rfl (Or.inl rfl)) pgs_nil))))
      (pss_mid (ps_set (i := 6) sc_l_all.nd rfl (Or.inl rfl) (pe_ifExp (pt_cmpR k_isN (pv 4) pe_non (nomark _)) (pe_lst (pa_cons (pe_un un_neg pe_int) (pa_cons (pv 5) pa_nil))) (pe_lst (pa_cons (pv 4) (pa_cons pe_int pa_nil)))))
      (pss_mid (ps_if (PW.pt (pw_and (pt_cmpR k_notN (pv 4) pe_non (nomark _)) (pw_and1 (pt_cmpR k_notN (pv 5) pe_non (nomark _))))) (pss_one (ps_set (i := 6) sc_l_all.nd rfl (Or.inl rfl) (pe_listRg rfl (by rfl) T.z_list (prg_2 (by rfl) T.z_range (pv 4) (pe_op op_add (pv 5) pe_int))))) pss_nil)
      (pss_cons (ps_set (i := 7) sc_l_all.nd rfl (Or.inl rfl) (pe_lst pa_nil))
      (pss_cons (ps_for PassesOwn.never rfl (pi_listK K (pv 2)) (pg_name (i := 8) sc_l_all.nd rfl (Or.inl rfl)) (pss_one (ps_for PassesOwn.never rfl (pi_listK K (pv 6)) (pg_name (i := 9) sc_l_all.nd rfl (Or.inl rfl)) (pss_cons (ps_set (i := 10) sc_l_all.nd rfl (Or.inl rfl) (pe_callTy call_dictD (by rfl) T.z_dict (by decide +kernel) (pa_cons (pv 8) pa_nil)))
      (pss_cons (ps_dput hu (pv 10) (pv 3) (pv 9) rfl)
      (pss_one (ps_expr (pe_bmK K PySem.F.plainAttrs_list PySem.F.slot_list_append PySem.F.type_list_append mt_append (pv 7) (pa_cons (pv 10) pa_nil)))))))))
      (pss_one (ps_set (i := 2) sc_l_all.nd rfl (Or.inl rfl) (pv 7)))))))))
      (pss_one (ps_ret (pv 2))))), ?_⟩
    walk_at "go"
    intro e0 n0
    have s0 : Same H (upd H e0 (.dK [])) := same_new n0
    have he0 : upd H e0 (.dK []) e0 = some (.dK []) := upd_same
    generalize upd H e0 (.dK []) = H0 at *
    walk_at "go"
    refine k_lst (by show 1 ≤ sizeLine; decide) fun F0 H1 nF0 s1 hF0 => ?_
    walk_at "go"
    have hrow0 : H1 e0 = some (.dK []) := s1 _ _ he0
    have s1 := s0.trans s1
    refine ⟨l, rfl, ⟨_, s1.seq hl⟩, ?_⟩
    refine k_forL (xs := xs.map V.str) (fun i σ H' => ∃ (F : Addr) (ps : List Addr), (∃ v3 v4 v5 v6 v7 v8 v9 v10 : Option V, σ = [some (.ref l), some (.ref d), some (.ref F), v3, v4, v5, v6, v7, v8, v9, v10]) ∧ Same H H' ∧ H' F = some (.lst (ps.map V.ref)) ∧
      Paired (RowAt H') ps (rowsOf (fun x => valsE (f x)) (xs.take i))) ⟨F0, [e0], ⟨_, _, _, _, _, _, _, _, rfl⟩, s1, hF0, .cons hrow0 .nil⟩ (fun i σ H' p => by obtain ⟨F, ps, _, s', _⟩ := p; exact s'.seq hl) ?_ ?_
    · rintro i y σ H2 hi ⟨F, ps, ⟨v3, v4, v5, v6, v7, v8, v9, v10, rfl⟩, s2, hF, hps⟩
      obtain ⟨x, hx, rfl⟩ : ∃ x, xs[i]? = some x ∧ y = V.str x := by
        rw [List.getElem?_map] at hi
        cases e : xs[i]? with
        | none => rw [e] at hi; cases hi
        | some q => rw [e] at hi; cases hi; exact ⟨q, rfl, rfl⟩
      have mx := List.mem_of_getElem? hx
      have hi4 : i < 4 := by have := (List.getElem?_eq_some_iff.mp hx).1; omega
      have sm := hf x mx
      obtain ⟨kvs, hd, hk⟩ := hp.same s2
      obtain ⟨pp, ep, hpp⟩ := hk x mx
      walk_at "go"
      refine k_dget hd ep ?_
      refine w_gtup (K := K) (SqT.at hpp) rfl ?_
      walk_at "go"
      refine w_mid (fun σ H' => ∃ s1 : Addr, σ = [some (.ref l), some (.ref d), some (.ref F), some (.str x), some (eV (f x).1), some (eV (f x).2), some (.ref s1), v7, v8, v9, v10] ∧ Same H2 H' ∧ H' s1 = some (.lst (if (f x).1 = none then [.int (-1000), eV (f x).2] else [eV (f x).1, .int 1000]))) ?_ ?_
      · walk_at "go"
        cases e : (f x).1 with
        | none =>
          refine iteT ?_
          walk_at "go"
          refine k_lst (by show 2 ≤ sizeLine; decide) fun z H3 nz s3 hz => ?_
          walk_at "go"
          exact ⟨z, rfl, s3, hz⟩
        | some a =>
          refine iteF ?_
          walk_at "go"
          refine k_lst (by show 2 ≤ sizeLine; decide) fun z H3 nz s3 hz => ?_
          walk_at "go"
          exact ⟨z, rfl, s3, hz⟩
      rintro σ H3 ⟨z1, rfl, s3, hz1⟩
      refine w_mid (fun σ H' => ∃ s1 : Addr, σ = [some (.ref l), some (.ref d), some (.ref F), some (.str x), some (eV (f x).1), some (eV (f x).2), some (.ref s1), v7, v8, v9, v10] ∧ Same H2 H' ∧ H' s1 = some (.lst ((valsE (f x)).map V.int))) ?_ ?_
      · walk_at "go"
        rcases sm.1 with ⟨a, b, e, h1, h2, h3⟩ | ⟨b, e, h1, h2⟩ | ⟨a, e, h1, h2⟩
        · rw [e]
          refine iteT ?_
          walk_at "go"
          refine iteT ?_
          walk_at "go"
          refine w_I0 (a := b) (b := 1) ?_
          refine ⟨a, b + 1, rfl, rfl, ⟨by omega, by omega, by omega, by omega, by omega⟩, fun q nq => ?_⟩
          walk_at "go"
          exact ⟨q, rfl, s3.trans (same_new nq), upd_same⟩
        · rw [e]
          refine iteF (iteF ?_)
          walk_at "go"
          rw [e] at hz1
          exact ⟨z1, rfl, s3, hz1⟩
        · rw [e]
          refine iteT ?_
          walk_at "go"
          refine iteF ?_
          walk_at "go"
          rw [e] at hz1
          exact ⟨z1, rfl, s3, hz1⟩
      rintro σ H4 ⟨z, rfl, s4, hz⟩
      walk_at "go"
      refine k_lst (by show 0 ≤ sizeLine; decide) fun G H5 nG s5 hG => ?_
      walk_at "go"
      have hF4 := s4 _ _ hF
      have hps4 := rows_imp (H' := H4) (fun p r h => s4 _ _ h) hps
      have hpl := paired_len hps
      have hvl : (valsE (f x)).length ≤ 4 := (vals_ok sm.1 sm.2).2.2.2
      have hrl : (rowsOf (fun x => valsE (f x)) (xs.take i)).length ≤ 64 := by
        have h := rows_len (vf := fun x => valsE (f x)) (xs.take i).length (xs := xs.take i) rfl fun y my => (vals_ok (hf y (List.mem_of_mem_take my)).1 (hf y (List.mem_of_mem_take my)).2).2.2.2
        have hl3 : (xs.take i).length ≤ 3 := by rw [List.length_take]; omega
        exact Nat.le_trans h (Nat.le_trans (Nat.pow_le_pow_right (by decide) hl3) (by decide))
      have hrx : ∀ r ∈ rowsOf (fun x => valsE (f x)) (xs.take i), r.map (·.1) = xs.take i := fun r mr => ((rows_mem _ _ _ rfl r).mp mr).1
      generalize erows : rowsOf (fun x => valsE (f x)) (xs.take i) = rows at *
      refine ⟨F, rfl, ⟨_, SqL.at (s5 _ _ hF4)⟩, ?_⟩
      refine k_forL (xs := ps.map V.ref) (fun j σ H' => ∃ qs : List Addr, (∃ v8 v9 v10 : Option V, σ = [some (.ref l), some (.ref d), some (.ref F), some (.str x), some (eV (f x).1), some (eV (f x).2), some (.ref z), some (.ref G), v8, v9, v10]) ∧ Same H4 H' ∧ H' G = some (.lst (qs.map V.ref)) ∧
        Paired (RowAt H') qs ((rows.take j).flatMap fun r => (valsE (f x)).map fun v => r ++ [(x, v)])) ⟨[], ⟨_, _, _, rfl⟩, s5, hG, .nil⟩ (fun i σ H' p => by obtain ⟨qs, _, s', _⟩ := p; exact SqL.at (s' _ _ hF4)) ?_ ?_
      · rintro j y σ H6 hj ⟨qs, ⟨w8, w9, w10, rfl⟩, s6, hG6, hq6⟩
        obtain ⟨p, hp, rfl⟩ : ∃ p, ps[j]? = some p ∧ y = V.ref p := by
          rw [List.getElem?_map] at hj
          cases e : ps[j]? with
          | none => rw [e] at hj; cases hj
          | some q => rw [e] at hj; cases hj; exact ⟨q, rfl, rfl⟩
        obtain ⟨r, hr', hpr⟩ := paired_get hps4 hp
        have mr := List.mem_of_getElem? hr'
        have hj64 : j < 64 := by have := (List.getElem?_eq_some_iff.mp hr').1; omega
        walk_at "go"
        refine ⟨z, rfl, ⟨_, SqL.at (s6 _ _ hz)⟩, ?_⟩
        refine k_forL (xs := (valsE (f x)).map V.int) (fun m σ H' => ∃ qs : List Addr, (∃ v9 v10 : Option V, σ = [some (.ref l), some (.ref d), some (.ref F), some (.str x), some (eV (f x).1), some (eV (f x).2), some (.ref z), some (.ref G), some (.ref p), v9, v10]) ∧ Same H4 H' ∧ H' G = some (.lst (qs.map V.ref)) ∧
          Paired (RowAt H') qs (((rows.take j).flatMap fun r => (valsE (f x)).map fun v => r ++ [(x, v)]) ++ ((valsE (f x)).take m).map fun v => r ++ [(x, v)])) ⟨qs, ⟨_, _, rfl⟩, s6, hG6, by rw [List.take_zero, List.map_nil, List.append_nil]; exact hq6⟩ (fun i σ H' p => by obtain ⟨qs, _, s', _⟩ := p; exact SqL.at (s' _ _ hz)) ?_ ?_
        · rintro m y σ H7 hm ⟨qs, ⟨u9, u10, rfl⟩, s7, hG7, hq7⟩
          obtain ⟨v, hv, rfl⟩ : ∃ v, (valsE (f x))[m]? = some v ∧ y = V.int v := by
            rw [List.getElem?_map] at hm
            cases e : (valsE (f x))[m]? with
            | none => rw [e] at hm; cases hm
            | some q => rw [e] at hm; cases hm; exact ⟨q, rfl, rfl⟩
          walk_at "go"
          refine ⟨p, _, rfl, .inl (s7 _ _ hpr), fun q nq => ?_⟩
          walk_at "go"
          have hxr : x ∉ r.map (·.1) := by rw [hrx r mr]; exact not_take nd hx
          refine k_dput upd_same (by
            have e := congrArg List.length (hrx r mr)
            rw [List.length_map, List.length_take] at e
            unfold numKv
            rw [List.length_map]; omega) ?_
          rw [put_new_num hxr]
          have nGq : G ≠ q := fun e => by rw [e, nq] at hG7; cases hG7
          have hqG : q ≠ G := fun e => nGq e.symm
          have hql : qs.length < 1000 := by
            rw [paired_len hq7, List.length_append, List.length_map]
            have b := flat_len (xs := rows.take j) (F := fun r => (valsE (f x)).map fun v => r ++ [(x, v)]) fun r _ => by rw [List.length_map]; exact hvl
            have c : (rows.take j).length ≤ j := List.length_take_le _ _
            have e : ((valsE (f x)).take m).length ≤ 4 := Nat.le_trans (List.length_take_le' _ _) hvl
            omega
          walk_at "go"
          have hG8 : upd (upd H7 q (.dK (numKv r))) q (.dK (numKv (r ++ [(x, v)]))) G = some (.lst (qs.map V.ref)) := by rw [upd_ne nGq, upd_ne nGq]; exact hG7
          refine k_bmL (SqL.at hG8) ?_
          walk_at "go"
          refine w_append hG8 (by rw [List.length_map]; exact hql) ?_
          walk_at "go"
          refine ⟨qs ++ [q], ⟨_, _, rfl⟩, ?_, ?_, ?_⟩
          · intro b o hb
            have hb7 := s7 _ _ hb
            rw [upd_ne (ne_of_none hb nG), upd_ne (ne_of_none hb7 nq), upd_ne (ne_of_none hb7 nq)]
            exact hb7
          · rw [upd_same, List.map_append]; rfl
          · rw [take_snoc hv, List.map_append, ← List.append_assoc]
            refine paired_app (rows_imp (fun b o hb => ?_) hq7) (.cons ?_ .nil)
            · have hb : H7 b = some (.dK (numKv o)) := hb
              show upd _ _ _ b = _
              rw [upd_ne (fun e => by rw [e, hG7] at hb; cases hb), upd_ne (ne_of_none hb nq), upd_ne (ne_of_none hb nq)]
              exact hb
            · show upd _ _ _ q = _
              rw [upd_ne hqG, upd_same]
        · rintro σ H7 ⟨qs, ⟨u9, u10, rfl⟩, s7, hG7, hq7⟩
          rw [List.length_map, List.take_length] at hq7
          refine ⟨qs, ⟨_, _, _, rfl⟩, s7, hG7, ?_⟩
          rw [take_snoc hr', List.flatMap_append, List.flatMap_cons, List.flatMap_nil, List.append_nil]
          exact hq7
      · rintro σ H6 ⟨qs, ⟨w8, w9, w10, rfl⟩, s6, hG6, hq6⟩
        rw [List.length_map, hpl, List.take_length] at hq6
        walk_at "go"
        refine ⟨G, qs, ⟨_, _, _, _, _, _, _, _, rfl⟩, (s2.trans s4).trans s6, hG6, ?_⟩
        rw [take_snoc hx, rows_snoc, erows]
        exact hq6
    · rintro σ H2 ⟨F, ps, ⟨v3, v4, v5, v6, v7, v8, v9, v10, rfl⟩, s2, hF, hps⟩
      rw [List.length_map, List.take_length] at hps
      walk_at "go"
      exact k F ps H2 s2 hF hps
/-! ### whether the told ends are those of all worths -/
theorem bool_repr {H : Hp} {Q : VK} {c : Bool} (k : Q (.str (PyData.bool c).shown) H) : rRepr K [.bl c] H Q :=
  w_repr (.bl c) rfl rfl (by show 0 ≤ 40; decide) (by show 5 ≤ 10000000; decide) k
theorem non_repr {H : Hp} {Q : VK} (k : Q (.str (PyData.none).shown) H) : rRepr K [.non] H Q :=
  w_repr .non rfl rfl (by show 0 ≤ 40; decide) (Nat.le_of_ble_eq_true rfl) k
/-- the worths as values -/
def wvals : Wt → List Int → List V
  | .over _ l, W => (W.map fun x => decide (l ≤ x)).map V.bl
  | _, W => W.map V.int
/-- the worths have these ends -/
structure WF (f : EF) (w : Wt) (W : List Int) (L U : Int) : Prop where
  e : ends (finE (loC f) (hiC f)) w = (some L, some U)
  lo : L ∈ W
  hi : U ∈ W
  all : ∀ x ∈ W, L ≤ x ∧ x ≤ U
  len : W.length ≤ 4000
theorem WF.max {f : EF} {w : Wt} {W : List Int} {L U m : Int} (h : WF f w W L U) (e : maxO W = some m) : m = U := by
  have a := maxO_in e
  have b := a.2 U h.hi
  have c := (h.all m a.1).2
  omega
theorem WF.min {f : EF} {w : Wt} {W : List Int} {L U m : Int} (h : WF f w W L U) (e : minO W = some m) : m = L := by
  have a := minO_in e
  have b := a.2 L h.lo
  have c := (h.all m a.1).1
  omega
theorem WF.pos {f : EF} {w : Wt} {W : List Int} {L U : Int} (h : WF f w W L U) : 0 < W.length := List.length_pos_of_mem h.lo
def spFar (C : Addr) : Sp := fun vs H Q _ => ∃ (t d p l : Addr) (xs : List Str) (f : EF) (w : Wt) (W : List Int) (L U : Int), vs = [.ref t, .ref d, .ref p, .ref l] ∧ H t = some (.tup (xs.map V.str)) ∧ xs.Nodup ∧ xs.length ≤ 4 ∧ PlacesAt H d f xs ∧ (∀ x ∈ xs, Sml9 (f x)) ∧
  WatchAt H p w ∧ WOk xs w ∧ W9 f w ∧ WF f w W L U ∧ H l = some (.lst (wvals w W)) ∧ ∀ H', Same H H' → Q (.bl true) H'
theorem use_far {C t d p l : Addr} {xs : List Str} {f : EF} {w : Wt} {W : List Int} {L U : Int} {H : Hp} {Q : VK} {E : XK} (h1 : H t = some (.tup (xs.map V.str))) (h2 : xs.Nodup) (h3 : xs.length ≤ 4) (h4 : PlacesAt H d f xs) (h5 : ∀ x ∈ xs, Sml9 (f x))
    (h6 : WatchAt H p w) (h7 : WOk xs w) (h8 : W9 f w) (h9 : WF f w W L U) (h10 : H l = some (.lst (wvals w W))) (k : ∀ H', Same H H' → Q (.bl true) H') : spFar C ([.ref t, .ref d, .ref p, .ref l] ++ []) H Q E :=
  ⟨t, d, p, l, xs, f, w, W, L, U, rfl, h1, h2, h3, h4, h5, h6, h7, h8, h9, h10, k⟩
theorem ok_l_far_end (T : Gk w K mg g) : FnG P w K mg base CX0 5 g.f_l_far_end g.d_l_far_end ["_law_names_here", "_law_places", "_law_watch_here", "_law_worths"] (spFar g.c_Band) := by
  refine funG_ok T.F_l_far_end sc_l_far_end (fun vs H Q E h => ?_) (fun cdv A outer s H vs Q E hr hc h => ?_)
  · obtain ⟨t, d, p, l, xs, f, w, W, L, U, rfl, _⟩ := h; rfl
  · obtain ⟨t, d, p, l, xs, f, wt, W, L, U, rfl, ht, nd, h4, hp, hf, hw, okw, h9, hW, hl, k⟩ := h
    have O_Band_init := ok_Band_init (P := P) (w := w) (base := base) T
    have O_told_of := ok_told_of (P := P) (w := w) (base := base) T
    have hr_4 : Room 4 _ := hr.mono (by decide)
    have hu := hu_of hr
    refine ⟨_, (pss_cons (ps_set (i := 4) sc_l_far_end.nd rfl (Or.inl rfl) (pe_callTy (k_dictP K) (by rfl) T.z_dict (by decide +kernel) (pa_cons (pe_lc (own := [("_law_name", 9)]) (g := (gName 9)) rfl sc_l_far_end.nd (pi_tupK K (pv 0)) (blkOk_by (N := ["_law_names_here", "_law_places", "_law_watch_here", "_law_worths", "_law_bands", "_law_told", "_law_least", "_law_most", "_law_due", "_law_name"]) (sc := defScope s_l_far_end) (by decide +kernel)) (fun _ _ _ _ _ => pg_name (i := 9) sc_l_far_end.nd rfl (Or.inl rfl)) (fun _ _ _ _ _ => pts_nil) (fun _ _ _ _ _ => (pe_tup (pa_cons (pv 9) (pa_cons (pe_make T.k_Band O_Band_init hr_4 rfl T.m_Band T.b_Band_init .nil pass0 (pa_cons (pe_ix (k_ixT K) (pe_dget hu (pv 1) (pv 9) (fun _ _ => rfl)) pe_int (fun _ _ => rfl)) (pa_cons (pe_ix (k_ixT K) (pe_dget hu (pv 1) (pv 9) (fun _ _ => rfl)) pe_int (fun _ _ => rfl)) pa_nil))) pa_nil))))) pa_nil)))
      (pss_cons (ps_set (i := 5) sc_l_far_end.nd rfl (Or.inl rfl) (pe_call O_told_of hr_4 rfl T.m_told_of T.F_told_of.kp T.b_told_of .nil pass0 (pa_cons (pv 2) (pa_cons (pv 4) pa_nil))))
      (pss_cons (ps_if (pt_cmpR op_eq (pe_ix (k_ixT K) (pv 2) pe_int (fun _ _ => rfl)) pe_str (nomark _)) (pss_cons (ps_set (i := 8) sc_l_far_end.nd rfl (Or.inl rfl) (pe_ifExp (pt_cmpR op_eq (pe_lenSetK K (by rfl) T.z_len (by rfl) T.z_set (pv 3)) pe_int (nomark _)) pe_non (pe_ix (k_ixL K) (pv 3) pe_int (fun _ _ => rfl))))
      (pss_one (ps_ret (pe_cmpR op_eq (pe_callB (k_repr K hr hc) (by rfl) T.z_repr (by decide +kernel) (pa_cons (pv 5) pa_nil)) (pe_callB (k_repr K hr hc) (by rfl) T.z_repr (by decide +kernel) (pa_cons (pv 8) pa_nil)) (nomark _))))) pss_nil)
      (pss_cons (ps_par (i := 6) (j := 7) (by rfl) sc_l_far_end.nd rfl rfl (by decide) rfl rfl (pa_cons (pe_callB (k_min K) (by rfl) T.z_min (by decide +kernel) (pa_cons (pv 3) pa_nil)) (pa_cons (pe_callB (k_max K) (by rfl) T.z_max (by decide +kernel) (pa_cons (pv 3) pa_nil)) pa_nil)) (by rfl))
      (pss_mid (ps_if (PW.pt (pw_and (pt_cmpR k_notN (pe_ix (k_ixT K) (pv 5) pe_int (fun _ _ => rfl)) pe_non (nomark _)) (pw_and1 (pt_cmpR op_ne (pe_ix (k_ixT K) (pv 5) pe_int (fun _ _ => rfl)) (pv 6) (nomark _))))) (pss_one (ps_ret pe_bl)) pss_nil)
      (pss_mid (ps_if (PW.pt (pw_and (pt_cmpR k_notN (pe_ix (k_ixT K) (pv 5) pe_int (fun _ _ => rfl)) pe_non (nomark _)) (pw_and1 (pt_cmpR op_ne (pe_ix (k_ixT K) (pv 5) pe_int (fun _ _ => rfl)) (pv 7) (nomark _))))) (pss_one (ps_ret pe_bl)) pss_nil)
      (pss_cons (ps_if (pt_cmpR op_eq (pe_ix (k_ixT K) (pv 2) pe_int (fun _ _ => rfl)) pe_str (nomark _)) (pss_one (ps_ret (pe_cmpR (k_notIn K) pe_non (pv 5) (by rfl)))) pss_nil)
      (pss_one (ps_ret (pe_and (pe_cmpR op_eq (pe_cmpR k_isN (pe_ix (k_ixT K) (pv 5) pe_int (fun _ _ => rfl)) pe_non (nomark _)) (pe_cmpR op_lt (pv 6) (pe_un un_neg pe_int) (nomark _)) (nomark _)) (pe_one (pe_cmpR op_eq (pe_cmpR k_isN (pe_ix (k_ixT K) (pv 5) pe_int (fun _ _ => rfl)) pe_non (nomark _)) (pe_cmpR op_gt (pv 7) pe_int (nomark _)) (nomark _))))))))))))), ?_⟩
    walk_at "go"
    refine ⟨t, rfl, ⟨_, SqT.at ht⟩, ?_⟩
    refine s_lcT (El := PairElG xs (BandV g.c_Band f)) (bandV_okS xs _ _) (by rw [List.length_map]; omega) (SqT.at ht) (fun i x G hi st => ?_) fun D acc H1 nD hD s1 hacc => ?_
    · obtain ⟨rfl, mi⟩ := getD_map hi
      obtain ⟨kvs, hd, hk⟩ := hp.same st
      obtain ⟨q, eq, hq⟩ := hk _ mi
      refine turnS_name (fun _ => rfl) fun R Ny kR => ?_
      walk_at "go"
      refine iteT ?_
      walk_at "go"
      refine k_dget hd eq ?_
      walk_at "go"
      refine w_ixT (SqT.at hq) rfl ?_
      walk_at "go"
      refine k_dget hd eq ?_
      walk_at "go"
      refine w_ixT (SqT.at hq) rfl ?_
      walk_at "go"
      refine use_band (hf _ mi).most fun q3 G2 nq sq hq => ?_
      walk_at "go"
      refine k_tup (by show 2 ≤ sizeLine; decide) fun q4 G3 nq3 sq3 hq3 => ?_
      exact kR _ _ (sq.trans sq3) ⟨q4, _, rfl, hq3, q3, rfl, hq.mono sq3⟩
    obtain ⟨ps, ns, rfl, pp, ens, hns⟩ := acc_pairsG (B := fun x v => BandV g.c_Band f x v H1) (by rw [hacc.1, List.length_map]) hacc.2
    walk_at "go"
    refine ⟨D, ps, genKv ns, rfl, SqL.at hD, paired_sqG pp, fun d2 nd2 => ?_⟩
    rw [merge_gen (by rw [ens]; exact nd)]
    have s2 : Same H1 (upd H1 d2 (.dK (genKv ns))) := same_new nd2
    have hd2 : upd H1 d2 (.dK (genKv ns)) d2 = some (.dK (genKv ns)) := upd_same
    generalize upd H1 d2 (.dK (genKv ns)) = H2 at *
    have hbx : BandsAt g.c_Band H2 d2 f xs := by
      have h := bands_of (C := g.c_Band) (f := f) hd2 (fun e me => by obtain ⟨q, e1, e2⟩ := hns e me; exact ⟨q, e1, e2.mono s2⟩)
      rw [ens] at h; exact h
    have s2 := s1.trans s2
    have ok' : WOk wt.names wt := ⟨fun _ m => m, okw.ne, okw.few, okw.wt⟩
    walk_at "go"
    refine use_told (hw.keep (.same s2)) ok' (hbx.sub okw.sub) fun v H3 s3 tv => ?_
    have s3 := s2.trans s3
    have hw := hw.keep (.same s3)
    have hl := s3 _ _ hl
    have k : ∀ H', Same H3 H' → Q (.bl true) H' := fun H' s' => k H' (s3.trans s')
    walk_at "go"
    obtain ⟨L', U', eLU, k1, k2⟩ := told9 h9
    rw [hW.e] at eLU
    injection eLU with eL eU
    injection eL with eL
    injection eU with eU
    subst eL eU
    cases wt with
    | over ws lim =>
      obtain ⟨tt, hpt, _⟩ := hw
      refine w_ixT (SqT.at hpt) rfl ?_
      walk_at "go"
      refine w_eqY ?_
      walk_at "go"
      refine iteT ?_
      walk_at "go"
      have et := tri9 h9 hW.e
      rw [et] at tv
      have hdist := dist_over (l := lim) hW.lo hW.hi hW.all
      refine ⟨l, rfl, .inr ⟨_, SqL.at hl, by rw [List.length_map]; exact hW.len, ?_⟩⟩
      walk_at "go"
      refine w_eq rfl ?_
      show ∃ c, V.bl (decide (V.int ((nDist false (W.map fun x => decide (lim ≤ x)) : Nat) : Int) = V.int 2)) = V.bl c ∧ _
      generalize nDist false (W.map fun x => decide (lim ≤ x)) = nn at *
      refine ⟨_, rfl, ?_⟩
      have h0 : ∀ b : Bool, (∀ x ∈ W, decide (lim ≤ x) = b) → atI ((W.map fun x => decide (lim ≤ x)).map V.bl) 0 = some (.bl b) := fun b hb => by
        have hp := hW.pos
        unfold atI ixN
        rw [if_pos (Int.le_refl 0), List.length_map, List.length_map, if_pos (by omega)]
        show ((W.map fun x => decide (lim ≤ x)).map V.bl)[0]? = _
        rw [List.map_map, List.getElem?_map, List.getElem?_eq_getElem hp]
        show some (V.bl (decide (lim ≤ W[0]))) = _
        rw [hb _ (List.getElem_mem _)]
      by_cases c1 : lim ≤ L
      · rw [if_pos c1] at tv
        cases (show v = V.bl true from tv)
        have n2 : ¬ V.int ((nn : Nat) : Int) = V.int 2 := fun e => by
          injection e with e
          exact hdist.2.mp (by omega) (.inl c1)
        rw [decide_eq_false n2]
        refine iteF ?_
        walk_at "go"
        refine w_ixL (SqL.at hl) (h0 true fun x m => decide_eq_true (Int.le_trans c1 (hW.all x m).1)) ?_
        walk_at "go"
        refine bool_repr ?_
        walk_at "go"
        refine bool_repr ?_
        refine w_eq rfl ?_
        rw [decide_eq_true rfl]
        exact k _ (Same.refl _)
      · rw [if_neg c1] at tv
        by_cases c2 : U < lim
        · rw [if_pos c2] at tv
          cases (show v = V.bl false from tv)
          have n2 : ¬ V.int ((nn : Nat) : Int) = V.int 2 := fun e => by
            injection e with e
            exact hdist.2.mp (by omega) (.inr c2)
          rw [decide_eq_false n2]
          refine iteF ?_
          walk_at "go"
          refine w_ixL (SqL.at hl) (h0 false fun x m => decide_eq_false (by have := (hW.all x m).2; omega)) ?_
          walk_at "go"
          refine bool_repr ?_
          walk_at "go"
          refine bool_repr ?_
          refine w_eq rfl ?_
          rw [decide_eq_true rfl]
          exact k _ (Same.refl _)
        · rw [if_neg c2] at tv
          cases (show v = V.non from tv)
          have n2 : V.int ((nn : Nat) : Int) = V.int 2 := by
            rw [hdist.2.mpr (by omega)]; rfl
          rw [decide_eq_true n2]
          refine iteT ?_
          walk_at "go"
          refine non_repr ?_
          walk_at "go"
          refine non_repr ?_
          refine w_eq rfl ?_
          rw [decide_eq_true rfl]
          exact k _ (Same.refl _)
    | sum ws lim =>
      obtain ⟨tt, hpt, _⟩ := hw
      refine w_ixT (SqT.at hpt) rfl ?_
      walk_at "go"
      refine w_eqX (by decide +kernel) ?_
      walk_at "go"
      refine iteF ?_
      walk_at "go"
      have hl : H3 l = some (.lst (W.map V.int)) := hl
      refine w_min (SqL.at hl) hW.pos fun m1 em1 => ?_
      walk_at "go"
      refine w_max (SqL.at hl) hW.pos fun m2 em2 => ?_
      cases hW.min em1
      cases hW.max em2
      obtain ⟨q, rfl, hq⟩ := tv
      have hq : H3 q = some (.tup [eV (ends f (.sum ws lim)).1, eV (ends f (.sum ws lim)).2]) := hq
      generalize EE : ends f (.sum ws lim) = ee at *
      obtain ⟨lo, hi⟩ := ee
      dsimp only at k1 k2 hq
      walk_at "go"
      refine ⟨_, _, rfl, ?_⟩
      refine w_mid (fun σ' H' => σ' = [some (.ref t), some (.ref d), some (.ref p), some (.ref l), some (.ref d2), some (.ref q), some (.int L), some (.int U), none, none] ∧ H' = H3) ?_ ?_
      · walk_at "go"
        refine w_ixT (SqT.at hq) rfl ?_
        walk_at "go"
        rcases k1 with ⟨rfl, _⟩ | ⟨rfl, _⟩
        · refine iteT ?_
          walk_at "go"
          refine w_ixT (SqT.at hq) rfl ?_
          walk_at "go"
          refine w_ne rfl ?_
          rw [decide_eq_true (show eV (some L) = V.int L from rfl)]
          walk_at "go"
          refine iteF ?_
          walk_at "go"
          exact ⟨rfl, rfl⟩
        · refine iteF (iteF ?_)
          walk_at "go"
          exact ⟨rfl, rfl⟩
      rintro σ H4 ⟨rfl, rfl⟩
      refine w_mid (fun σ' H' => σ' = [some (.ref t), some (.ref d), some (.ref p), some (.ref l), some (.ref d2), some (.ref q), some (.int L), some (.int U), none, none] ∧ H' = H4) ?_ ?_
      · walk_at "go"
        refine w_ixT (SqT.at hq) rfl ?_
        walk_at "go"
        rcases k2 with ⟨rfl, _⟩ | ⟨rfl, _⟩
        · refine iteT ?_
          walk_at "go"
          refine w_ixT (SqT.at hq) rfl ?_
          walk_at "go"
          refine w_ne rfl ?_
          rw [decide_eq_true (show eV (some U) = V.int U from rfl)]
          walk_at "go"
          refine iteF ?_
          walk_at "go"
          exact ⟨rfl, rfl⟩
        · refine iteF (iteF ?_)
          walk_at "go"
          exact ⟨rfl, rfl⟩
      rintro σ H5 ⟨rfl, rfl⟩
      walk_at "go"
      refine w_ixT (SqT.at hpt) rfl ?_
      walk_at "go"
      refine w_eqX (by decide +kernel) ?_
      walk_at "go"
      refine iteF ?_
      walk_at "go"
      refine w_ixT (SqT.at hq) rfl ?_
      walk_at "go"
      refine w_eq rfl ?_
      have e1 : V.bl (decide (eV lo = V.non)) = V.bl (decide (L < -500)) := by
        rcases k1 with ⟨rfl, h1, h2⟩ | ⟨rfl, h1⟩
        · rw [decide_eq_false (show ¬ L < -500 by omega)]; rfl
        · rw [decide_eq_true (show L < -500 by omega)]; rfl
      have e2 : V.bl (decide (eV hi = V.non)) = V.bl (decide (U > 500)) := by
        rcases k2 with ⟨rfl, h1, h2⟩ | ⟨rfl, h1⟩
        · rw [decide_eq_false (show ¬ U > 500 by omega)]; rfl
        · rw [decide_eq_true (show U > 500 by omega)]; rfl
      rw [decide_eq_true e1]
      walk_at "go"
      refine iteT ?_
      walk_at "go"
      refine w_ixT (SqT.at hq) rfl ?_
      walk_at "go"
      refine w_eq rfl ?_
      rw [decide_eq_true e2]
      exact k _ (Same.refl _)
    | most ws lim =>
      obtain ⟨tt, hpt, _⟩ := hw
      refine w_ixT (SqT.at hpt) rfl ?_
      walk_at "go"
      refine w_eqX (by decide +kernel) ?_
      walk_at "go"
      refine iteF ?_
      walk_at "go"
      have hl : H3 l = some (.lst (W.map V.int)) := hl
      refine w_min (SqL.at hl) hW.pos fun m1 em1 => ?_
      walk_at "go"
      refine w_max (SqL.at hl) hW.pos fun m2 em2 => ?_
      cases hW.min em1
      cases hW.max em2
      obtain ⟨q, rfl, hq⟩ := tv
      have hq : H3 q = some (.tup [eV (ends f (.most ws lim)).1, eV (ends f (.most ws lim)).2]) := hq
      generalize EE : ends f (.most ws lim) = ee at *
      obtain ⟨lo, hi⟩ := ee
      dsimp only at k1 k2 hq
      walk_at "go"
      refine ⟨_, _, rfl, ?_⟩
      refine w_mid (fun σ' H' => σ' = [some (.ref t), some (.ref d), some (.ref p), some (.ref l), some (.ref d2), some (.ref q), some (.int L), some (.int U), none, none] ∧ H' = H3) ?_ ?_
      · walk_at "go"
        refine w_ixT (SqT.at hq) rfl ?_
        walk_at "go"
        rcases k1 with ⟨rfl, _⟩ | ⟨rfl, _⟩
        · refine iteT ?_
          walk_at "go"
          refine w_ixT (SqT.at hq) rfl ?_
          walk_at "go"
          refine w_ne rfl ?_
          rw [decide_eq_true (show eV (some L) = V.int L from rfl)]
          walk_at "go"
          refine iteF ?_
          walk_at "go"
          exact ⟨rfl, rfl⟩
        · refine iteF (iteF ?_)
          walk_at "go"
          exact ⟨rfl, rfl⟩
      rintro σ H4 ⟨rfl, rfl⟩
      refine w_mid (fun σ' H' => σ' = [some (.ref t), some (.ref d), some (.ref p), some (.ref l), some (.ref d2), some (.ref q), some (.int L), some (.int U), none, none] ∧ H' = H4) ?_ ?_
      · walk_at "go"
        refine w_ixT (SqT.at hq) rfl ?_
        walk_at "go"
        rcases k2 with ⟨rfl, _⟩ | ⟨rfl, _⟩
        · refine iteT ?_
          walk_at "go"
          refine w_ixT (SqT.at hq) rfl ?_
          walk_at "go"
          refine w_ne rfl ?_
          rw [decide_eq_true (show eV (some U) = V.int U from rfl)]
          walk_at "go"
          refine iteF ?_
          walk_at "go"
          exact ⟨rfl, rfl⟩
        · refine iteF (iteF ?_)
          walk_at "go"
          exact ⟨rfl, rfl⟩
      rintro σ H5 ⟨rfl, rfl⟩
      walk_at "go"
      refine w_ixT (SqT.at hpt) rfl ?_
      walk_at "go"
      refine w_eqX (by decide +kernel) ?_
      walk_at "go"
      refine iteF ?_
      walk_at "go"
      refine w_ixT (SqT.at hq) rfl ?_
      walk_at "go"
      refine w_eq rfl ?_
      have e1 : V.bl (decide (eV lo = V.non)) = V.bl (decide (L < -500)) := by
        rcases k1 with ⟨rfl, h1, h2⟩ | ⟨rfl, h1⟩
        · rw [decide_eq_false (show ¬ L < -500 by omega)]; rfl
        · rw [decide_eq_true (show L < -500 by omega)]; rfl
      have e2 : V.bl (decide (eV hi = V.non)) = V.bl (decide (U > 500)) := by
        rcases k2 with ⟨rfl, h1, h2⟩ | ⟨rfl, h1⟩
        · rw [decide_eq_false (show ¬ U > 500 by omega)]; rfl
        · rw [decide_eq_true (show U > 500 by omega)]; rfl
      rw [decide_eq_true e1]
      walk_at "go"
      refine iteT ?_
      walk_at "go"
      refine w_ixT (SqT.at hq) rfl ?_
      walk_at "go"
      refine w_eq rfl ?_
      rw [decide_eq_true e2]
      exact k _ (Same.refl _)
    | count ws lim =>
      obtain ⟨tt, hpt, _⟩ := hw
      refine w_ixT (SqT.at hpt) rfl ?_
      walk_at "go"
      refine w_eqX (by decide +kernel) ?_
      walk_at "go"
      refine iteF ?_
      walk_at "go"
      have hl : H3 l = some (.lst (W.map V.int)) := hl
      refine w_min (SqL.at hl) hW.pos fun m1 em1 => ?_
      walk_at "go"
      refine w_max (SqL.at hl) hW.pos fun m2 em2 => ?_
      cases hW.min em1
      cases hW.max em2
      obtain ⟨q, rfl, hq⟩ := tv
      have hq : H3 q = some (.tup [eV (ends f (.count ws lim)).1, eV (ends f (.count ws lim)).2]) := hq
      generalize EE : ends f (.count ws lim) = ee at *
      obtain ⟨lo, hi⟩ := ee
      dsimp only at k1 k2 hq
      walk_at "go"
      refine ⟨_, _, rfl, ?_⟩
      refine w_mid (fun σ' H' => σ' = [some (.ref t), some (.ref d), some (.ref p), some (.ref l), some (.ref d2), some (.ref q), some (.int L), some (.int U), none, none] ∧ H' = H3) ?_ ?_
      · walk_at "go"
        refine w_ixT (SqT.at hq) rfl ?_
        walk_at "go"
        rcases k1 with ⟨rfl, _⟩ | ⟨rfl, _⟩
        · refine iteT ?_
          walk_at "go"
          refine w_ixT (SqT.at hq) rfl ?_
          walk_at "go"
          refine w_ne rfl ?_
          rw [decide_eq_true (show eV (some L) = V.int L from rfl)]
          walk_at "go"
          refine iteF ?_
          walk_at "go"
          exact ⟨rfl, rfl⟩
        · refine iteF (iteF ?_)
          walk_at "go"
          exact ⟨rfl, rfl⟩
      rintro σ H4 ⟨rfl, rfl⟩
      refine w_mid (fun σ' H' => σ' = [some (.ref t), some (.ref d), some (.ref p), some (.ref l), some (.ref d2), some (.ref q), some (.int L), some (.int U), none, none] ∧ H' = H4) ?_ ?_
      · walk_at "go"
        refine w_ixT (SqT.at hq) rfl ?_
        walk_at "go"
        rcases k2 with ⟨rfl, _⟩ | ⟨rfl, _⟩
        · refine iteT ?_
          walk_at "go"
          refine w_ixT (SqT.at hq) rfl ?_
          walk_at "go"
          refine w_ne rfl ?_
          rw [decide_eq_true (show eV (some U) = V.int U from rfl)]
          walk_at "go"
          refine iteF ?_
          walk_at "go"
          exact ⟨rfl, rfl⟩
        · refine iteF (iteF ?_)
          walk_at "go"
          exact ⟨rfl, rfl⟩
      rintro σ H5 ⟨rfl, rfl⟩
      walk_at "go"
      refine w_ixT (SqT.at hpt) rfl ?_
      walk_at "go"
      refine w_eqY ?_
      walk_at "go"
      refine iteT ?_
      walk_at "go"
      cases EE
      refine w_notInT (SqT.at hq) rfl rfl ?_
      exact k _ (Same.refl _)
/-! ### the law itself -/
def EndV9 (x : Str) (v : V) (G : Hp) : Prop := ∃ q e, v = .ref q ∧ G q = some (.tup [eV e.1, eV e.2]) ∧ Sml9 e
theorem endV9_ok (b : Addr) (ys : List Str) : ElOk b (PairElG ys EndV9) := pairElG_ok (fun x v G G' hb s ⟨q, e, e1, h, r⟩ => ⟨q, e, e1, s.tup hb h, r⟩) fun x v G D acc hD ⟨q, e, e1, h, r⟩ => ⟨q, e, e1, off_tup hD h, r⟩
theorem places9_of {H : Hp} {d : Addr} {ws : List (Str × V)} (hd : H d = some (.dK (genKv ws))) (h : ∀ e ∈ ws, EndV9 e.1 e.2 H) : ∃ f : EF, PlacesAt H d f (ws.map (·.1)) ∧ ∀ x ∈ ws.map (·.1), Sml9 (f x) := by
  have hx : ∀ x : Str, ∃ e : Option Int × Option Int, x ∈ ws.map (·.1) → (∃ p, valV (genKv ws) (.inr x) = some (.ref p) ∧ H p = some (.tup [eV e.1, eV e.2])) ∧ Sml9 e := fun x => by
    by_cases m : x ∈ ws.map (·.1)
    · obtain ⟨v, h1, h2⟩ := gen_val m
      obtain ⟨q, e, e1, h3, h4⟩ := h _ h2
      dsimp only at e1
      subst e1
      exact ⟨e, fun _ => ⟨⟨q, h1, h3⟩, h4⟩⟩
    · exact ⟨(none, none), fun m' => absurd m' m⟩
  obtain ⟨f, hf⟩ := Classical.axiomOfChoice hx
  exact ⟨f, ⟨_, hd, fun x m => (hf x m).1⟩, fun x m => (hf x m).2⟩
theorem pt_le {e : Option Int × Option Int} (h : Sml e) : (ptOf e).natAbs ≤ 7 := by
  rcases h with ⟨a, b, rfl, _, h, _⟩ | ⟨b, rfl, _⟩ | ⟨a, rfl, _⟩
  · show a.natAbs ≤ 7; omega
  · show b.natAbs ≤ 7; omega
  · show a.natAbs ≤ 7; omega
theorem worths_vals (wt : Wt) (rows : List Row) (n : Nat) (h : n = rows.length) : madeI (fun _ => true) (fun i => worthV (num (rows.getD i [])) wt) n = wvals wt (rows.map fun r => worthI (num r) wt) := by
  subst h
  rw [madeI_all]
  have e := congrArg (fun l => l.map fun r : Row => worthV (num r) wt) (range_at ([] : Row) rows)
  rw [List.map_map] at e
  refine Eq.trans e ?_
  cases wt with
  | over ws l => show _ = ((rows.map _).map _).map V.bl; rw [List.map_map, List.map_map]; rfl
  | sum ws l => show _ = (rows.map _).map V.int; rw [List.map_map]; rfl
  | most ws l => show _ = (rows.map _).map V.int; rw [List.map_map]; rfl
  | count ws l => show _ = (rows.map _).map V.int; rw [List.map_map]; rfl
def spLaw (K : PySem.W.Frag) : Sp := fun vs H Q _ => ∃ (a : Addr) (ns : List Int), vs = [.ref a] ∧ SqL K H a (ns.map V.int) ∧ ns.length ≤ 63 ∧ ∀ H', Q (.bl true) H'
theorem spLaw_use (K : PySem.W.Frag) (H : Hp) (a : Addr) (ns : List Int) (hl : ns.length ≤ 63) (hS : SqL K H a (ns.map V.int)) : spLaw K [.ref a] H (fun v _ => v = .bl true) fun _ _ _ => False :=
  ⟨a, ns, rfl, hS, hl, fun _ => rfl⟩
theorem ok_law (T : Gk w K mg g) : FnG P w K mg base CX0 6 g.f_law g.d_law ["_law_script"] (spLaw K) := by
  refine funG_ok T.F_law sc_law (fun vs H Q E h => ?_) (fun cdv A outer s H vs Q E hr hc h => ?_)
  · obtain ⟨a, ns, rfl, _⟩ := h; rfl
  · obtain ⟨a, ns0, rfl, hS, hlen, k⟩ := h
    have O_Band_init := ok_Band_init (P := P) (w := w) (base := base) T
    have O_hands_of := ok_hands_of (P := P) (w := w) (base := base) T
    have O_is_kept := ok_is_kept (P := P) (w := w) (base := base) T
    have O_l_all := ok_l_all (P := P) (w := w) (base := base) T
    have O_l_bag := ok_l_bag (P := P) (w := w) (base := base) T
    have O_l_drawn_ends := ok_l_drawn_ends (P := P) (w := w) (base := base) T
    have O_l_far_end := ok_l_far_end (P := P) (w := w) (base := base) T
    have O_l_names := ok_l_names (P := P) (w := w) (base := base) T
    have O_l_take := ok_l_take (P := P) (w := w) (base := base) T
    have O_l_watch := ok_l_watch (P := P) (w := w) (base := base) T
    have O_worth_of := ok_worth_of (P := P) (w := w) (base := base) T
    have hr_1 : Room 1 _ := hr.mono (by decide)
    have hr_2 : Room 2 _ := hr.mono (by decide)
    have hr_3 : Room 3 _ := hr.mono (by decide)
    have hr_4 : Room 4 _ := hr.mono (by decide)
    have hr_5 : Room 5 _ := hr.mono (by decide)
    have hu := hu_of hr
    refine ⟨_, (pss_cons (ps_for PassesOwn.never rfl (pi_range1 (by rfl) T.z_range (pa_cons (pe_callB k_max2 (by rfl) T.z_max (by decide +kernel) (pa_cons pe_int (pa_cons (pe_callB k_min2 (by rfl) T.z_min (by decide +kernel) (pa_cons pe_int (pa_cons (pe_callB (k_len K) (by rfl) T.z_len (by decide +kernel) (pa_cons (pv 0) pa_nil)) pa_nil))) pa_nil))) pa_nil)) (pg_name (i := 1) sc_law.nd rfl (Or.inl rfl)) (pss_cons (ps_set (i := 2) sc_law.nd rfl (Or.inr rfl) (pe_call O_l_bag hr_1 rfl T.m_l_bag T.F_l_bag.kp T.b_l_bag .nil pass0 (pa_cons (pv 0) (pa_cons (pv 1) pa_nil))))
      (pss_cons (ps_set (i := 3) sc_law.nd rfl (Or.inl rfl) (pe_call O_l_names hr_2 rfl T.m_l_names T.F_l_names.kp T.b_l_names .nil pass0 (pa_cons (pv 2) (pa_cons (pe_op op_add pe_int (pe_call O_l_take hr_1 rfl T.m_l_take T.F_l_take.kp T.b_l_take .nil pass0 (pa_cons (pv 2) (pa_cons pe_int pa_nil)))) pa_nil))))
      (pss_cons (ps_set (i := 4) sc_law.nd rfl (Or.inr rfl) (pe_callTy (k_dictP K) (by rfl) T.z_dict (by decide +kernel) (pa_cons (pe_lc (own := [("_law_name", 11)]) (g := (gName 11)) rfl sc_law.nd (pi_tupK K (pv 3)) (blkOk_by (N := ["_law_script", "_law_at", "_law_bag_here", "_law_names_here", "_law_places", "_law_bands", "_law_near", "_law_turn", "_law_watch_here", "_law_worths", "_law_due", "_law_name", "_law_row", "_law_end"]) (sc := defScope s_law) (by decide +kernel)) (fun _ _ _ _ _ => pg_name (i := 11) sc_law.nd rfl (Or.inl rfl)) (fun _ _ _ _ _ => pts_nil) (fun _ _ _ _ _ => (pe_tup (pa_cons (pv 11) (pa_cons (pe_call O_l_drawn_ends hr_2 rfl T.m_l_drawn_ends T.F_l_drawn_ends.kp T.b_l_drawn_ends .nil pass0 (pa_cons (pv 2) pa_nil)) pa_nil))))) pa_nil)))
      (pss_cons (ps_set (i := 5) sc_law.nd rfl (Or.inl rfl) (pe_callTy (k_dictP K) (by rfl) T.z_dict (by decide +kernel) (pa_cons (pe_lc (own := [("_law_name", 11)]) (g := (gName 11)) rfl sc_law.nd (pi_tupK K (pv 3)) (blkOk_by (N := ["_law_script", "_law_at", "_law_bag_here", "_law_names_here", "_law_places", "_law_bands", "_law_near", "_law_turn", "_law_watch_here", "_law_worths", "_law_due", "_law_name", "_law_row", "_law_end"]) (sc := defScope s_law) (by decide +kernel)) (fun _ _ _ _ _ => pg_name (i := 11) sc_law.nd rfl (Or.inl rfl)) (fun _ _ _ _ _ => pts_nil) (fun _ _ _ _ _ => (pe_tup (pa_cons (pv 11) (pa_cons (pe_make T.k_Band O_Band_init hr_4 rfl T.m_Band T.b_Band_init .nil pass0 (pa_cons (pe_ix (k_ixT K) (pe_dget hu (pv 4) (pv 11) (fun _ _ => rfl)) pe_int (fun _ _ => rfl)) (pa_cons (pe_ix (k_ixT K) (pe_dget hu (pv 4) (pv 11) (fun _ _ => rfl)) pe_int (fun _ _ => rfl)) pa_nil))) pa_nil))))) pa_nil)))
      (pss_cons (ps_set (i := 6) sc_law.nd rfl (Or.inl rfl) (pe_callTy (k_dictP K) (by rfl) T.z_dict (by decide +kernel) (pa_cons (pe_lc (own := [("_law_name", 11)]) (g := (gName 11)) rfl sc_law.nd (pi_tupK K (pv 3)) (blkOk_by (N := ["_law_script", "_law_at", "_law_bag_here", "_law_names_here", "_law_places", "_law_bands", "_law_near", "_law_turn", "_law_watch_here", "_law_worths", "_law_due", "_law_name", "_law_row", "_law_end"]) (sc := defScope s_law) (by decide +kernel)) (fun _ _ _ _ _ => pg_name (i := 11) sc_law.nd rfl (Or.inl rfl)) (fun _ _ _ _ _ => pts_nil) (fun _ _ _ _ _ => (pe_tup (pa_cons (pv 11) (pa_cons (pe_ix (k_ixL K) (pe_lc (own := [("_law_end", 13)]) (g := (gName 13)) rfl sc_law.nd (pi_tupK K (pe_dget hu (pv 4) (pv 11) (fun _ _ => rfl))) (blkOk_by rfl) (fun _ _ _ _ _ => pg_name (i := 13) sc_law.nd rfl (Or.inl rfl)) (fun _ _ _ _ _ => pts_one (pt_cmpR k_notN (pv 13) pe_non (nomark _))) (fun _ _ _ _ _ => (pv 13))) pe_int (fun _ _ => rfl)) pa_nil))))) pa_nil)))
      (pss_one (ps_for PassesOwn.never rfl (pi_range1 (by rfl) T.z_range (pa_cons (pe_op op_add pe_int (pe_call O_l_take hr_1 rfl T.m_l_take T.F_l_take.kp T.b_l_take .nil pass0 (pa_cons (pv 2) (pa_cons pe_int pa_nil)))) pa_nil)) (pg_name (i := 7) sc_law.nd rfl (Or.inl rfl)) (pss_cons (ps_set (i := 8) sc_law.nd rfl (Or.inr rfl) (pe_call O_l_watch hr_3 rfl T.m_l_watch T.F_l_watch.kp T.b_l_watch .nil pass0 (pa_cons (pv 2) (pa_cons (pv 3) (pa_cons (pv 6) pa_nil)))))
      (pss_cons (ps_setLc (i := 9) (own := [("_law_row", 12)]) (g := (gName 12)) rfl sc_law.nd rfl rfl (sw_true rfl rfl rfl (by decide +kernel)) (pi_listK K (pe_call O_l_all hr_1 rfl T.m_l_all T.F_l_all.kp T.b_l_all .nil pass0 (pa_cons (pe_call O_hands_of hr_1 rfl T.m_hands_of T.F_hands_of.kp T.b_hands_of .nil pass0 (pa_cons (pv 8) pa_nil)) (pa_cons (pv 4) pa_nil)))) (blkOk_by (N := ["_law_script", "_law_at", "_law_bag_here", "_law_names_here", "_law_places", "_law_bands", "_law_near", "_law_turn", "_law_watch_here", "_law_worths", "_law_due", "_law_name", "_law_row", "_law_end"]) (sc := defScope s_law) (by decide +kernel)) (fun _ _ _ _ _ => pg_name (i := 12) sc_law.nd rfl (Or.inl rfl)) (fun _ _ _ _ _ => pts_nil) (fun _ _ _ _ _ => (pe_call O_worth_of hr_2 rfl T.m_worth_of T.F_worth_of.kp T.b_worth_of .nil pass0 (pa_cons (pv 8) (pa_cons (pv 12) pa_nil)))))
      (pss_cons (ps_if (pt_not (pt_val (pe_callG O_l_far_end hr_5 hc rfl T.m_l_far_end T.F_l_far_end.kp T.b_l_far_end .nil pass0 (pa_cons (pv 3) (pa_cons (pv 4) (pa_cons (pv 8) (pa_cons (pv 9) pa_nil))))))) (pss_one (ps_ret pe_bl)) pss_nil)
      (pss_mid (ps_set (i := 10) sc_law.nd rfl (Or.inl rfl) (pe_cmpR op_eq (pe_lenSetK K (by rfl) T.z_len (by rfl) T.z_set (pv 9)) pe_int (nomark _)))
      (pss_mid (ps_if (pt_cmpR (k_in K) (pe_ix (k_ixT K) (pv 8) pe_int (fun _ _ => rfl)) (pe_tup (pa_cons pe_str (pa_cons pe_str pa_nil))) (by rfl)) (pss_one (ps_set (i := 10) sc_law.nd rfl (Or.inl rfl) (pe_cmpR op_le (pe_op op_sub (pe_callB (k_max K) (by rfl) T.z_max (by decide +kernel) (pa_cons (pv 9) pa_nil)) (pe_callB (k_min K) (by rfl) T.z_min (by decide +kernel) (pa_cons (pv 9) pa_nil))) (pe_ix (k_ixT K) (pv 8) pe_int (fun _ _ => rfl)) (nomark _)))) pss_nil)
      (pss_one (ps_if (pt_cmpR op_ne (pe_callB (k_repr K hr hc) (by rfl) T.z_repr (by decide +kernel) (pa_cons (pe_call O_is_kept hr_5 rfl T.m_is_kept T.F_is_kept.kp T.b_is_kept .nil pass0 (pa_cons (pv 8) (pa_cons (pv 5) pa_nil))) pa_nil)) (pe_callB (k_repr K hr hc) (by rfl) T.z_repr (by decide +kernel) (pa_cons (pv 10) pa_nil)) (nomark _)) (pss_one (ps_ret pe_bl)) pss_nil)))))))))))))))
      (pss_one (ps_ret pe_bl))), ?_⟩
    walk_at "go"
    refine w_lenL hS ?_
    walk_at "go"
    rw [List.length_map]
    refine ⟨_, rfl, by split <;> split <;> omega, by split <;> split <;> omega, ?_⟩
    refine k_forR (fun i σ H' => (∃ v1 v2 v3 v4 v5 v6 v7 v8 v9 v10 v11 v12 v13 : Option V, σ = [some (.ref a), v1, v2, v3, v4, v5, v6, v7, v8, v9, v10, v11, v12, v13]) ∧ Same H H') ⟨⟨_, _, _, _, _, _, _, _, _, _, _, _, _, rfl⟩, Same.refl _⟩ ?_ ?_
    · rintro at_ σ H0 hat ⟨⟨v1, v2, v3, v4, v5, v6, v7, v8, v9, v10, v11, v12, v13, rfl⟩, s0⟩
      have hat8 : at_ < 8 := by
        revert hat
        split <;> split <;> omega
      walk_at "go"
      refine use_bag (s0.seq hS) hlen hat8 fun b H1 nb s1 hb => ?_
      walk_at "go"
      refine use_take hb (by decide) (by decide) fun m H2 m0 m1 s2 => ?_
      walk_at "go"
      rw [show (1 + m : Int) = (((1 + m).toNat : Nat) : Int) from by omega]
      refine use_names s2.1 (by omega) (by omega) fun t xs H3 nm hxl nt s3 ht => ?_
      have st3 := s2.trans s3
      have hxne : xs ≠ [] := by rintro rfl; simp at hxl; omega
      have hx4 : xs.length ≤ 4 := by omega
      walk_at "go"
      refine ⟨t, rfl, ⟨_, SqT.at ht⟩, ?_⟩
      refine b_lcT (b := b) (El := PairElG xs EndV9) st3.1 (endV9_ok b xs) (by rw [List.length_map]; omega) (SqT.at ht) (fun i x G hi st => ?_) fun D acc H4 nD hD st4 hacc => ?_
      · obtain ⟨rfl, mi⟩ := getD_map hi
        refine turnB_name (fun _ => rfl) fun R Ny kR => ?_
        walk_at "go"
        refine iteT ?_
        walk_at "go"
        refine use_dends9 st.1 fun q e G' sm s' hq => ?_
        walk_at "go"
        refine k_tup (by show 2 ≤ sizeLine; decide) fun q2 G2 nq2 sq hq2 => ?_
        exact kR _ _ (s'.more sq) ⟨q2, _, rfl, hq2, q, e, rfl, sq _ _ hq, sm⟩
      obtain ⟨ps, ns, rfl, pp, ens, hns⟩ := acc_pairsG (B := fun x v => EndV9 x v H4) (by rw [hacc.1, List.length_map]) hacc.2
      have ht := st4.tup st3.1 ht
      have st4 := st3.trans st4
      walk_at "go"
      refine ⟨D, ps, genKv ns, rfl, SqL.at hD, paired_sqG pp, fun d nd => ?_⟩
      rw [merge_gen (by rw [ens]; exact nm.nd)]
      have s5 : Same H4 (upd H4 d (.dK (genKv ns))) := same_new nd
      have hd5 : upd H4 d (.dK (genKv ns)) d = some (.dK (genKv ns)) := upd_same
      generalize upd H4 d (.dK (genKv ns)) = H5 at *
      have st5 := st4.more s5
      have ht := s5 _ _ ht
      obtain ⟨f, hpl, hf⟩ := places9_of hd5 (fun e me => by obtain ⟨q, e1, e2, e3, e4⟩ := hns e me; exact ⟨q, e1, e2, s5 _ _ e3, e4⟩)
      rw [ens] at hpl hf
      walk_at "go"
      refine ⟨t, rfl, ⟨_, SqT.at ht⟩, ?_⟩
      refine b_lcT (b := b) (El := PairElG xs (BandV g.c_Band f)) st5.1 (bandV_ok b xs _ _) (by rw [List.length_map]; omega) (SqT.at ht) (fun i x G hi st => ?_) fun D2 acc2 H6 nD2 hD2 st6 hacc2 => ?_
      · obtain ⟨rfl, mi⟩ := getD_map hi
        obtain ⟨kvs, hkv, hp'⟩ := hpl.step st5.1 st
        obtain ⟨p, ep, bp⟩ := hp' _ mi
        refine turnB_name (fun _ => rfl) fun R Ny kR => ?_
        walk_at "go"
        refine iteT ?_
        walk_at "go"
        refine k_dget hkv ep ?_
        walk_at "go"
        refine w_ixT (SqT.at bp) rfl ?_
        walk_at "go"
        refine k_dget hkv ep ?_
        walk_at "go"
        refine w_ixT (SqT.at bp) rfl ?_
        walk_at "go"
        refine use_band (hf _ mi).most fun q G2 nq sq hq => ?_
        walk_at "go"
        refine k_tup (by show 2 ≤ sizeLine; decide) fun q3 G3 nq3 sq3 hq3 => ?_
        exact kR _ _ ((Step.same st.1 sq).more sq3) ⟨q3, _, rfl, hq3, q, rfl, hq.mono sq3⟩
      obtain ⟨ps2, ns2, rfl, pp2, ens2, hns2⟩ := acc_pairsG (B := fun x v => BandV g.c_Band f x v H6) (by rw [hacc2.1, List.length_map]) hacc2.2
      have ht := st6.tup st5.1 ht
      have hpl := hpl.step st5.1 st6
      have st6 := st5.trans st6
      walk_at "go"
      refine ⟨D2, ps2, genKv ns2, rfl, SqL.at hD2, paired_sqG pp2, fun d2 nd2 => ?_⟩
      rw [merge_gen (by rw [ens2]; exact nm.nd)]
      have s7 : Same H6 (upd H6 d2 (.dK (genKv ns2))) := same_new nd2
      have hd7 : upd H6 d2 (.dK (genKv ns2)) d2 = some (.dK (genKv ns2)) := upd_same
      generalize upd H6 d2 (.dK (genKv ns2)) = H7 at *
      have st7 := st6.more s7
      have ht := s7 _ _ ht
      have hpl := hpl.same s7
      have hbd : BandsAt g.c_Band H7 d2 f (ns2.map (·.1)) := bands_of hd7 (fun e me => by obtain ⟨q, e1, e2⟩ := hns2 e me; exact ⟨q, e1, e2.mono s7⟩)
      rw [ens2] at hbd
      walk_at "go"
      refine ⟨t, rfl, ⟨_, SqT.at ht⟩, ?_⟩
      refine b_lcT (b := b) (El := PairElG xs fun x v _ => v = .int (ptOf (f x))) st7.1 (pairElG_ok (fun _ _ _ _ _ _ h => h) (fun _ _ _ _ _ _ h => h)) (by rw [List.length_map]; omega) (SqT.at ht) (fun i x G hi st => ?_) fun D3 acc3 H8 nD3 hD3 st8 hacc3 => ?_
      · obtain ⟨rfl, mi⟩ := getD_map hi
        obtain ⟨kvs, hkv, hp'⟩ := hpl.step st7.1 st
        obtain ⟨p, ep, bp⟩ := hp' _ mi
        have sm := hf _ mi
        refine turnB_name (fun _ => rfl) fun R Ny kR => ?_
        walk_at "go"
        refine iteT ?_
        walk_at "go"
        refine k_dget hkv ep ?_
        refine ⟨p, rfl, ⟨_, SqT.at bp⟩, ?_⟩
        generalize ef : f (xs.getD i Str.empty) = e at *
        obtain ⟨lo, hi⟩ := e
        refine p_lcT (fun x => !decide (x = V.non)) (fun x => x) (by show 2 ≤ 100000; decide) (SqT.at bp) (fun _ => rfl) ?_ ?_ fun l1 G2 nl s2 hl => ?_
        · intro x hx H' s' Q' k'
          walk_at "go"
          exact k' _ (Same.refl _)
        · intro x hx _ H' s' Q' k'
          walk_at "go"
          exact k' _ (Same.refl _)
        have hl : G2 l1 = some (.lst ((pres [lo, hi]).map V.int)) := by rw [← made_pres]; exact hl
        walk_at "go"
        refine w_ixL (SqL.at hl) (v := .int (ptOf (lo, hi))) ?_ ?_
        · rcases sm.1 with ⟨a, b, e, _⟩ | ⟨b, e, _⟩ | ⟨a, e, _⟩ <;> (cases e; rfl)
        walk_at "go"
        refine k_tup (by show 2 ≤ sizeLine; decide) fun q3 G3 nq3 sq3 hq3 => ?_
        exact kR _ _ ((Step.same st.1 s2).more sq3) ⟨q3, _, rfl, hq3, by show _ = V.int (ptOf (f _)); rw [ef]⟩
      obtain ⟨ps3, ns3, rfl, pp3, ens3, hns3⟩ := acc_pairsG (B := fun x v => v = .int (ptOf (f x))) (by rw [hacc3.1, List.length_map]) hacc3.2
      have ht := st8.tup st7.1 ht
      have hpl := hpl.step st7.1 st8
      have hbd := hbd.step st7.1 st8
      have st8 := st7.trans st8
      walk_at "go"
      refine ⟨D3, ps3, genKv ns3, rfl, SqL.at hD3, paired_sqG pp3, fun d3 nd3 => ?_⟩
      rw [merge_gen (by rw [ens3]; exact nm.nd), gen_num (g := fun x => ptOf (f x)) ens3 hns3]
      have s9 : Same H8 (upd H8 d3 (.dK (numKv (xs.map fun x => (x, ptOf (f x)))))) := same_new nd3
      have hd9 : upd H8 d3 (.dK (numKv (xs.map fun x => (x, ptOf (f x))))) d3 = some (.dK (numKv (xs.map fun x => (x, ptOf (f x))))) := upd_same
      generalize upd H8 d3 (.dK (numKv (xs.map fun x => (x, ptOf (f x))))) = H9 at *
      have st9 := st8.more s9
      have ht := s9 _ _ ht
      have hpl := hpl.same s9
      have hbd := hbd.same s9
      have hnum : NumAt H9 d3 (xs.map fun x => (x, ptOf (f x))) xs := ⟨hd9, fun x mx => by rw [List.map_map]; exact List.mem_map.mpr ⟨x, mx, rfl⟩⟩
      have hnz : ∀ e ∈ xs.map fun x => (x, ptOf (f x)), e.2.natAbs ≤ 7 := fun e me => by
        obtain ⟨x, mx, rfl⟩ := List.mem_map.mp me
        exact pt_le (hf x mx).1
      walk_at "go"
      refine use_take st9.1 (by decide) (by decide) fun d10 H10 d100 d101 s10 => ?_
      have ht := s10.tup st9.1 ht
      have hpl := hpl.step st9.1 s10
      have hbd := hbd.step st9.1 s10
      have hnum := hnum.stp st9.1 s10
      have st10 := st9.trans s10
      walk_at "go"
      refine ⟨_, rfl, by omega, by omega, ?_⟩
      refine k_forR (fun i σ H' => (∃ v7 v8 v9 v10 v11 v12 v13 : Option V, σ = [some (.ref a), some (.int at_), some (.ref b), some (.ref t), some (.ref d), some (.ref d2), some (.ref d3), v7, v8, v9, v10, v11, v12, v13]) ∧ Step b H10 H') ⟨⟨_, _, _, _, _, _, _, rfl⟩, .refl s10.1⟩ ?_ ?_
      · rintro j σ H11 hj ⟨⟨v7', v8', v9', v10', v11', v12', v13', rfl⟩, s11⟩
        have ht := s11.tup s10.1 ht
        have hpl := hpl.step s10.1 s11
        have hbd := hbd.step s10.1 s11
        have hnum := hnum.stp s10.1 s11
        walk_at "go"
        refine use_watch s11.1 ht hxne hx4 nm.ok hnum hnz fun p wt H12 hw okw hsubw nzw slk limw s12 => ?_
        have ht := s12.tup s11.1 ht
        have hpl := hpl.step s11.1 s12
        have hbd := hbd.step s11.1 s12
        have ok' : WOk wt.names wt := ⟨fun _ m => m, okw.ne, okw.few, okw.wt⟩
        have hnl : wt.names.length ≤ 4 := Nat.le_trans hsubw.length_le hx4
        have hnn : wt.names.Nodup := hsubw.nodup nm.nd
        have h9 : W9 f wt := ⟨okw.ne, hnl, fun x mx => (hf x (okw.sub x mx)).1, nzw, limw, slk⟩
        walk_at "go"
        refine use_hands hw okw.few fun l1 H13 nl1 s13 hl1 => ?_
        walk_at "go"
        refine use_all (SqL.at hl1) ((hpl.same s13).sub okw.sub) (fun x mx => hf x (okw.sub x mx)) hnn hnl fun l2 qs H14 s14 hl2 hqs => ?_
        have s14' := s13.trans s14
        have hw := hw.keep (.same s14')
        have hvs : ∀ x ∈ wt.names, loC f x ∈ valsE (f x) ∧ hiC f x ∈ valsE (f x) ∧ ∀ v ∈ valsE (f x), loC f x ≤ v ∧ v ≤ hiC f x := fun x mx => by
          have h := vals_ok (f := f) (x := x) (hf x (okw.sub x mx)).1 (hf x (okw.sub x mx)).2
          exact ⟨h.1, h.2.1, h.2.2.1⟩
        obtain ⟨L, U, eLU, mL, mU, hall⟩ := worths_ends (vf := fun x => valsE (f x)) (lo := loC f) (hi := hiC f) okw.ne hnn hvs
        have hrl : (rowsOf (fun x => valsE (f x)) wt.names).length ≤ 256 := by
          have h := rows_len (vf := fun x => valsE (f x)) wt.names.length (xs := wt.names) rfl fun y my => (vals_ok (f := f) (x := y) (hf y (okw.sub y my)).1 (hf y (okw.sub y my)).2).2.2.2
          exact Nat.le_trans h (Nat.le_trans (Nat.pow_le_pow_right (by decide) hnl) (by decide))
        have hrn : ∀ r ∈ rowsOf (fun x => valsE (f x)) wt.names, r.map (·.1) = wt.names := fun r mr => ((rows_mem _ _ _ rfl r).mp mr).1
        generalize rowsOf (fun x => valsE (f x)) wt.names = rows at *
        have hql := paired_len hqs
        refine ⟨l2, rfl, ⟨_, SqL.at hl2⟩, ?_⟩
        refine i_lcL (fun _ => true) (fun i => worthV (num (rows.getD i [])) wt) (by rw [List.length_map]; omega) (SqL.at hl2) (fun i x hi => ?_) fun D9 H15 nD9 s15 hD9 => ?_
        · obtain ⟨q, hq, rfl⟩ : ∃ q, qs[i]? = some q ∧ x = V.ref q := by
            rw [List.getElem?_map] at hi
            cases e : qs[i]? with
            | none => rw [e] at hi; cases hi
            | some q => rw [e] at hi; cases hi; exact ⟨q, rfl, rfl⟩
          obtain ⟨r, hr', hqr⟩ := paired_get hqs hq
          have eg : rows.getD i [] = r := by rw [List.getD_eq_getElem?_getD, hr']; rfl
          rw [eg]
          refine turn_name (fun _ => rfl) ?_ ?_
          · intro H' s' Q' k'
            walk_at "go"
            exact k' _ (Same.refl _)
          · intro _ H' s' Q' k'
            walk_at "go"
            refine use_worth (hw.keep (.same s')) ok' ⟨s' _ _ hqr, fun x mx => by rw [hrn r (List.mem_of_getElem? hr')]; exact mx⟩ fun H'' s'' => k' _ s''
        rw [worths_vals wt rows _ (by rw [List.length_map, hql])] at hD9
        have hWF : WF f wt (rows.map fun r => worthI (num r) wt) L U := ⟨eLU, mL, mU, fun x mx => by obtain ⟨r, mr, rfl⟩ := List.mem_map.mp mx; exact hall r mr, by rw [List.length_map]; omega⟩
        generalize (rows.map fun r => worthI (num r) wt) = W at *
        have s15' := s14'.trans s15
        have hw := hw.keep (.same s15)
        walk_at "go"
        refine use_far (s15' _ _ ht) nm.nd hx4 (hpl.same s15') hf hw okw h9 hWF hD9 fun H16 s16 => ?_
        have s16' := s15'.trans s16
        have hw := hw.keep (.same s16)
        have hD9 := s16 _ _ hD9
        walk_at "go"
        refine iteF ?_
        walk_at "go"
        refine w_mid (fun σ H' => ∃ c : Bool, σ = [some (.ref a), some (.int at_), some (.ref b), some (.ref t), some (.ref d), some (.ref d2), some (.ref d3), some (.int j), some (.ref p), some (.ref D9), some (.bl c), v11', v12', v13'] ∧ H' = H16 ∧ (wt.kind = 1 ∨ wt.kind = 3 → c = keptV L U wt)) ?_ ?_
        · walk_at "go"
          cases wt with
          | over ws lim =>
            refine ⟨D9, rfl, .inr ⟨_, SqL.at hD9, by rw [List.length_map]; exact hWF.len, ?_⟩⟩
            walk_at "go"
            refine w_eq rfl ?_
            walk_at "go"
            refine ⟨_, rfl, rfl, fun _ => ?_⟩
            have hdist := (dist_over (l := lim) hWF.lo hWF.hi hWF.all).1
            show decide (V.int ((nDist false (W.map fun x => decide (lim ≤ x)) : Nat) : Int) = V.int 1) = (decide (lim ≤ L) || decide (U < lim))
            by_cases c1 : lim ≤ L
            · rw [hdist.mpr (.inl c1), decide_eq_true c1]; rfl
            · by_cases c2 : U < lim
              · rw [hdist.mpr (.inr c2), decide_eq_true c2, Bool.or_true]; rfl
              · rw [decide_eq_false c1, decide_eq_false c2, decide_eq_false]
                · rfl
                · intro e
                  injection e with e
                  rcases hdist.mp (by omega) with q | q
                  · exact c1 q
                  · exact c2 q
          | sum ws lim =>
            refine ⟨D9, rfl, .inl ⟨W, SqL.at hD9, hWF.len, ?_⟩⟩
            walk_at "go"
            refine w_eq rfl ?_
            walk_at "go"
            exact ⟨_, rfl, rfl, fun h => by rcases h with h | h <;> cases h⟩
          | most ws lim =>
            refine ⟨D9, rfl, .inl ⟨W, SqL.at hD9, hWF.len, ?_⟩⟩
            walk_at "go"
            refine w_eq rfl ?_
            walk_at "go"
            exact ⟨_, rfl, rfl, fun h => by rcases h with h | h <;> cases h⟩
          | count ws lim =>
            refine ⟨D9, rfl, .inl ⟨W, SqL.at hD9, hWF.len, ?_⟩⟩
            walk_at "go"
            refine w_eq rfl ?_
            walk_at "go"
            refine ⟨_, rfl, rfl, fun _ => ?_⟩
            have hdist := dist_one hWF.lo hWF.hi hWF.all
            show decide (V.int ((nDist 0 W : Nat) : Int) = V.int 1) = decide (L = U)
            by_cases c1 : L = U
            · rw [hdist.mpr c1, decide_eq_true c1]; rfl
            · rw [decide_eq_false c1, decide_eq_false]
              intro e
              injection e with e
              exact c1 (hdist.mp (by omega))
        rintro σ H17 ⟨c, rfl, rfl, hcc⟩
        refine w_mid (fun σ H' => σ = [some (.ref a), some (.int at_), some (.ref b), some (.ref t), some (.ref d), some (.ref d2), some (.ref d3), some (.int j), some (.ref p), some (.ref D9), some (.bl (keptV L U wt)), v11', v12', v13'] ∧ Same H17 H') ?_ ?_
        · walk_at "go"
          cases wt with
          | over ws lim =>
            cases hcc (.inl rfl)
            obtain ⟨tt, hpt, _⟩ := hw
            refine w_ixT (SqT.at hpt) rfl ?_
            walk_at "go"
            refine k_tup (by show 2 ≤ sizeLine; decide) fun u H18 nu s18 hu1 => ?_
            refine w_inT (SqT.at hu1) rfl rfl ?_
            rw [show inV (V.str (Str.ofString "over")) [.str (Str.ofString "sum"), .str (Str.ofString "most")] = false from by decide +kernel]
            walk_at "go"
            refine iteF ?_
            walk_at "go"
            exact ⟨rfl, s18⟩
          | count ws lim =>
            cases hcc (.inr rfl)
            obtain ⟨tt, hpt, _⟩ := hw
            refine w_ixT (SqT.at hpt) rfl ?_
            walk_at "go"
            refine k_tup (by show 2 ≤ sizeLine; decide) fun u H18 nu s18 hu1 => ?_
            refine w_inT (SqT.at hu1) rfl rfl ?_
            rw [show inV (V.str (Str.ofString "count")) [.str (Str.ofString "sum"), .str (Str.ofString "most")] = false from by decide +kernel]
            walk_at "go"
            refine iteF ?_
            walk_at "go"
            exact ⟨rfl, s18⟩
          | sum ws lim =>
            obtain ⟨tt, hpt, _⟩ := hw
            have hD9 : H17 D9 = some (.lst (W.map V.int)) := hD9
            refine w_ixT (SqT.at hpt) rfl ?_
            walk_at "go"
            refine k_tup (by show 2 ≤ sizeLine; decide) fun u H18 nu s18 hu1 => ?_
            refine w_inT (SqT.at hu1) rfl rfl ?_
            rw [show inV (V.str (Str.ofString "sum")) [.str (Str.ofString "sum"), .str (Str.ofString "most")] = true from by decide +kernel]
            walk_at "go"
            refine iteT ?_
            walk_at "go"
            refine w_max (SqL.at (s18 _ _ hD9)) hWF.pos fun m2 em2 => ?_
            cases hWF.max em2
            walk_at "go"
            refine w_min (SqL.at (s18 _ _ hD9)) hWF.pos fun m1 em1 => ?_
            cases hWF.min em1
            walk_at "go"
            refine w_ixT (SqT.at (s18 _ _ hpt)) rfl ?_
            walk_at "go"
            exact ⟨rfl, s18⟩
          | most ws lim =>
            obtain ⟨tt, hpt, _⟩ := hw
            have hD9 : H17 D9 = some (.lst (W.map V.int)) := hD9
            refine w_ixT (SqT.at hpt) rfl ?_
            walk_at "go"
            refine k_tup (by show 2 ≤ sizeLine; decide) fun u H18 nu s18 hu1 => ?_
            refine w_inT (SqT.at hu1) rfl rfl ?_
            rw [show inV (V.str (Str.ofString "most")) [.str (Str.ofString "sum"), .str (Str.ofString "most")] = true from by decide +kernel]
            walk_at "go"
            refine iteT ?_
            walk_at "go"
            refine w_max (SqL.at (s18 _ _ hD9)) hWF.pos fun m2 em2 => ?_
            cases hWF.max em2
            walk_at "go"
            refine w_min (SqL.at (s18 _ _ hD9)) hWF.pos fun m1 em1 => ?_
            cases hWF.min em1
            walk_at "go"
            refine w_ixT (SqT.at (s18 _ _ hpt)) rfl ?_
            walk_at "go"
            exact ⟨rfl, s18⟩
        rintro σ H18 ⟨rfl, s18⟩
        have s18' := s16'.trans s18
        walk_at "go"
        refine use_kept (hw.keep (.same s18)) ok' ((hbd.same s18').sub okw.sub) fun H19 s19 => ?_
        rw [kept9 h9 hWF.e]
        walk_at "go"
        refine bool_repr ?_
        walk_at "go"
        refine bool_repr ?_
        refine w_ne rfl ?_
        rw [decide_eq_true rfl]
        walk_at "go"
        refine iteF ?_
        walk_at "go"
        exact ⟨⟨_, _, _, _, _, _, _, rfl⟩, ((s11.trans s12).more s18').more s19⟩
      · rintro σ H11 ⟨⟨v7', v8', v9', v10', v11', v12', v13', rfl⟩, s11⟩
        exact ⟨⟨_, _, _, _, _, _, _, _, _, _, _, _, _, rfl⟩, s0.trans ((st10.trans s11).old s1 nb)⟩
    · rintro σ H' ⟨⟨v1, v2, v3, v4, v5, v6, v7, v8, v9, v10, v11, v12, v13, rfl⟩, s0⟩
      walk_at "go"
      exact k _
end
theorem all_mk {P : Program} {w : World} {K : PySem.W.Frag} {h : Heap} {mg : Str → Option Value} {fa : Addr} (X : K.In h) (G : h.Ns mainGlobals mg) (hfa : mg "law" = some (.ref fa))
    {c_Band : Addr}
    {f_is_whole : Addr} {od_is_whole an_is_whole : Option Addr} {sl_is_whole : Array (Option Value)} {oc_is_whole kV_is_whole dc_is_whole pm_is_whole cd_is_whole ct_is_whole : Value}
    {f_hands_of : Addr} {od_hands_of an_hands_of : Option Addr} {sl_hands_of : Array (Option Value)} {oc_hands_of kV_hands_of dc_hands_of pm_hands_of cd_hands_of ct_hands_of : Value}
    {f_sum_of : Addr} {od_sum_of an_sum_of : Option Addr} {sl_sum_of : Array (Option Value)} {oc_sum_of kV_sum_of dc_sum_of pm_sum_of cd_sum_of ct_sum_of : Value}
    {f_worth_of : Addr} {od_worth_of an_worth_of : Option Addr} {sl_worth_of : Array (Option Value)} {oc_worth_of kV_worth_of dc_worth_of pm_worth_of cd_worth_of ct_worth_of : Value}
    {f_added : Addr} {od_added an_added : Option Addr} {sl_added : Array (Option Value)} {oc_added kV_added dc_added pm_added cd_added ct_added : Value}
    {f_weighed : Addr} {od_weighed an_weighed : Option Addr} {sl_weighed : Array (Option Value)} {oc_weighed kV_weighed dc_weighed pm_weighed cd_weighed ct_weighed : Value}
    {f_sum_ends : Addr} {od_sum_ends an_sum_ends : Option Addr} {sl_sum_ends : Array (Option Value)} {oc_sum_ends kV_sum_ends dc_sum_ends pm_sum_ends cd_sum_ends ct_sum_ends : Value}
    {f_told_sum : Addr} {od_told_sum an_told_sum : Option Addr} {sl_told_sum : Array (Option Value)} {oc_told_sum kV_told_sum dc_told_sum pm_told_sum cd_told_sum ct_told_sum : Value}
    {f_told_over : Addr} {od_told_over an_told_over : Option Addr} {sl_told_over : Array (Option Value)} {oc_told_over kV_told_over dc_told_over pm_told_over cd_told_over ct_told_over : Value}
    {f_told_most : Addr} {od_told_most an_told_most : Option Addr} {sl_told_most : Array (Option Value)} {oc_told_most kV_told_most dc_told_most pm_told_most cd_told_most ct_told_most : Value}
    {f_told_count : Addr} {od_told_count an_told_count : Option Addr} {sl_told_count : Array (Option Value)} {oc_told_count kV_told_count dc_told_count pm_told_count cd_told_count ct_told_count : Value}
    {f_told_of : Addr} {od_told_of an_told_of : Option Addr} {sl_told_of : Array (Option Value)} {oc_told_of kV_told_of dc_told_of pm_told_of cd_told_of ct_told_of : Value}
    {f_is_kept : Addr} {od_is_kept an_is_kept : Option Addr} {sl_is_kept : Array (Option Value)} {oc_is_kept kV_is_kept dc_is_kept pm_is_kept cd_is_kept ct_is_kept : Value}
    {f_is_end : Addr} {od_is_end an_is_end : Option Addr} {sl_is_end : Array (Option Value)} {oc_is_end kV_is_end dc_is_end pm_is_end cd_is_end ct_is_end : Value}
    {f_is_at_most : Addr} {od_is_at_most an_is_at_most : Option Addr} {sl_is_at_most : Array (Option Value)} {oc_is_at_most kV_is_at_most dc_is_at_most pm_is_at_most cd_is_at_most ct_is_at_most : Value}
    {f_Band_init : Addr} {od_Band_init an_Band_init : Option Addr} {sl_Band_init : Array (Option Value)} {oc_Band_init kV_Band_init dc_Band_init pm_Band_init cd_Band_init ct_Band_init : Value}
    {T_Band_init : Addr} {odT_Band_init : Option Addr} {ocT_Band_init : Value} {slT_Band_init : Array (Option Value)} {nT_Band_init : Nat}
    {f_l_bag : Addr} {od_l_bag an_l_bag : Option Addr} {sl_l_bag : Array (Option Value)} {oc_l_bag kV_l_bag dc_l_bag pm_l_bag cd_l_bag ct_l_bag : Value}
    {f_l_take : Addr} {od_l_take an_l_take : Option Addr} {sl_l_take : Array (Option Value)} {oc_l_take kV_l_take dc_l_take pm_l_take cd_l_take ct_l_take : Value}
    {f_l_names : Addr} {od_l_names an_l_names : Option Addr} {sl_l_names : Array (Option Value)} {oc_l_names kV_l_names dc_l_names pm_l_names cd_l_names ct_l_names : Value}
    {f_l_some : Addr} {od_l_some an_l_some : Option Addr} {sl_l_some : Array (Option Value)} {oc_l_some kV_l_some dc_l_some pm_l_some cd_l_some ct_l_some : Value}
    {f_l_watch : Addr} {od_l_watch an_l_watch : Option Addr} {sl_l_watch : Array (Option Value)} {oc_l_watch kV_l_watch dc_l_watch pm_l_watch cd_l_watch ct_l_watch : Value}
    {f_l_drawn_ends : Addr} {od_l_drawn_ends an_l_drawn_ends : Option Addr} {sl_l_drawn_ends : Array (Option Value)} {oc_l_drawn_ends kV_l_drawn_ends dc_l_drawn_ends pm_l_drawn_ends cd_l_drawn_ends ct_l_drawn_ends : Value}
    {f_l_all : Addr} {od_l_all an_l_all : Option Addr} {sl_l_all : Array (Option Value)} {oc_l_all kV_l_all dc_l_all pm_l_all cd_l_all ct_l_all : Value}
    {f_l_far_end : Addr} {od_l_far_end an_l_far_end : Option Addr} {sl_l_far_end : Array (Option Value)} {oc_l_far_end kV_l_far_end dc_l_far_end pm_l_far_end cd_l_far_end ct_l_far_end : Value}
    {f_law : Addr} {od_law an_law : Option Addr} {sl_law : Array (Option Value)} {oc_law kV_law dc_law pm_law cd_law ct_law : Value}
    {c_TELLERS : Addr} {es_TELLERS : Array DictEntry} {nd_TELLERS : Nat}
    {c_WEIGHED : Addr} {ot_WEIGHED : Option Addr} {nt_WEIGHED : Nat} {st_WEIGHED : Array (Option Value)} {tt0_WEIGHED tt1_WEIGHED : Tok}
    (a_Band : PySem.W.nsIn K mainGlobals "Band" = some (some (.ref c_Band)))
    (pg_Band : PySem.W.plainGet K c_Band Str.empty = true)
    (hd_Band : PySem.W.hasDictIn K c_Band = true)
    (po_Band : PySem.W.plainOver K c_Band = true)
    (sa_Band : PySem.W.findIn K (.ref c_Band) "__setattr__" = some (some (.builtin "object.__setattr__")))
    (mk_Band : PySem.W.makesIn K c_Band = true)
    (kc_Band : PySem.W.keepIn K (.ref c_Band) = true)
    (na_Band_low : PySem.W.findIn K (.ref c_Band) "low" = some none)
    (na_Band_high : PySem.W.findIn K (.ref c_Band) "high" = some none)
    (a_is_whole : PySem.W.nsIn K mainGlobals "is_whole" = some (some (.ref f_is_whole)))
    (l_is_whole : K.lookup f_is_whole = some ⟨oc_is_whole, od_is_whole, .func (PySem.W.fnOf "is_whole" "is_whole" (defArgs s_is_whole) (defBody s_is_whole) (defScope s_is_whole) .none kV_is_whole dc_is_whole pm_is_whole an_is_whole cd_is_whole ct_is_whole), sl_is_whole⟩)
    (c_is_whole : PySem.W.codeIn K cd_is_whole "is_whole" = true)
    (k_is_whole : PySem.W.keepIn K (.ref f_is_whole) = true)
    (a_hands_of : PySem.W.nsIn K mainGlobals "hands_of" = some (some (.ref f_hands_of)))
    (l_hands_of : K.lookup f_hands_of = some ⟨oc_hands_of, od_hands_of, .func (PySem.W.fnOf "hands_of" "hands_of" (defArgs s_hands_of) (defBody s_hands_of) (defScope s_hands_of) .none kV_hands_of dc_hands_of pm_hands_of an_hands_of cd_hands_of ct_hands_of), sl_hands_of⟩)
    (c_hands_of : PySem.W.codeIn K cd_hands_of "hands_of" = true)
    (k_hands_of : PySem.W.keepIn K (.ref f_hands_of) = true)
    (a_sum_of : PySem.W.nsIn K mainGlobals "sum_of" = some (some (.ref f_sum_of)))
    (l_sum_of : K.lookup f_sum_of = some ⟨oc_sum_of, od_sum_of, .func (PySem.W.fnOf "sum_of" "sum_of" (defArgs s_sum_of) (defBody s_sum_of) (defScope s_sum_of) .none kV_sum_of dc_sum_of pm_sum_of an_sum_of cd_sum_of ct_sum_of), sl_sum_of⟩)
    (c_sum_of : PySem.W.codeIn K cd_sum_of "sum_of" = true)
    (k_sum_of : PySem.W.keepIn K (.ref f_sum_of) = true)
    (a_worth_of : PySem.W.nsIn K mainGlobals "worth_of" = some (some (.ref f_worth_of)))
    (l_worth_of : K.lookup f_worth_of = some ⟨oc_worth_of, od_worth_of, .func (PySem.W.fnOf "worth_of" "worth_of" (defArgs s_worth_of) (defBody s_worth_of) (defScope s_worth_of) .none kV_worth_of dc_worth_of pm_worth_of an_worth_of cd_worth_of ct_worth_of), sl_worth_of⟩)
    (c_worth_of : PySem.W.codeIn K cd_worth_of "worth_of" = true)
    (k_worth_of : PySem.W.keepIn K (.ref f_worth_of) = true)
    (a_added : PySem.W.nsIn K mainGlobals "added" = some (some (.ref f_added)))
    (l_added : K.lookup f_added = some ⟨oc_added, od_added, .func (PySem.W.fnOf "added" "added" (defArgs s_added) (defBody s_added) (defScope s_added) .none kV_added dc_added pm_added an_added cd_added ct_added), sl_added⟩)
    (c_added : PySem.W.codeIn K cd_added "added" = true)
    (k_added : PySem.W.keepIn K (.ref f_added) = true)
    (a_weighed : PySem.W.nsIn K mainGlobals "weighed" = some (some (.ref f_weighed)))
    (l_weighed : K.lookup f_weighed = some ⟨oc_weighed, od_weighed, .func (PySem.W.fnOf "weighed" "weighed" (defArgs s_weighed) (defBody s_weighed) (defScope s_weighed) .none kV_weighed dc_weighed pm_weighed an_weighed cd_weighed ct_weighed), sl_weighed⟩)
    (c_weighed : PySem.W.codeIn K cd_weighed "weighed" = true)
    (k_weighed : PySem.W.keepIn K (.ref f_weighed) = true)
    (a_sum_ends : PySem.W.nsIn K mainGlobals "sum_ends" = some (some (.ref f_sum_ends)))
    (l_sum_ends : K.lookup f_sum_ends = some ⟨oc_sum_ends, od_sum_ends, .func (PySem.W.fnOf "sum_ends" "sum_ends" (defArgs s_sum_ends) (defBody s_sum_ends) (defScope s_sum_ends) .none kV_sum_ends dc_sum_ends pm_sum_ends an_sum_ends cd_sum_ends ct_sum_ends), sl_sum_ends⟩)
    (c_sum_ends : PySem.W.codeIn K cd_sum_ends "sum_ends" = true)
    (k_sum_ends : PySem.W.keepIn K (.ref f_sum_ends) = true)
    (a_told_sum : PySem.W.nsIn K mainGlobals "told_sum" = some (some (.ref f_told_sum)))
    (l_told_sum : K.lookup f_told_sum = some ⟨oc_told_sum, od_told_sum, .func (PySem.W.fnOf "told_sum" "told_sum" (defArgs s_told_sum) (defBody s_told_sum) (defScope s_told_sum) .none kV_told_sum dc_told_sum pm_told_sum an_told_sum cd_told_sum ct_told_sum), sl_told_sum⟩)
    (c_told_sum : PySem.W.codeIn K cd_told_sum "told_sum" = true)
    (k_told_sum : PySem.W.keepIn K (.ref f_told_sum) = true)
    (a_told_over : PySem.W.nsIn K mainGlobals "told_over" = some (some (.ref f_told_over)))
    (l_told_over : K.lookup f_told_over = some ⟨oc_told_over, od_told_over, .func (PySem.W.fnOf "told_over" "told_over" (defArgs s_told_over) (defBody s_told_over) (defScope s_told_over) .none kV_told_over dc_told_over pm_told_over an_told_over cd_told_over ct_told_over), sl_told_over⟩)
    (c_told_over : PySem.W.codeIn K cd_told_over "told_over" = true)
    (k_told_over : PySem.W.keepIn K (.ref f_told_over) = true)
    (a_told_most : PySem.W.nsIn K mainGlobals "told_most" = some (some (.ref f_told_most)))
    (l_told_most : K.lookup f_told_most = some ⟨oc_told_most, od_told_most, .func (PySem.W.fnOf "told_most" "told_most" (defArgs s_told_most) (defBody s_told_most) (defScope s_told_most) .none kV_told_most dc_told_most pm_told_most an_told_most cd_told_most ct_told_most), sl_told_most⟩)
    (c_told_most : PySem.W.codeIn K cd_told_most "told_most" = true)
    (k_told_most : PySem.W.keepIn K (.ref f_told_most) = true)
    (a_told_count : PySem.W.nsIn K mainGlobals "told_count" = some (some (.ref f_told_count)))
    (l_told_count : K.lookup f_told_count = some ⟨oc_told_count, od_told_count, .func (PySem.W.fnOf "told_count" "told_count" (defArgs s_told_count) (defBody s_told_count) (defScope s_told_count) .none kV_told_count dc_told_count pm_told_count an_told_count cd_told_count ct_told_count), sl_told_count⟩)
    (c_told_count : PySem.W.codeIn K cd_told_count "told_count" = true)
    (k_told_count : PySem.W.keepIn K (.ref f_told_count) = true)
    (a_told_of : PySem.W.nsIn K mainGlobals "told_of" = some (some (.ref f_told_of)))
    (l_told_of : K.lookup f_told_of = some ⟨oc_told_of, od_told_of, .func (PySem.W.fnOf "told_of" "told_of" (defArgs s_told_of) (defBody s_told_of) (defScope s_told_of) .none kV_told_of dc_told_of pm_told_of an_told_of cd_told_of ct_told_of), sl_told_of⟩)
    (c_told_of : PySem.W.codeIn K cd_told_of "told_of" = true)
    (k_told_of : PySem.W.keepIn K (.ref f_told_of) = true)
    (a_is_kept : PySem.W.nsIn K mainGlobals "is_kept" = some (some (.ref f_is_kept)))
    (l_is_kept : K.lookup f_is_kept = some ⟨oc_is_kept, od_is_kept, .func (PySem.W.fnOf "is_kept" "is_kept" (defArgs s_is_kept) (defBody s_is_kept) (defScope s_is_kept) .none kV_is_kept dc_is_kept pm_is_kept an_is_kept cd_is_kept ct_is_kept), sl_is_kept⟩)
    (c_is_kept : PySem.W.codeIn K cd_is_kept "is_kept" = true)
    (k_is_kept : PySem.W.keepIn K (.ref f_is_kept) = true)
    (a_is_end : PySem.W.nsIn K mainGlobals "is_end" = some (some (.ref f_is_end)))
    (l_is_end : K.lookup f_is_end = some ⟨oc_is_end, od_is_end, .func (PySem.W.fnOf "is_end" "is_end" (defArgs s_is_end) (defBody s_is_end) (defScope s_is_end) .none kV_is_end dc_is_end pm_is_end an_is_end cd_is_end ct_is_end), sl_is_end⟩)
    (c_is_end : PySem.W.codeIn K cd_is_end "is_end" = true)
    (k_is_end : PySem.W.keepIn K (.ref f_is_end) = true)
    (a_is_at_most : PySem.W.nsIn K mainGlobals "is_at_most" = some (some (.ref f_is_at_most)))
    (l_is_at_most : K.lookup f_is_at_most = some ⟨oc_is_at_most, od_is_at_most, .func (PySem.W.fnOf "is_at_most" "is_at_most" (defArgs s_is_at_most) (defBody s_is_at_most) (defScope s_is_at_most) .none kV_is_at_most dc_is_at_most pm_is_at_most an_is_at_most cd_is_at_most ct_is_at_most), sl_is_at_most⟩)
    (c_is_at_most : PySem.W.codeIn K cd_is_at_most "is_at_most" = true)
    (k_is_at_most : PySem.W.keepIn K (.ref f_is_at_most) = true)
    (a_Band_init : PySem.W.findIn K (.ref c_Band) "__init__" = some (some (.ref f_Band_init)))
    (i_Band_init : PySem.W.isFn K (.ref f_Band_init) = true)
    (l_Band_init : K.lookup f_Band_init = some ⟨oc_Band_init, od_Band_init, .func (PySem.W.fnOf "__init__" "Band.__init__" (defArgs s_Band_init) (defBody s_Band_init) (defScope s_Band_init) (.ref T_Band_init) kV_Band_init dc_Band_init pm_Band_init an_Band_init cd_Band_init ct_Band_init), sl_Band_init⟩)
    (c_Band_init : PySem.W.codeIn K cd_Band_init "Band.__init__" = true)
    (k_Band_init : PySem.W.keepIn K (.ref f_Band_init) = true)
    (lT_Band_init : K.lookup T_Band_init = some ⟨ocT_Band_init, odT_Band_init, .seq #[.none, .none] nT_Band_init, slT_Band_init⟩)
    (a_l_bag : PySem.W.nsIn K mainGlobals "_law_bag" = some (some (.ref f_l_bag)))
    (l_l_bag : K.lookup f_l_bag = some ⟨oc_l_bag, od_l_bag, .func (PySem.W.fnOf "_law_bag" "_law_bag" (defArgs s_l_bag) (defBody s_l_bag) (defScope s_l_bag) .none kV_l_bag dc_l_bag pm_l_bag an_l_bag cd_l_bag ct_l_bag), sl_l_bag⟩)
    (c_l_bag : PySem.W.codeIn K cd_l_bag "_law_bag" = true)
    (k_l_bag : PySem.W.keepIn K (.ref f_l_bag) = true)
    (a_l_take : PySem.W.nsIn K mainGlobals "_law_take" = some (some (.ref f_l_take)))
    (l_l_take : K.lookup f_l_take = some ⟨oc_l_take, od_l_take, .func (PySem.W.fnOf "_law_take" "_law_take" (defArgs s_l_take) (defBody s_l_take) (defScope s_l_take) .none kV_l_take dc_l_take pm_l_take an_l_take cd_l_take ct_l_take), sl_l_take⟩)
    (c_l_take : PySem.W.codeIn K cd_l_take "_law_take" = true)
    (k_l_take : PySem.W.keepIn K (.ref f_l_take) = true)
    (a_l_names : PySem.W.nsIn K mainGlobals "_law_names" = some (some (.ref f_l_names)))
    (l_l_names : K.lookup f_l_names = some ⟨oc_l_names, od_l_names, .func (PySem.W.fnOf "_law_names" "_law_names" (defArgs s_l_names) (defBody s_l_names) (defScope s_l_names) .none kV_l_names dc_l_names pm_l_names an_l_names cd_l_names ct_l_names), sl_l_names⟩)
    (c_l_names : PySem.W.codeIn K cd_l_names "_law_names" = true)
    (k_l_names : PySem.W.keepIn K (.ref f_l_names) = true)
    (a_l_some : PySem.W.nsIn K mainGlobals "_law_some" = some (some (.ref f_l_some)))
    (l_l_some : K.lookup f_l_some = some ⟨oc_l_some, od_l_some, .func (PySem.W.fnOf "_law_some" "_law_some" (defArgs s_l_some) (defBody s_l_some) (defScope s_l_some) .none kV_l_some dc_l_some pm_l_some an_l_some cd_l_some ct_l_some), sl_l_some⟩)
    (c_l_some : PySem.W.codeIn K cd_l_some "_law_some" = true)
    (k_l_some : PySem.W.keepIn K (.ref f_l_some) = true)
    (a_l_watch : PySem.W.nsIn K mainGlobals "_law_watch" = some (some (.ref f_l_watch)))
    (l_l_watch : K.lookup f_l_watch = some ⟨oc_l_watch, od_l_watch, .func (PySem.W.fnOf "_law_watch" "_law_watch" (defArgs s_l_watch) (defBody s_l_watch) (defScope s_l_watch) .none kV_l_watch dc_l_watch pm_l_watch an_l_watch cd_l_watch ct_l_watch), sl_l_watch⟩)
    (c_l_watch : PySem.W.codeIn K cd_l_watch "_law_watch" = true)
    (k_l_watch : PySem.W.keepIn K (.ref f_l_watch) = true)
    (a_l_drawn_ends : PySem.W.nsIn K mainGlobals "_law_drawn_ends" = some (some (.ref f_l_drawn_ends)))
    (l_l_drawn_ends : K.lookup f_l_drawn_ends = some ⟨oc_l_drawn_ends, od_l_drawn_ends, .func (PySem.W.fnOf "_law_drawn_ends" "_law_drawn_ends" (defArgs s_l_drawn_ends) (defBody s_l_drawn_ends) (defScope s_l_drawn_ends) .none kV_l_drawn_ends dc_l_drawn_ends pm_l_drawn_ends an_l_drawn_ends cd_l_drawn_ends ct_l_drawn_ends), sl_l_drawn_ends⟩)
    (c_l_drawn_ends : PySem.W.codeIn K cd_l_drawn_ends "_law_drawn_ends" = true)
    (k_l_drawn_ends : PySem.W.keepIn K (.ref f_l_drawn_ends) = true)
    (a_l_all : PySem.W.nsIn K mainGlobals "_law_all" = some (some (.ref f_l_all)))
    (l_l_all : K.lookup f_l_all = some ⟨oc_l_all, od_l_all, .func (PySem.W.fnOf "_law_all" "_law_all" (defArgs s_l_all) (defBody s_l_all) (defScope s_l_all) .none kV_l_all dc_l_all pm_l_all an_l_all cd_l_all ct_l_all), sl_l_all⟩)
    (c_l_all : PySem.W.codeIn K cd_l_all "_law_all" = true)
    (k_l_all : PySem.W.keepIn K (.ref f_l_all) = true)
    (a_l_far_end : PySem.W.nsIn K mainGlobals "_law_far_end" = some (some (.ref f_l_far_end)))
    (l_l_far_end : K.lookup f_l_far_end = some ⟨oc_l_far_end, od_l_far_end, .func (PySem.W.fnOf "_law_far_end" "_law_far_end" (defArgs s_l_far_end) (defBody s_l_far_end) (defScope s_l_far_end) .none kV_l_far_end dc_l_far_end pm_l_far_end an_l_far_end cd_l_far_end ct_l_far_end), sl_l_far_end⟩)
    (c_l_far_end : PySem.W.codeIn K cd_l_far_end "_law_far_end" = true)
    (k_l_far_end : PySem.W.keepIn K (.ref f_l_far_end) = true)
    (a_law : PySem.W.nsIn K mainGlobals "law" = some (some (.ref f_law)))
    (l_law : K.lookup f_law = some ⟨oc_law, od_law, .func (PySem.W.fnOf "law" "law" (defArgs s_law) (defBody s_law) (defScope s_law) .none kV_law dc_law pm_law an_law cd_law ct_law), sl_law⟩)
    (c_law : PySem.W.codeIn K cd_law "law" = true)
    (k_law : PySem.W.keepIn K (.ref f_law) = true)
    (z_len : PySem.W.nsIn K mainGlobals "len" = some none)
    (z_abs : PySem.W.nsIn K mainGlobals "abs" = some none)
    (z_max : PySem.W.nsIn K mainGlobals "max" = some none)
    (z_min : PySem.W.nsIn K mainGlobals "min" = some none)
    (z_isinstance : PySem.W.nsIn K mainGlobals "isinstance" = some none)
    (z_range : PySem.W.nsIn K mainGlobals "range" = some none)
    (z_sum : PySem.W.nsIn K mainGlobals "sum" = some none)
    (z_sorted : PySem.W.nsIn K mainGlobals "sorted" = some none)
    (z_tuple : PySem.W.nsIn K mainGlobals "tuple" = some none)
    (z_dict : PySem.W.nsIn K mainGlobals "dict" = some none)
    (z_int : PySem.W.nsIn K mainGlobals "int" = some none)
    (z_bool : PySem.W.nsIn K mainGlobals "bool" = some none)
    (z_list : PySem.W.nsIn K mainGlobals "list" = some none)
    (z_repr : PySem.W.nsIn K mainGlobals "repr" = some none)
    (z_set : PySem.W.nsIn K mainGlobals "set" = some none)
    (a_TELLERS : PySem.W.nsIn K mainGlobals "TELLERS" = some (some (.ref c_TELLERS)))
    (ld_TELLERS : K.lookup c_TELLERS = some ⟨.type "dict", none, .dict es_TELLERS nd_TELLERS, #[]⟩)
    (kl_TELLERS : PySem.W.KeysLit w.params es_TELLERS.toList)
    (kv_TELLERS_sum : PySem.W.nsIn K c_TELLERS "sum" = some (some (.ref f_told_sum)))
    (kv_TELLERS_over : PySem.W.nsIn K c_TELLERS "over" = some (some (.ref f_told_over)))
    (kv_TELLERS_most : PySem.W.nsIn K c_TELLERS "most" = some (some (.ref f_told_most)))
    (kv_TELLERS_count : PySem.W.nsIn K c_TELLERS "count" = some (some (.ref f_told_count)))
    (a_WEIGHED : PySem.W.nsIn K mainGlobals "WEIGHED" = some (some (.ref c_WEIGHED)))
    (lt_WEIGHED : K.lookup c_WEIGHED = some ⟨.type "tuple", ot_WEIGHED, .seq #[.str (Str.ofString "sum") tt0_WEIGHED, .str (Str.ofString "over") tt1_WEIGHED] nt_WEIGHED, st_WEIGHED⟩)
    : ∃ fd : FuncData, (∀ (s : Shared) (v : Value), BindsTo s fd ⟨[v], []⟩ [("_law_script", v)]) ∧ ∀ base : Heap, K.In base → base.Ns mainGlobals mg → FnG P w K mg base CX0 6 fa fd ["_law_script"] (spLaw K) := by
  have e := hfa.symm.trans (PySem.W.mg_of X G a_law)
  have e2 : f_law = fa := by injection e with e; injection e with e; exact e.symm
  subst e2
  have F_is_whole := fun_mk (st := s_is_whole) l_is_whole c_is_whole k_is_whole
  have b_is_whole := F_is_whole.binds (ps := ["thing"]) fun _ _ _ _ _ _ us hl => match us, hl with | [_], _ => rfl
  have F_hands_of := fun_mk (st := s_hands_of) l_hands_of c_hands_of k_hands_of
  have b_hands_of := F_hands_of.binds (ps := ["watch"]) fun _ _ _ _ _ _ us hl => match us, hl with | [_], _ => rfl
  have F_sum_of := fun_mk (st := s_sum_of) l_sum_of c_sum_of k_sum_of
  have b_sum_of := F_sum_of.binds (ps := ["watch", "numbers"]) fun _ _ _ _ _ _ us hl => match us, hl with | [_, _], _ => rfl
  have F_worth_of := fun_mk (st := s_worth_of) l_worth_of c_worth_of k_worth_of
  have b_worth_of := F_worth_of.binds (ps := ["watch", "numbers"]) fun _ _ _ _ _ _ us hl => match us, hl with | [_, _], _ => rfl
  have F_added := fun_mk (st := s_added) l_added c_added k_added
  have b_added := F_added.binds (ps := ["ends"]) fun _ _ _ _ _ _ us hl => match us, hl with | [_], _ => rfl
  have F_weighed := fun_mk (st := s_weighed) l_weighed c_weighed k_weighed
  have b_weighed := F_weighed.binds (ps := ["weight", "end"]) fun _ _ _ _ _ _ us hl => match us, hl with | [_, _], _ => rfl
  have F_sum_ends := fun_mk (st := s_sum_ends) l_sum_ends c_sum_ends k_sum_ends
  have b_sum_ends := F_sum_ends.binds (ps := ["some", "bands"]) fun _ _ _ _ _ _ us hl => match us, hl with | [_, _], _ => rfl
  have F_told_sum := fun_mk (st := s_told_sum) l_told_sum c_told_sum k_told_sum
  have b_told_sum := F_told_sum.binds (ps := ["some", "limit", "bands"]) fun _ _ _ _ _ _ us hl => match us, hl with | [_, _, _], _ => rfl
  have F_told_over := fun_mk (st := s_told_over) l_told_over c_told_over k_told_over
  have b_told_over := F_told_over.binds (ps := ["some", "limit", "bands"]) fun _ _ _ _ _ _ us hl => match us, hl with | [_, _, _], _ => rfl
  have F_told_most := fun_mk (st := s_told_most) l_told_most c_told_most k_told_most
  have b_told_most := F_told_most.binds (ps := ["some", "limit", "bands"]) fun _ _ _ _ _ _ us hl => match us, hl with | [_, _, _], _ => rfl
  have F_told_count := fun_mk (st := s_told_count) l_told_count c_told_count k_told_count
  have b_told_count := F_told_count.binds (ps := ["some", "limit", "bands"]) fun _ _ _ _ _ _ us hl => match us, hl with | [_, _, _], _ => rfl
  have F_told_of := fun_mk (st := s_told_of) l_told_of c_told_of k_told_of
  have b_told_of := F_told_of.binds (ps := ["watch", "bands"]) fun _ _ _ _ _ _ us hl => match us, hl with | [_, _], _ => rfl
  have F_is_kept := fun_mk (st := s_is_kept) l_is_kept c_is_kept k_is_kept
  have b_is_kept := F_is_kept.binds (ps := ["watch", "bands"]) fun _ _ _ _ _ _ us hl => match us, hl with | [_, _], _ => rfl
  have F_is_end := fun_mk (st := s_is_end) l_is_end c_is_end k_is_end
  have b_is_end := F_is_end.binds (ps := ["thing"]) fun _ _ _ _ _ _ us hl => match us, hl with | [_], _ => rfl
  have F_is_at_most := fun_mk (st := s_is_at_most) l_is_at_most c_is_at_most k_is_at_most
  have b_is_at_most := F_is_at_most.binds (ps := ["low", "high"]) fun _ _ _ _ _ _ us hl => match us, hl with | [_, _], _ => rfl
  have D_Band_init : FunD K "__init__" "Band.__init__" (defArgs s_Band_init) (defBody s_Band_init) (defScope s_Band_init) [.non, .non] [] f_Band_init _ := ⟨⟨oc_Band_init, od_Band_init, .ref T_Band_init, kV_Band_init, dc_Band_init, pm_Band_init, an_Band_init, cd_Band_init, ct_Band_init, sl_Band_init, rfl, l_Band_init, c_Band_init, .inr ⟨by simp, T_Band_init, _, [.none, .none], nT_Band_init, rfl, lT_Band_init, rfl, (.cons rfl (.cons rfl .nil))⟩, .inl rfl⟩, k_Band_init⟩
  obtain ⟨ds_Band_init, vd_Band_init, b_Band_init⟩ := D_Band_init.binds1 (ps := ["self", "low", "high"]) 3 2 (by simp) rfl (fun T kV doc pm an cdv ct us its h1 h2 => match us, its, h1, h2 with | [_, _, _], [_, _], _, _ => ⟨_, rfl, rfl⟩)
  have vd_Band_init : Vals [] ds_Band_init := vd_Band_init
  cases vd_Band_init
  have b0_Band_init := D_Band_init.binds1 (ps := ["self", "low", "high"]) 1 0 (by simp) rfl (fun T kV doc pm an cdv ct us its h1 h2 => match us, its, h1, h2 with | [_], [_, _], _, _ => ⟨_, rfl, rfl⟩)
  have b1_Band_init := D_Band_init.binds1 (ps := ["self", "low", "high"]) 2 1 (by simp) rfl (fun T kV doc pm an cdv ct us its h1 h2 => match us, its, h1, h2 with | [_, _], [_, _], _, _ => ⟨_, rfl, rfl⟩)
  have F_l_bag := fun_mk (st := s_l_bag) l_l_bag c_l_bag k_l_bag
  have b_l_bag := F_l_bag.binds (ps := ["_law_script", "_law_at"]) fun _ _ _ _ _ _ us hl => match us, hl with | [_, _], _ => rfl
  have F_l_take := fun_mk (st := s_l_take) l_l_take c_l_take k_l_take
  have b_l_take := F_l_take.binds (ps := ["_law_bag_here", "_law_many"]) fun _ _ _ _ _ _ us hl => match us, hl with | [_, _], _ => rfl
  have F_l_names := fun_mk (st := s_l_names) l_l_names c_l_names k_l_names
  have b_l_names := F_l_names.binds (ps := ["_law_bag_here", "_law_many"]) fun _ _ _ _ _ _ us hl => match us, hl with | [_, _], _ => rfl
  have F_l_some := fun_mk (st := s_l_some) l_l_some c_l_some k_l_some
  have b_l_some := F_l_some.binds (ps := ["_law_bag_here", "_law_names_here"]) fun _ _ _ _ _ _ us hl => match us, hl with | [_, _], _ => rfl
  have F_l_watch := fun_mk (st := s_l_watch) l_l_watch c_l_watch k_l_watch
  have b_l_watch := F_l_watch.binds (ps := ["_law_bag_here", "_law_names_here", "_law_middles"]) fun _ _ _ _ _ _ us hl => match us, hl with | [_, _, _], _ => rfl
  have F_l_drawn_ends := fun_mk (st := s_l_drawn_ends) l_l_drawn_ends c_l_drawn_ends k_l_drawn_ends
  have b_l_drawn_ends := F_l_drawn_ends.binds (ps := ["_law_bag_here"]) fun _ _ _ _ _ _ us hl => match us, hl with | [_], _ => rfl
  have F_l_all := fun_mk (st := s_l_all) l_l_all c_l_all k_l_all
  have b_l_all := F_l_all.binds (ps := ["_law_names_here", "_law_places"]) fun _ _ _ _ _ _ us hl => match us, hl with | [_, _], _ => rfl
  have F_l_far_end := fun_mk (st := s_l_far_end) l_l_far_end c_l_far_end k_l_far_end
  have b_l_far_end := F_l_far_end.binds (ps := ["_law_names_here", "_law_places", "_law_watch_here", "_law_worths"]) fun _ _ _ _ _ _ us hl => match us, hl with | [_, _, _, _], _ => rfl
  have F_law := fun_mk (st := s_law) l_law c_law k_law
  have b_law := F_law.binds (ps := ["_law_script"]) fun _ _ _ _ _ _ us hl => match us, hl with | [_], _ => rfl
  have T : Gk w K mg ⟨c_Band, c_TELLERS, c_WEIGHED, f_is_whole, _, f_hands_of, _, f_sum_of, _, f_worth_of, _, f_added, _, f_weighed, _, f_sum_ends, _, f_told_sum, _, f_told_over, _, f_told_most, _, f_told_count, _, f_told_of, _, f_is_kept, _, f_is_end, _, f_is_at_most, _, f_Band_init, _, f_l_bag, _, f_l_take, _, f_l_names, _, f_l_some, _, f_l_watch, _, f_l_drawn_ends, _, f_l_all, _, f_l_far_end, _, f_law, _⟩ := {
    m_Band := PySem.W.mg_of X G a_Band,
    cl_Band := ⟨pg_Band, hd_Band, po_Band, sa_Band⟩,
    na_Band_low := na_Band_low,
    na_Band_high := na_Band_high,
    F_is_whole := F_is_whole,
    b_is_whole := b_is_whole,
    m_is_whole := PySem.W.mg_of X G a_is_whole,
    F_hands_of := F_hands_of,
    b_hands_of := b_hands_of,
    m_hands_of := PySem.W.mg_of X G a_hands_of,
    F_sum_of := F_sum_of,
    b_sum_of := b_sum_of,
    m_sum_of := PySem.W.mg_of X G a_sum_of,
    F_worth_of := F_worth_of,
    b_worth_of := b_worth_of,
    m_worth_of := PySem.W.mg_of X G a_worth_of,
    F_added := F_added,
    b_added := b_added,
    m_added := PySem.W.mg_of X G a_added,
    F_weighed := F_weighed,
    b_weighed := b_weighed,
    m_weighed := PySem.W.mg_of X G a_weighed,
    F_sum_ends := F_sum_ends,
    b_sum_ends := b_sum_ends,
    m_sum_ends := PySem.W.mg_of X G a_sum_ends,
    F_told_sum := F_told_sum,
    b_told_sum := b_told_sum,
    m_told_sum := PySem.W.mg_of X G a_told_sum,
    F_told_over := F_told_over,
    b_told_over := b_told_over,
    m_told_over := PySem.W.mg_of X G a_told_over,
    F_told_most := F_told_most,
    b_told_most := b_told_most,
    m_told_most := PySem.W.mg_of X G a_told_most,
    F_told_count := F_told_count,
    b_told_count := b_told_count,
    m_told_count := PySem.W.mg_of X G a_told_count,
    F_told_of := F_told_of,
    b_told_of := b_told_of,
    m_told_of := PySem.W.mg_of X G a_told_of,
    F_is_kept := F_is_kept,
    b_is_kept := b_is_kept,
    m_is_kept := PySem.W.mg_of X G a_is_kept,
    F_is_end := F_is_end,
    b_is_end := b_is_end,
    m_is_end := PySem.W.mg_of X G a_is_end,
    F_is_at_most := F_is_at_most,
    b_is_at_most := b_is_at_most,
    m_is_at_most := PySem.W.mg_of X G a_is_at_most,
    D_Band_init := D_Band_init,
    b_Band_init := b_Band_init,
    b0_Band_init := b0_Band_init,
    b1_Band_init := b1_Band_init,
    k_Band := ⟨mk_Band, a_Band_init, i_Band_init, kc_Band⟩,
    F_l_bag := F_l_bag,
    b_l_bag := b_l_bag,
    m_l_bag := PySem.W.mg_of X G a_l_bag,
    F_l_take := F_l_take,
    b_l_take := b_l_take,
    m_l_take := PySem.W.mg_of X G a_l_take,
    F_l_names := F_l_names,
    b_l_names := b_l_names,
    m_l_names := PySem.W.mg_of X G a_l_names,
    F_l_some := F_l_some,
    b_l_some := b_l_some,
    m_l_some := PySem.W.mg_of X G a_l_some,
    F_l_watch := F_l_watch,
    b_l_watch := b_l_watch,
    m_l_watch := PySem.W.mg_of X G a_l_watch,
    F_l_drawn_ends := F_l_drawn_ends,
    b_l_drawn_ends := b_l_drawn_ends,
    m_l_drawn_ends := PySem.W.mg_of X G a_l_drawn_ends,
    F_l_all := F_l_all,
    b_l_all := b_l_all,
    m_l_all := PySem.W.mg_of X G a_l_all,
    F_l_far_end := F_l_far_end,
    b_l_far_end := b_l_far_end,
    m_l_far_end := PySem.W.mg_of X G a_l_far_end,
    F_law := F_law,
    b_law := b_law,
    m_law := PySem.W.mg_of X G a_law,
    z_len := PySem.W.mg_none_of X G z_len,
    z_abs := PySem.W.mg_none_of X G z_abs,
    z_max := PySem.W.mg_none_of X G z_max,
    z_min := PySem.W.mg_none_of X G z_min,
    z_isinstance := PySem.W.mg_none_of X G z_isinstance,
    z_range := PySem.W.mg_none_of X G z_range,
    z_sum := PySem.W.mg_none_of X G z_sum,
    z_sorted := PySem.W.mg_none_of X G z_sorted,
    z_tuple := PySem.W.mg_none_of X G z_tuple,
    z_dict := PySem.W.mg_none_of X G z_dict,
    z_int := PySem.W.mg_none_of X G z_int,
    z_bool := PySem.W.mg_none_of X G z_bool,
    z_list := PySem.W.mg_none_of X G z_list,
    z_repr := PySem.W.mg_none_of X G z_repr,
    z_set := PySem.W.mg_none_of X G z_set,
    m_TELLERS := PySem.W.mg_of X G a_TELLERS,
    kd_TELLERS_sum := ⟨es_TELLERS, nd_TELLERS, _, ld_TELLERS, kl_TELLERS, kv_TELLERS_sum, rfl⟩,
    kd_TELLERS_over := ⟨es_TELLERS, nd_TELLERS, _, ld_TELLERS, kl_TELLERS, kv_TELLERS_over, rfl⟩,
    kd_TELLERS_most := ⟨es_TELLERS, nd_TELLERS, _, ld_TELLERS, kl_TELLERS, kv_TELLERS_most, rfl⟩,
    kd_TELLERS_count := ⟨es_TELLERS, nd_TELLERS, _, ld_TELLERS, kl_TELLERS, kv_TELLERS_count, rfl⟩,
    m_WEIGHED := PySem.W.mg_of X G a_WEIGHED,
    tp_WEIGHED := fun H => .inr ⟨_, _, _, lt_WEIGHED, rfl, rfl, by show 2 ≤ sizeLine; decide, (.cons ⟨_, rfl⟩ (.cons ⟨_, rfl⟩ .nil))⟩ }
  exact ⟨_, fun s v => .of_eq rfl, fun base _ _ => ok_law T⟩
end Sil
open PySem PySem.W PyProof.Rows
set_option maxRecDepth 100000 in
set_option maxHeartbeats 0 in
theorem PySem.Challenge.cw_silencetells_k09_whole_told_is_what_can_holds : PySem.Challenge.rw_silencetells_k09_whole_told_is_what_can.Holds := by
  w_on; o_law; k_head; (case hw => w_witness2)
  k_fill
  refine Sil.walkG (l := PySem.Challenge.rw_silencetells_k09_whole_told_is_what_can) (k := 6) (sp := Sil.spLaw) (x := "_law_script") rfl rfl ⟨rfl, by decide, by decide⟩ (fun w h Y => PySem.W.kIn_of Y) ?F Sil.spLaw_use
  case F =>
    intro w mg fa h KX G hmg
    refine' Sil.all_mk KX G hmg ?a_Band ?pg_Band ?hd_Band ?po_Band ?sa_Band ?mk_Band ?kc_Band ?na_Band_low ?na_Band_high ?a_is_whole ?l_is_whole ?c_is_whole ?k_is_whole ?a_hands_of ?l_hands_of ?c_hands_of ?k_hands_of ?a_sum_of ?l_sum_of ?c_sum_of ?k_sum_of ?a_worth_of ?l_worth_of ?c_worth_of ?k_worth_of ?a_added ?l_added ?c_added ?k_added ?a_weighed ?l_weighed ?c_weighed ?k_weighed ?a_sum_ends ?l_sum_ends ?c_sum_ends ?k_sum_ends ?a_told_sum ?l_told_sum ?c_told_sum ?k_told_sum ?a_told_over ?l_told_over ?c_told_over ?k_told_over ?a_told_most ?l_told_most ?c_told_most ?k_told_most ?a_told_count ?l_told_count ?c_told_count ?k_told_count ?a_told_of ?l_told_of ?c_told_of ?k_told_of ?a_is_kept ?l_is_kept ?c_is_kept ?k_is_kept ?a_is_end ?l_is_end ?c_is_end ?k_is_end ?a_is_at_most ?l_is_at_most ?c_is_at_most ?k_is_at_most ?a_Band_init ?i_Band_init ?l_Band_init ?c_Band_init ?k_Band_init ?lT_Band_init ?a_l_bag ?l_l_bag ?c_l_bag ?k_l_bag ?a_l_take ?l_l_take ?c_l_take ?k_l_take ?a_l_names ?l_l_names ?c_l_names ?k_l_names ?a_l_some ?l_l_some ?c_l_some ?k_l_some ?a_l_watch ?l_l_watch ?c_l_watch ?k_l_watch ?a_l_drawn_ends ?l_l_drawn_ends ?c_l_drawn_ends ?k_l_drawn_ends ?a_l_all ?l_l_all ?c_l_all ?k_l_all ?a_l_far_end ?l_l_far_end ?c_l_far_end ?k_l_far_end ?a_law ?l_law ?c_law ?k_law ?z_len ?z_abs ?z_max ?z_min ?z_isinstance ?z_range ?z_sum ?z_sorted ?z_tuple ?z_dict ?z_int ?z_bool ?z_list ?z_repr ?z_set ?a_TELLERS ?ld_TELLERS ?kl_TELLERS ?kv_TELLERS_sum ?kv_TELLERS_over ?kv_TELLERS_most ?kv_TELLERS_count ?a_WEIGHED ?lt_WEIGHED
    (case a_Band => k_is); (case pg_Band => k_is); (case hd_Band => k_is); (case po_Band => k_is); (case sa_Band => k_is); (case mk_Band => k_is); (case kc_Band => k_is); (case na_Band_low => k_is); (case na_Band_high => k_is); (case a_is_whole => k_is); (case l_is_whole => k_is); (case c_is_whole => k_is); (case k_is_whole => k_is); (case a_hands_of => k_is); (case l_hands_of => k_is); (case c_hands_of => k_is); (case k_hands_of => k_is); (case a_sum_of => k_is); (case l_sum_of => k_is); (case c_sum_of => k_is); (case k_sum_of => k_is); (case a_worth_of => k_is); (case l_worth_of => k_is); (case c_worth_of => k_is); (case k_worth_of => k_is); (case a_added => k_is); (case l_added => k_is); (case c_added => k_is); (case k_added => k_is); (case a_weighed => k_is); (case l_weighed => k_is); (case c_weighed => k_is); (case k_weighed => k_is); (case a_sum_ends => k_is); (case l_sum_ends => k_is); (case c_sum_ends => k_is); (case k_sum_ends => k_is); (case a_told_sum => k_is); (case l_told_sum => k_is); (case c_told_sum => k_is); (case k_told_sum => k_is); (case a_told_over => k_is); (case l_told_over => k_is); (case c_told_over => k_is); (case k_told_over => k_is); (case a_told_most => k_is); (case l_told_most => k_is); (case c_told_most => k_is); (case k_told_most => k_is); (case a_told_count => k_is); (case l_told_count => k_is); (case c_told_count => k_is); (case k_told_count => k_is); (case a_told_of => k_is); (case l_told_of => k_is); (case c_told_of => k_is); (case k_told_of => k_is); (case a_is_kept => k_is); (case l_is_kept => k_is); (case c_is_kept => k_is); (case k_is_kept => k_is); (case a_is_end => k_is); (case l_is_end => k_is); (case c_is_end => k_is); (case k_is_end => k_is); (case a_is_at_most => k_is); (case l_is_at_most => k_is); (case c_is_at_most => k_is); (case k_is_at_most => k_is); (case a_Band_init => k_is); (case i_Band_init => k_is); (case l_Band_init => k_is); (case c_Band_init => k_is); (case k_Band_init => k_is); (case lT_Band_init => k_is); (case a_l_bag => k_is); (case l_l_bag => k_is); (case c_l_bag => k_is); (case k_l_bag => k_is); (case a_l_take => k_is); (case l_l_take => k_is); (case c_l_take => k_is); (case k_l_take => k_is); (case a_l_names => k_is); (case l_l_names => k_is); (case c_l_names => k_is); (case k_l_names => k_is); (case a_l_some => k_is); (case l_l_some => k_is); (case c_l_some => k_is); (case k_l_some => k_is); (case a_l_watch => k_is); (case l_l_watch => k_is); (case c_l_watch => k_is); (case k_l_watch => k_is); (case a_l_drawn_ends => k_is); (case l_l_drawn_ends => k_is); (case c_l_drawn_ends => k_is); (case k_l_drawn_ends => k_is); (case a_l_all => k_is); (case l_l_all => k_is); (case c_l_all => k_is); (case k_l_all => k_is); (case a_l_far_end => k_is); (case l_l_far_end => k_is); (case c_l_far_end => k_is); (case k_l_far_end => k_is); (case a_law => k_is); (case l_law => k_is); (case c_law => k_is); (case k_law => k_is); (case z_len => k_is); (case z_abs => k_is); (case z_max => k_is); (case z_min => k_is); (case z_isinstance => k_is); (case z_range => k_is); (case z_sum => k_is); (case z_sorted => k_is); (case z_tuple => k_is); (case z_dict => k_is); (case z_int => k_is); (case z_bool => k_is); (case z_list => k_is); (case z_repr => k_is); (case z_set => k_is); (case a_TELLERS => k_is); (case ld_TELLERS => k_is); (case kl_TELLERS => exact ⟨⟨_, _, rfl, rfl⟩, ⟨_, _, rfl, rfl⟩, ⟨_, _, rfl, rfl⟩, ⟨_, _, rfl, rfl⟩, trivial⟩); (case kv_TELLERS_sum => k_is); (case kv_TELLERS_over => k_is); (case kv_TELLERS_most => k_is); (case kv_TELLERS_count => k_is); (case a_WEIGHED => k_is); (case lt_WEIGHED => k_is)
#print axioms PySem.Challenge.cw_silencetells_k09_whole_told_is_what_can_holds
