import PyProof.Rows.All
import Wide.All
import OpenK.AllK
import Wide.FinOn
import PyProof.EqAt
import PyProof.EqKinds
import PyProof.TupleCall
import HandS.ForMost
import HandS.Wide
import HandS.IsInst
import HandS.Walk
import HandS.Style
import PySem.Challenge.RW_cutbehind_k01_integers_signs_texts_and_p
set_option Elab.async false
set_option linter.all false
set_option maxRecDepth 100000
set_option maxHeartbeats 4000000
/-! The part that every claim shares: defs that are run where no repr is under way (FnG), and rules for what the hand layer lacks. -/
namespace G
open PySem PySem.Spec PyProof.Rows L2
/-! ### a def's promise where no guarded builtin is running -/
structure FnG (P : Program) (w : World) (K : PySem.W.Frag) (mg : Str → Option Value) (base : Heap) (CX : CXT) (k : Nat) (f : Addr) (fd : FuncData) (ps : List Str) (sp : Sp) : Prop where
  cnt : ∀ {vs H Q E}, sp vs H Q E → vs.length = ps.length
  go : ∀ {A : Around} {outer : List Env} {s : Shared} {H : Hp} {args : Args} {us : List Value} {vs : List V} {Q : VK} {E : XK}, A.guards = some [] → Room k A → Env0 P w K mg base A outer s H →
    BindsTo s fd args (ps.zip us) → Vals vs us → sp vs H Q E → codeAny (model P w) A (.call (.ref f) args) (CR CX outer P w H s Q E) s
section
variable {P : Program} {w : World} {K : PySem.W.Frag} {mg : Str → Option Value} {base : Heap} {CX : CXT} {k : Nat} {f : Addr} {fd : FuncData} {ps : List Str} {sp : Sp}
theorem FnG.of (F : FnOk P w K mg base CX k f fd ps sp) : FnG P w K mg base CX k f fd ps sp :=
  ⟨fun h => F.len _ _ _ _ h, fun {A outer s H args us vs Q E} _ hr e0 hb hv hs => F.run A outer s H args us vs Q E hr e0 hb hv hs⟩
theorem FnG.mono {j : Nat} (F : FnG P w K mg base CX j f fd ps sp) (h : j ≤ k) : FnG P w K mg base CX k f fd ps sp :=
  ⟨F.cnt, fun hg hr => F.go hg (hr.mono h)⟩
end
/-- the rule for a def of the text, by its body; the body's reader is told that nothing guarded runs -/
theorem fn_g {CX : CXT} {P : Program} {w : World} {K : PySem.W.Frag} {mg : Str → Option Value} {base : Heap} {k : Nat} {f : Addr} {x qual : Str} {st : Stmt} {fd : FuncData} {N ps : List Str} {sp : Sp}
    (F : Fun K x qual st f fd) (S : FnScope N ps (defScope st)) (cnt : ∀ vs H Q E, sp vs H Q E → vs.length = ps.length)
    (body : ∀ (cdv : Value) (A : Around) (outer : List Env) (s : Shared) (H : Hp) (vs : List V) (Q : VK) (E : XK), (A.deeper (envOfC qual (defScope st) s.heap.objs.size f cdv)).guards = some [] →
      Room k (A.deeper (envOfC qual (defScope st) s.heap.objs.size f cdv)) → sp vs H Q E →
      ∃ t, PSs (cxOf CX P w K mg base N qual (defScope st) f cdv A outer s H E) (defBody st) t ∧ t { nx := fun _ H' => Q .non H', rt := Q } (start N vs) H) :
    FnG P w K mg base CX (k + 1) f fd ps sp := by
  obtain ⟨oc, od, kV, doc, pm, an, cdv, ct, osl, hfd, look, code⟩ := F.ex
  subst hfd
  refine ⟨fun h => cnt _ _ _ _ h, ?_⟩
  intro A outer s H args us vs Q E hg room env0 hbind hvals want
  have kin : K.In s.heap := env0.mod.kin.keeps fun b o q => (env0.bs b o q).1
  have nolim : s.heap.NoLimit := env0.mod.nolimit.keeps fun b o q => (env0.bs b o q).1
  have kinds : ∀ y ∈ ps.zip us, (defScope st).names.lookup y.1 = some .local ∨ ((defScope st).names.lookup y.1 = some .cell ∧ ((cellsFrom (s.heap.objs.size + 1) (defScope st).names []).lookup y.1).isSome = true) := by
    rintro ⟨n, v⟩ hy
    cases S.par n (List.of_mem_zip hy).1 with
    | inl q => exact Or.inl q
    | inr q => exact Or.inr ⟨q, PySem.W.cellsFrom_some _ _ _ (Or.inl q)⟩
  refine codeAny_call_function room.depth (kin _ _ look) rfl S.co S.gen rfl (PySem.W.codeRec_of kin code) (hbind _ _ _ _ ?_)
  refine wpAny_newFunctionEnv_cells S.kind kinds ?_
  intro env he s1 z
  subst he
  refine ⟨nolim.keeps z.toInCall.keep, codeAny_func ?_⟩
  obtain ⟨t, ht, hq⟩ := body cdv A outer s H vs Q E hg (room.deeper _) want
  have I0 := inv_start (CX := CX) (P := P) (w := w) (mg := mg) (base := base) (qual := qual) (E := E) S room.hd env0 (cnt _ _ _ _ want) hvals z
  refine wpAny_mono (ht.run [] s1 (start N vs) H _ I0 hq) ?_ (fun _ _ q => q)
  intro fl s' hs
  cases fl with
  | ret u =>
    obtain ⟨v, σ', H', J, rv, q⟩ := hs
    exact ⟨v, H', J.os, J.bare, J.base, J.hok, rv, q⟩
  | next =>
    obtain ⟨σ', H', J, q⟩ := hs
    exact ⟨V.non, H', J.os, J.bare, J.base, J.hok, rfl, q⟩
  | brk => exact hs.elim fun _ z => z.elim fun _ z => False.elim z.2
  | cont => exact hs.elim fun _ z => z.elim fun _ z => False.elim z.2
/-- a def that lets nothing out -/
theorem fn_g0 {P : Program} {w : World} {K : PySem.W.Frag} {mg : Str → Option Value} {base : Heap} {k : Nat} {f : Addr} {x qual : Str} {st : Stmt} {fd : FuncData} {N ps : List Str} {sp : Sp}
    (F : Fun K x qual st f fd) (S : FnScope N ps (defScope st)) (cnt : ∀ vs H Q E, sp vs H Q E → vs.length = ps.length)
    (body : ∀ (cdv : Value) (A : Around) (outer : List Env) (s : Shared) (H : Hp) (vs : List V) (Q : VK) (E : XK), (A.deeper (envOfC qual (defScope st) s.heap.objs.size f cdv)).guards = some [] →
      Room k (A.deeper (envOfC qual (defScope st) s.heap.objs.size f cdv)) → sp vs H Q E →
      ∃ t, PSs (cxOf CX0 P w K mg base N qual (defScope st) f cdv A outer s H E).nox (defBody st) t ∧ t { nx := fun _ H' => Q .non H', rt := Q } (start N vs) H) :
    FnG P w K mg base CX0 (k + 1) f fd ps sp := fn_g F S cnt fun cdv A outer s H vs Q E hg hr h => by
  obtain ⟨t, ht, hq⟩ := body cdv A outer s H vs Q E hg hr h
  exact ⟨t, ht.nox, hq⟩

/-! ### a def as its callers use it -/
structure Has (P : Program) (w : World) (K : PySem.W.Frag) (mg : Str → Option Value) (base : Heap) (CX : CXT) (k : Nat) (x : Str) (ps : List Str) (sp : Sp) : Prop where
  ex : ∃ f fd, FnG P w K mg base CX k f fd ps sp ∧ mg x = some (.ref f) ∧ PySem.W.keepIn K (.ref f) = true ∧ Binds K fd ps []
theorem Has.mono {P : Program} {w : World} {K : PySem.W.Frag} {mg : Str → Option Value} {base : Heap} {CX : CXT} {j k : Nat} {x : Str} {ps : List Str} {sp : Sp} (F : Has P w K mg base CX j x ps sp) (h : j ≤ k) : Has P w K mg base CX k x ps sp := by
  obtain ⟨f, fd, G, r⟩ := F.ex
  exact ⟨f, fd, G.mono h, r⟩
theorem Has.mk' {P : Program} {w : World} {K : PySem.W.Frag} {mg : Str → Option Value} {base : Heap} {CX : CXT} {k : Nat} {x qual : Str} {ps : List Str} {sp : Sp} {f : Addr} {fd : FuncData} {st : Stmt} (F : Fun K x qual st f fd) (hm : mg x = some (.ref f)) (hb : Binds K fd ps [])
    (G : FnG P w K mg base CX k f fd ps sp) : Has P w K mg base CX k x ps sp := ⟨f, fd, G, hm, F.kp, hb⟩
section
variable {X : Cx} {CX : CXT} {k : Nat} {x : Str} {ps : List Str} {sp : Sp} {E : XK} {p pos : Pos} {e : Expr} {es : List Expr} {t : TA}
theorem run_g {f : Addr} {fd : FuncData} {pins : List (Addr × Obj)} {σ : L2.St} {H : Hp} {s : Shared} {Q : VK} {us : List Value} {vs : List V} (F : FnG X.prog X.w X.K X.mg X.base CX k f fd ps sp) (hg : X.A.guards = some []) (hr : Room k X.A) (hb : Binds X.K fd ps []) (hx : Passes CX X E)
    (I : Inv X pins σ H s) (r : Vals vs us) (h : sp vs H Q E) : wpAny (model X.prog X.w) X.A (call (.ref f) us) (EP X pins σ Q) X.xe s := by
  have hl : (us ++ []).length = ps.length := by
    rw [List.append_nil, ← r.length]
    exact F.cnt h
  have hb' := hb s us I.kIn hl
  rw [List.append_nil] at hb'
  refine wpAny_call (codeAny_mono (F.go hg hr I.env0 hb' r h) ?_)
  intro res s' q
  cases res with
  | error err => exact hx pins σ H s err s' I q
  | ok fl =>
    cases fl with
    | ret u => exact I.after q
    | next => exact q.elim
    | brk => exact q.elim
    | cont => exact q.elim
theorem pe_has (F : Has X.prog X.w X.K X.mg X.base CX k x ps sp) (hg : X.A.guards = some []) (hr : Room k X.A) (hx : Passes CX X E) (ha : PA X (e :: es) t) (hl : Gl X x := by rfl)
    (hdb : (x == ("__debug__" : Str)) = false := by decide) (he : starEach (e :: es) X.env = (false, eval e X.env) :: starEach es X.env := by rfl) (hpl : (backTo pos (starEach es X.env)).any (·.1) = false := by rfl) :
    PE X (.Call (.Name x p) (e :: es) [] pos) (tCall sp [] E t) := by
  obtain ⟨f, fd, G, hm, hk, hb⟩ := F.ex
  constructor
  intro pins s σ H Q I h
  refine wpAny_Call_Name_kw (ld_glob I hl hm ?_ hdb)
  refine PySem.W.callWith_K (h₀ := X.base) I.ok.mod.kin hk (thn (ha.run pos pins s σ H _ I h) ?_) he hpl
  rintro us s1 ⟨vs, H1, I1, r, q⟩
  refine ⟨I1.kIn, run_g G hg hr hb hx I1 r ?_⟩
  have q' : sp (vs ++ []) H1 Q E := q
  rw [List.append_nil] at q'
  exact q'
theorem pe_has0 (F : Has X.prog X.w X.K X.mg X.base CX k x ps sp) (hg : X.A.guards = some []) (hr : Room k X.A) (hx : Passes CX X E) (hl : Gl X x := by rfl) (hdb : (x == ("__debug__" : Str)) = false := by decide) :
    PE X (.Call (.Name x p) [] [] pos) (tCall sp [] E tNil) := by
  obtain ⟨f, fd, G, hm, hk, hb⟩ := F.ex
  constructor
  intro pins s σ H Q I h
  refine wpAny_Call_Name_kw (ld_glob I hl hm ?_ hdb)
  exact PySem.W.callWith_K0 I.kIn hk (run_g (us := []) (vs := []) G hg hr hb hx I .nil h)
end

/-! ### rules for ints of any size, texts, lists, repr -/
section
variable {X : Cx}
def CPowW (i j : Int) : Prop := 0 ≤ j ∧ (Builtin.Int.intBits i : Int) * j ≤ 2 ^ 27
theorem op_powW : OpR X (binaryOp .Pow) (rI CPowW fun i j => .int (i ^ j.toNat)) := by
  intro pins s σ H x y v u Q I rx ry h
  obtain ⟨i, j, rfl, rfl, ⟨h1, h2⟩, q⟩ := h
  obtain ⟨t1, rfl⟩ := rx
  obtain ⟨t2, rfl⟩ := ry
  exact pow_int h1 h2 ⟨V.int _, H, I.tok _, ⟨_, rfl⟩, q⟩
/-- a text said n times, n at least 2 -/
def sRep (z : Str) (n : Nat) : Str := ⟨(List.replicate n z.cps).foldl (· ++ ·) #[]⟩
def rMulS : R2 := fun x y H Q => ∃ (z : Str) (n : Int), x = .str z ∧ y = .int n ∧ 1 < n ∧ n < 2 ^ 40 ∧ 0 < z.length ∧ z.length * n.toNat ≤ sizeLine ∧ Q (.str (sRep z n.toNat)) H
theorem op_mulS : OpR X (binaryOp .Mult) rMulS := by
  intro pins s σ H x y v u Q I rx ry h
  obtain ⟨z, n, rfl, rfl, h1, h2, h3, h4, q⟩ := h
  obtain ⟨t1, rfl⟩ := rx
  obtain ⟨t2, rfl⟩ := ry
  have hz : sizeLine = 16777216 := sizeLine_eq
  have c0 : ¬ n < 1 := by omega
  have c1 : (n == 1 || z.length == 0) = false := by
    have a : (n == 1) = false := beq_eq_false_iff_ne.mpr (by omega)
    have b : (z.length == 0) = false := beq_eq_false_iff_ne.mpr (by omega)
    rw [a, b]
    rfl
  have h5 : (z.length * n.toNat : Nat) ≤ 16777216 := by rw [← hz]; exact h4
  refine PySem.P.mul_str ?_ ?_ ?_ ?_
  · have a : ¬ n < -(2 ^ 63 : Int) := by omega
    have b : ¬ n ≥ 2 ^ 63 := by omega
    rw [decide_eq_false a, decide_eq_false b]
    rfl
  · intro _ _ hgt
    have hn0 : (0 : Int) < n := by omega
    have e1 : (z.length : Int) ≤ 16777216 := by
      have : z.length * 1 ≤ z.length * n.toNat := Nat.mul_le_mul_left _ (by omega)
      omega
    have e2 : (8388608 : Int) ≤ (2 ^ 63 - 1) / n := by
      rw [Int.le_ediv_iff_mul_le hn0]
      have : 8388608 * n < 8388608 * 2 ^ 40 := by omega
      have e3 : (8388608 : Int) * 2 ^ 40 = 2 ^ 63 := by decide
      omega
    have e4 : (z.length : Int) ≤ 8388608 := by
      have : z.length * 2 ≤ z.length * n.toNat := Nat.mul_le_mul_left _ (by omega)
      omega
    omega
  · intro _ _
    unfold Builtin.Str.tooLong
    have : ¬ (z.length * n.toNat) > sizeLine := by omega
    simpa using this
  · rw [if_neg c0, c1]
    exact ⟨by
      show (sRep z n.toNat).length ≤ sizeLine
      exact fits_reps (by unfold Builtin.Str.tooLong; simpa using (show ¬ (z.length * n.toNat) > sizeLine by omega)), ⟨V.str _, H, I.tok _, ⟨_, rfl⟩, q⟩⟩

/-- the signs of a text, each a text -/
def signsV (z : Str) : List V := z.cps.toList.map fun c => V.str ⟨#[c]⟩
def rListS : List V → Hp → VK → Prop := fun xs H Q => ∃ z : Str, xs = [.str z] ∧ z.length ≤ sizeLine ∧ ∀ p, H p = none → Q (.ref p) (upd H p (.lst (signsV z)))
theorem vals_at : ∀ (xs : List V) (us : List Value), us.length = xs.length → (∀ (j : Nat) (u : Value), us[j]? = some u → ∃ x, xs[j]? = some x ∧ RelV x u) → Vals xs us
  | [], [], _, _ => .nil
  | [], _ :: _, n, _ => by cases n
  | _ :: _, [], n, _ => by cases n
  | x :: xs, u :: us, n, at' => by
    obtain ⟨y, ey, ry⟩ := at' 0 u rfl
    cases ey
    refine .cons ry (vals_at xs us (Nat.succ.inj n) ?_)
    intro j v hv
    exact at' (j + 1) v hv
theorem call_list_str (hc : X.calm = true) : CallR X (.type "list") rListS := by
  intro pins s σ H xs us Q I r h
  obtain ⟨z, rfl, hz, q⟩ := h
  obtain ⟨u, rfl, t, rfl⟩ := vals1 r
  refine PySem.call_list_str (I.ok.hd hc) z t ?_ hz
  intro h' tk acc c' keeps at' items
  have lenA : acc.toList.length = (signsV z).length := by
    unfold signsV
    rw [List.length_map, Array.length_toList, Array.length_toList]
    exact items.1
  have va : Vals (signsV z) acc.toList := vals_at _ _ lenA fun j u hu => by
    have hj : acc[j]? = some u := by simpa using hu
    obtain ⟨c, tk2, e1, rfl⟩ := items.2 j u hj
    refine ⟨V.str ⟨#[c]⟩, ?_, ⟨tk2, rfl⟩⟩
    unfold signsV
    have e2 : z.cps.toList[j]? = some c := by simpa using e1
    rw [List.getElem?_map, e2]
    rfl
  have lz : (signsV z).length ≤ sizeLine := by
    unfold signsV
    rw [List.length_map, Array.length_toList]
    exact hz
  refine ⟨.ref s.heap.objs.size, _, I.laid (t' := tk) (o := .lst (signsV z)) keeps (Nat.le_refl _) ?_, rfl, q _ (I.hok.fresh (Nat.le_refl _))⟩
  exact ⟨lz, acc.toList, c', va, by simpa using at'⟩

/-- repr of data of any depth (no dict within) -/
def rRepr (K : PySem.W.Frag) : List V → Hp → VK → Prop := fun xs H Q => ∃ x d, xs = [x] ∧ Dp K H x d ∧ d.showable = true ∧ d.hasDict = false ∧ d.depth ≤ 60 ∧ d.shown.length ≤ sizeLine ∧ Q (.str d.shown) H
theorem call_repr (hg : X.A.guards = some []) (hu : X.A.units + 64 < cLine) : CallR X (.builtin "repr") (rRepr X.K) := by
  intro pins s σ H xs us Q I r h
  obtain ⟨x, d, rfl, hd, hs, hD, hdep, hz, q⟩ := h
  obtain ⟨u, rfl, rx⟩ := vals1 r
  obtain ⟨as, rd⟩ := Dp.reads I d x u hd rx
  have fin : ∀ h' t tk, (∀ b o, s.heap.get? b = some o → h'.get? b = some o) → EP X pins σ Q (.str d.shown t) { s with heap := h', toks := tk } := fun h' t tk keeps =>
    ⟨V.str d.shown, H, I.kept keeps, ⟨t, rfl⟩, q⟩
  cases rd with
  | none =>
    simp only [PyData.shown] at fin
    exact PySem.P.repr_of_none (fin _ _ _ fun _ _ e => e)
  | bool b =>
    simp only [PyData.shown] at fin
    exact PySem.P.repr_of_bool (fin _ _ _ fun _ _ e => e)
  | int i t =>
    simp only [PyData.shown] at fin
    exact PySem.P.repr_of_int (by simpa [PyData.showable] using hs) (fin _ _ _ fun _ _ e => e)
  | str z t =>
    simp only [PyData.shown] at fin hz
    exact PySem.P.repr_of_str (fin _ _ _ fun _ _ e => e) hz
  | list a b c e => exact repr_of_reads' (.list a b c e) hs (PyData.noDict_hsm hD) hg (by omega) (fun _ _ e => e) fin hz
  | tuple a b c e => exact repr_of_reads' (.tuple a b c e) hs (PyData.noDict_hsm hD) hg (by omega) (fun _ _ e => e) fin hz
  | dict a b c e f => cases hD
end

/-! ### the end of a law row, for a law that is run where nothing guarded runs -/
theorem end_g {P : Program} {w : World} {K : PySem.W.Frag} {mg mb : Str → Option Value} {k : Nat} {fa a : Addr} {fd : FuncData} {x : Str} {sp : Sp} {s₁ : Shared} {vs : List Value} {ns : List Int}
    (kin : K.In s₁.heap) (nsM : s₁.heap.Ns mainGlobals mg) (nsB : s₁.heap.Ns builtinsNs mb) (plainB : ∀ x : Str, x ≠ "__name__" → mb x = bootBuiltins x) (nolim : s₁.heap.NoLimit) (gens : s₁.gens = #[])
    (at' : s₁.heap.get? a = some { cls := .type "list", data := .seq vs.toArray }) (areI : IntsAre vs ns) (short : ns.length ≤ sizeLine) (room : Room k callerA)
    (F : ∀ base : Heap, K.In base → base.Ns mainGlobals mg → FnG P w K mg base CX0 k fa fd [x] sp) (bind : ∀ (s : Shared) (u : Value), BindsTo s fd ⟨[u], []⟩ [(x, u)])
    (prom : ∀ H : Hp, Only H → SqL K H a (ns.map V.int) → sp [.ref a] H (fun v _ => v = .bl true) fun _ _ _ => False) :
    codeAny (model P w) callerA (.call (.ref fa) ⟨[.ref a], []⟩) (fun r s' => r = .ok (.ret (.bool true)) ∧ OldK s₁.heap s'.heap ∧ s'.os = s₁.os ∧ AllBare s'.gens) s₁ := by
  have hv := vals_ints areI
  have hlen := areI.length
  have go : ∀ H : Hp, Only H → SqL K H a (ns.map V.int) → HOk P w H s₁.heap → (∀ b, H b ≠ none → b = a) → (H a ≠ none → K.lookup a = none) →
      codeAny (model P w) callerA (.call (.ref fa) ⟨[.ref a], []⟩) (fun r s' => r = .ok (.ret (.bool true)) ∧ OldK s₁.heap s'.heap ∧ s'.os = s₁.os ∧ AllBare s'.gens) s₁ := by
    intro H only sq hok one notK
    have dictFree : ∀ {b : Addr} {o : Obj} {es : Array DictEntry} {ep : Nat}, s₁.heap.get? b = some o → o.data = .dict es ep → H b = none := by
      intro b o es ep e d
      match hb : H b with
      | none => rfl
      | some u =>
        have eb := one b (by rw [hb]; exact fun z => by cases z)
        rw [eb, at'] at e
        cases e
        exact absurd d (fun z => by cases z)
    have nsT : ∀ {b : Addr} {m : Str → Option Value}, s₁.heap.Ns b m → (hidT s₁.heap H).Ns b m := by
      rintro b m ⟨o, es, ep, e, d, rest⟩
      exact ⟨o, es, ep, hidT_get e (dictFree e d), d, rest⟩
    have kinT : K.In (hidT s₁.heap H) := by
      intro b o e
      refine hidT_get (kin b o e) ?_
      match hb : H b with
      | none => rfl
      | some u =>
        have nz : H b ≠ none := by rw [hb]; exact fun z => by cases z
        have eb := one b nz
        rw [eb] at nz e
        rw [notK nz] at e
        cases e
    have modT : Mod K mg (hidT s₁.heap H) := by
      refine ⟨kinT, nsT nsM, ⟨mb, nsT nsB, plainB⟩, ?_⟩
      obtain ⟨mc, l1, l2⟩ := nolim
      exact ⟨mc, nsT l1, l2⟩
    have start0 : Env0 P w K mg (hidT s₁.heap H) callerA [] s₁ H :=
      ⟨rfl, modT, fun _ _ e => of_hidT e, Nat.le_of_eq (hidT_size _ _), trivial, fun _ z => (List.not_mem_nil z).elim, hok, .of_eq gens⟩
    have ran := (F _ kinT (nsT nsM)).go (args := ⟨[.ref a], []⟩) (us := [.ref a]) (vs := [.ref a]) rfl room start0 (bind s₁ (.ref a)) (.cons rfl .nil) (prom H only sq)
    refine codeAny_mono ran ?_
    intro r s' h
    match r, h with
    | .ok (.ret u), ⟨v, H', os, bare, un, hok', rel, val⟩ =>
      have val' : v = .bl true := val
      subst val'
      have eu : u = Value.bool true := rel
      subst eu
      refine ⟨rfl, OldK.of_keep ?_, os, bare⟩
      intro b o e
      match hb : H b with
      | none => exact un.keep b o e hb (fun z => (List.not_mem_nil z).elim) (fun z => (List.not_mem_nil z).elim)
      | some _ =>
        rcases only b with z | ⟨ob, xs, z⟩
        · rw [hb] at z
          cases z
        · have old := (hok b _ z).1
          have new := (hok' b _ (un.frzs b ob _ z)).1
          rw [e] at old
          cases old
          exact new
    | .ok .next, z => exact False.elim z
    | .ok .brk, z => exact False.elim z
    | .ok .cont, z => exact False.elim z
    | .error _, z => exact False.elim z
  match hk : K.lookup a with
  | some o =>
    have e := kin a o hk
    rw [at'] at e
    cases e
    refine go (fun _ => none) (fun _ => Or.inl rfl) (Or.inr ⟨_, vs.toArray, _, hk, rfl, rfl, rfl, ?_, by simpa using hv⟩) (fun _ _ z => by cases z) (fun _ z => absurd rfl z) fun z => absurd rfl z
    rw [List.size_toArray, hlen]
    exact short
  | none =>
    let H1 : Hp := fun b => if b = a then some (.frz { cls := .type "list", data := .seq vs.toArray } (.lst (ns.map V.int))) else none
    have here : H1 a = some (.frz { cls := .type "list", data := .seq vs.toArray } (.lst (ns.map V.int))) := if_pos rfl
    have away : ∀ {b}, b ≠ a → H1 b = none := fun hb => if_neg hb
    refine go H1 (fun b => ?_) (Or.inl (Or.inr ⟨_, here⟩)) (fun b u z => ?_) (fun b z => ?_) fun _ => hk
    · by_cases hb : b = a
      · rw [hb]
        exact Or.inr ⟨_, _, here⟩
      · exact Or.inl (away hb)
    · by_cases hb : b = a
      · rw [hb] at z ⊢
        rw [here] at z
        cases z
        exact ⟨at', by rw [List.length_map]; exact short, vs, _, hv, at'⟩
      · rw [away hb] at z
        cases z
    · by_cases hb : b = a
      · exact hb
      · exact absurd (away hb) z
theorem walk_g {l : PySem.W.OpenLaw} {n k : Nat} {q : Program} {loose : List Str} {XP : (Str → Option Value) → Heap → Prop} {YP : World → Heap → Prop} {d : DefRec} {K : Params → PySem.W.Frag} {sp : PySem.W.Frag → Sp} {x : Str}
    (many : l.most = some n) (fits : n ≤ sizeLine) (plain : d.params.defaults = []) (room : Room k callerA) (hY : ∀ (w : World) (h : Heap), YP w h → (K w.params).In h)
    (F : ∀ (w : World) (mg : Str → Option Value) (fa : Addr) (h : Heap), (K w.params).In h → h.Ns mainGlobals mg → mg d.name = some (.ref fa) →
      ∃ fd : FuncData, (∀ (s : Shared) (u : Value), BindsTo s fd ⟨[u], []⟩ [(x, u)]) ∧ ∀ base : Heap, (K w.params).In base → base.Ns mainGlobals mg → FnG l.prog w (K w.params) mg base CX0 k fa fd [x] (sp (K w.params)))
    (prom : ∀ (K : PySem.W.Frag) (H : Hp) (a : Addr) (ns : List Int), ns.length ≤ n → Only H → SqL K H a (ns.map V.int) → sp K [.ref a] H (fun v _ => v = .bl true) fun _ _ _ => False) :
    PySem.W.WalkO q loose XP YP l.row.toRowW d [] (fun f vs => PySem.call f vs) := by
  refine Att.attach_call many plain ?_
  intro w s₀ s₁ mg mb fa o pm cd doc a vs ns G Y ho hd hcd hmg hobj hints hlen hgens
  obtain ⟨fd, bind, hF⟩ := F w mg fa _ (hY w _ Y) G.T.g hmg
  exact end_g (hY w _ Y) G.T.g G.T.b G.T.builtins G.T.nolimit hgens hobj hints (Nat.le_trans hlen fits) room hF bind fun H only sq => prom _ H a ns hlen only sq
end G
namespace G
open PySem PySem.Spec PyProof.Rows L2
theorem itT {c : Bool} {A B : Prop} (hc : c = true) (h : A) : if c = true then A else B := by
  rw [if_pos hc]
  exact h
theorem itF {c : Bool} {A B : Prop} (hc : c = false) (h : B) : if c = true then A else B := by
  rw [hc, if_neg Bool.false_ne_true]
  exact h
/-- an if on a Bool that is not known -/
theorem itB {c : Bool} {A B : Prop} (h1 : c = true → A) (h2 : c = false → B) : if c = true then A else B := by
  cases c
  · exact itF rfl (h2 rfl)
  · exact itT rfl (h1 rfl)
/-! ### kinds of values -/
def isStr : V → Bool | .str _ => true | _ => false
def isBl : V → Bool | .bl _ => true | _ => false
def isIntB : V → Bool | .int _ => true | .bl _ => true | _ => false
def Tyd (K : PySem.W.Frag) (H : Hp) (x : V) : Prop := ∃ t, TyX K H x t ∧ PySem.W.kitOne K t (.type "str") = some (isStr x) ∧ PySem.W.kitOne K t (.type "int") = some (isIntB x) ∧ PySem.W.kitOne K t (.type "bool") = some (isBl x)
section
variable {K : PySem.W.Frag} {H : Hp} {x : V}
theorem tyd_of {T : String} {a b c : Bool} (h : TyX K H x (.type T)) (ha : kitB T "str" = some a) (hb : kitB T "int" = some b) (hc : kitB T "bool" = some c) (ea : isStr x = a) (eb : isIntB x = b) (ec : isBl x = c) : Tyd K H x :=
  ⟨_, h, by rw [ea]; exact kit_ty ha, by rw [eb]; exact kit_ty hb, by rw [ec]; exact kit_ty hc⟩
theorem tyd_non  : Tyd K H .non := tyd_of (a := false) (b := false) (c := false) (.base .non) (by decide +kernel) (by decide +kernel) (by decide +kernel) rfl rfl rfl
theorem tyd_bl (b : Bool) : Tyd K H (.bl b) := tyd_of (a := false) (b := true) (c := true) (.base (.bl b)) (by decide +kernel) (by decide +kernel) (by decide +kernel) rfl rfl rfl
theorem tyd_int (i : Int) : Tyd K H (.int i) := tyd_of (a := false) (b := true) (c := false) (.base (.int i)) (by decide +kernel) (by decide +kernel) (by decide +kernel) rfl rfl rfl
theorem tyd_str (z : Str) : Tyd K H (.str z) := tyd_of (a := true) (b := false) (c := false) (.base (.str z)) (by decide +kernel) (by decide +kernel) (by decide +kernel) rfl rfl rfl
theorem tyd_lst {a : Addr} {xs : List V} (h : H a = some (.lst xs)) : Tyd K H (.ref a) := tyd_of (a := false) (b := false) (c := false) (.base (.lst h)) (by decide +kernel) (by decide +kernel) (by decide +kernel) rfl rfl rfl
theorem tyd_tup {a : Addr} {xs : List V} (h : H a = some (.tup xs)) : Tyd K H (.ref a) := tyd_of (a := false) (b := false) (c := false) (.base (.tup h)) (by decide +kernel) (by decide +kernel) (by decide +kernel) rfl rfl rfl
theorem tyd_dK {a : Addr} {kvs : List (Key × V)} (h : H a = some (.dK kvs)) : Tyd K H (.ref a) := tyd_of (a := false) (b := false) (c := false) (.base (.dK h)) (by decide +kernel) (by decide +kernel) (by decide +kernel) rfl rfl rfl
end
/-! ### texts as lists of codes -/
abbrev cs (z : Str) : List Nat := z.cps.toList
theorem cs_len (z : Str) : (cs z).length = z.length := by
  show z.cps.toList.length = z.cps.size
  simp
theorem str_ext {x y : Str} (h : cs x = cs y) : x = y := by
  obtain ⟨a⟩ := x
  obtain ⟨b⟩ := y
  have : a = b := Array.toList_inj.mp h
  rw [this]
theorem cs_app (x y : Str) : cs (x ++ y) = cs x ++ cs y := by
  show (x.cps ++ y.cps).toList = _
  simp
def lett (c : Nat) : Bool := decide (97 ≤ c) && decide (c ≤ 122)
def isWord : V → Bool | .str z => !(cs z).isEmpty && (cs z).all lett | _ => false
def isSign : V → Bool | .str z => decide ((cs z).length = 1) && (cs z).all lett | _ => false
def isText : V → Bool | .str z => decide ((cs z).length ≤ 8000) && (cs z).all lett | _ => false
def isPiece : V → Bool | .str z => decide (1 ≤ (cs z).length) && decide ((cs z).length ≤ 5) && (cs z).all lett | _ => false
def isInteger : V → Bool | .int i => decide (i.natAbs < 10 ^ 60) | _ => false
theorem lt_one {a b : Nat} : decide (([a] : List Nat) < [b]) = decide (a < b) := by
  by_cases h : a < b
  · rw [decide_eq_true h, decide_eq_true (List.cons_lt_cons_iff.mpr (Or.inl h))]
  · rw [decide_eq_false h, decide_eq_false (fun z => ?_)]
    rcases List.cons_lt_cons_iff.mp z with z | ⟨_, z⟩
    · exact h z
    · cases z
theorem lett_eq (c : Nat) : (!decide (([c] : List Nat) < [97])) = decide (97 ≤ c) ∧ (!decide (([122] : List Nat) < [c])) = decide (c ≤ 122) := by
  rw [lt_one, lt_one]
  constructor
  · by_cases h : c < 97
    · rw [decide_eq_true h, decide_eq_false (by omega)]
      rfl
    · rw [decide_eq_false h, decide_eq_true (by omega)]
      rfl
  · by_cases h : 122 < c
    · rw [decide_eq_true h, decide_eq_false (by omega)]
      rfl
    · rw [decide_eq_false h, decide_eq_true (by omega)]
      rfl
theorem abs_lt (i : Int) : decide ((if i < 0 then -i else i) < (10 : Int) ^ (60 : Int).toNat) = isInteger (.int i) := by
  show _ = decide (i.natAbs < 10 ^ 60)
  have e : (10 : Int) ^ (60 : Int).toNat = ((10 ^ 60 : Nat) : Int) := by decide +kernel
  rw [e]
  generalize (10 ^ 60 : Nat) = m
  by_cases h : i.natAbs < m
  · rw [decide_eq_true h, decide_eq_true]
    split <;> omega
  · rw [decide_eq_false h, decide_eq_false]
    split <;> omega
def szV : V → Prop | .str z => z.length ≤ 100000 | _ => True
theorem fits_sz {n : Nat} (h : n ≤ 100000) : n ≤ sizeLine := Nat.le_trans h (by decide)
theorem same_new {H : Hp} {p : Addr} {o : HO} (h : H p = none) : Same H (upd H p o) := fun b u e => by
  rw [upd_ne (ne_of_none e h)]
  exact e
/-- is_integer, is_word and the like: any value, told by a function on values -/
def spIs (K : PySem.W.Frag) (p : V → Bool) : Sp := fun vs H Q _ => ∃ x, vs = [x] ∧ Tyd K H x ∧ szV x ∧ ∀ H', Same H H' → Q (.bl (p x)) H'
theorem v_str_ne {z : Str} : (!decide (V.str z = V.str "")) = !(cs z).isEmpty := by
  by_cases h : cs z = []
  · have e : z = "" := str_ext (by rw [h]; rfl)
    rw [e]
    rfl
  · have e : V.str z ≠ V.str "" := fun q => h (by rw [V.str.inj q]; rfl)
    rw [decide_eq_false e]
    cases hz : cs z with
    | nil => exact absurd hz h
    | cons a l => rfl
theorem v_str_eq {z : Str} : decide (V.str z = V.str "") = (cs z).isEmpty := by
  have := v_str_ne (z := z)
  cases h1 : decide (V.str z = V.str "") <;> cases h2 : (cs z).isEmpty <;> rw [h1, h2] at this <;> first | rfl | cases this
theorem lett_of {c : Nat} (h : decide (97 ≤ c) = true) : lett c = decide (c ≤ 122) := by
  unfold lett
  rw [h]
  rfl
theorem lett_no {c : Nat} (h : decide (97 ≤ c) = false) : lett c = false := by
  unfold lett
  rw [h]
  rfl
theorem one_sign {z : Str} (h : (cs z).length = 1) : ∃ c, z = ⟨#[c]⟩ := by
  match hz : cs z, h with
  | [c], _ => exact ⟨c, str_ext (by rw [hz])⟩
theorem v_len_eq {z : Str} {n : Nat} : decide (V.int (z.length : Int) = V.int (n : Int)) = decide ((cs z).length = n) := by
  rw [cs_len]
  by_cases h : z.length = n
  · rw [decide_eq_true h, decide_eq_true (by rw [h])]
  · rw [decide_eq_false h, decide_eq_false (fun q => h (by have := V.int.inj q; omega))]
theorem v_len_eq1 {z : Str} : decide (V.int (z.length : Int) = V.int 1) = decide ((cs z).length = 1) := v_len_eq (n := 1)
theorem sign_one (c : Nat) : isSign (.str ⟨#[c]⟩) = lett c := by
  show (decide (([c] : List Nat).length = 1) && ([c] : List Nat).all lett) = lett c
  simp
/-! ### a comprehension whose element changes nothing -/
theorem wipe_set {σ : L2.St} {j : Nat} {v : V} : wipe ((wipe σ [j]).set j (some v)) [j] = wipe σ [j] := by
  show ((σ.set j none).set j (some v)).set j none = σ.set j none
  rw [List.set_set, List.set_set]
theorem lcp_str {z : Str} {te : TE} {j : Nat} {σ : L2.St} {H1 : Hp} {D : Addr} {Qd : Hp → Prop} (f : Nat → V) (hz : z.length ≤ sizeLine)
    (hs : ∀ (c : Nat) (acc : List V) (N : VK), c ∈ cs z → N (f c) (upd H1 D (.lst acc)) → te ((wipe σ [j]).set j (some (.str ⟨#[c]⟩))) (upd H1 D (.lst acc)) N) (hd : Qd (upd H1 D (.lst ((cs z).map f)))) :
    ∃ W : Nat → Nat → Hp → Prop, (∃ m, W 0 m (upd H1 D (.lst []))) ∧ ∀ i m H, W i m H →
      ((Its z).stop i H ∧ Qd H) ∨ ((Its z).go i H ∧ ∃ Nx : Hp → Prop, (∀ H', Nx H' → ∃ m', m' < m ∧ W (i + 1) m' H') ∧ ∀ x H', (Its z).yld i H x H' → gName j x (wipe σ [j]) H' fun σ2 H2 => wipe σ2 [j] = wipe σ [j] ∧ tYes σ2 H2 fun b H3 =>
        if b = true then te σ2 H3 fun y H4 => ∃ acc, H4 D = some (.lst acc) ∧ acc.length < sizeLine ∧ Nx (upd H4 D (.lst (acc ++ [y]))) else Nx H3) := by
  have hl := cs_len z
  refine ⟨fun i m H => m = (cs z).length - i ∧ i ≤ (cs z).length ∧ H = upd H1 D (.lst (((cs z).take i).map f)), ⟨_, rfl, Nat.zero_le _, rfl⟩, ?_⟩
  rintro i m H ⟨rfl, hi, rfl⟩
  by_cases hlt : i < (cs z).length
  · have hlt' : i < z.cps.size := by rw [hl] at hlt; exact hlt
    refine .inr ⟨hlt', fun H' => H' = upd H1 D (.lst (((cs z).take (i + 1)).map f)), fun H' e => ⟨(cs z).length - (i + 1), by omega, rfl, hlt, e⟩, ?_⟩
    rintro x H' ⟨rfl, c, hc, rfl⟩
    have hc' : (cs z)[i]? = some c := by simpa [cs] using hc
    refine ⟨wipe_set, hs c _ _ (List.mem_of_getElem? hc') ⟨_, upd_same, ?_, ?_⟩⟩
    · rw [List.length_map, List.length_take]
      omega
    · rw [upd_upd]
      have : (cs z).take (i + 1) = (cs z).take i ++ [c] := by
        rw [List.take_add_one, hc']
        rfl
      rw [this, List.map_append]
      rfl
  · have e : i = (cs z).length := by omega
    refine .inl ⟨by show z.cps.size ≤ i; rw [e, hl]; exact Nat.le_refl _, ?_⟩
    rw [e, List.take_length]
    exact hd

/-! ### the dice of the laws: a list of three ints -/
def Big (i : Int) : Prop := 0 ≤ i ∧ i.natAbs < 2 ^ 2200
/-- dice at l, good for n further rolls -/
def Dice (H : Hp) (l : Addr) (n : Nat) : Prop := ∃ d0 d1 d2 : Int, H l = some (.lst [.int d0, .int d1, .int d2]) ∧ Big d0 ∧ Big d1 ∧ 0 ≤ d2 ∧ d2 + n ≤ 2 ^ 62
/-- all but l is as it was -/
def Kp (l : Addr) (H H' : Hp) : Prop := ∀ b o, H b = some o → b ≠ l → H' b = some o
theorem Kp.refl (l : Addr) (H : Hp) : Kp l H H := fun _ _ e _ => e
theorem Kp.trans {l : Addr} {H H1 H2 : Hp} (a : Kp l H H1) (b : Kp l H1 H2) : Kp l H H2 := fun c o e n => b c o (a c o e n) n
theorem Kp.of {l : Addr} {H H' : Hp} (a : Same H H') : Kp l H H' := fun c o e _ => a c o e
theorem Kp.upd {l : Addr} {H : Hp} {o : HO} : Kp l H (upd H l o) := fun b u e n => by
  rw [upd_ne n]
  exact e
theorem Kp.new {l p : Addr} {H H' : Hp} {o : HO} (a : Kp l H H') (h : H' p = none) : Kp l H (L2.upd H' p o) := a.trans (.of (same_new h))
/-- what was not there ahead may change -/
theorem Kp.mut {l p : Addr} {H H' : Hp} {o : HO} (a : Kp l H H') (h : H p = none) : Kp l H (L2.upd H' p o) := fun b u e n => by
  rw [upd_ne (ne_of_none e h)]
  exact a b u e n
theorem Kp.seq {K : PySem.W.Frag} {l a : Addr} {H H' : Hp} {xs : List V} (k : Kp l H H') (n : a ≠ l) (h : SqL K H a xs) : SqL K H' a xs := by
  rcases h with (h | ⟨o, h⟩) | h
  · exact Or.inl (Or.inl (k _ _ h n))
  · exact Or.inl (Or.inr ⟨o, k _ _ h n⟩)
  · exact Or.inr h
theorem Kp.tup {K : PySem.W.Frag} {l a : Addr} {H H' : Hp} {xs : List V} (k : Kp l H H') (n : a ≠ l) (h : SqT K H a xs) : SqT K H' a xs := by
  rcases h with (h | ⟨o, h⟩) | h
  · exact Or.inl (Or.inl (k _ _ h n))
  · exact Or.inl (Or.inr ⟨o, k _ _ h n⟩)
  · exact Or.inr h
theorem Dice.ne {H : Hp} {l p : Addr} {n : Nat} (d : Dice H l n) (h : H p = none) : p ≠ l := by
  obtain ⟨_, _, _, e, _⟩ := d
  exact (ne_of_none e h).symm
theorem Dice.le {H : Hp} {l : Addr} {n m : Nat} (d : Dice H l n) (h : m ≤ n) : Dice H l m := by
  obtain ⟨d0, d1, d2, e, h0, h1, h2, h3⟩ := d
  exact ⟨d0, d1, d2, e, h0, h1, h2, by omega⟩
theorem Dice.same {H H' : Hp} {l : Addr} {n : Nat} (d : Dice H l n) (s : Same H H') : Dice H' l n := by
  obtain ⟨d0, d1, d2, e, r⟩ := d
  exact ⟨d0, d1, d2, s _ _ e, r⟩
theorem Dice.upd {H : Hp} {l p : Addr} {o : HO} {n : Nat} (d : Dice H l n) (h : p ≠ l) : Dice (L2.upd H p o) l n := by
  obtain ⟨d0, d1, d2, e, r⟩ := d
  exact ⟨d0, d1, d2, by rw [upd_ne h.symm]; exact e, r⟩
theorem big_mod {x : Int} {m : Int} (h : 0 < m) (hm : m.natAbs ≤ 2 ^ 2100) : 0 ≤ x % m ∧ (x % m).natAbs < 2 ^ 2100 := by
  have h1 := Int.emod_nonneg x (by omega : m ≠ 0)
  have h2 := Int.emod_lt_of_pos x h
  refine ⟨h1, ?_⟩
  generalize (2 ^ 2100 : Nat) = M at hm
  omega
theorem pow_mono2 : (2 : Nat) ^ 2100 * 4 + 2 ^ 2100 ≤ 2 ^ 2200 := by decide +kernel
theorem big_of {x : Int} (h0 : 0 ≤ x) (h : x.natAbs < 2 ^ 2100) : Big x := ⟨h0, by
  have := pow_mono2
  generalize (2 ^ 2100 : Nat) = M at *
  generalize (2 ^ 2200 : Nat) = N at *
  omega⟩
theorem big_zero : Big 0 := ⟨Int.le_refl _, by decide +kernel⟩
theorem one_small : (131071 * 64 + 5 : Nat) ≤ 2 ^ 2100 := by decide +kernel
theorem big_seed {x b s : Int} (h0 : 0 ≤ x) (h : x.natAbs < 2 ^ 2100) (hb : 0 ≤ b ∧ b ≤ 1) (hs : 0 ≤ s ∧ s ≤ 64) : Big (2 * x + b + 131071 * s + 3) := by
  have h1 := pow_mono2
  have h2 := one_small
  refine ⟨by omega, ?_⟩
  generalize (2 ^ 2100 : Nat) = M at *
  generalize (2 ^ 2200 : Nat) = N at *
  omega
theorem big_div {x u : Int} (h : Big x) (hu : 1 ≤ u) : Big (x / u) := by
  obtain ⟨h0, h1⟩ := h
  have a := Int.ediv_nonneg h0 (by omega : (0 : Int) ≤ u)
  have b : x / u ≤ x := Int.ediv_le_self u h0
  refine ⟨a, ?_⟩
  generalize (2 ^ 2200 : Nat) = N at *
  omega
/-- an expression with two ways, joined: an int under p on both -/
theorem tif_int {t : TT} {ta tb : TE} {σ : L2.St} {H : Hp} {Q : VK} {c : Bool} (p : Int → Prop) (ht : ∀ N : Bool → Hp → Prop, N c H → t σ H N)
    (ha : c = true → ∀ N : VK, (∀ i, p i → N (.int i) H) → ta σ H N) (hb : c = false → ∀ N : VK, (∀ i, p i → N (.int i) H) → tb σ H N) (hq : ∀ i, p i → Q (.int i) H) : tIf t ta tb σ H Q := by
  refine ht _ ?_
  exact itB (fun e => ha e _ hq) (fun e => hb e _ hq)
/-- _law_dice -/
def spDice (K : PySem.W.Frag) : Sp := fun vs H Q _ => ∃ (a : Addr) (ns : List Int) (s : Int), vs = [.ref a, .int s] ∧ SqL K H a (ns.map V.int) ∧ ns.length ≤ 63 ∧ 0 ≤ s ∧ s ≤ 64 ∧ ∀ l H', H l = none → Same H H' → Dice H' l (2 ^ 60) → Q (.ref l) H'
/-- _law_roll -/
def spRoll : Sp := fun vs H Q _ => ∃ (l : Addr) (u : Int) (n : Nat), vs = [.ref l, .int u] ∧ 1 ≤ u ∧ u ≤ 2 ^ 40 ∧ Dice H l (n + 1) ∧ ∀ r H', 0 ≤ r → r < u → Kp l H H' → Dice H' l n → Q (.int r) H'
/-- what the laws pick from: a list, a tuple, a text -/
inductive Seq (K : PySem.W.Frag) (H : Hp) (l : Addr) : V → List V → Prop
  | lst {a : Addr} {ys : List V} (n : a ≠ l) (h : SqL K H a ys) : Seq K H l (.ref a) ys
  | tup {a : Addr} {ys : List V} (n : a ≠ l) (h : SqT K H a ys) : Seq K H l (.ref a) ys
  | str {z : Str} {ys : List V} (h : z.length ≤ 1000) (e : ys = signsV z) : Seq K H l (.str z) ys
theorem Seq.kp {K : PySem.W.Frag} {H H' : Hp} {l : Addr} {x : V} {ys : List V} (s : Seq K H l x ys) (k : Kp l H H') : Seq K H' l x ys := by
  cases s with
  | lst n h => exact .lst n (k.seq n h)
  | tup n h => exact .tup n (k.tup n h)
  | str h e => exact .str h e
/-- _law_pick -/
def spPick (K : PySem.W.Frag) : Sp := fun vs H Q _ => ∃ (l : Addr) (x : V) (ys : List V) (n : Nat), vs = [.ref l, x] ∧ Seq K H l x ys ∧ ys ≠ [] ∧ ys.length ≤ 1000 ∧ Dice H l (n + 1) ∧ ∀ y H', y ∈ ys → Kp l H H' → Dice H' l n → Q y H'
theorem signsV_len (z : Str) : (signsV z).length = z.length := by
  unfold signsV
  rw [List.length_map, cs_len]

abbrev ch (c : Nat) : Str := ⟨#[c]⟩
abbrev chV (c : Nat) : V := .str (ch c)
def sOf (l : List Nat) : Str := ⟨l.toArray⟩
theorem cs_sOf (l : List Nat) : cs (sOf l) = l := by simp [sOf]
theorem sOf_cs (z : Str) : sOf (cs z) = z := str_ext (cs_sOf _)
theorem sOf_len (l : List Nat) : (sOf l).length = l.length := by rw [← cs_len, cs_sOf]
theorem signsV_eq (z : Str) : signsV z = (cs z).map chV := rfl
theorem joinL_one : ∀ l : List Nat, TL.joinL [] (l.map fun c => [c]) = l
  | [] => rfl
  | [a] => rfl
  | a :: b :: r => by
    show [a] ++ ([] ++ TL.joinL [] ((b :: r).map fun c => [c])) = a :: b :: r
    rw [joinL_one (b :: r)]
    rfl
theorem join_ch (l : List Nat) : Txt.join "" (l.map ch) = sOf l := by
  refine str_ext ?_
  rw [cs_sOf, TL.join_eq]
  have h := TL.tl_join "" (l.map ch)
  rw [List.map_map] at h
  exact h.trans (joinL_one l)
theorem sum_ch (l : List Nat) : ((l.map ch).map (·.length)).sum = l.length := by
  induction l with
  | nil => rfl
  | cons a r ih =>
    rw [List.map_cons, List.map_cons, List.sum_cons, ih]
    show 1 + r.length = r.length + 1
    omega
/-- _law_letters -/
def spLetters (K : PySem.W.Frag) : Sp := fun vs H Q _ => ∃ (l : Addr) (x : V) (cl : List Nat) (m n : Nat), vs = [.ref l, x, .int (m : Int)] ∧ Seq K H l x (cl.map chV) ∧ cl ≠ [] ∧ cl.length ≤ 1000 ∧ m ≤ 10000 ∧ Dice H l (n + m) ∧
  ∀ (zs : List Nat) H', zs.length = m → (∀ c ∈ zs, c ∈ cl) → Kp l H H' → Dice H' l n → Q (.str (sOf zs)) H'

/-! ### what repr shows -/
structure Shw (d : PyData) (k n : Nat) : Prop where
  s : d.showable = true
  h : d.hasDict = false
  dp : d.depth ≤ k
  len : d.shown.length ≤ n
theorem shw_bool (b : Bool) : Shw (.bool b) 0 5 := ⟨by simp [PyData.showable], by simp [PyData.hasDict], by simp [PyData.depth], by cases b <;> simp only [PyData.shown] <;> decide +kernel⟩
theorem shw_none : Shw .none 0 4 := ⟨by simp [PyData.showable], by simp [PyData.hasDict], by simp [PyData.depth], by simp only [PyData.shown]; decide +kernel⟩
theorem shw_int {i : Int} (h : i.natAbs.log2 < 1920) : Shw (.int i) 0 1921 := ⟨by simpa [PyData.showable] using h, by simp [PyData.hasDict], by simp [PyData.depth], by simp only [PyData.shown]; exact int_text_len_1921 h⟩
theorem Shw.le {d : PyData} {k n k' n' : Nat} (a : Shw d k n) (hk : k ≤ k') (hn : n ≤ n') : Shw d k' n' := ⟨a.s, a.h, Nat.le_trans a.dp hk, Nat.le_trans a.len hn⟩
theorem shownAll_map : ∀ ds : List PyData, PyData.shownAll ds = ds.map PyData.shown
  | [] => by simp [PyData.shownAll]
  | d :: r => by simp [PyData.shownAll, shownAll_map r]
theorem textFrom_le : ∀ (ts : List Str) (k : Nat) (acc : Str) (n : Nat), (∀ t ∈ ts, t.length ≤ n) → (textFrom k acc ts).length ≤ acc.length + ts.length * (n + 2)
  | [], k, acc, n, _ => by
    show acc.length ≤ acc.length + 0 * (n + 2)
    omega
  | t :: r, k, acc, n, h => by
    have h1 := textFrom_le r (k + 1) (acc ++ (if k > 0 then ", " else "" : String) ++ t) n fun x hx => h x (List.mem_cons_of_mem _ hx)
    have h2 := h t List.mem_cons_self
    rw [strLen_append, strLen_append] at h1
    have h3 : ((if k > 0 then ", " else "" : String) : Str).length ≤ 2 := by split <;> decide +kernel
    show (textFrom (k + 1) _ r).length ≤ acc.length + (r.length + 1) * (n + 2)
    rw [Nat.add_mul]
    omega
theorem shwAll {ds : List PyData} {k n : Nat} (h : ∀ d ∈ ds, Shw d k n) : PyData.showableAll ds = true ∧ PyData.hasDictAll ds = false ∧ PyData.depthAll ds ≤ k ∧ ∀ t ∈ PyData.shownAll ds, t.length ≤ n := by
  induction ds with
  | nil => exact ⟨by simp [PyData.showableAll], by simp [PyData.hasDictAll], by simp [PyData.depthAll], by simp [PyData.shownAll]⟩
  | cons d r ih =>
    obtain ⟨a1, a2, a3, a4⟩ := h d List.mem_cons_self
    obtain ⟨b1, b2, b3, b4⟩ := ih fun x hx => h x (List.mem_cons_of_mem _ hx)
    refine ⟨by simp [PyData.showableAll, a1, b1], by simp [PyData.hasDictAll, a2, b2], ?_, ?_⟩
    · simp only [PyData.depthAll]
      omega
    · intro t ht
      simp only [PyData.shownAll] at ht
      rcases List.mem_cons.mp ht with rfl | ht
      · exact a4
      · exact b4 t ht
theorem shw_list {ds : List PyData} {k n : Nat} (h : ∀ d ∈ ds, Shw d k n) : Shw (.list ds) (k + 1) (ds.length * (n + 2) + 2) := by
  obtain ⟨b1, b2, b3, b4⟩ := shwAll h
  refine ⟨by simpa [PyData.showable] using b1, by simpa [PyData.hasDict] using b2, by simp only [PyData.depth]; omega, ?_⟩
  simp only [PyData.shown]
  unfold listText
  rw [strLen_append]
  have h1 := textFrom_le _ 0 "[" n b4
  rw [shownAll_map, List.length_map] at h1
  rw [shownAll_map]
  have h2 : ((("[" : String) : Str)).length = 1 := by decide +kernel
  have h3 : ((("]" : String) : Str)).length = 1 := by decide +kernel
  omega
/-- a list of truths as data -/
def dBools (bs : List Bool) : PyData := .list (bs.map PyData.bool)
theorem shw_bools (bs : List Bool) : Shw (dBools bs) 1 (bs.length * 7 + 2) := by
  have h := shw_list (ds := bs.map PyData.bool) (k := 0) (n := 5) fun d hd => by
    obtain ⟨b, _, rfl⟩ := List.mem_map.mp hd
    exact shw_bool b
  rw [List.length_map] at h
  exact h
theorem dpAll_bools {K : PySem.W.Frag} {H : Hp} : ∀ bs : List Bool, DpAll K H (bs.map V.bl) (bs.map PyData.bool)
  | [] => .nil
  | b :: r => .cons (.bl b) (dpAll_bools r)
theorem dp_bools {K : PySem.W.Frag} {H : Hp} {a : Addr} {bs : List Bool} (h : SqL K H a (bs.map V.bl)) : Dp K H (.ref a) (dBools bs) := .lst h (dpAll_bools bs)
/-- repr(a list of truths), as rRepr asks -/
theorem repr_bools {K : PySem.W.Frag} {H : Hp} {a : Addr} {bs : List Bool} {Q : VK} (h : H a = some (.lst (bs.map V.bl))) (hn : bs.length ≤ 1000) (q : Q (.str (dBools bs).shown) H) : rRepr K [.ref a] H Q := by
  obtain ⟨s, hd, dp, len⟩ := shw_bools bs
  exact ⟨_, dBools bs, rfl, dp_bools (SqL.of h), s, hd, by omega, Nat.le_trans len (fits_sz (by omega)), q⟩
theorem mem_all {p : V → Bool} {ys : List V} {y : V} (h : ys.all p = true) (hy : y ∈ ys) : p y = true := List.all_eq_true.mp h y hy
def vIn (lo hi : Int) : V → Bool | .int i => decide (lo ≤ i) && decide (i ≤ hi) | _ => false
theorem vIn_of {lo hi : Int} {y : V} (h : vIn lo hi y = true) : ∃ i, y = .int i ∧ lo ≤ i ∧ i ≤ hi := by
  cases y with
  | int i =>
    have h' : (decide (lo ≤ i) && decide (i ≤ hi)) = true := h
    rw [Bool.and_eq_true] at h'
    exact ⟨i, rfl, of_decide_eq_true h'.1, of_decide_eq_true h'.2⟩
  | _ => cases h
theorem pick_int {lo hi : Int} {ys : List V} {y : V} (h : ys.all (vIn lo hi) = true) (hy : y ∈ ys) : ∃ i, y = .int i ∧ lo ≤ i ∧ i ≤ hi := vIn_of (mem_all h hy)
/-- a promise of a part of a law: it is right, c rolls are made -/
def spRight (c : Nat) : Sp := fun vs H Q _ => ∃ (l : Addr) (n : Nat), vs = [.ref l] ∧ Dice H l (n + c) ∧ ∀ H', Kp l H H' → Dice H' l n → Q (.bl true) H'
/-- is_integer: of any value, no size asked -/
def spIsI (K : PySem.W.Frag) (p : V → Bool) : Sp := fun vs H Q _ => ∃ x, vs = [x] ∧ Tyd K H x ∧ ∀ H', Same H H' → Q (.bl (p x)) H'
theorem Dice.new {H : Hp} {l p : Addr} {o : HO} {n : Nat} (d : Dice H l n) (h : H p = none) : Dice (L2.upd H p o) l n := d.upd (d.ne h)
/-- what a drawn odd value is: of a known kind, as long as it stands, and no integer -/
def OddI (K : PySem.W.Frag) (l : Addr) (H : Hp) (y : V) : Prop := (∀ H', Kp l H H' → Tyd K H' y) ∧ isInteger y = false
theorem isI_near {near r : Int} (h0 : 0 ≤ near + r) (s : Int) (hs : s = 1 ∨ s = -1) : isInteger (.int ((near + r) * s)) = decide (near + r < (10 : Int) ^ (60 : Int).toNat) := by
  show decide (((near + r) * s).natAbs < 10 ^ 60) = _
  have e : (10 : Int) ^ (60 : Int).toNat = ((10 ^ 60 : Nat) : Int) := by decide +kernel
  have e2 : ((near + r) * s).natAbs = (near + r).natAbs := by
    rcases hs with rfl | rfl
    · rw [Int.mul_one]
    · rw [Int.mul_neg, Int.mul_one, Int.natAbs_neg]
  rw [e, e2]
  generalize (10 ^ 60 : Nat) = m
  by_cases h : near + r < (m : Int)
  · rw [decide_eq_true h, decide_eq_true (by omega)]
  · rw [decide_eq_false h, decide_eq_false (by omega)]
theorem log_of {i : Int} (h : i.natAbs < 2 ^ 300) : i.natAbs.log2 < 1920 := Nat.lt_of_lt_of_le (PySem.Flt.log2_lt_of (by decide) h) (by decide)
theorem reprB (bs : List Bool) (hn : bs.length ≤ 1000) : (dBools bs).showable = true ∧ (dBools bs).hasDict = false ∧ (dBools bs).depth ≤ 60 ∧ (dBools bs).shown.length ≤ sizeLine := by
  obtain ⟨s, hd, dp, len⟩ := shw_bools bs
  exact ⟨s, hd, by omega, Nat.le_trans len (fits_sz (by omega))⟩
/-! ### texts made of pieces of texts -/
theorem isText_of {z : Str} (h1 : (cs z).length ≤ 8000) (h2 : ∀ c ∈ cs z, lett c = true) : isText (.str z) = true := by
  show (decide ((cs z).length ≤ 8000) && (cs z).all lett) = true
  rw [decide_eq_true h1, List.all_eq_true.mpr h2]
  rfl
theorem isPiece_of {z : Str} (h2 : ∀ c ∈ cs z, lett c = true) : isPiece (.str z) = (decide (1 ≤ (cs z).length) && decide ((cs z).length ≤ 5)) := by
  show (decide (1 ≤ (cs z).length) && decide ((cs z).length ≤ 5) && (cs z).all lett) = _
  rw [List.all_eq_true.mpr h2, Bool.and_true]
theorem isSign_of {z : Str} (h2 : ∀ c ∈ cs z, lett c = true) : isSign (.str z) = decide ((cs z).length = 1) := by
  show (decide ((cs z).length = 1) && (cs z).all lett) = _
  rw [List.all_eq_true.mpr h2, Bool.and_true]
theorem spoilt {z : Str} {c : Nat} (hc : c ∈ cs z) (h : lett c = false) : isText (.str z) = false ∧ isPiece (.str z) = false ∧ isSign (.str z) = false ∧ isWord (.str z) = false := by
  have e : (cs z).all lett = false := by
    cases q : (cs z).all lett with
    | false => rfl
    | true =>
      rw [List.all_eq_true.mp q c hc] at h
      cases h
  refine ⟨?_, ?_, ?_, ?_⟩
  · show (_ && (cs z).all lett) = false
    rw [e, Bool.and_false]
  · show (_ && (cs z).all lett) = false
    rw [e, Bool.and_false]
  · show (_ && (cs z).all lett) = false
    rw [e, Bool.and_false]
  · show (_ && (cs z).all lett) = false
    rw [e, Bool.and_false]
theorem cs_cut (z : Str) (lo hi : Option Int) : cs (cutS z lo hi) = ((cs z).drop (HT.sIx z.length 0 lo)).take (HT.sIx z.length z.length hi - HT.sIx z.length 0 lo) := by
  unfold cutS
  simp
theorem cut_sub {z : Str} {lo hi : Option Int} {c : Nat} (h : c ∈ cs (cutS z lo hi)) : c ∈ cs z := by
  rw [cs_cut] at h
  exact List.mem_of_mem_drop (List.mem_of_mem_take h)
theorem sIx_pos {n d : Nat} {i : Int} (h : 0 ≤ i) : HT.sIx n d (some i) = min i.toNat n := by
  show (if i < 0 then _ else _) = _
  rw [if_neg (by omega)]
theorem cut_len {z : Str} {a b : Int} (ha : 0 ≤ a) (hab : a ≤ b) (hb : b ≤ z.length) : (cs (cutS z (some a) (some b))).length = (b - a).toNat := by
  rw [cs_cut, sIx_pos ha, sIx_pos (by omega), List.length_take, List.length_drop, cs_len]
  omega
theorem cut_lenFrom {z : Str} {a : Int} (ha : 0 ≤ a) (hb : a ≤ z.length) : (cs (cutS z (some a) none)).length = z.length - a.toNat := by
  rw [cs_cut, sIx_pos ha, List.length_take, List.length_drop, cs_len]
  show min (z.length - _) _ = _
  omega
theorem cut_lenTo {z : Str} {b : Int} (h0 : 0 ≤ b) (hb : b ≤ z.length) : (cs (cutS z none (some b))).length = b.toNat := by
  rw [cs_cut, sIx_pos h0, List.length_take, List.length_drop, cs_len]
  show min (min b.toNat z.length - 0) (z.length - 0) = _
  omega
theorem str_app_len (x y : Str) : (x ++ y).length = x.length + y.length := strLen_append x y
/-- two ways joined, whatever the test and the ways do -/
theorem tif_join {t : TT} {ta tb : TE} {σ : L2.St} {H : Hp} {Q : VK} (P : Hp → Prop) (R : V → Hp → Prop) (ht : ∀ N : Bool → Hp → Prop, (∀ c H1, P H1 → N c H1) → t σ H N)
    (ha : ∀ H1, P H1 → ∀ N : VK, (∀ v H2, R v H2 → N v H2) → ta σ H1 N) (hb : ∀ H1, P H1 → ∀ N : VK, (∀ v H2, R v H2 → N v H2) → tb σ H1 N) (hq : ∀ v H2, R v H2 → Q v H2) : tIf t ta tb σ H Q :=
  ht _ fun c H1 p => itB (fun _ => ha H1 p _ hq) (fun _ => hb H1 p _ hq)
/-- a <= b <= c of known ints, as a value -/
theorem chain_le {ta tb tc : TE} {σ : L2.St} {H : Hp} {Q : VK} {a b c : Int} (ha : ∀ N : VK, N (.int a) H → ta σ H N) (hb : ∀ N : VK, N (.int b) H → tb σ H N) (hc : ∀ N : VK, N (.int c) H → tc σ H N)
    (q : Q (.bl (decide (a ≤ b) && decide (b ≤ c))) H) : tChain (rI0 fun i j => .bl (decide (i ≤ j))) (rI0 fun i j => .bl (decide (i ≤ j))) ta tb tc σ H Q := by
  refine ha _ (hb _ ⟨a, b, rfl, rfl, _, rfl, ?_⟩)
  refine itB (fun e => ?_) (fun e => ?_)
  · refine hc _ ⟨b, c, rfl, rfl, ?_⟩
    rw [e] at q
    exact q
  · rw [e] at q
    exact q
theorem odd_of {z : Str} {o : Nat} (h : (cs z).all (fun c => !lett c) = true) (ho : o ∈ z.cps.toList) : lett o = false := by
  have := List.all_eq_true.mp h o ho
  simpa using this
theorem v_int_eq {a b : Int} : decide (V.int a = V.int b) = decide (a = b) := by
  by_cases h : a = b
  · rw [decide_eq_true h, decide_eq_true (by rw [h])]
  · rw [decide_eq_false h, decide_eq_false (fun q => h (V.int.inj q))]
theorem sz_of' {z : Str} (h : z.length ≤ 100000) : szV (.str z) := h
theorem sign_no {z : Str} (h : (cs z).length ≠ 1) : isSign (.str z) = false := by
  show (decide ((cs z).length = 1) && (cs z).all lett) = false
  rw [decide_eq_false h]
  rfl
theorem piece_no {z : Str} (h : 5 < (cs z).length) : isPiece (.str z) = false := by
  show (decide (1 ≤ (cs z).length) && decide ((cs z).length ≤ 5) && (cs z).all lett) = false
  rw [decide_eq_false (by omega : ¬ (cs z).length ≤ 5), Bool.and_false]
  rfl
theorem ne_self {z : Str} : V.bl (!decide (V.str z = V.str z)) = V.bl false := by
  rw [decide_eq_true rfl]
  rfl
theorem is_self {z : Str} : V.bl (decide (V.str z = V.str z)) = V.bl true := by rw [decide_eq_true rfl]
theorem foldl_cat : ∀ (n : Nat) (a acc : Array Nat), ((List.replicate n a).foldl (· ++ ·) acc).toList = acc.toList ++ (List.replicate n a.toList).flatten
  | 0, a, acc => by simp
  | n + 1, a, acc => by
    rw [List.replicate_succ, List.foldl_cons, foldl_cat n a (acc ++ a), List.replicate_succ, List.flatten_cons]
    simp
theorem cs_rep (z : Str) (n : Nat) : cs (sRep z n) = (List.replicate n (cs z)).flatten := by
  have h := foldl_cat n z.cps #[]
  rw [show (#[] : Array Nat).toList = [] from rfl, List.nil_append] at h
  exact h
theorem rep_mem {z : Str} {n c : Nat} (h : c ∈ cs (sRep z n)) : c ∈ cs z := by
  rw [cs_rep] at h
  obtain ⟨l, hl, hc⟩ := List.mem_flatten.mp h
  rw [List.eq_of_mem_replicate hl] at hc
  exact hc
theorem sum_rep : ∀ n k : Nat, (List.replicate n k).sum = n * k
  | 0, k => by simp
  | n + 1, k => by
    rw [List.replicate_succ, List.sum_cons, sum_rep n k, Nat.add_mul]
    omega
theorem rep_len (z : Str) (n : Nat) : (sRep z n).length = n * z.length := by
  rw [← cs_len, cs_rep, List.length_flatten, List.map_replicate, sum_rep, cs_len]
theorem Kp.sameOf {l : Addr} {H H1 H2 : Hp} (s : Same H H1) (k : Kp l H1 H2) (h : H l = none) : Same H H2 := fun b o e => k b o (s b o e) (ne_of_none e h)
def spLaw (K : PySem.W.Frag) : Sp := fun vs H Q _ => ∃ (a : Addr) (ns : List Int), vs = [.ref a] ∧ SqL K H a (ns.map V.int) ∧ ns.length ≤ 63 ∧ ∀ H', Q (.bl true) H'
/-- how many cells are looked at -/
theorem cells_bound {n : Nat} {m : Int} (hm : 1 ≤ m) : 1 ≤ (if (if (n : Int) < m then (n : Int) else m) > 1 then (if (n : Int) < m then (n : Int) else m) else 1) ∧ (if (if (n : Int) < m then (n : Int) else m) > 1 then (if (n : Int) < m then (n : Int) else m) else 1) ≤ m := by
  split <;> split <;> omega
end G
namespace K01
open PySem PySem.Spec PyProof.Rows L2 G
open L2 (St)

def top (i : Nat) : Stmt := PySem.Challenge.pw_cutbehind_k01_integers_signs_texts_and_p.main.body.getD i (.Pass ⟨0, 0, 0, 0⟩)
abbrev s_is_integer : Stmt := top 3
abbrev s_is_word : Stmt := top 4
abbrev s_is_sign : Stmt := top 5
abbrev s_is_text : Stmt := top 6
abbrev s_is_piece : Stmt := top 7
abbrev s__law_dice : Stmt := top 9
abbrev s__law_roll : Stmt := top 10
abbrev s__law_pick : Stmt := top 11
abbrev s__law_letters : Stmt := top 12
abbrev s__law_integers_right : Stmt := top 13
abbrev s__law_texts_right : Stmt := top 14
abbrev s__law_lengths_right : Stmt := top 15
abbrev s_law : Stmt := top 16
structure Txt (mg : Str → Option Value) : Prop where
  b_abs : mg "abs" = none
  b_all : mg "all" = none
  b_bool : mg "bool" = none
  b_int : mg "int" = none
  b_isinstance : mg "isinstance" = none
  b_len : mg "len" = none
  b_list : mg "list" = none
  b_max : mg "max" = none
  b_min : mg "min" = none
  b_range : mg "range" = none
  b_repr : mg "repr" = none
  b_str : mg "str" = none
  g_PIECE_SIGNS : ∃ t, mg "PIECE_SIGNS" = some (.int 5 t)
  g_TEXT_SIGNS : ∃ t, mg "TEXT_SIGNS" = some (.int 8000 t)

section
variable {P : Program} {w : World} {K : PySem.W.Frag} {mg : Str → Option Value} {base : Heap}
theorem sc_is_integer : FnScope ["value"] ["value"] (defScope s_is_integer) := ⟨rfl, rfl, rfl, by decide +kernel, rfl, by decide +kernel, by decide +kernel⟩
theorem ok_is_integer {f : Addr} {fd : FuncData} (F : Fun K "is_integer" "is_integer" s_is_integer f fd) (T : Txt mg) : FnG P w K mg base CX0 1 f fd ["value"] (spIsI K isInteger) := by
  refine fn_g0 F sc_is_integer (fun vs H Q E h => ?_) (fun cdv A outer s H vs Q E hg hr h => ?_)
  · obtain ⟨x, rfl, _⟩ := h
    rfl
  · have hu := hu_of hr
    obtain ⟨x, rfl, ty, k⟩ := h
    obtain ⟨t, ht, hs, hi, hb⟩ := id ty
    have k0 := k H (Same.refl H)
    refine ⟨_, (pss_cons (ps_if (PW.pt (pw_or (pt_val (pe_callB call_isi (by rfl) T.b_isinstance (by decide +kernel) (pa_cons (pv 0) (pa_cons (pe_bltn (v := .ty "bool") rfl T.b_bool (by decide +kernel) rfl) pa_nil)))) (pw_or1 (pt_not (pt_val (pe_callB call_isi (by rfl) T.b_isinstance (by decide +kernel) (pa_cons (pv 0) (pa_cons (pe_bltn (v := .ty "int") rfl T.b_int (by decide +kernel) rfl) pa_nil)))))))) (pss_one (ps_ret pe_bl)) pss_nil)
      (pss_one (ps_ret (pe_cmpR op_lt (pe_callB call_abs (by rfl) T.b_abs (by decide +kernel) (pa_cons (pv 0) pa_nil)) (pe_op op_powW pe_int pe_int) (nomark _))))), ?_⟩
    cases x with
    | bl b =>
      refine ⟨_, rfl, _, _, _, _, _, rfl, .ty _, ht, hb, _, rfl, ?_⟩
      exact k0
    | int i =>
      refine ⟨_, rfl, _, _, _, _, _, rfl, .ty _, ht, hb, _, rfl, ?_⟩
      refine ⟨_, rfl, _, _, _, _, _, rfl, .ty _, ht, hi, _, rfl, ?_⟩
      refine ⟨_, rfl, _, rfl, _, _, rfl, rfl, ⟨by decide, by decide +kernel⟩, _, _, rfl, rfl, ?_⟩
      have e : decide ((if i < 0 then -i else i) < (10 : Int) ^ (60 : Int).toNat) = isInteger (.int i) := abs_lt i
      rw [← e] at k0
      exact k0
    | _ =>
      refine ⟨_, rfl, _, _, _, _, _, rfl, .ty _, ht, hb, _, rfl, ?_⟩
      refine ⟨_, rfl, _, _, _, _, _, rfl, .ty _, ht, hi, _, rfl, ?_⟩
      exact k0
theorem sc_is_word : FnScope ["value", "letter"] ["value"] (defScope s_is_word) := ⟨rfl, rfl, rfl, by decide +kernel, rfl, by decide +kernel, by decide +kernel⟩
theorem ok_is_word {f : Addr} {fd : FuncData} (F : Fun K "is_word" "is_word" s_is_word f fd) (T : Txt mg) : FnG P w K mg base CX0 1 f fd ["value"] (spIs K isWord) := by
  refine fn_g0 F sc_is_word (fun vs H Q E h => ?_) (fun cdv A outer s H vs Q E hg hr h => ?_)
  · obtain ⟨x, rfl, _⟩ := h
    rfl
  · have hu := hu_of hr
    obtain ⟨x, rfl, ty, sz, k⟩ := h
    obtain ⟨t, ht, hs, hi, hb⟩ := id ty
    have k0 := k H (Same.refl H)
    refine ⟨_, (pss_one (ps_ret (pe_and (pe_callB call_isi (by rfl) T.b_isinstance (by decide +kernel) (pa_cons (pv 0) (pa_cons (pe_bltn (v := .ty "str") rfl T.b_str (by decide +kernel) rfl) pa_nil))) (pe_and (pe_cmpR op_ne (pv 0) pe_str (nomark _)) (pe_one (pe_callB (cr_all rfl) (by rfl) T.b_all (by decide +kernel) (pa_cons (pe_lc (own := [("letter", 1)]) rfl sc_is_word.nd (pi_str (pv 0)) (blkOk_by (N := ["value", "letter"]) (sc := defScope s_is_word) (by decide +kernel)) (fun _ _ _ _ _ => (pg_name (i := 1) sc_is_word.nd rfl (Or.inl rfl))) (fun _ _ _ _ _ => pts_nil) (fun _ _ _ _ _ => (pe_chain op_le_str op_le_str pe_str (pv 1) pe_str))) pa_nil))))))), ?_⟩
    cases x with
    | str z =>
      have sz' : z.length ≤ sizeLine := fits_sz sz
      refine ⟨_, rfl, _, _, _, _, _, rfl, .ty _, ht, hs, _, rfl, ?_⟩
      refine ⟨_, rfl, rfl, _, rfl, ?_⟩
      rw [v_str_ne]
      refine itB (fun e1 => ?_) (fun e1 => ?_)
      · refine ⟨_, rfl, _, rfl, fun D hD => ?_⟩
        refine lcp_str (fun c => .bl (lett c)) sz' (fun c acc N hc hN => ?_) ?_
        · refine ⟨_, rfl, _, _, rfl, rfl, _, rfl, ?_⟩
          show if (!decide (([c] : List Nat) < [97])) = true then _ else _
          rw [(lett_eq c).1]
          refine itB (fun e2 => ?_) (fun e2 => ?_)
          · refine ⟨_, _, rfl, rfl, ?_⟩
            show N (.bl (!decide (([122] : List Nat) < [c]))) _
            rw [(lett_eq c).2, ← lett_of e2]
            exact hN
          · rw [lett_no e2] at hN
            exact hN
        · refine ⟨_, (cs z).map lett, rfl, SqL.of (by rw [upd_same, List.map_map]; rfl), ?_⟩
          have e4 : ((cs z).map lett).all id = isWord (.str z) := by
            show _ = (!(cs z).isEmpty && (cs z).all lett)
            rw [e1, List.all_map]
            rfl
          rw [e4]
          exact k _ (same_new hD)
      · have e4 : isWord (.str z) = false := by
          show (!(cs z).isEmpty && (cs z).all lett) = false
          rw [e1]
          rfl
        rw [e4] at k0
        exact k0
    | _ =>
      refine ⟨_, rfl, _, _, _, _, _, rfl, .ty _, ht, hs, _, rfl, ?_⟩
      exact k0
theorem sc_is_sign : FnScope ["value"] ["value"] (defScope s_is_sign) := ⟨rfl, rfl, rfl, by decide +kernel, rfl, by decide +kernel, by decide +kernel⟩
theorem ok_is_sign {f : Addr} {fd : FuncData} (F : Fun K "is_sign" "is_sign" s_is_sign f fd) (T : Txt mg) : FnG P w K mg base CX0 1 f fd ["value"] (spIs K isSign) := by
  refine fn_g0 F sc_is_sign (fun vs H Q E h => ?_) (fun cdv A outer s H vs Q E hg hr h => ?_)
  · obtain ⟨x, rfl, _⟩ := h
    rfl
  · have hu := hu_of hr
    obtain ⟨x, rfl, ty, sz, k⟩ := h
    obtain ⟨t, ht, hs, hi, hb⟩ := id ty
    have k0 := k H (Same.refl H)
    refine ⟨_, (pss_one (ps_ret (pe_and (pe_callB call_isi (by rfl) T.b_isinstance (by decide +kernel) (pa_cons (pv 0) (pa_cons (pe_bltn (v := .ty "str") rfl T.b_str (by decide +kernel) rfl) pa_nil))) (pe_and (pe_cmpR op_eq (pe_callB call_len_str (by rfl) T.b_len (by decide +kernel) (pa_cons (pv 0) pa_nil)) pe_int (nomark _)) (pe_one (pe_chain op_le_str op_le_str pe_str (pv 0) pe_str)))))), ?_⟩
    cases x with
    | str z =>
      have sz' : z.length ≤ sizeLine := fits_sz sz
      refine ⟨_, rfl, _, _, _, _, _, rfl, .ty _, ht, hs, _, rfl, ?_⟩
      refine ⟨_, rfl, _, rfl, sz', rfl, _, rfl, ?_⟩
      rw [v_len_eq1]
      refine itB (fun e1 => ?_) (fun e1 => ?_)
      · obtain ⟨c, rfl⟩ := G.one_sign (of_decide_eq_true e1)
        refine ⟨_, rfl, _, _, rfl, rfl, _, rfl, ?_⟩
        show if (!decide (([c] : List Nat) < [97])) = true then _ else _
        rw [(lett_eq c).1]
        have e5 : isSign (.str ⟨#[c]⟩) = lett c := sign_one c
        rw [e5] at k0
        refine itB (fun e2 => ?_) (fun e2 => ?_)
        · refine ⟨_, _, rfl, rfl, ?_⟩
          show Q (.bl (!decide (([122] : List Nat) < [c]))) _
          rw [(lett_eq c).2, ← lett_of e2]
          exact k0
        · rw [lett_no e2] at k0
          exact k0
      · have e4 : isSign (.str z) = false := by
          show (decide ((cs z).length = 1) && (cs z).all lett) = false
          rw [e1]
          rfl
        rw [e4] at k0
        exact k0
    | _ =>
      refine ⟨_, rfl, _, _, _, _, _, rfl, .ty _, ht, hs, _, rfl, ?_⟩
      exact k0
theorem sc_is_text : FnScope ["value"] ["value"] (defScope s_is_text) := ⟨rfl, rfl, rfl, by decide +kernel, rfl, by decide +kernel, by decide +kernel⟩
theorem ok_is_text {f : Addr} {fd : FuncData} (F : Fun K "is_text" "is_text" s_is_text f fd) (T : Txt mg) (c_is_word : Has P w K mg base CX0 1 "is_word" ["value"] (spIs K isWord)) : FnG P w K mg base CX0 2 f fd ["value"] (spIs K isText) := by
  refine fn_g0 F sc_is_text (fun vs H Q E h => ?_) (fun cdv A outer s H vs Q E hg hr h => ?_)
  · obtain ⟨x, rfl, _⟩ := h
    rfl
  · have hu := hu_of hr
    obtain ⟨x, rfl, ty, sz, k⟩ := h
    obtain ⟨t, ht, hs, hi, hb⟩ := id ty
    have k0 := k H (Same.refl H)
    refine ⟨_, (pss_cons (ps_if (PW.pt (pw_or (pt_not (pt_val (pe_callB call_isi (by rfl) T.b_isinstance (by decide +kernel) (pa_cons (pv 0) (pa_cons (pe_bltn (v := .ty "str") rfl T.b_str (by decide +kernel) rfl) pa_nil))))) (pw_or1 (pt_cmpR op_gt (pe_callB call_len_str (by rfl) T.b_len (by decide +kernel) (pa_cons (pv 0) pa_nil)) (pe_glob (v := .int 8000) rfl T.g_TEXT_SIGNS.choose_spec ⟨_, rfl⟩) (nomark _))))) (pss_one (ps_ret pe_bl)) pss_nil)
      (pss_one (ps_ret (pe_or (pe_cmpR op_eq (pv 0) pe_str (nomark _)) (pe_one (pe_has c_is_word hg (hr.mono (by decide)) pass0 (pa_cons (pv 0) pa_nil))))))), ?_⟩
    cases x with
    | str z =>
      have sz' : z.length ≤ sizeLine := fits_sz sz
      refine ⟨_, rfl, _, _, _, _, _, rfl, .ty _, ht, hs, _, rfl, ?_⟩
      refine ⟨_, rfl, _, rfl, sz', _, _, rfl, rfl, _, rfl, ?_⟩
      refine itB (fun e1 => ?_) (fun e1 => ?_)
      · have e2 := of_decide_eq_true e1
        have e4 : isText (.str z) = false := by
          show (decide ((cs z).length ≤ 8000) && (cs z).all lett) = false
          rw [cs_len, decide_eq_false (by omega)]
          rfl
        rw [e4] at k0
        exact k0
      · have e2 := of_decide_eq_false e1
        have e4 : isText (.str z) = (cs z).all lett := by
          show (decide ((cs z).length ≤ 8000) && (cs z).all lett) = _
          rw [cs_len, decide_eq_true (by omega)]
          rfl
        refine ⟨_, rfl, rfl, _, rfl, ?_⟩
        rw [v_str_eq]
        refine itB (fun e3 => ?_) (fun e3 => ?_)
        · have e5 : isText (.str z) = true := by
            rw [e4]
            cases hz : cs z with
            | nil => rfl
            | cons a l =>
              rw [hz] at e3
              cases e3
          rw [e5] at k0
          exact k0
        · refine ⟨_, rfl, _, rfl, ty, sz, fun H' s' => ?_⟩
          have e5 : isWord (.str z) = isText (.str z) := by
            rw [e4]
            show (!(cs z).isEmpty && (cs z).all lett) = _
            rw [e3]
            rfl
          rw [e5]
          exact k _ s'
    | _ =>
      refine ⟨_, rfl, _, _, _, _, _, rfl, .ty _, ht, hs, _, rfl, ?_⟩
      exact k0
theorem sc_is_piece : FnScope ["value"] ["value"] (defScope s_is_piece) := ⟨rfl, rfl, rfl, by decide +kernel, rfl, by decide +kernel, by decide +kernel⟩
theorem ok_is_piece {f : Addr} {fd : FuncData} (F : Fun K "is_piece" "is_piece" s_is_piece f fd) (T : Txt mg) (c_is_word : Has P w K mg base CX0 1 "is_word" ["value"] (spIs K isWord)) : FnG P w K mg base CX0 2 f fd ["value"] (spIs K isPiece) := by
  refine fn_g0 F sc_is_piece (fun vs H Q E h => ?_) (fun cdv A outer s H vs Q E hg hr h => ?_)
  · obtain ⟨x, rfl, _⟩ := h
    rfl
  · have hu := hu_of hr
    obtain ⟨x, rfl, ty, sz, k⟩ := h
    obtain ⟨t, ht, hs, hi, hb⟩ := id ty
    have k0 := k H (Same.refl H)
    refine ⟨_, (pss_one (ps_ret (pe_and (pe_callB call_isi (by rfl) T.b_isinstance (by decide +kernel) (pa_cons (pv 0) (pa_cons (pe_bltn (v := .ty "str") rfl T.b_str (by decide +kernel) rfl) pa_nil))) (pe_and (pe_chain op_le op_le pe_int (pe_callB call_len_str (by rfl) T.b_len (by decide +kernel) (pa_cons (pv 0) pa_nil)) (pe_glob (v := .int 5) rfl T.g_PIECE_SIGNS.choose_spec ⟨_, rfl⟩)) (pe_one (pe_has c_is_word hg (hr.mono (by decide)) pass0 (pa_cons (pv 0) pa_nil))))))), ?_⟩
    cases x with
    | str z =>
      have sz' : z.length ≤ sizeLine := fits_sz sz
      refine ⟨_, rfl, _, _, _, _, _, rfl, .ty _, ht, hs, _, rfl, ?_⟩
      refine ⟨_, rfl, _, rfl, sz', _, _, rfl, rfl, _, rfl, ?_⟩
      refine itB (fun e1 => ?_) (fun e1 => ?_)
      · have e1' := of_decide_eq_true e1
        refine ⟨_, _, rfl, rfl, _, rfl, ?_⟩
        refine itB (fun e2 => ?_) (fun e2 => ?_)
        · have e2' := of_decide_eq_true e2
          refine ⟨_, rfl, _, rfl, ty, sz, fun H' s' => ?_⟩
          have e5 : isWord (.str z) = isPiece (.str z) := by
            show (!(cs z).isEmpty && (cs z).all lett) = (decide (1 ≤ (cs z).length) && decide ((cs z).length ≤ 5) && (cs z).all lett)
            rw [cs_len, decide_eq_true (by omega), decide_eq_true (by omega)]
            have : (cs z).isEmpty = false := by
              cases hz : cs z with
              | nil =>
                have := cs_len z
                rw [hz] at this
                simp at this
                omega
              | cons a l => rfl
            rw [this]
            rfl
          rw [e5]
          exact k _ s'
        · have e2' := of_decide_eq_false e2
          have e4 : isPiece (.str z) = false := by
            show (decide (1 ≤ (cs z).length) && decide ((cs z).length ≤ 5) && (cs z).all lett) = false
            rw [cs_len, decide_eq_false (by omega : ¬ z.length ≤ 5), Bool.and_false]
            rfl
          rw [e4] at k0
          exact k0
      · have e1' := of_decide_eq_false e1
        have e4 : isPiece (.str z) = false := by
          show (decide (1 ≤ (cs z).length) && decide ((cs z).length ≤ 5) && (cs z).all lett) = false
          rw [cs_len, decide_eq_false (by omega : ¬ 1 ≤ z.length)]
          rfl
        rw [e4] at k0
        exact ⟨_, rfl, k0⟩
    | _ =>
      refine ⟨_, rfl, _, _, _, _, _, rfl, .ty _, ht, hs, _, rfl, ?_⟩
      exact k0
theorem sc__law_dice : FnScope ["script", "spot", "cell", "whole"] ["script", "spot"] (defScope s__law_dice) := ⟨rfl, rfl, rfl, by decide +kernel, rfl, by decide +kernel, by decide +kernel⟩
theorem ok__law_dice {f : Addr} {fd : FuncData} (F : Fun K "_law_dice" "_law_dice" s__law_dice f fd) (T : Txt mg) : FnG P w K mg base CX0 1 f fd ["script", "spot"] (spDice K) := by
  refine fn_g0 F sc__law_dice (fun vs H Q E h => ?_) (fun cdv A outer s H vs Q E hg hr h => ?_)
  · obtain ⟨a, ns, s, rfl, _⟩ := h
    rfl
  · have hu := hu_of hr
    obtain ⟨a, ns, s, rfl, hS, hn, hs0, hs1, k⟩ := h
    refine ⟨_, (pss_cons (ps_set (i := 2) sc__law_dice.nd rfl (Or.inl rfl) (pe_ifExp (pt_cmpR op_lt (pv 1) (pe_callB call_len_seq (by rfl) T.b_len (by decide +kernel) (pa_cons (pv 0) pa_nil)) (nomark _)) (pe_ix ix_list (pv 0) (pv 1) (fun _ _ => rfl)) (pe_op op_add (pe_op op_mulW pe_int (pv 1)) pe_int)))
      (pss_cons (ps_set (i := 3) sc__law_dice.nd rfl (Or.inl rfl) (pe_op op_mod (pe_callTy call_int1 (by rfl) T.b_int (by decide +kernel) (pa_cons (pe_callB call_abs (by rfl) T.b_abs (by decide +kernel) (pa_cons (pv 2) pa_nil)) pa_nil)) (pe_op op_powW (pe_op op_powW pe_int pe_int) pe_int)))
      (pss_one (ps_ret (pe_lst (pa_cons (pe_ifExp (pt_cmpR op_ge (pv 3) (pe_op op_powW pe_int pe_int) (nomark _)) (pv 3) pe_int) (pa_cons (pe_op op_add (pe_op op_add (pe_op op_add (pe_op op_mulW pe_int (pv 3)) (pe_callTy call_int1 (by rfl) T.b_int (by decide +kernel) (pa_cons (pe_cmpR op_lt (pv 2) pe_int (nomark _)) pa_nil))) (pe_op op_mulW pe_int (pv 1))) pe_int) (pa_cons pe_int pa_nil)))))))), ?_⟩
    refine tif_int (c := decide (s < ((ns.map V.int).length : Int))) (fun _ => True) (fun N hN => ?_) (fun e N hN => ?_) (fun e N hN => ?_) (fun cell _ => ?_)
    · exact ⟨_, rfl, _, rfl, _, _, rfl, .inl hS, _, _, rfl, rfl, _, rfl, hN⟩
    · have e1 : s.toNat < ns.length := by
        have := of_decide_eq_true e
        rw [List.length_map] at this
        omega
      refine ⟨_, rfl, _, rfl, _, _, _, _, rfl, rfl, hS, at_of (j := s.toNat) (by omega) (by rw [List.getElem?_map, List.getElem?_eq_getElem e1]; rfl), ?_⟩
      exact hN _ trivial
    · refine ⟨_, rfl, _, _, rfl, rfl, wide_mul (a := 8) (b := 8) (by decide) (by omega) (by decide) (by decide) (by decide), _, _, rfl, rfl, ?_⟩
      exact hN _ trivial
    · -- whole
      refine ⟨_, rfl, _, rfl, .inl ⟨_, rfl, _, _, rfl, rfl, ⟨by decide, by decide +kernel⟩, _, _, rfl, rfl, ⟨by decide, by decide +kernel⟩, _, _, rfl, rfl, (show (0 : Int) < ((10 : Int) ^ (57 : Int).toNat) ^ (11 : Int).toNat by decide +kernel), ?_⟩⟩
      have wb := big_mod (x := if cell < 0 then -cell else cell) (m := ((10 : Int) ^ (57 : Int).toNat) ^ (11 : Int).toNat) (by decide +kernel) (by decide +kernel)
      dsimp only [gName, tRet, tLst, tCons]
      generalize (if cell < 0 then -cell else cell) % ((10 : Int) ^ (57 : Int).toNat) ^ (11 : Int).toNat = whole at wb ⊢
      obtain ⟨w0, w1⟩ := wb
      refine tif_int (c := decide ((10 : Int) ^ (18 : Int).toNat ≤ whole)) Big (fun N hN => ?_) (fun e N hN => ?_) (fun e N hN => ?_) (fun d0 b0 => ?_)
      · exact ⟨_, rfl, _, _, rfl, rfl, ⟨by decide, by decide +kernel⟩, _, _, rfl, rfl, _, rfl, hN⟩
      · exact ⟨_, rfl, hN _ (big_of w0 w1)⟩
      · exact hN _ big_zero
      refine ⟨_, rfl, _, _, rfl, rfl, wide_mul (a := 2) (b := 2100) (by decide) w1 (by decide) (by decide) (by decide), _, rfl, _, _, rfl, rfl, .inr ⟨_, rfl, _, _, rfl, rfl, ?_⟩⟩
      refine ⟨_, rfl, _, _, rfl, rfl, wide_mul (a := 20) (b := 8) (by decide) (by omega) (by decide) (by decide) (by decide), _, _, rfl, rfl, _, _, rfl, rfl, ?_⟩
      refine ⟨(by show 3 ≤ sizeLine; decide), fun p hp => ?_⟩
      refine k p _ hp (same_new hp) ⟨_, _, _, upd_same, b0, big_seed w0 w1 ?_ ⟨hs0, by omega⟩, Int.le_refl _, by omega⟩
      by_cases hc : cell < 0
      · rw [decide_eq_true hc]; exact ⟨by decide, by decide⟩
      · rw [decide_eq_false hc]; exact ⟨by decide, by decide⟩
theorem sc__law_roll : FnScope ["dice", "upto", "found", "one", "two"] ["dice", "upto"] (defScope s__law_roll) := ⟨rfl, rfl, rfl, by decide +kernel, rfl, by decide +kernel, by decide +kernel⟩
theorem ok__law_roll {f : Addr} {fd : FuncData} (F : Fun K "_law_roll" "_law_roll" s__law_roll f fd) (T : Txt mg) : FnG P w K mg base CX0 1 f fd ["dice", "upto"] (spRoll) := by
  refine fn_g0 F sc__law_roll (fun vs H Q E h => ?_) (fun cdv A outer s H vs Q E hg hr h => ?_)
  · obtain ⟨l, u, n, rfl, _⟩ := h
    rfl
  · have hu := hu_of hr
    obtain ⟨l, u, n, rfl, hu0, hu1, ⟨d0, d1, d2, hD, b0, b1, p2, q2⟩, k⟩ := h
    refine ⟨_, (pss_cons (ps_if (pt_cmpR op_gt (pe_ix ix_list (pv 0) pe_int (fun _ _ => rfl)) pe_int (nomark _)) (pss_cons (ps_set (i := 2) sc__law_roll.nd rfl (Or.inl rfl) (pe_op op_mod (pe_callTy call_int1 (by rfl) T.b_int (by decide +kernel) (pa_cons (pe_ix ix_list (pv 0) pe_int (fun _ _ => rfl)) pa_nil)) (pv 1)))
      (pss_cons (ps_asg (pe_op op_fdivW (pe_ix ix_list (pv 0) pe_int (fun _ _ => rfl)) (pv 1)) (pg_sub (pv 0) pe_int set_list))
      (pss_one (ps_ret (pv 2))))) pss_nil)
      (pss_cons (ps_asg (pe_op op_add (pe_ix ix_list (pv 0) pe_int (fun _ _ => rfl)) pe_int) (pg_sub (pv 0) pe_int set_list))
      (pss_cons (ps_set (i := 3) sc__law_roll.nd rfl (Or.inl rfl) (pe_op op_mod (pe_callTy call_int1 (by rfl) T.b_int (by decide +kernel) (pa_cons (pe_op op_add (pe_op op_mulW (pe_ix ix_list (pv 0) pe_int (fun _ _ => rfl)) pe_int) (pe_op op_mulW (pe_ix ix_list (pv 0) pe_int (fun _ _ => rfl)) pe_int)) pa_nil)) pe_int))
      (pss_cons (ps_set (i := 4) sc__law_roll.nd rfl (Or.inl rfl) (pe_op op_mod (pe_callTy call_int1 (by rfl) T.b_int (by decide +kernel) (pa_cons (pe_op op_add (pe_op op_mulW (pv 3) (pv 3)) (pe_op op_mulW (pe_ix ix_list (pv 0) pe_int (fun _ _ => rfl)) pe_int)) pa_nil)) pe_int))
      (pss_one (ps_ret (pe_op op_mod (pe_callTy call_int1 (by rfl) T.b_int (by decide +kernel) (pa_cons (pe_op op_fdivW (pe_op op_mod (pe_callTy call_int1 (by rfl) T.b_int (by decide +kernel) (pa_cons (pe_op op_add (pe_op op_mulW (pv 4) (pv 4)) (pv 3)) pa_nil)) pe_int) pe_int) pa_nil)) (pv 1)))))))), ?_⟩
    refine ⟨_, rfl, _, _, _, _, rfl, rfl, SqL.of hD, rfl, _, _, rfl, rfl, _, rfl, ?_⟩
    have u0 : 0 < u := by omega
    refine itB (fun e => ?_) (fun e => ?_)
    · refine ⟨_, rfl, _, _, _, _, rfl, rfl, SqL.of hD, rfl, .inl ⟨_, rfl, _, rfl, _, _, rfl, rfl, u0, ?_⟩⟩
      refine ⟨_, rfl, _, _, _, _, rfl, rfl, SqL.of hD, rfl, _, rfl, _, _, rfl, rfl, wide_div (b := 64) u0 (by omega) (by decide) (by decide), ?_⟩
      refine ⟨_, rfl, _, _, _, _, rfl, rfl, hD, rfl, ?_⟩
      refine ⟨_, rfl, ?_⟩
      exact k _ _ (Int.emod_nonneg _ (by omega)) (Int.emod_lt_of_pos _ u0) Kp.upd ⟨_, _, _, upd_same, big_div b0 hu0, b1, p2, by omega⟩
    · refine ⟨_, rfl, _, _, _, _, rfl, rfl, SqL.of hD, rfl, _, _, rfl, rfl, _, rfl, _, _, _, _, rfl, rfl, hD, rfl, ?_⟩
      have hD2 : upd H l (.lst [.int d0, .int d1, .int (d2 + 1)]) l = some (.lst [.int d0, .int d1, .int (d2 + 1)]) := upd_same
      refine ⟨_, rfl, _, _, _, _, rfl, rfl, SqL.of hD2, rfl, _, _, rfl, rfl, wide_mul (a := 2200) (b := 40) b1.2 (by decide) (by decide) (by decide) (by decide), ?_⟩
      refine ⟨_, rfl, _, _, _, _, rfl, rfl, SqL.of hD2, rfl, _, _, rfl, rfl, wide_mul (a := 64) (b := 40) (by omega) (by decide) (by decide) (by decide) (by decide), _, _, rfl, rfl, .inl ⟨_, rfl, _, _, rfl, rfl, (show (0 : Int) < 2305843009213693951 by decide), ?_⟩⟩
      have o1 := Int.emod_nonneg (d1 * 25214903917 + (d2 + 1) * 40692) (by decide : (2305843009213693951 : Int) ≠ 0)
      have o2 := Int.emod_lt_of_pos (d1 * 25214903917 + (d2 + 1) * 40692) (by decide : (0 : Int) < 2305843009213693951)
      dsimp only
      generalize (d1 * 25214903917 + (d2 + 1) * 40692) % 2305843009213693951 = one' at o1 o2 ⊢
      refine ⟨_, rfl, _, rfl, _, _, rfl, rfl, wide_mul (a := 64) (b := 64) (by omega) (by omega) (by decide) (by decide) (by decide), ?_⟩
      refine ⟨_, rfl, _, _, _, _, rfl, rfl, SqL.of hD2, rfl, _, _, rfl, rfl, wide_mul (a := 64) (b := 40) (by omega) (by decide) (by decide) (by decide) (by decide), _, _, rfl, rfl, .inl ⟨_, rfl, _, _, rfl, rfl, (show (0 : Int) < 1152921504606846883 by decide), ?_⟩⟩
      have t1 := Int.emod_nonneg (one' * one' + (d2 + 1) * 69621) (by decide : (1152921504606846883 : Int) ≠ 0)
      have t2 := Int.emod_lt_of_pos (one' * one' + (d2 + 1) * 69621) (by decide : (0 : Int) < 1152921504606846883)
      dsimp only
      generalize (one' * one' + (d2 + 1) * 69621) % 1152921504606846883 = two' at t1 t2 ⊢
      refine ⟨_, rfl, _, rfl, _, _, rfl, rfl, wide_mul (a := 64) (b := 64) (by omega) (by omega) (by decide) (by decide) (by decide), _, rfl, _, _, rfl, rfl, .inl ⟨_, rfl, ?_⟩⟩
      refine ⟨_, _, rfl, rfl, (show (0 : Int) < 4398046511093 by decide), _, _, rfl, rfl, wide_div (b := 64) (by decide) (by decide) (by decide) (by decide), .inl ⟨_, rfl, _, rfl, _, _, rfl, rfl, u0, ?_⟩⟩
      exact k _ _ (Int.emod_nonneg _ (by omega)) (Int.emod_lt_of_pos _ u0) Kp.upd ⟨_, _, _, hD2, b0, b1, by omega, by omega⟩
theorem sc__law_pick : FnScope ["dice", "items"] ["dice", "items"] (defScope s__law_pick) := ⟨rfl, rfl, rfl, by decide +kernel, rfl, by decide +kernel, by decide +kernel⟩
theorem ok__law_pick {f : Addr} {fd : FuncData} (F : Fun K "_law_pick" "_law_pick" s__law_pick f fd) (T : Txt mg) (c__law_roll : Has P w K mg base CX0 1 "_law_roll" ["dice", "upto"] (spRoll)) : FnG P w K mg base CX0 2 f fd ["dice", "items"] (spPick K) := by
  refine fn_g0 F sc__law_pick (fun vs H Q E h => ?_) (fun cdv A outer s H vs Q E hg hr h => ?_)
  · obtain ⟨l, x, ys, n, rfl, _⟩ := h
    rfl
  · have hu := hu_of hr
    obtain ⟨l, x, ys, n, rfl, S, ne, hl, D, k⟩ := h
    have hpos : 0 < ys.length := List.length_pos_iff.mpr ne
    refine ⟨_, (pss_one (ps_ret (pe_ix ix_seq (pv 1) (pe_has c__law_roll hg (hr.mono (by decide)) pass0 (pa_cons (pv 0) (pa_cons (pe_callB call_len (by rfl) T.b_len (by decide +kernel) (pa_cons (pv 1) pa_nil)) pa_nil))) (fun _ _ => rfl)))), ?_⟩
    have hlen : LenV K x H ys.length := by
      cases S with
      | lst _ h => exact .inl ⟨_, h, rfl⟩
      | tup _ h => exact .inr ⟨_, h, rfl⟩
      | str h e => exact ⟨fits_sz (by omega), by rw [e, signsV_len]⟩
    refine ⟨_, rfl, _, rfl, _, rfl, _, _, rfl, hlen, l, _, n, rfl, by omega, by omega, D, fun r H' r0 r1 kp D' => ?_⟩
    have hr1 : r.toNat < ys.length := by omega
    have hat : ys[r.toNat]? = some ys[r.toNat] := List.getElem?_eq_getElem hr1
    have hmem : ys[r.toNat] ∈ ys := List.getElem_mem hr1
    cases S with
    | lst n h => exact .inl ⟨_, _, _, _, rfl, rfl, kp.seq n h, at_of (j := r.toNat) (by omega) hat, k _ _ hmem kp D'⟩
    | tup n h => exact .inr (.inl ⟨_, _, _, _, rfl, rfl, kp.tup n h, at_of (j := r.toNat) (by omega) hat, k _ _ hmem kp D'⟩)
    | @str z _ h e =>
      subst e
      have hc : ∃ c, (cs z)[r.toNat]? = some c := ⟨_, List.getElem?_eq_getElem (by rw [cs_len, ← signsV_len]; exact hr1)⟩
      obtain ⟨c, hc⟩ := hc
      have e2 : atI (cs z) r = some c := by
        have : r = ((r.toNat : Nat) : Int) := by omega
        rw [this]
        exact atI_nat hc
      refine .inr (.inr ⟨_, _, _, rfl, rfl, fits_sz (by omega), e2, ?_⟩)
      refine k _ _ ?_ kp D'
      unfold signsV
      exact List.mem_map.mpr ⟨c, List.mem_of_getElem? hc, rfl⟩
theorem sc__law_letters : FnScope ["dice", "signs", "many", "turn"] ["dice", "signs", "many"] (defScope s__law_letters) := ⟨rfl, rfl, rfl, by decide +kernel, rfl, by decide +kernel, by decide +kernel⟩
theorem ok__law_letters {f : Addr} {fd : FuncData} (F : Fun K "_law_letters" "_law_letters" s__law_letters f fd) (T : Txt mg) (c__law_pick : Has P w K mg base CX0 2 "_law_pick" ["dice", "items"] (spPick K)) : FnG P w K mg base CX0 3 f fd ["dice", "signs", "many"] (spLetters K) := by
  refine fn_g0 F sc__law_letters (fun vs H Q E h => ?_) (fun cdv A outer s H vs Q E hg hr h => ?_)
  · obtain ⟨l, x, cl, m, n, rfl, _⟩ := h
    rfl
  · have hu := hu_of hr
    obtain ⟨l, x, cl, m, n, rfl, S, ne, hl, hm, D, k⟩ := h
    refine ⟨_, (pss_one (ps_ret (pe_join pe_str (pe_lc (own := [("turn", 3)]) rfl sc__law_letters.nd (pi_range1 (by rfl) T.b_range (pa_cons (pv 2) pa_nil)) (blkOk_by (N := ["dice", "signs", "many", "turn"]) (sc := defScope s__law_letters) (by decide +kernel)) (fun _ _ _ _ _ => (pg_name (i := 3) sc__law_letters.nd rfl (Or.inl rfl))) (fun _ _ _ _ _ => pts_nil) (fun _ _ _ _ _ => (pe_has c__law_pick hg (hr.mono (by decide)) pass0 (pa_cons (pv 0) (pa_cons (pv 1) pa_nil)))))))), ?_⟩
    refine ⟨⟨_, rfl⟩, _, rfl, _, rfl, by omega, by omega, fun p hp => ?_⟩
    have npl : p ≠ l := D.ne hp
    refine lc_range (fun i H' => ∃ zs : List Nat, zs.length = i ∧ (∀ c ∈ zs, c ∈ cl) ∧ H' p = some (.lst (zs.map chV)) ∧ Kp l H H' ∧ Dice H' l (n + (m - i)) ∧ i ≤ m)
      ⟨[], rfl, fun _ z => (List.not_mem_nil z).elim, upd_same, (Kp.refl _ _).new hp, D.upd npl, Nat.zero_le _⟩ ?_ ?_
    · rintro i H' hi ⟨zs, e1, e2, e3, kp, D', hi2⟩
      have e6 : Int.toNat (m : Int) = m := by omega
      rw [e6] at hi
      refine ⟨rfl, _, rfl, _, rfl, l, x, cl.map chV, n + (m - (i + 1)), rfl, S.kp kp, by simpa using ne, by simpa using hl, D'.le (by omega), fun y H2 hy kp2 D2 => ?_⟩
      obtain ⟨c, hc, rfl⟩ := List.mem_map.mp hy
      refine ⟨_, kp2 _ _ e3 npl, by rw [List.length_map]; exact Nat.lt_of_le_of_lt (by omega : zs.length ≤ 10000) (by decide), zs ++ [c], ?_, ?_, ?_, ?_, ?_, by omega⟩
      · rw [List.length_append, e1]
        rfl
      · intro d hd
        rcases List.mem_append.mp hd with hd | hd
        · exact e2 d hd
        · rw [List.mem_singleton.mp hd]
          exact hc
      · rw [upd_same, List.map_append]
        rfl
      · exact (kp.trans kp2).mut hp
      · exact D2.upd npl
    · rintro H' ⟨zs, e1, e2, e3, kp, D', hi2⟩
      have e6 : Int.toNat (m : Int) = m := by omega
      rw [e6] at e1 D'
      refine ⟨_, p, zs.map ch, rfl, rfl, .inl (SqL.of (by rw [e3, List.map_map]; rfl)), ?_, ?_⟩
      · rw [sum_ch, List.length_map]
        show zs.length + zs.length * 0 ≤ _
        omega
      · rw [join_ch]
        exact k zs H' e1 e2 kp (D'.le (by omega))
theorem sc__law_integers_right : FnScope ["dice", "most", "near", "number", "odd", "told"] ["dice"] (defScope s__law_integers_right) := ⟨rfl, rfl, rfl, by decide +kernel, rfl, by decide +kernel, by decide +kernel⟩
theorem ok__law_integers_right {f : Addr} {fd : FuncData} (F : Fun K "_law_integers_right" "_law_integers_right" s__law_integers_right f fd) (T : Txt mg) (c__law_pick : Has P w K mg base CX0 2 "_law_pick" ["dice", "items"] (spPick K)) (c__law_roll : Has P w K mg base CX0 1 "_law_roll" ["dice", "upto"] (spRoll)) (c_is_integer : Has P w K mg base CX0 1 "is_integer" ["value"] (spIsI K isInteger)) : FnG P w K mg base CX0 3 f fd ["dice"] (spRight 4) := by
  refine fn_g0 F sc__law_integers_right (fun vs H Q E h => ?_) (fun cdv A outer s H vs Q E hg hr h => ?_)
  · obtain ⟨l, n, rfl, _⟩ := h
    rfl
  · have hu := hu_of hr
    obtain ⟨l, n, rfl, D, k⟩ := h
    refine ⟨_, (pss_cons (ps_set (i := 1) sc__law_integers_right.nd rfl (Or.inl rfl) (pe_op op_powW pe_int pe_int))
      (pss_cons (ps_set (i := 2) sc__law_integers_right.nd rfl (Or.inl rfl) (pe_has c__law_pick hg (hr.mono (by decide)) pass0 (pa_cons (pv 0) (pa_cons (pe_lst (pa_cons pe_int (pa_cons pe_int (pa_cons pe_int (pa_cons pe_int (pa_cons pe_int (pa_cons (pe_op op_powW pe_int pe_int) (pa_cons (pe_op op_powW pe_int pe_int) (pa_cons (pe_op op_powW pe_int pe_int) (pa_cons (pe_op op_sub (pv 1) pe_int) (pa_cons (pv 1) (pa_cons (pe_op op_mulW (pv 1) pe_int) pa_nil)))))))))))) pa_nil))))
      (pss_cons (ps_set (i := 2) sc__law_integers_right.nd rfl (Or.inl rfl) (pe_op op_add (pv 2) (pe_has c__law_roll hg (hr.mono (by decide)) pass0 (pa_cons (pv 0) (pa_cons pe_int pa_nil)))))
      (pss_cons (ps_set (i := 3) sc__law_integers_right.nd rfl (Or.inl rfl) (pe_op op_mulW (pv 2) (pe_has c__law_pick hg (hr.mono (by decide)) pass0 (pa_cons (pv 0) (pa_cons (pe_lst (pa_cons pe_int (pa_cons (pe_un un_neg pe_int) pa_nil))) pa_nil)))))
      (pss_cons (ps_set (i := 4) sc__law_integers_right.nd rfl (Or.inl rfl) (pe_has c__law_pick hg (hr.mono (by decide)) pass0 (pa_cons (pv 0) (pa_cons (pe_lst (pa_cons pe_non (pa_cons pe_bl (pa_cons pe_bl (pa_cons pe_str (pa_cons pe_str (pa_cons (pe_tup pa_nil) (pa_cons (pe_lst pa_nil) (pa_cons pe_dnewK (pa_cons (pe_tup (pa_cons pe_int pa_nil)) (pa_cons (pe_lst (pa_cons pe_int pa_nil)) (pa_cons pe_str (pa_cons (pv 1) (pa_cons (pe_op op_sub pe_int (pv 1)) pa_nil)))))))))))))) pa_nil))))
      (pss_cons (ps_set (i := 5) sc__law_integers_right.nd rfl (Or.inl rfl) (pe_lst (pa_cons (pe_has c_is_integer hg (hr.mono (by decide)) pass0 (pa_cons (pv 3) pa_nil)) (pa_cons (pe_has c_is_integer hg (hr.mono (by decide)) pass0 (pa_cons (pv 4) pa_nil)) (pa_cons (pe_has c_is_integer hg (hr.mono (by decide)) pass0 (pa_cons (pe_op op_sub (pv 1) pe_int) pa_nil)) (pa_cons (pe_has c_is_integer hg (hr.mono (by decide)) pass0 (pa_cons (pe_op op_sub pe_int (pv 1)) pa_nil)) (pa_cons (pe_has c_is_integer hg (hr.mono (by decide)) pass0 (pa_cons (pe_callTy call_str_int (by rfl) T.b_str (by decide +kernel) (pa_cons (pv 3) pa_nil)) pa_nil)) pa_nil)))))))
      (pss_one (ps_ret (pe_cmpR op_eq (pe_callB (call_repr hg hr.units) (by rfl) T.b_repr (by decide +kernel) (pa_cons (pv 5) pa_nil)) (pe_callB (call_repr hg hr.units) (by rfl) T.b_repr (by decide +kernel) (pa_cons (pe_lst (pa_cons (pe_cmpR op_lt (pv 2) (pv 1) (nomark _)) (pa_cons pe_bl (pa_cons pe_bl (pa_cons pe_bl (pa_cons pe_bl pa_nil)))))) pa_nil)) (nomark _)))))))))), ?_⟩
    refine ⟨_, _, rfl, rfl, ⟨by decide, by decide +kernel⟩, ?_⟩
    -- near
    refine ⟨_, rfl, _, _, rfl, rfl, ⟨by decide, by decide +kernel⟩, _, _, rfl, rfl, ⟨by decide, by decide +kernel⟩, _, _, rfl, rfl, ⟨by decide, by decide +kernel⟩, _, rfl, _, _, rfl, rfl, _, rfl, _, rfl, _, _, rfl, rfl, wide_mul (a := 210) (b := 8) (by decide +kernel) (by decide) (by decide) (by decide) (by decide), (by show 11 ≤ sizeLine; decide), fun p hp => ?_⟩
    refine ⟨l, _, _, n + 3, rfl, .lst (D.ne hp) (SqL.of upd_same), List.cons_ne_nil _ _, (by show 11 ≤ 1000; decide), D.new hp, fun y H1 hy kp1 D1 => ?_⟩
    have K1 : Kp l H H1 := ((Kp.refl l H).new hp).trans kp1
    obtain ⟨near, rfl, n0, n1⟩ := pick_int (lo := 0) (hi := 2 ^ 210) (by decide +kernel) hy
    clear hy
    refine ⟨_, rfl, _, rfl, l, 9, n + 2, rfl, by decide, by decide, D1, fun r H2 r0 r1 kp2 D2 => ⟨_, _, rfl, rfl, ?_⟩⟩
    have K2 := K1.trans kp2
    -- number
    refine ⟨_, rfl, _, rfl, _, rfl, (by show 2 ≤ sizeLine; decide), fun p2 hp2 => ?_⟩
    refine ⟨l, _, _, n + 1, rfl, .lst (D2.ne hp2) (SqL.of upd_same), List.cons_ne_nil _ _, (by show 2 ≤ 1000; decide), D2.new hp2, fun y H3 hy kp3 D3 => ?_⟩
    have K3 : Kp l H H3 := (K2.new hp2).trans kp3
    obtain ⟨sg, rfl, hsg⟩ : ∃ s : Int, y = .int s ∧ (s = 1 ∨ s = -1) := by
      rcases List.mem_cons.mp hy with e | e
      · exact ⟨1, e, Or.inl rfl⟩
      · exact ⟨-1, List.mem_singleton.mp e, Or.inr rfl⟩
    have hb : (near + r).natAbs < 2 ^ 220 := by
      have : (2 : Int) ^ 210 + 9 < ((2 ^ 220 : Nat) : Int) := by decide +kernel
      generalize (2 ^ 220 : Nat) = B at *
      generalize (2 : Int) ^ 210 = C at *
      omega
    refine ⟨_, _, rfl, rfl, wide_mul (a := 220) (b := 8) hb (by rcases hsg with rfl | rfl <;> decide) (by decide) (by decide) (by decide), ?_⟩
    -- odd
    refine ⟨_, rfl, (by show 0 ≤ sizeLine; decide), fun q1 h1 => ⟨(by show 0 ≤ sizeLine; decide), fun q2 h2 => fun q3 h3 => ⟨(by show 1 ≤ sizeLine; decide), fun q4 h4 => ⟨(by show 1 ≤ sizeLine; decide), fun q5 h5 => ?_⟩⟩⟩⟩
    refine ⟨_, rfl, _, rfl, _, _, rfl, rfl, (by show 13 ≤ sizeLine; decide), fun q6 h6 => ?_⟩
    have D4 := (((((D3.new (o := .tup []) h1).new (o := .lst []) h2).new (o := .dK []) h3).new (o := .tup [.int 1]) h4).new (o := .lst [.int 1]) h5).new (o := .lst [.non, .bl true, .bl false, .str "1", .str "", .ref q1, .ref q2, .ref q3, .ref q4, .ref q5, .str "a", .int ((10 : Int) ^ (60 : Int).toNat), .int (0 - (10 : Int) ^ (60 : Int).toNat)]) h6
    have K4 := (((((K3.new (o := .tup []) h1).new (o := .lst []) h2).new (o := .dK []) h3).new (o := .tup [.int 1]) h4).new (o := .lst [.int 1]) h5).new (o := .lst [.non, .bl true, .bl false, .str "1", .str "", .ref q1, .ref q2, .ref q3, .ref q4, .ref q5, .str "a", .int ((10 : Int) ^ (60 : Int).toNat), .int (0 - (10 : Int) ^ (60 : Int).toNat)]) h6
    have n1' : q1 ≠ l := D3.ne h1
    have n2' : q2 ≠ l := (D3.new h1).ne h2
    have n3' : q3 ≠ l := ((D3.new h1).new h2).ne h3
    have n4' : q4 ≠ l := (((D3.new h1).new h2).new h3).ne h4
    have n5' : q5 ≠ l := ((((D3.new h1).new h2).new h3).new h4).ne h5
    refine ⟨l, _, _, n, rfl, .lst (Dice.ne (((((D3.new h1).new h2).new h3).new h4).new h5) h6) (SqL.of upd_same), List.cons_ne_nil _ _, (by show 13 ≤ 1000; decide), D4, fun y H5 hy kp5 D5 => ?_⟩
    have K5 := K4.trans kp5
    have g1 := fun (o6 : HO) => same_new (o := o6) h6 _ _ (same_new (o := HO.lst [.int 1]) h5 _ _ (same_new (o := HO.tup [.int 1]) h4 _ _ (same_new (o := HO.dK []) h3 _ _ (same_new (o := HO.lst []) h2 _ _ (upd_same (H := H3) (a := q1) (o := .tup []))))))
    have g2 := fun (o6 : HO) => same_new (o := o6) h6 _ _ (same_new (o := HO.lst [.int 1]) h5 _ _ (same_new (o := HO.tup [.int 1]) h4 _ _ (same_new (o := HO.dK []) h3 _ _ (upd_same (a := q2) (o := .lst [])))))
    have g3 := fun (o6 : HO) => same_new (o := o6) h6 _ _ (same_new (o := HO.lst [.int 1]) h5 _ _ (same_new (o := HO.tup [.int 1]) h4 _ _ (upd_same (a := q3) (o := .dK []))))
    have g4 := fun (o6 : HO) => same_new (o := o6) h6 _ _ (same_new (o := HO.lst [.int 1]) h5 _ _ (upd_same (a := q4) (o := .tup [.int 1])))
    have g5 := fun (o6 : HO) => same_new (o := o6) h6 _ _ (upd_same (a := q5) (o := .lst [.int 1]))
    have od : ∀ H', Same H5 H' → Tyd K H' y ∧ isInteger y = false := by
      intro H' s'
      have kk := kp5.trans (.of s')
      revert y hy
      refine List.forall_mem_cons.mpr ⟨⟨tyd_non, rfl⟩, List.forall_mem_cons.mpr ⟨⟨tyd_bl _, rfl⟩, List.forall_mem_cons.mpr ⟨⟨tyd_bl _, rfl⟩, List.forall_mem_cons.mpr ⟨⟨tyd_str _, rfl⟩, List.forall_mem_cons.mpr ⟨⟨tyd_str _, rfl⟩, ?_⟩⟩⟩⟩⟩
      refine List.forall_mem_cons.mpr ⟨⟨tyd_tup (kk _ _ (g1 _) n1'), rfl⟩, List.forall_mem_cons.mpr ⟨⟨tyd_lst (kk _ _ (g2 _) n2'), rfl⟩, List.forall_mem_cons.mpr ⟨⟨tyd_dK (kk _ _ (g3 _) n3'), rfl⟩, List.forall_mem_cons.mpr ⟨⟨tyd_tup (kk _ _ (g4 _) n4'), rfl⟩, List.forall_mem_cons.mpr ⟨⟨tyd_lst (kk _ _ (g5 _) n5'), rfl⟩, ?_⟩⟩⟩⟩⟩
      exact List.forall_mem_cons.mpr ⟨⟨tyd_str _, rfl⟩, List.forall_mem_cons.mpr ⟨⟨tyd_int _, by decide +kernel⟩, List.forall_mem_cons.mpr ⟨⟨tyd_int _, by decide +kernel⟩, List.forall_mem_nil _⟩⟩⟩
    -- told
    refine ⟨_, rfl, _, rfl, tyd_int _, fun H6 s6 => ?_⟩
    refine ⟨_, rfl, _, rfl, (od _ s6).1, fun H7 s7 => ?_⟩
    refine ⟨_, rfl, _, _, rfl, rfl, _, rfl, tyd_int _, fun H8 s8 => ?_⟩
    refine ⟨_, rfl, _, _, rfl, rfl, _, rfl, tyd_int _, fun H9 s9 => ?_⟩
    have hb2 : ((near + r) * sg).natAbs < 2 ^ 300 := by
      have e2 : ((near + r) * sg).natAbs = (near + r).natAbs := by
        rcases hsg with rfl | rfl
        · rw [Int.mul_one]
        · rw [Int.mul_neg, Int.mul_one, Int.natAbs_neg]
      rw [e2]
      exact Nat.lt_trans hb (by decide +kernel)
    refine ⟨_, rfl, _, rfl, log_of hb2, _, rfl, tyd_str _, fun H10 s10 => ?_⟩
    refine ⟨(by show 5 ≤ sizeLine; decide), fun q7 h7 => ?_⟩
    have S : Same H5 H10 := (((s6.trans s7).trans s8).trans s9).trans s10
    have i1 := isI_near (near := near) (r := r) (by omega) sg hsg
    have i2 := (od _ (Same.refl H5)).2
    have i3 : isInteger (.int ((10 : Int) ^ (60 : Int).toNat - 1)) = true := by decide +kernel
    have i4 : isInteger (.int (1 - (10 : Int) ^ (60 : Int).toNat)) = true := by decide +kernel
    obtain ⟨r1, r2, r3, r4⟩ := reprB [decide (near + r < (10 : Int) ^ (60 : Int).toNat), false, true, true, false] (by show 5 ≤ 1000; decide)
    refine ⟨_, rfl, _, _, rfl, dp_bools (bs := [decide (near + r < (10 : Int) ^ (60 : Int).toNat), false, true, true, false]) (SqL.of (by rw [upd_same]; dsimp only; rw [i1, i2, i3, i4]; rfl)), r1, r2, r3, r4, ?_⟩
    refine ⟨_, rfl, _, rfl, _, _, rfl, rfl, (by show 5 ≤ sizeLine; decide), fun q8 h8 => ?_⟩
    refine ⟨_, _, rfl, dp_bools (bs := [decide (near + r < (10 : Int) ^ (60 : Int).toNat), false, true, true, false]) (SqL.of upd_same), r1, r2, r3, r4, rfl, ?_⟩
    rw [decide_eq_true rfl]
    exact k _ (((K5.trans (.of S)).new h7).new h8) (((D5.same S).new h7).new h8)
theorem sc__law_texts_right : FnScope ["dice", "letters", "many", "text", "at", "odd", "bad", "told", "spot", "sign", "five"] ["dice"] (defScope s__law_texts_right) := ⟨rfl, rfl, rfl, by decide +kernel, rfl, by decide +kernel, by decide +kernel⟩
theorem ok__law_texts_right {f : Addr} {fd : FuncData} (F : Fun K "_law_texts_right" "_law_texts_right" s__law_texts_right f fd) (T : Txt mg) (c__law_pick : Has P w K mg base CX0 2 "_law_pick" ["dice", "items"] (spPick K)) (c__law_roll : Has P w K mg base CX0 1 "_law_roll" ["dice", "upto"] (spRoll)) (c__law_letters : Has P w K mg base CX0 3 "_law_letters" ["dice", "signs", "many"] (spLetters K)) (c_is_text : Has P w K mg base CX0 2 "is_text" ["value"] (spIs K isText)) (c_is_piece : Has P w K mg base CX0 2 "is_piece" ["value"] (spIs K isPiece)) (c_is_sign : Has P w K mg base CX0 1 "is_sign" ["value"] (spIs K isSign)) : FnG P w K mg base CX0 4 f fd ["dice"] (spRight 60) := by
  refine fn_g0 F sc__law_texts_right (fun vs H Q E h => ?_) (fun cdv A outer s H vs Q E hg hr h => ?_)
  · obtain ⟨l, n, rfl, _⟩ := h
    rfl
  · have hu := hu_of hr
    obtain ⟨l, n, rfl, D, k⟩ := h
    refine ⟨_, (pss_cons (ps_set (i := 1) sc__law_texts_right.nd rfl (Or.inl rfl) pe_str)
      (pss_cons (ps_set (i := 2) sc__law_texts_right.nd rfl (Or.inl rfl) (pe_ifExp (pt_cmpR op_eq (pe_has c__law_roll hg (hr.mono (by decide)) pass0 (pa_cons (pv 0) (pa_cons pe_int pa_nil))) pe_int (nomark _)) (pe_has c__law_roll hg (hr.mono (by decide)) pass0 (pa_cons (pv 0) (pa_cons pe_int pa_nil))) (pe_has c__law_roll hg (hr.mono (by decide)) pass0 (pa_cons (pv 0) (pa_cons pe_int pa_nil)))))
      (pss_cons (ps_par (i := 3) (j := 4) (by rfl) sc__law_texts_right.nd rfl rfl (by decide) rfl rfl (pa_cons (pe_has c__law_letters hg (hr.mono (by decide)) pass0 (pa_cons (pv 0) (pa_cons (pv 1) (pa_cons (pv 2) pa_nil)))) (pa_cons (pe_has c__law_roll hg (hr.mono (by decide)) pass0 (pa_cons (pv 0) (pa_cons (pe_op op_add (pv 2) pe_int) pa_nil))) pa_nil)) (by rfl))
      (pss_cons (ps_set (i := 5) sc__law_texts_right.nd rfl (Or.inl rfl) (pe_has c__law_pick hg (hr.mono (by decide)) pass0 (pa_cons (pv 0) (pa_cons pe_str pa_nil))))
      (pss_cons (ps_set (i := 6) sc__law_texts_right.nd rfl (Or.inl rfl) (pe_op op_add_str (pe_op op_add_str (pe_slice sl_str (pv 3) po_none (po_some (pv 4))) (pv 5)) (pe_slice sl_str (pv 3) (po_some (pe_op op_add (pv 4) (pe_has c__law_roll hg (hr.mono (by decide)) pass0 (pa_cons (pv 0) (pa_cons pe_int pa_nil))))) po_none)))
      (pss_cons (ps_set (i := 7) sc__law_texts_right.nd rfl (Or.inl rfl) (pe_lst (pa_cons (pe_has c_is_text hg (hr.mono (by decide)) pass0 (pa_cons (pv 3) pa_nil)) (pa_cons (pe_has c_is_piece hg (hr.mono (by decide)) pass0 (pa_cons (pv 3) pa_nil)) (pa_cons (pe_has c_is_sign hg (hr.mono (by decide)) pass0 (pa_cons (pv 3) pa_nil)) (pa_cons (pe_has c_is_text hg (hr.mono (by decide)) pass0 (pa_cons (pv 6) pa_nil)) (pa_cons (pe_has c_is_piece hg (hr.mono (by decide)) pass0 (pa_cons (pv 6) pa_nil)) (pa_cons (pe_has c_is_sign hg (hr.mono (by decide)) pass0 (pa_cons (pv 6) pa_nil)) pa_nil))))))))
      (pss_cons (ps_if (pt_cmpR op_ne (pe_callB (call_repr hg hr.units) (by rfl) T.b_repr (by decide +kernel) (pa_cons (pv 7) pa_nil)) (pe_callB (call_repr hg hr.units) (by rfl) T.b_repr (by decide +kernel) (pa_cons (pe_lst (pa_cons pe_bl (pa_cons (pe_chain op_le op_le pe_int (pv 2) pe_int) (pa_cons (pe_cmpR op_eq (pv 2) pe_int (nomark _)) (pa_cons pe_bl (pa_cons pe_bl (pa_cons pe_bl pa_nil))))))) pa_nil)) (nomark _)) (pss_one (ps_ret pe_bl)) pss_nil)
      (pss_cons (ps_set (i := 8) sc__law_texts_right.nd rfl (Or.inl rfl) (pe_has c__law_roll hg (hr.mono (by decide)) pass0 (pa_cons (pv 0) (pa_cons pe_int pa_nil))))
      (pss_cons (ps_set (i := 7) sc__law_texts_right.nd rfl (Or.inl rfl) (pe_lst (pa_cons (pe_has c_is_sign hg (hr.mono (by decide)) pass0 (pa_cons (pe_slice sl_str (pv 1) (po_some (pv 8)) (po_some (pe_op op_add (pv 8) pe_int))) pa_nil)) (pa_cons (pe_has c_is_sign hg (hr.mono (by decide)) pass0 (pa_cons (pv 1) pa_nil)) (pa_cons (pe_has c_is_sign hg (hr.mono (by decide)) pass0 (pa_cons (pe_slice sl_str (pv 1) (po_some (pv 8)) po_none) pa_nil)) (pa_cons (pe_has c_is_text hg (hr.mono (by decide)) pass0 (pa_cons pe_str pa_nil)) (pa_cons (pe_has c_is_text hg (hr.mono (by decide)) pass0 (pa_cons pe_str pa_nil)) pa_nil)))))))
      (pss_cons (ps_if (PW.pt (pw_or (pt_cmpR op_ne (pe_callB (call_repr hg hr.units) (by rfl) T.b_repr (by decide +kernel) (pa_cons (pv 7) pa_nil)) (pe_callB (call_repr hg hr.units) (by rfl) T.b_repr (by decide +kernel) (pa_cons (pe_op op_rep (pe_lst (pa_cons pe_bl pa_nil)) pe_int) pa_nil)) (nomark _)) (pw_or (pt_cmpR op_notBl (pe_has c_is_sign hg (hr.mono (by decide)) pass0 (pa_cons pe_str pa_nil)) pe_bl (nomark _)) (pw_or1 (pt_cmpR op_notBl (pe_has c_is_piece hg (hr.mono (by decide)) pass0 (pa_cons pe_str pa_nil)) pe_bl (nomark _)))))) (pss_one (ps_ret pe_bl)) pss_nil)
      (pss_cons (ps_par (i := 9) (j := 10) (by rfl) sc__law_texts_right.nd rfl rfl (by decide) rfl rfl (pa_cons (pe_has c__law_pick hg (hr.mono (by decide)) pass0 (pa_cons (pv 0) (pa_cons (pv 1) pa_nil))) (pa_cons (pe_has c__law_letters hg (hr.mono (by decide)) pass0 (pa_cons (pv 0) (pa_cons (pv 1) (pa_cons pe_int pa_nil)))) pa_nil)) (by rfl))
      (pss_cons (ps_set (i := 7) sc__law_texts_right.nd rfl (Or.inl rfl) (pe_lst (pa_cons (pe_has c_is_sign hg (hr.mono (by decide)) pass0 (pa_cons (pv 9) pa_nil)) (pa_cons (pe_has c_is_piece hg (hr.mono (by decide)) pass0 (pa_cons (pv 9) pa_nil)) (pa_cons (pe_has c_is_text hg (hr.mono (by decide)) pass0 (pa_cons (pv 9) pa_nil)) (pa_cons (pe_has c_is_piece hg (hr.mono (by decide)) pass0 (pa_cons (pv 10) pa_nil)) (pa_cons (pe_has c_is_sign hg (hr.mono (by decide)) pass0 (pa_cons (pv 10) pa_nil)) (pa_cons (pe_has c_is_piece hg (hr.mono (by decide)) pass0 (pa_cons (pe_op op_add_str (pv 10) (pv 9)) pa_nil)) pa_nil))))))))
      (pss_cons (ps_set (i := 7) sc__law_texts_right.nd rfl (Or.inl rfl) (pe_op op_cat (pv 7) (pe_lst (pa_cons (pe_has c_is_text hg (hr.mono (by decide)) pass0 (pa_cons (pe_op op_add_str (pv 10) (pv 9)) pa_nil)) (pa_cons (pe_has c_is_sign hg (hr.mono (by decide)) pass0 (pa_cons (pv 5) pa_nil)) (pa_cons (pe_has c_is_piece hg (hr.mono (by decide)) pass0 (pa_cons (pe_op op_add_str (pe_slice sl_str (pv 10) po_none (po_some pe_int)) (pv 5)) pa_nil)) (pa_cons (pe_has c_is_piece hg (hr.mono (by decide)) pass0 (pa_cons (pv 5) pa_nil)) (pa_cons (pe_has c_is_text hg (hr.mono (by decide)) pass0 (pa_cons pe_str pa_nil)) pa_nil))))))))
      (pss_one (ps_ret (pe_cmpR op_eq (pe_callB (call_repr hg hr.units) (by rfl) T.b_repr (by decide +kernel) (pa_cons (pv 7) pa_nil)) (pe_callB (call_repr hg hr.units) (by rfl) T.b_repr (by decide +kernel) (pa_cons (pe_lst (pa_cons pe_bl (pa_cons pe_bl (pa_cons pe_bl (pa_cons pe_bl (pa_cons pe_bl (pa_cons pe_bl (pa_cons pe_bl (pa_cons pe_bl (pa_cons pe_bl (pa_cons pe_bl (pa_cons pe_bl pa_nil)))))))))))) pa_nil)) (nomark _))))))))))))))))), ?_⟩
    have AZ1 : (cs "abcdefghijklmnopqrstuvwxyz").length = 26 := by decide +kernel
    have AZ0 : (cs "abcdefghijklmnopqrstuvwxyz").all lett = true := by decide +kernel
    have AZ : ∀ c ∈ cs "abcdefghijklmnopqrstuvwxyz", lett c = true := List.all_eq_true.mp AZ0
    dsimp only [tSeq, tAsg, tC, gName]
    refine tif_join (fun H1 => Kp l H H1 ∧ Dice H1 l (n + 59)) (fun v H2 => ∃ m : Nat, v = .int (m : Int) ∧ m ≤ 40 ∧ Kp l H H2 ∧ Dice H2 l (n + 58)) (fun N hN => ?_) (fun H1 hP N hN => ?_) (fun H1 hP N hN => ?_) (fun v H2 hR => ?_)
    · exact ⟨_, rfl, l, 2, n + 59, rfl, by decide, by decide, D, fun r H' r0 r1 kp D' => ⟨rfl, _, rfl, hN _ _ ⟨kp, D'⟩⟩⟩
    · obtain ⟨kp, D1⟩ := hP
      exact ⟨_, rfl, l, 41, n + 58, rfl, by decide, by decide, D1, fun r H' r0 r1 kp2 D' => hN _ _ ⟨r.toNat, congrArg V.int (by omega), by omega, kp.trans kp2, D'⟩⟩
    · obtain ⟨kp, D1⟩ := hP
      exact ⟨_, rfl, l, 8, n + 58, rfl, by decide, by decide, D1, fun r H' r0 r1 kp2 D' => hN _ _ ⟨r.toNat, congrArg V.int (by omega), by omega, kp.trans kp2, D'⟩⟩
    obtain ⟨m, rfl, m40, K2, D2⟩ := hR
    -- text, at
    refine ⟨_, rfl, _, rfl, _, rfl, l, _, cs "abcdefghijklmnopqrstuvwxyz", m, n + 18, rfl, .str (by decide +kernel) rfl, by decide +kernel, by omega, by omega, D2.le (by omega), fun zs H3 z1 z2 kp3 D3 => ?_⟩
    have zl : ∀ c ∈ cs (sOf zs), lett c = true := fun c hc => AZ c (z2 c (by rw [cs_sOf] at hc; exact hc))
    have zn : (cs (sOf zs)).length = m := by rw [cs_sOf]; exact z1
    have zn' : (sOf zs).length = m := by rw [← cs_len]; exact zn
    have K3 := K2.trans kp3
    refine ⟨_, rfl, _, rfl, _, _, rfl, rfl, l, _, n + 17, rfl, by omega, by omega, D3, fun at' H4 a0 a1 kp4 D4 => ⟨_, _, rfl, ?_⟩⟩
    have K4 := K3.trans kp4
    -- odd
    refine ⟨_, rfl, l, _, _, n + 16, rfl, .str (by decide +kernel) rfl, by rw [signsV_eq]; decide +kernel, by rw [signsV_len]; decide +kernel, D4, fun y H5 hy kp5 D5 => ?_⟩
    have K5 := K4.trans kp5
    obtain ⟨o, ho, rfl⟩ := List.mem_map.mp hy
    have od : lett o = false := odd_of (by decide +kernel) ho
    clear hy ho
    -- bad
    have lc1 : (cutS (sOf zs) none (some at')).length ≤ 40 := Nat.le_trans (cutS_length _ _ _) (by omega)
    refine ⟨_, rfl, _, rfl, _, rfl, _, rfl, fits_sz (by omega), _, rfl, _, _, rfl, rfl, fits_sz (by show _ + 1 ≤ _; omega), ?_⟩
    refine ⟨_, rfl, _, rfl, _, rfl, l, 2, n + 15, rfl, by decide, by decide, D5, fun r H6 r0 r1 kp6 D6 => ⟨_, _, rfl, rfl, _, rfl, _, rfl, fits_sz (by omega), ?_⟩⟩
    have K6 := K5.trans kp6
    have lc2 : (cutS (sOf zs) (some (at' + r)) none).length ≤ 40 := Nat.le_trans (cutS_length _ _ _) (by omega)
    have lc3 : (cutS (sOf zs) none (some at') ++ ch o).length ≤ 41 := by
      rw [str_app_len]
      show _ + 1 ≤ 41
      omega
    refine ⟨_, _, rfl, rfl, fits_sz (Nat.le_trans (Nat.add_le_add lc3 lc2) (by decide)), ?_⟩
    have bn : ((cutS (sOf zs) none (some at') ++ ch o) ++ cutS (sOf zs) (some (at' + r)) none).length ≤ 100000 := by
      rw [str_app_len]
      omega
    have bm : o ∈ cs ((cutS (sOf zs) none (some at') ++ ch o) ++ cutS (sOf zs) (some (at' + r)) none) := by
      rw [cs_app, cs_app]
      exact List.mem_append_left _ (List.mem_append_right _ (List.mem_singleton.mpr rfl))
    obtain ⟨b1, b2, b3, b4⟩ := spoilt bm od
    generalize (cutS (sOf zs) none (some at') ++ ch o) ++ cutS (sOf zs) (some (at' + r)) none = bad at bn b1 b2 b3 b4 ⊢
    clear bm b4 lc1 lc2 lc3
    -- told
    have zz : szV (.str (sOf zs)) := by
      show (sOf zs).length ≤ 100000
      omega
    refine ⟨_, rfl, _, rfl, tyd_str _, zz, fun H7 s7 => ?_⟩
    refine ⟨_, rfl, _, rfl, tyd_str _, zz, fun H8 s8 => ?_⟩
    refine ⟨_, rfl, _, rfl, tyd_str _, zz, fun H9 s9 => ?_⟩
    refine ⟨_, rfl, _, rfl, tyd_str _, bn, fun H10 s10 => ?_⟩
    refine ⟨_, rfl, _, rfl, tyd_str _, bn, fun H11 s11 => ?_⟩
    refine ⟨_, rfl, _, rfl, tyd_str _, bn, fun H12 s12 => ?_⟩
    refine ⟨(by show 6 ≤ sizeLine; decide), fun q7 h7 => ?_⟩
    have S12 : Same H6 H12 := ((((s7.trans s8).trans s9).trans s10).trans s11).trans s12
    have K12 := K6.trans (.of S12)
    have D12 := D6.same S12
    have t1 := isText_of (z := sOf zs) (by omega) zl
    have t2 := isPiece_of (z := sOf zs) zl
    have t3 := isSign_of (z := sOf zs) zl
    rw [zn] at t2 t3
    have t2' : isPiece (.str (sOf zs)) = (decide (1 ≤ (m : Int)) && decide ((m : Int) ≤ 5)) := by
      rw [t2]
      congr 1
      · by_cases h : 1 ≤ m
        · rw [decide_eq_true h, decide_eq_true (by omega)]
        · rw [decide_eq_false h, decide_eq_false (by omega)]
      · by_cases h : m ≤ 5
        · rw [decide_eq_true h, decide_eq_true (by omega)]
        · rw [decide_eq_false h, decide_eq_false (by omega)]
    have t3' : isSign (.str (sOf zs)) = decide ((m : Int) = 1) := by
      rw [t3]
      by_cases h : m = 1
      · rw [decide_eq_true h, decide_eq_true (by omega)]
      · rw [decide_eq_false h, decide_eq_false (by omega)]
    obtain ⟨r1', r2', r3', r4'⟩ := reprB [true, decide (1 ≤ (m : Int)) && decide ((m : Int) ≤ 5), decide ((m : Int) = 1), false, false, false] (by show 6 ≤ 1000; decide)
    refine ⟨_, rfl, _, _, rfl, dp_bools (bs := [true, decide (1 ≤ (m : Int)) && decide ((m : Int) ≤ 5), decide ((m : Int) = 1), false, false, false]) (SqL.of (by rw [upd_same, t1, t2', t3', b1, b2, b3]; rfl)), r1', r2', r3', r4', ?_⟩
    dsimp only [tCB, tCons, tLst, tC]
    refine chain_le (a := 1) (b := m) (c := 5) (fun N hN => hN) (fun N hN => ⟨_, rfl, hN⟩) (fun N hN => hN) ?_
    refine ⟨_, rfl, rfl, (by show 6 ≤ sizeLine; decide), fun q8 h8 => ?_⟩
    refine ⟨_, _, rfl, dp_bools (bs := [true, decide (1 ≤ (m : Int)) && decide ((m : Int) ≤ 5), decide ((m : Int) = 1), false, false, false]) (SqL.of (by rw [upd_same, v_int_eq]; rfl)), r1', r2', r3', r4', rfl, false, ne_self, ?_⟩
    have K13 := (K12.new (o := .lst ([isText (.str (sOf zs)), isPiece (.str (sOf zs)), isSign (.str (sOf zs)), isText (.str bad), isPiece (.str bad), isSign (.str bad)].map V.bl)) h7).new (o := .lst [.bl true, .bl (decide (1 ≤ (m : Int)) && decide ((m : Int) ≤ 5)), .bl (decide (V.int (m : Int) = V.int 1)), .bl false, .bl false, .bl false]) h8
    have D13 := (D12.new (o := .lst ([isText (.str (sOf zs)), isPiece (.str (sOf zs)), isSign (.str (sOf zs)), isText (.str bad), isPiece (.str bad), isSign (.str bad)].map V.bl)) h7).new (o := .lst [.bl true, .bl (decide (1 ≤ (m : Int)) && decide ((m : Int) ≤ 5)), .bl (decide (V.int (m : Int) = V.int 1)), .bl false, .bl false, .bl false]) h8
    clear r1' r2' r3' r4' t1 t2 t3 t2' t3' b1 b2 b3
    -- spot
    refine ⟨_, rfl, l, 25, n + 14, rfl, by decide, by decide, D13, fun s0 H14 p0 p1 kp14 D14 => ?_⟩
    have K14 := K13.trans kp14
    have AZ2 : ("abcdefghijklmnopqrstuvwxyz" : Str).length = 26 := by decide +kernel
    refine ⟨_, rfl, _, rfl, _, rfl, _, rfl, _, _, rfl, rfl, _, rfl, _, rfl, fits_sz (by omega), _, rfl, tyd_str _, sz_of' (Nat.le_trans (cutS_length _ _ _) (by omega)), fun H15 s15 => ?_⟩
    refine ⟨_, rfl, _, rfl, tyd_str _, sz_of' (by omega), fun H16 s16 => ?_⟩
    refine ⟨_, rfl, _, rfl, _, rfl, _, rfl, fits_sz (by omega), _, rfl, tyd_str _, sz_of' (Nat.le_trans (cutS_length _ _ _) (by omega)), fun H17 s17 => ?_⟩
    refine ⟨_, rfl, tyd_str _, sz_of' (by decide +kernel), fun H18 s18 => ?_⟩
    refine ⟨_, rfl, tyd_str _, sz_of' (by decide +kernel), fun H19 s19 => ?_⟩
    refine ⟨(by show 5 ≤ sizeLine; decide), fun q9 h9 => ?_⟩
    have S19 : Same H14 H19 := (((s15.trans s16).trans s17).trans s18).trans s19
    have u1 : isSign (.str (cutS "abcdefghijklmnopqrstuvwxyz" (some s0) (some (s0 + 2)))) = false := sign_no (by rw [cut_len p0 (by omega) (by rw [AZ2]; omega)]; omega)
    have u2 : isSign (.str "abcdefghijklmnopqrstuvwxyz") = false := by decide +kernel
    have u3 : isSign (.str (cutS "abcdefghijklmnopqrstuvwxyz" (some s0) none)) = false := sign_no (by rw [cut_lenFrom p0 (by rw [AZ2]; omega)]; omega)
    have u4 : isText (.str "`") = false := by decide +kernel
    have u5 : isText (.str "a{") = false := by decide +kernel
    have K20 := (K14.trans (.of S19)).new (o := .lst ([isSign (.str (cutS "abcdefghijklmnopqrstuvwxyz" (some s0) (some (s0 + 2)))), isSign (.str "abcdefghijklmnopqrstuvwxyz"), isSign (.str (cutS "abcdefghijklmnopqrstuvwxyz" (some s0) none)), isText (.str "`"), isText (.str "a{")].map V.bl)) h9
    have D20 := (D14.same S19).new (o := .lst ([isSign (.str (cutS "abcdefghijklmnopqrstuvwxyz" (some s0) (some (s0 + 2)))), isSign (.str "abcdefghijklmnopqrstuvwxyz"), isSign (.str (cutS "abcdefghijklmnopqrstuvwxyz" (some s0) none)), isText (.str "`"), isText (.str "a{")].map V.bl)) h9
    obtain ⟨r1', r2', r3', r4'⟩ := reprB [false, false, false, false, false] (by decide)
    refine ⟨_, rfl, _, _, rfl, dp_bools (bs := [false, false, false, false, false]) (SqL.of (by rw [upd_same, u1, u2, u3, u4, u5]; rfl)), r1', r2', r3', r4', ?_⟩
    refine ⟨(by show 1 ≤ sizeLine; decide), fun q10 h10 => ⟨_, _, _, rfl, rfl, upd_same, by decide, by decide, (by show 1 * 5 ≤ sizeLine; decide), fun q11 h11 => ?_⟩⟩
    refine ⟨_, _, rfl, dp_bools (bs := [false, false, false, false, false]) (SqL.of (by rw [upd_same]; rfl)), r1', r2', r3', r4', rfl, false, ne_self, ?_⟩
    have K21 := (K20.new (o := .lst [.bl false]) h10).new (o := .lst (List.replicate (5 : Int).toNat [V.bl false]).flatten) h11
    have D21 := (D20.new (o := .lst [.bl false]) h10).new (o := .lst (List.replicate (5 : Int).toNat [V.bl false]).flatten) h11
    refine ⟨_, rfl, tyd_str _, sz_of' (by decide +kernel), fun H22 s22 => ⟨_, _, rfl, rfl, _, rfl, itF (by decide +kernel) ?_⟩⟩
    refine ⟨_, rfl, tyd_str _, sz_of' (by decide +kernel), fun H23 s23 => ⟨_, _, rfl, rfl, _, rfl, itF (by decide +kernel) ?_⟩⟩
    have K23 := (K21.trans (.of s22)).trans (.of s23)
    have D23 := (D21.same s22).same s23
    clear K12 K13 K14 K20 K21 D12 D13 D14 D20 D21 u1 u2 u3 u4 u5 r1' r2' r3' r4'
    -- sign, five
    refine ⟨_, rfl, _, rfl, l, _, _, n + 13, rfl, .str (by decide +kernel) rfl, by rw [signsV_eq]; decide +kernel, by rw [signsV_len]; decide +kernel, D23, fun y H24 hy kp24 D24 => ?_⟩
    obtain ⟨sg, hsg, rfl⟩ := List.mem_map.mp hy
    have sgl : ∀ c ∈ cs (ch sg), lett c = true := fun c hc => by rw [List.mem_singleton.mp hc]; exact AZ _ hsg
    refine ⟨_, rfl, _, rfl, l, _, cs "abcdefghijklmnopqrstuvwxyz", 5, n + 8, rfl, .str (by decide +kernel) rfl, by decide +kernel, by omega, by decide, D24, fun ws H25 w1 w2 kp25 D25 => ⟨_, _, rfl, ?_⟩⟩
    have K25 := (K23.trans kp24).trans kp25
    have wl : ∀ c ∈ cs (sOf ws), lett c = true := fun c hc => AZ c (w2 c (by rw [cs_sOf] at hc; exact hc))
    have wn : (cs (sOf ws)).length = 5 := by rw [cs_sOf]; exact w1
    have wn' : (sOf ws).length = 5 := by rw [← cs_len]; exact wn
    have bl : ∀ c ∈ cs (sOf ws ++ ch sg), lett c = true := by
      intro c hc
      rw [cs_app] at hc
      rcases List.mem_append.mp hc with hc | hc
      · exact wl c hc
      · exact sgl c hc
    have bn2 : (sOf ws ++ ch sg).length = 6 := by
      rw [str_app_len, wn']
      rfl
    have bn3 : (cs (sOf ws ++ ch sg)).length = 6 := by rw [cs_len]; exact bn2
    have z6 : szV (.str (sOf ws ++ ch sg)) := sz_of' (by omega)
    have z5 : szV (.str (sOf ws)) := sz_of' (by omega)
    have z1' : ∀ c, szV (.str (ch c)) := fun c => sz_of' (by show 1 ≤ 100000; decide)
    refine ⟨_, rfl, _, rfl, tyd_str _, z1' _, fun H26 s26 => ?_⟩
    refine ⟨_, rfl, _, rfl, tyd_str _, z1' _, fun H27 s27 => ?_⟩
    refine ⟨_, rfl, _, rfl, tyd_str _, z1' _, fun H28 s28 => ?_⟩
    refine ⟨_, rfl, _, rfl, tyd_str _, z5, fun H29 s29 => ?_⟩
    refine ⟨_, rfl, _, rfl, tyd_str _, z5, fun H30 s30 => ?_⟩
    refine ⟨_, rfl, _, rfl, _, _, rfl, rfl, fits_sz (by rw [wn']; show 5 + 1 ≤ _; decide), _, rfl, tyd_str _, z6, fun H31 s31 => ?_⟩
    refine ⟨(by show 6 ≤ sizeLine; decide), fun q12 h12 => ?_⟩
    have S31 : Same H25 H31 := ((((s26.trans s27).trans s28).trans s29).trans s30).trans s31
    have v1 : isSign (.str (ch sg)) = true := by rw [isSign_of sgl]; rfl
    have v2 : isPiece (.str (ch sg)) = true := by rw [isPiece_of sgl]; rfl
    have v3 : isText (.str (ch sg)) = true := isText_of (by show 1 ≤ 8000; decide) sgl
    have v4 : isPiece (.str (sOf ws)) = true := by rw [isPiece_of wl, wn]; rfl
    have v5 : isSign (.str (sOf ws)) = false := sign_no (by omega)
    have v6 : isPiece (.str (sOf ws ++ ch sg)) = false := piece_no (by omega)
    have v7 : isText (.str (sOf ws ++ ch sg)) = true := isText_of (by omega) bl
    obtain ⟨o1, o2, o3, o4⟩ := spoilt (z := ch o) (c := o) (List.mem_singleton.mpr rfl) od
    refine ⟨_, rfl, _, rfl, _, rfl, _, _, rfl, rfl, fits_sz (by rw [wn']; show 5 + 1 ≤ _; decide), _, rfl, tyd_str _, z6, fun H32 s32 => ?_⟩
    refine ⟨_, rfl, _, rfl, tyd_str _, z1' _, fun H33 s33 => ?_⟩
    have lc4 : (cutS (sOf ws) none (some 4)).length ≤ 5 := Nat.le_trans (cutS_length _ _ _) (by omega)
    refine ⟨_, rfl, _, rfl, _, rfl, fits_sz (by omega), _, rfl, _, _, rfl, rfl, fits_sz (by show _ + 1 ≤ _; omega), ?_⟩
    have bm5 : o ∈ cs (cutS (sOf ws) none (some 4) ++ ch o) := by
      rw [cs_app]
      exact List.mem_append_right _ (List.mem_singleton.mpr rfl)
    obtain ⟨f1, f2, f3, f4⟩ := spoilt bm5 od
    refine ⟨_, rfl, tyd_str _, sz_of' (by rw [str_app_len]; show _ + 1 ≤ _; omega), fun H34 s34 => ?_⟩
    refine ⟨_, rfl, _, rfl, tyd_str _, z1' _, fun H35 s35 => ?_⟩
    refine ⟨_, rfl, tyd_str _, sz_of' (by decide +kernel), fun H36 s36 => ?_⟩
    refine ⟨(by show 5 ≤ sizeLine; decide), fun q13 h13 => ?_⟩
    have S36 := ((((s32.trans s33).trans s34).trans s35).trans s36)
    have e12 := same_new (o := HO.lst ([isText (.str (sOf ws ++ ch sg)), isSign (.str (ch o)), isPiece (.str (cutS (sOf ws) none (some 4) ++ ch o)), isPiece (.str (ch o)), isText (.str "")].map V.bl)) h13 _ _ (S36 _ _ (upd_same (H := H31) (a := q12) (o := .lst ([isSign (.str (ch sg)), isPiece (.str (ch sg)), isText (.str (ch sg)), isPiece (.str (sOf ws)), isSign (.str (sOf ws)), isPiece (.str (sOf ws ++ ch sg))].map V.bl))))
    refine ⟨_, _, _, _, rfl, rfl, e12, upd_same, (by show 11 ≤ sizeLine; decide), fun q14 h14 => ?_⟩
    obtain ⟨r1', r2', r3', r4'⟩ := reprB [true, true, true, true, false, false, true, false, false, false, true] (by decide)
    have v8 : isText (.str "") = true := by decide +kernel
    refine ⟨_, rfl, _, _, rfl, dp_bools (bs := [true, true, true, true, false, false, true, false, false, false, true]) (SqL.of (by rw [upd_same, v1, v2, v3, v4, v5, v6, v7, v8, o3, o2, f2]; rfl)), r1', r2', r3', r4', ?_⟩
    refine ⟨(by show 11 ≤ sizeLine; decide), fun q15 h15 => ?_⟩
    refine ⟨_, _, rfl, dp_bools (bs := [true, true, true, true, false, false, true, false, false, false, true]) (SqL.of upd_same), r1', r2', r3', r4', rfl, ?_⟩
    rw [decide_eq_true rfl]
    exact k _ (((((K25.trans (.of S31)).new h12).trans (.of S36)).new h13).new h14 |>.new h15) ((((((D25.same S31).new h12).same S36).new h13).new h14 |>.new h15).le (by omega))
theorem sc__law_lengths_right : FnScope ["dice", "word", "long", "at", "told", "value"] ["dice"] (defScope s__law_lengths_right) := ⟨rfl, rfl, rfl, by decide +kernel, rfl, by decide +kernel, by decide +kernel⟩
theorem ok__law_lengths_right {f : Addr} {fd : FuncData} (F : Fun K "_law_lengths_right" "_law_lengths_right" s__law_lengths_right f fd) (T : Txt mg) (c__law_letters : Has P w K mg base CX0 3 "_law_letters" ["dice", "signs", "many"] (spLetters K)) (c__law_roll : Has P w K mg base CX0 1 "_law_roll" ["dice", "upto"] (spRoll)) (c__law_pick : Has P w K mg base CX0 2 "_law_pick" ["dice", "items"] (spPick K)) (c_is_text : Has P w K mg base CX0 2 "is_text" ["value"] (spIs K isText)) (c_is_piece : Has P w K mg base CX0 2 "is_piece" ["value"] (spIs K isPiece)) (c_is_sign : Has P w K mg base CX0 1 "is_sign" ["value"] (spIs K isSign)) : FnG P w K mg base CX0 4 f fd ["dice"] (spRight 40) := by
  refine fn_g0 F sc__law_lengths_right (fun vs H Q E h => ?_) (fun cdv A outer s H vs Q E hg hr h => ?_)
  · obtain ⟨l, n, rfl, _⟩ := h
    rfl
  · have hu := hu_of hr
    obtain ⟨l, n, rfl, D, k⟩ := h
    refine ⟨_, (pss_cons (ps_set (i := 1) sc__law_lengths_right.nd rfl (Or.inl rfl) (pe_has c__law_letters hg (hr.mono (by decide)) pass0 (pa_cons (pv 0) (pa_cons pe_str (pa_cons (pe_op op_add pe_int (pe_has c__law_roll hg (hr.mono (by decide)) pass0 (pa_cons (pv 0) (pa_cons pe_int pa_nil)))) pa_nil)))))
      (pss_cons (ps_set (i := 2) sc__law_lengths_right.nd rfl (Or.inl rfl) (pe_slice sl_str (pe_op op_mulS (pv 1) pe_int) po_none (po_some pe_int)))
      (pss_cons (ps_set (i := 3) sc__law_lengths_right.nd rfl (Or.inl rfl) (pe_has c__law_roll hg (hr.mono (by decide)) pass0 (pa_cons (pv 0) (pa_cons pe_int pa_nil))))
      (pss_cons (ps_set (i := 4) sc__law_lengths_right.nd rfl (Or.inl rfl) (pe_lst (pa_cons (pe_has c_is_text hg (hr.mono (by decide)) pass0 (pa_cons (pv 2) pa_nil)) (pa_cons (pe_has c_is_text hg (hr.mono (by decide)) pass0 (pa_cons (pe_slice sl_str (pv 2) po_none (po_some pe_int)) pa_nil)) (pa_cons (pe_has c_is_text hg (hr.mono (by decide)) pass0 (pa_cons (pe_op op_add_str (pe_op op_add_str (pe_slice sl_str (pv 2) po_none (po_some (pv 3))) pe_str) (pe_slice sl_str (pv 2) (po_some (pe_op op_add (pv 3) pe_int)) (po_some pe_int))) pa_nil)) (pa_cons (pe_has c_is_piece hg (hr.mono (by decide)) pass0 (pa_cons (pv 2) pa_nil)) pa_nil))))))
      (pss_cons (ps_if (pt_cmpR op_ne (pe_callB (call_repr hg hr.units) (by rfl) T.b_repr (by decide +kernel) (pa_cons (pv 4) pa_nil)) (pe_callB (call_repr hg hr.units) (by rfl) T.b_repr (by decide +kernel) (pa_cons (pe_lst (pa_cons pe_bl (pa_cons pe_bl (pa_cons pe_bl (pa_cons pe_bl pa_nil))))) pa_nil)) (nomark _)) (pss_one (ps_ret pe_bl)) pss_nil)
      (pss_cons (ps_set (i := 5) sc__law_lengths_right.nd rfl (Or.inl rfl) (pe_has c__law_pick hg (hr.mono (by decide)) pass0 (pa_cons (pv 0) (pa_cons (pe_lst (pa_cons pe_non (pa_cons pe_int (pa_cons pe_int (pa_cons pe_bl (pa_cons (pe_tup pa_nil) (pa_cons (pe_tup (pa_cons (pv 1) pa_nil)) (pa_cons (pe_lst (pa_cons (pv 1) pa_nil)) (pa_cons pe_dnewK (pa_cons (pe_disp (pps_cons (pv 1) pe_int pps_nil) (by rfl) (by rfl) (fun z => by cases z) (by decide)) (pa_cons (pe_tup (pa_cons pe_str pa_nil)) (pa_cons (pe_lst (pa_cons pe_str pa_nil)) (pa_cons (pe_callTy (call_list_str rfl) (by rfl) T.b_list (by decide +kernel) (pa_cons (pv 1) pa_nil)) pa_nil))))))))))))) pa_nil))))
      (pss_cons (ps_set (i := 4) sc__law_lengths_right.nd rfl (Or.inl rfl) (pe_lst (pa_cons (pe_has c_is_text hg (hr.mono (by decide)) pass0 (pa_cons (pv 5) pa_nil)) (pa_cons (pe_has c_is_piece hg (hr.mono (by decide)) pass0 (pa_cons (pv 5) pa_nil)) (pa_cons (pe_has c_is_sign hg (hr.mono (by decide)) pass0 (pa_cons (pv 5) pa_nil)) (pa_cons (pe_has c_is_text hg (hr.mono (by decide)) pass0 (pa_cons (pv 1) pa_nil)) (pa_cons (pe_has c_is_piece hg (hr.mono (by decide)) pass0 (pa_cons (pv 1) pa_nil)) pa_nil)))))))
      (pss_one (ps_ret (pe_cmpR op_eq (pe_callB (call_repr hg hr.units) (by rfl) T.b_repr (by decide +kernel) (pa_cons (pv 4) pa_nil)) (pe_callB (call_repr hg hr.units) (by rfl) T.b_repr (by decide +kernel) (pa_cons (pe_lst (pa_cons pe_bl (pa_cons pe_bl (pa_cons pe_bl (pa_cons pe_bl (pa_cons (pe_cmpR op_lt (pe_callB call_len_str (by rfl) T.b_len (by decide +kernel) (pa_cons (pv 1) pa_nil)) pe_int (nomark _)) pa_nil)))))) pa_nil)) (nomark _))))))))))), ?_⟩
    have AZ0 : (cs "abcdefghijklmnopqrstuvwxyz").all lett = true := by decide +kernel
    have AZ : ∀ c ∈ cs "abcdefghijklmnopqrstuvwxyz", lett c = true := List.all_eq_true.mp AZ0
    -- word
    refine ⟨_, rfl, _, rfl, l, 9, n + 39, rfl, by decide, by decide, D, fun r H1 r0 r1 kp1 D1 => ?_⟩
    refine ⟨_, _, rfl, rfl, l, _, cs "abcdefghijklmnopqrstuvwxyz", (1 + r).toNat, n + 20, congrArg (fun i => [V.ref l, V.str "abcdefghijklmnopqrstuvwxyz", V.int i]) (by omega), .str (by decide +kernel) rfl, by decide +kernel, by decide +kernel, by omega, D1.le (by omega), fun zs H2 z1 z2 kp2 D2 => ?_⟩
    have K2 := kp1.trans kp2
    have zl : ∀ c ∈ cs (sOf zs), lett c = true := fun c hc => AZ c (z2 c (by rw [cs_sOf] at hc; exact hc))
    have zn' : (sOf zs).length = (1 + r).toNat := by rw [sOf_len]; exact z1
    have zr : 1 ≤ (sOf zs).length ∧ (sOf zs).length ≤ 9 := by omega
    have zn : (cs (sOf zs)).length = (sOf zs).length := cs_len _
    generalize sOf zs = word at zl zn' zr zn ⊢
    clear z1 z2 zn' kp1 kp2 D1
    -- long
    have hm : word.length * 8001 ≤ 100000 := by omega
    refine ⟨_, rfl, _, _, rfl, rfl, by decide, by decide, by omega, fits_sz hm, _, rfl, _, rfl, fits_sz (by rw [rep_len]; show 8001 * word.length ≤ _; omega), ?_⟩
    have ll : (cutS (sRep word (8001 : Int).toNat) none (some 8001)).length = 8001 := by
      rw [← cs_len, cut_lenTo (by decide) (by rw [rep_len]; show (8001 : Int) ≤ ((8001 * word.length : Nat) : Int); omega)]
      rfl
    have lg : ∀ c ∈ cs (cutS (sRep word (8001 : Int).toNat) none (some 8001)), lett c = true := fun c hc => zl c (rep_mem (cut_sub hc))
    dsimp only [gName]
    generalize cutS (sRep word (8001 : Int).toNat) none (some 8001) = long at ll lg ⊢
    have lc : (cs long).length = 8001 := by rw [cs_len]; exact ll
    -- at
    refine ⟨_, rfl, l, 8000, n + 19, rfl, by decide, by decide, D2, fun at' H3 a0 a1 kp3 D3 => ?_⟩
    have K3 := K2.trans kp3
    -- told
    have lz : szV (.str long) := sz_of' (by omega)
    have l8 : (cutS long none (some 8000)).length = 8000 := by
      rw [← cs_len, cut_lenTo (by decide) (by rw [ll]; decide)]
      rfl
    refine ⟨_, rfl, _, rfl, tyd_str _, lz, fun H4 s4 => ?_⟩
    refine ⟨_, rfl, _, rfl, _, rfl, fits_sz (by omega), _, rfl, tyd_str _, sz_of' (by omega), fun H5 s5 => ?_⟩
    have la : (cutS long none (some at')).length ≤ 8001 := Nat.le_trans (cutS_length _ _ _) (by omega)
    have lb : (cutS long (some (at' + 1)) (some 8000)).length ≤ 8001 := Nat.le_trans (cutS_length _ _ _) (by omega)
    have lA : (cutS long none (some at') ++ "A").length ≤ 8002 := by
      rw [str_app_len]
      show _ + 1 ≤ 8002
      omega
    refine ⟨_, rfl, _, rfl, _, rfl, _, rfl, fits_sz (by omega), _, _, rfl, rfl, fits_sz (by show _ + 1 ≤ _; omega), ?_⟩
    refine ⟨_, rfl, _, rfl, _, _, rfl, rfl, _, rfl, _, rfl, _, rfl, fits_sz (by omega), _, _, rfl, rfl, fits_sz (Nat.le_trans (Nat.add_le_add lA lb) (by decide)), ?_⟩
    have bm : 65 ∈ cs ((cutS long none (some at') ++ "A") ++ cutS long (some (at' + 1)) (some 8000)) := by
      rw [cs_app, cs_app]
      exact List.mem_append_left _ (List.mem_append_right _ (by decide +kernel))
    obtain ⟨b1, b2, b3, b4⟩ := spoilt bm (by decide)
    refine ⟨_, rfl, tyd_str _, sz_of' (by rw [str_app_len]; exact Nat.le_trans (Nat.add_le_add lA lb) (by decide)), fun H6 s6 => ?_⟩
    refine ⟨_, rfl, _, rfl, tyd_str _, lz, fun H7 s7 => ?_⟩
    refine ⟨(by show 4 ≤ sizeLine; decide), fun q1 h1 => ?_⟩
    have S7 : Same H3 H7 := ((s4.trans s5).trans s6).trans s7
    have t1 : isText (.str long) = false := by
      show (decide ((cs long).length ≤ 8000) && (cs long).all lett) = false
      rw [decide_eq_false (by omega)]
      rfl
    have t2 : isText (.str (cutS long none (some 8000))) = true := isText_of (by rw [cs_len]; omega) fun c hc => lg c (cut_sub hc)
    have t4 : isPiece (.str long) = false := piece_no (by omega)
    obtain ⟨r1', r2', r3', r4'⟩ := reprB [false, true, false, false] (by decide)
    refine ⟨_, rfl, _, _, rfl, dp_bools (bs := [false, true, false, false]) (SqL.of (by rw [upd_same, t1, t2, b1, t4]; rfl)), r1', r2', r3', r4', ?_⟩
    refine ⟨(by show 4 ≤ sizeLine; decide), fun q2 h2 => ?_⟩
    refine ⟨_, _, rfl, dp_bools (bs := [false, true, false, false]) (SqL.of upd_same), r1', r2', r3', r4', rfl, false, ne_self, ?_⟩
    have K8 := ((K3.trans (.of S7)).new h1).new (o := .lst [.bl false, .bl true, .bl false, .bl false]) h2
    have D8 := ((D3.same S7).new h1).new (o := .lst [.bl false, .bl true, .bl false, .bl false]) h2
    clear K2 K3 D2 D3 S7 s4 s5 s6 s7 t1 t2 t4 b1 b2 b3 b4 bm r1' r2' r3' r4'
    generalize hH8 : upd (upd H7 q1 (HO.lst [V.bl (isText (V.str long)), V.bl (isText (V.str (cutS long none (some 8000)))), V.bl (isText (V.str ((cutS long none (some at') ++ "A") ++ cutS long (some (at' + 1)) (some 8000)))), V.bl (isPiece (V.str long))])) q2 (.lst [.bl false, .bl true, .bl false, .bl false]) = H8 at K8 D8 ⊢
    clear hH8 h1 h2
    -- value
    refine ⟨_, rfl, (by show 0 ≤ sizeLine; decide), fun q1 h1 => ⟨_, rfl, (by show 1 ≤ sizeLine; decide), fun q2 h2 => ⟨_, rfl, (by show 1 ≤ sizeLine; decide), fun q3 h3 => fun q4 h4 => fun q5 h5 => ?_⟩⟩⟩
    refine ⟨_, rfl, upd_same, [(Sum.inr word, V.int 1)], rfl, (by show 1 ≤ 15; decide), ?_⟩
    refine ⟨(by show 1 ≤ sizeLine; decide), fun q6 h6 => ⟨(by show 1 ≤ sizeLine; decide), fun q7 h7 => ⟨_, rfl, word, rfl, fits_sz (by omega), fun q8 h8 => ?_⟩⟩⟩
    refine ⟨(by show 12 ≤ sizeLine; decide), fun q9 h9 => ?_⟩
    rw [upd_upd] at h6 h7 h8 h9 ⊢
    have D9 := ((((((((D8.new (o := .tup []) h1).new (o := .tup [.str word]) h2).new (o := .lst [.str word]) h3).new (o := .dK []) h4).new (o := .dK (mergeK [] [(Sum.inr word, V.int 1)])) h5).new (o := .tup [.str "a"]) h6).new (o := .lst [.str "a"]) h7).new (o := .lst (signsV word)) h8)
    have K9 := ((((((((K8.new (o := .tup []) h1).new (o := .tup [.str word]) h2).new (o := .lst [.str word]) h3).new (o := .dK []) h4).new (o := .dK (mergeK [] [(Sum.inr word, V.int 1)])) h5).new (o := .tup [.str "a"]) h6).new (o := .lst [.str "a"]) h7).new (o := .lst (signsV word)) h8)
    have n1' : q1 ≠ l := D8.ne h1
    have n2' : q2 ≠ l := (D8.new h1).ne h2
    have n3' : q3 ≠ l := ((D8.new h1).new h2).ne h3
    have n4' : q4 ≠ l := (((D8.new h1).new h2).new h3).ne h4
    have n5' : q5 ≠ l := ((((D8.new h1).new h2).new h3).new h4).ne h5
    have n6' : q6 ≠ l := (((((D8.new h1).new h2).new h3).new h4).new h5).ne h6
    have n7' : q7 ≠ l := ((((((D8.new h1).new h2).new h3).new h4).new h5).new h6).ne h7
    have n8' : q8 ≠ l := (((((((D8.new h1).new h2).new h3).new h4).new h5).new h6).new h7).ne h8
    refine ⟨l, _, _, n + 18, rfl, .lst (D9.ne h9) (SqL.of upd_same), List.cons_ne_nil _ _, (by show 12 ≤ 1000; decide), D9.new h9, fun y H10 hy kp10 D10 => ?_⟩
    have K10 := (K9.new h9).trans kp10
    have S8 := fun (o : HO) => same_new (o := o) h9
    have S7 := fun (o : HO) => (same_new (o := HO.lst (signsV word)) h8).trans (S8 o)
    have S6 := fun (o : HO) => (same_new (o := HO.lst [.str "a"]) h7).trans (S7 o)
    have S5 := fun (o : HO) => (same_new (o := HO.tup [.str "a"]) h6).trans (S6 o)
    have S4 := fun (o : HO) => (same_new (o := HO.dK (mergeK [] [(Sum.inr word, V.int 1)])) h5).trans (S5 o)
    have S3 := fun (o : HO) => (same_new (o := HO.dK []) h4).trans (S4 o)
    have S2 := fun (o : HO) => (same_new (o := HO.lst [.str word]) h3).trans (S3 o)
    have S1 := fun (o : HO) => (same_new (o := HO.tup [.str word]) h2).trans (S2 o)
    have od : ∀ H', Same H10 H' → Tyd K H' y ∧ szV y ∧ isText y = false ∧ isPiece y = false ∧ isSign y = false := by
      intro H' s'
      have kk := kp10.trans (.of s')
      revert y hy
      refine List.forall_mem_cons.mpr ⟨⟨tyd_non, trivial, rfl, rfl, rfl⟩, List.forall_mem_cons.mpr ⟨⟨tyd_int _, trivial, rfl, rfl, rfl⟩, List.forall_mem_cons.mpr ⟨⟨tyd_int _, trivial, rfl, rfl, rfl⟩, List.forall_mem_cons.mpr ⟨⟨tyd_bl _, trivial, rfl, rfl, rfl⟩, ?_⟩⟩⟩⟩
      refine List.forall_mem_cons.mpr ⟨⟨tyd_tup (kk _ _ (S1 _ _ _ upd_same) n1'), trivial, rfl, rfl, rfl⟩, List.forall_mem_cons.mpr ⟨⟨tyd_tup (kk _ _ (S2 _ _ _ upd_same) n2'), trivial, rfl, rfl, rfl⟩, List.forall_mem_cons.mpr ⟨⟨tyd_lst (kk _ _ (S3 _ _ _ upd_same) n3'), trivial, rfl, rfl, rfl⟩, List.forall_mem_cons.mpr ⟨⟨tyd_dK (kk _ _ (S4 _ _ _ upd_same) n4'), trivial, rfl, rfl, rfl⟩, ?_⟩⟩⟩⟩
      exact List.forall_mem_cons.mpr ⟨⟨tyd_dK (kk _ _ (S5 _ _ _ upd_same) n5'), trivial, rfl, rfl, rfl⟩, List.forall_mem_cons.mpr ⟨⟨tyd_tup (kk _ _ (S6 _ _ _ upd_same) n6'), trivial, rfl, rfl, rfl⟩, List.forall_mem_cons.mpr ⟨⟨tyd_lst (kk _ _ (S7 _ _ _ upd_same) n7'), trivial, rfl, rfl, rfl⟩, List.forall_mem_cons.mpr ⟨⟨tyd_lst (kk _ _ (S8 _ _ _ upd_same) n8'), trivial, rfl, rfl, rfl⟩, List.forall_mem_nil _⟩⟩⟩⟩
    clear S1 S2 S3 S4 S5 S6 S7 S8 n1' n2' n3' n4' n5' n6' n7' n8' hy
    obtain ⟨_, ysz, y1, y2, y3⟩ := od _ (Same.refl _)
    have wz : szV (.str word) := sz_of' (by omega)
    refine ⟨_, rfl, _, rfl, (od _ (Same.refl _)).1, ysz, fun H11 s11 => ?_⟩
    refine ⟨_, rfl, _, rfl, (od _ s11).1, ysz, fun H12 s12 => ?_⟩
    refine ⟨_, rfl, _, rfl, (od _ (s11.trans s12)).1, ysz, fun H13 s13 => ?_⟩
    refine ⟨_, rfl, _, rfl, tyd_str _, wz, fun H14 s14 => ?_⟩
    refine ⟨_, rfl, _, rfl, tyd_str _, wz, fun H15 s15 => ?_⟩
    refine ⟨(by show 5 ≤ sizeLine; decide), fun q10 h10 => ?_⟩
    have S15 : Same H10 H15 := (((s11.trans s12).trans s13).trans s14).trans s15
    have w1 : isText (.str word) = true := isText_of (by omega) zl
    have w2 : isPiece (.str word) = decide ((word.length : Int) < 6) := by
      rw [isPiece_of zl, zn, decide_eq_true zr.1]
      by_cases h : word.length ≤ 5
      · rw [decide_eq_true h, decide_eq_true (by omega)]
        rfl
      · rw [decide_eq_false h, decide_eq_false (by omega)]
        rfl
    obtain ⟨r1', r2', r3', r4'⟩ := reprB [false, false, false, true, decide ((word.length : Int) < 6)] (by show 5 ≤ 1000; decide)
    refine ⟨_, rfl, _, _, rfl, dp_bools (bs := [false, false, false, true, decide ((word.length : Int) < 6)]) (SqL.of (by rw [upd_same, y1, y2, y3, w1, w2]; rfl)), r1', r2', r3', r4', ?_⟩
    refine ⟨_, rfl, _, rfl, fits_sz (by omega), _, _, rfl, rfl, (by show 5 ≤ sizeLine; decide), fun q11 h11 => ?_⟩
    refine ⟨_, _, rfl, dp_bools (bs := [false, false, false, true, decide ((word.length : Int) < 6)]) (SqL.of upd_same), r1', r2', r3', r4', rfl, ?_⟩
    rw [decide_eq_true rfl]
    exact k _ (((K10.trans (.of S15)).new h10).new h11) ((((D10.same S15).new h10).new h11).le (by omega))
theorem sc_law : FnScope ["script", "spot", "dice", "turn"] ["script"] (defScope s_law) := ⟨rfl, rfl, rfl, by decide +kernel, rfl, by decide +kernel, by decide +kernel⟩
theorem ok_law {f : Addr} {fd : FuncData} (F : Fun K "law" "law" s_law f fd) (T : Txt mg) (c__law_dice : Has P w K mg base CX0 1 "_law_dice" ["script", "spot"] (spDice K)) (c__law_lengths_right : Has P w K mg base CX0 4 "_law_lengths_right" ["dice"] (spRight 40)) (c__law_integers_right : Has P w K mg base CX0 3 "_law_integers_right" ["dice"] (spRight 4)) (c__law_texts_right : Has P w K mg base CX0 4 "_law_texts_right" ["dice"] (spRight 60)) : FnG P w K mg base CX0 5 f fd ["script"] (spLaw K) := by
  refine fn_g0 F sc_law (fun vs H Q E h => ?_) (fun cdv A outer s H vs Q E hg hr h => ?_)
  · obtain ⟨a, ns, rfl, _⟩ := h
    rfl
  · have hu := hu_of hr
    obtain ⟨a, ns, rfl, hS, hn, k⟩ := h
    refine ⟨_, (pss_cons (ps_for PassesOwn.never rfl (pi_range1 (by rfl) T.b_range (pa_cons (pe_callB (call_max2 rfl) (by rfl) T.b_max (by decide +kernel) (pa_cons pe_int (pa_cons (pe_callB (call_min2 rfl) (by rfl) T.b_min (by decide +kernel) (pa_cons pe_int (pa_cons (pe_callB call_len_seq (by rfl) T.b_len (by decide +kernel) (pa_cons (pv 0) pa_nil)) pa_nil))) pa_nil))) pa_nil)) (pg_name (i := 1) sc_law.nd rfl (Or.inl rfl)) (pss_cons (ps_set (i := 2) sc_law.nd rfl (Or.inl rfl) (pe_has c__law_dice hg (hr.mono (by decide)) pass0 (pa_cons (pv 0) (pa_cons (pv 1) pa_nil))))
      (pss_cons (ps_for PassesOwn.never rfl (pi_range1 (by rfl) T.b_range (pa_cons pe_int pa_nil)) (pg_name (i := 3) sc_law.nd rfl (Or.inl rfl)) (pss_one (ps_if (PW.pt (pw_or (pt_not (pt_val (pe_has c__law_integers_right hg (hr.mono (by decide)) pass0 (pa_cons (pv 2) pa_nil)))) (pw_or1 (pt_not (pt_val (pe_has c__law_texts_right hg (hr.mono (by decide)) pass0 (pa_cons (pv 2) pa_nil))))))) (pss_one (ps_ret pe_bl)) pss_nil)))
      (pss_one (ps_if (pt_not (pt_val (pe_has c__law_lengths_right hg (hr.mono (by decide)) pass0 (pa_cons (pv 2) pa_nil)))) (pss_one (ps_ret pe_bl)) pss_nil)))))
      (pss_one (ps_ret pe_bl))), ?_⟩
    obtain ⟨J, hJ, j1, j8⟩ : ∃ J : Int, (if (if ((ns.map V.int).length : Int) < 8 then ((ns.map V.int).length : Int) else 8) > 1 then (if ((ns.map V.int).length : Int) < 8 then ((ns.map V.int).length : Int) else 8) else 1) = J ∧ 1 ≤ J ∧ J ≤ 8 := ⟨_, rfl, cells_bound (n := (ns.map V.int).length) (m := 8) (by decide)⟩
    refine ⟨_, rfl, _, _, rfl, .inl hS, _, _, rfl, _, _, rfl, J, congrArg (fun i => [V.int i]) hJ, by omega, by omega, for_range (lo := 0) (n := J.toNat) (fun i σ H' => ∃ v w t, σ = [some (.ref a), v, w, t] ∧ Same H H') ⟨_, _, _, rfl, Same.refl H⟩ ?_ ?_⟩
    · rintro i σ H1 hi ⟨v, w, t, rfl, s1⟩
      refine ⟨_, rfl, _, rfl, a, ns, _, rfl, s1.seq hS, hn, by omega, by omega, fun l H2 hl s2 D2 => ?_⟩
      have fl : H l = none := s1.free hl
      refine ⟨_, rfl, by decide, by decide, for_range (lo := 0) (n := (2 : Int).toNat) (fun j σ H' => ∃ t, σ = [some (.ref a), some (.int (0 + i)), some (.ref l), t] ∧ Same H H' ∧ Dice H' l (2 ^ 60 - 100 * j)) ⟨_, rfl, s1.trans s2, D2.le (by omega)⟩ ?_ ?_⟩
      · rintro j σ H3 hj ⟨t, rfl, s3, D3⟩
        have hj' : j < 2 := hj
        refine ⟨_, rfl, l, 2 ^ 60 - 100 * j - 4, rfl, D3.le (by omega), fun H4 kp4 D4 => ⟨true, rfl, ?_⟩⟩
        refine ⟨_, rfl, l, 2 ^ 60 - 100 * j - 64, rfl, D4.le (by omega), fun H5 kp5 D5 => ⟨true, rfl, ?_⟩⟩
        exact ⟨_, rfl, (kp4.trans kp5).sameOf s3 fl, D5.le (by omega)⟩
      · rintro σ H3 ⟨t, rfl, s3, D3⟩
        refine ⟨_, rfl, l, 2 ^ 60 - 300, rfl, D3.le (by show 2 ^ 60 - 300 + 40 ≤ 2 ^ 60 - 100 * 2; omega), fun H4 kp4 D4 => ⟨true, rfl, ?_⟩⟩
        exact ⟨_, _, _, rfl, kp4.sameOf s3 fl⟩
    · rintro σ H1 ⟨v, w, t, rfl, s1⟩
      exact k _
end
theorem all_mk {l : PySem.W.OpenLaw} {w : World} {K : PySem.W.Frag} {h : Heap} {mg : Str → Option Value} {fa : Addr} (X : K.In h) (G0 : h.Ns mainGlobals mg) (hfa : mg "law" = some (.ref fa))
    {f0 f1 f2 f3 f4 f5 f6 f7 f8 f9 f10 f11 f12 : Addr}
    {od0 an0 : Option Addr} {sl0 : Array (Option Value)} {oc0 kV0 dc0 pm0 cd0 ct0 : Value}
    {od1 an1 : Option Addr} {sl1 : Array (Option Value)} {oc1 kV1 dc1 pm1 cd1 ct1 : Value}
    {od2 an2 : Option Addr} {sl2 : Array (Option Value)} {oc2 kV2 dc2 pm2 cd2 ct2 : Value}
    {od3 an3 : Option Addr} {sl3 : Array (Option Value)} {oc3 kV3 dc3 pm3 cd3 ct3 : Value}
    {od4 an4 : Option Addr} {sl4 : Array (Option Value)} {oc4 kV4 dc4 pm4 cd4 ct4 : Value}
    {od5 an5 : Option Addr} {sl5 : Array (Option Value)} {oc5 kV5 dc5 pm5 cd5 ct5 : Value}
    {od6 an6 : Option Addr} {sl6 : Array (Option Value)} {oc6 kV6 dc6 pm6 cd6 ct6 : Value}
    {od7 an7 : Option Addr} {sl7 : Array (Option Value)} {oc7 kV7 dc7 pm7 cd7 ct7 : Value}
    {od8 an8 : Option Addr} {sl8 : Array (Option Value)} {oc8 kV8 dc8 pm8 cd8 ct8 : Value}
    {od9 an9 : Option Addr} {sl9 : Array (Option Value)} {oc9 kV9 dc9 pm9 cd9 ct9 : Value}
    {od10 an10 : Option Addr} {sl10 : Array (Option Value)} {oc10 kV10 dc10 pm10 cd10 ct10 : Value}
    {od11 an11 : Option Addr} {sl11 : Array (Option Value)} {oc11 kV11 dc11 pm11 cd11 ct11 : Value}
    {od12 an12 : Option Addr} {sl12 : Array (Option Value)} {oc12 kV12 dc12 pm12 cd12 ct12 : Value}
    (a0 : PySem.W.nsIn K mainGlobals "is_integer" = some (some (.ref f0))) (l0 : K.lookup f0 = some ⟨oc0, od0, .func (PySem.W.fnOf "is_integer" "is_integer" (defArgs s_is_integer) (defBody s_is_integer) (defScope s_is_integer) .none kV0 dc0 pm0 an0 cd0 ct0), sl0⟩) (c0 : PySem.W.codeIn K cd0 "is_integer" = true) (k0 : PySem.W.keepIn K (.ref f0) = true)
    (a1 : PySem.W.nsIn K mainGlobals "is_word" = some (some (.ref f1))) (l1 : K.lookup f1 = some ⟨oc1, od1, .func (PySem.W.fnOf "is_word" "is_word" (defArgs s_is_word) (defBody s_is_word) (defScope s_is_word) .none kV1 dc1 pm1 an1 cd1 ct1), sl1⟩) (c1 : PySem.W.codeIn K cd1 "is_word" = true) (k1 : PySem.W.keepIn K (.ref f1) = true)
    (a2 : PySem.W.nsIn K mainGlobals "is_sign" = some (some (.ref f2))) (l2 : K.lookup f2 = some ⟨oc2, od2, .func (PySem.W.fnOf "is_sign" "is_sign" (defArgs s_is_sign) (defBody s_is_sign) (defScope s_is_sign) .none kV2 dc2 pm2 an2 cd2 ct2), sl2⟩) (c2 : PySem.W.codeIn K cd2 "is_sign" = true) (k2 : PySem.W.keepIn K (.ref f2) = true)
    (a3 : PySem.W.nsIn K mainGlobals "is_text" = some (some (.ref f3))) (l3 : K.lookup f3 = some ⟨oc3, od3, .func (PySem.W.fnOf "is_text" "is_text" (defArgs s_is_text) (defBody s_is_text) (defScope s_is_text) .none kV3 dc3 pm3 an3 cd3 ct3), sl3⟩) (c3 : PySem.W.codeIn K cd3 "is_text" = true) (k3 : PySem.W.keepIn K (.ref f3) = true)
    (a4 : PySem.W.nsIn K mainGlobals "is_piece" = some (some (.ref f4))) (l4 : K.lookup f4 = some ⟨oc4, od4, .func (PySem.W.fnOf "is_piece" "is_piece" (defArgs s_is_piece) (defBody s_is_piece) (defScope s_is_piece) .none kV4 dc4 pm4 an4 cd4 ct4), sl4⟩) (c4 : PySem.W.codeIn K cd4 "is_piece" = true) (k4 : PySem.W.keepIn K (.ref f4) = true)
    (a5 : PySem.W.nsIn K mainGlobals "_law_dice" = some (some (.ref f5))) (l5 : K.lookup f5 = some ⟨oc5, od5, .func (PySem.W.fnOf "_law_dice" "_law_dice" (defArgs s__law_dice) (defBody s__law_dice) (defScope s__law_dice) .none kV5 dc5 pm5 an5 cd5 ct5), sl5⟩) (c5 : PySem.W.codeIn K cd5 "_law_dice" = true) (k5 : PySem.W.keepIn K (.ref f5) = true)
    (a6 : PySem.W.nsIn K mainGlobals "_law_roll" = some (some (.ref f6))) (l6 : K.lookup f6 = some ⟨oc6, od6, .func (PySem.W.fnOf "_law_roll" "_law_roll" (defArgs s__law_roll) (defBody s__law_roll) (defScope s__law_roll) .none kV6 dc6 pm6 an6 cd6 ct6), sl6⟩) (c6 : PySem.W.codeIn K cd6 "_law_roll" = true) (k6 : PySem.W.keepIn K (.ref f6) = true)
    (a7 : PySem.W.nsIn K mainGlobals "_law_pick" = some (some (.ref f7))) (l7 : K.lookup f7 = some ⟨oc7, od7, .func (PySem.W.fnOf "_law_pick" "_law_pick" (defArgs s__law_pick) (defBody s__law_pick) (defScope s__law_pick) .none kV7 dc7 pm7 an7 cd7 ct7), sl7⟩) (c7 : PySem.W.codeIn K cd7 "_law_pick" = true) (k7 : PySem.W.keepIn K (.ref f7) = true)
    (a8 : PySem.W.nsIn K mainGlobals "_law_letters" = some (some (.ref f8))) (l8 : K.lookup f8 = some ⟨oc8, od8, .func (PySem.W.fnOf "_law_letters" "_law_letters" (defArgs s__law_letters) (defBody s__law_letters) (defScope s__law_letters) .none kV8 dc8 pm8 an8 cd8 ct8), sl8⟩) (c8 : PySem.W.codeIn K cd8 "_law_letters" = true) (k8 : PySem.W.keepIn K (.ref f8) = true)
    (a9 : PySem.W.nsIn K mainGlobals "_law_integers_right" = some (some (.ref f9))) (l9 : K.lookup f9 = some ⟨oc9, od9, .func (PySem.W.fnOf "_law_integers_right" "_law_integers_right" (defArgs s__law_integers_right) (defBody s__law_integers_right) (defScope s__law_integers_right) .none kV9 dc9 pm9 an9 cd9 ct9), sl9⟩) (c9 : PySem.W.codeIn K cd9 "_law_integers_right" = true) (k9 : PySem.W.keepIn K (.ref f9) = true)
    (a10 : PySem.W.nsIn K mainGlobals "_law_texts_right" = some (some (.ref f10))) (l10 : K.lookup f10 = some ⟨oc10, od10, .func (PySem.W.fnOf "_law_texts_right" "_law_texts_right" (defArgs s__law_texts_right) (defBody s__law_texts_right) (defScope s__law_texts_right) .none kV10 dc10 pm10 an10 cd10 ct10), sl10⟩) (c10 : PySem.W.codeIn K cd10 "_law_texts_right" = true) (k10 : PySem.W.keepIn K (.ref f10) = true)
    (a11 : PySem.W.nsIn K mainGlobals "_law_lengths_right" = some (some (.ref f11))) (l11 : K.lookup f11 = some ⟨oc11, od11, .func (PySem.W.fnOf "_law_lengths_right" "_law_lengths_right" (defArgs s__law_lengths_right) (defBody s__law_lengths_right) (defScope s__law_lengths_right) .none kV11 dc11 pm11 an11 cd11 ct11), sl11⟩) (c11 : PySem.W.codeIn K cd11 "_law_lengths_right" = true) (k11 : PySem.W.keepIn K (.ref f11) = true)
    (a12 : PySem.W.nsIn K mainGlobals "law" = some (some (.ref f12))) (l12 : K.lookup f12 = some ⟨oc12, od12, .func (PySem.W.fnOf "law" "law" (defArgs s_law) (defBody s_law) (defScope s_law) .none kV12 dc12 pm12 an12 cd12 ct12), sl12⟩) (c12 : PySem.W.codeIn K cd12 "law" = true) (k12 : PySem.W.keepIn K (.ref f12) = true)
    (z_abs : PySem.W.nsIn K mainGlobals "abs" = some none)
    (z_all : PySem.W.nsIn K mainGlobals "all" = some none)
    (z_bool : PySem.W.nsIn K mainGlobals "bool" = some none)
    (z_int : PySem.W.nsIn K mainGlobals "int" = some none)
    (z_isinstance : PySem.W.nsIn K mainGlobals "isinstance" = some none)
    (z_len : PySem.W.nsIn K mainGlobals "len" = some none)
    (z_list : PySem.W.nsIn K mainGlobals "list" = some none)
    (z_max : PySem.W.nsIn K mainGlobals "max" = some none)
    (z_min : PySem.W.nsIn K mainGlobals "min" = some none)
    (z_range : PySem.W.nsIn K mainGlobals "range" = some none)
    (z_repr : PySem.W.nsIn K mainGlobals "repr" = some none)
    (z_str : PySem.W.nsIn K mainGlobals "str" = some none)
    {t_PIECE_SIGNS : Tok} (y_PIECE_SIGNS : PySem.W.nsIn K mainGlobals "PIECE_SIGNS" = some (some (.int 5 t_PIECE_SIGNS)))
    {t_TEXT_SIGNS : Tok} (y_TEXT_SIGNS : PySem.W.nsIn K mainGlobals "TEXT_SIGNS" = some (some (.int 8000 t_TEXT_SIGNS)))
    : ∃ fd : FuncData, (∀ (s : Shared) (v : Value), BindsTo s fd ⟨[v], []⟩ [("script", v)]) ∧ ∀ base : Heap, K.In base → base.Ns mainGlobals mg → FnG l.prog w K mg base CX0 5 fa fd ["script"] (spLaw K) := by
  have e := hfa.symm.trans (PySem.W.mg_of X G0 a12)
  cases e
  have T : Txt mg := ⟨PySem.W.mg_none_of X G0 z_abs, PySem.W.mg_none_of X G0 z_all, PySem.W.mg_none_of X G0 z_bool, PySem.W.mg_none_of X G0 z_int, PySem.W.mg_none_of X G0 z_isinstance, PySem.W.mg_none_of X G0 z_len, PySem.W.mg_none_of X G0 z_list, PySem.W.mg_none_of X G0 z_max, PySem.W.mg_none_of X G0 z_min, PySem.W.mg_none_of X G0 z_range, PySem.W.mg_none_of X G0 z_repr, PySem.W.mg_none_of X G0 z_str, ⟨_, PySem.W.mg_of X G0 y_PIECE_SIGNS⟩, ⟨_, PySem.W.mg_of X G0 y_TEXT_SIGNS⟩⟩
  have F0 := fun_mk (st := s_is_integer) l0 c0 k0
  have b0 := F0.binds (ps := ["value"]) fun _ _ _ _ _ _ us hl => match us, hl with | [_], _ => rfl
  have F1 := fun_mk (st := s_is_word) l1 c1 k1
  have b1 := F1.binds (ps := ["value"]) fun _ _ _ _ _ _ us hl => match us, hl with | [_], _ => rfl
  have F2 := fun_mk (st := s_is_sign) l2 c2 k2
  have b2 := F2.binds (ps := ["value"]) fun _ _ _ _ _ _ us hl => match us, hl with | [_], _ => rfl
  have F3 := fun_mk (st := s_is_text) l3 c3 k3
  have b3 := F3.binds (ps := ["value"]) fun _ _ _ _ _ _ us hl => match us, hl with | [_], _ => rfl
  have F4 := fun_mk (st := s_is_piece) l4 c4 k4
  have b4 := F4.binds (ps := ["value"]) fun _ _ _ _ _ _ us hl => match us, hl with | [_], _ => rfl
  have F5 := fun_mk (st := s__law_dice) l5 c5 k5
  have b5 := F5.binds (ps := ["script", "spot"]) fun _ _ _ _ _ _ us hl => match us, hl with | [_, _], _ => rfl
  have F6 := fun_mk (st := s__law_roll) l6 c6 k6
  have b6 := F6.binds (ps := ["dice", "upto"]) fun _ _ _ _ _ _ us hl => match us, hl with | [_, _], _ => rfl
  have F7 := fun_mk (st := s__law_pick) l7 c7 k7
  have b7 := F7.binds (ps := ["dice", "items"]) fun _ _ _ _ _ _ us hl => match us, hl with | [_, _], _ => rfl
  have F8 := fun_mk (st := s__law_letters) l8 c8 k8
  have b8 := F8.binds (ps := ["dice", "signs", "many"]) fun _ _ _ _ _ _ us hl => match us, hl with | [_, _, _], _ => rfl
  have F9 := fun_mk (st := s__law_integers_right) l9 c9 k9
  have b9 := F9.binds (ps := ["dice"]) fun _ _ _ _ _ _ us hl => match us, hl with | [_], _ => rfl
  have F10 := fun_mk (st := s__law_texts_right) l10 c10 k10
  have b10 := F10.binds (ps := ["dice"]) fun _ _ _ _ _ _ us hl => match us, hl with | [_], _ => rfl
  have F11 := fun_mk (st := s__law_lengths_right) l11 c11 k11
  have b11 := F11.binds (ps := ["dice"]) fun _ _ _ _ _ _ us hl => match us, hl with | [_], _ => rfl
  have F12 := fun_mk (st := s_law) l12 c12 k12
  refine ⟨PySem.W.fnOf "law" "law" (defArgs s_law) (defBody s_law) (defScope s_law) .none kV12 dc12 pm12 an12 cd12 ct12, fun s v => .of_eq rfl, fun base _ _ => ?_⟩
  have h_is_integer : Has l.prog w K mg base CX0 1 "is_integer" ["value"] (spIsI K isInteger) := .mk' F0 (PySem.W.mg_of X G0 a0) b0 (ok_is_integer F0 T)
  have h_is_word : Has l.prog w K mg base CX0 1 "is_word" ["value"] (spIs K isWord) := .mk' F1 (PySem.W.mg_of X G0 a1) b1 (ok_is_word F1 T)
  have h_is_sign : Has l.prog w K mg base CX0 1 "is_sign" ["value"] (spIs K isSign) := .mk' F2 (PySem.W.mg_of X G0 a2) b2 (ok_is_sign F2 T)
  have h_is_text : Has l.prog w K mg base CX0 2 "is_text" ["value"] (spIs K isText) := .mk' F3 (PySem.W.mg_of X G0 a3) b3 (ok_is_text F3 T h_is_word)
  have h_is_piece : Has l.prog w K mg base CX0 2 "is_piece" ["value"] (spIs K isPiece) := .mk' F4 (PySem.W.mg_of X G0 a4) b4 (ok_is_piece F4 T h_is_word)
  have h__law_dice : Has l.prog w K mg base CX0 1 "_law_dice" ["script", "spot"] (spDice K) := .mk' F5 (PySem.W.mg_of X G0 a5) b5 (ok__law_dice F5 T)
  have h__law_roll : Has l.prog w K mg base CX0 1 "_law_roll" ["dice", "upto"] (spRoll) := .mk' F6 (PySem.W.mg_of X G0 a6) b6 (ok__law_roll F6 T)
  have h__law_pick : Has l.prog w K mg base CX0 2 "_law_pick" ["dice", "items"] (spPick K) := .mk' F7 (PySem.W.mg_of X G0 a7) b7 (ok__law_pick F7 T h__law_roll)
  have h__law_letters : Has l.prog w K mg base CX0 3 "_law_letters" ["dice", "signs", "many"] (spLetters K) := .mk' F8 (PySem.W.mg_of X G0 a8) b8 (ok__law_letters F8 T h__law_pick)
  have h__law_integers_right : Has l.prog w K mg base CX0 3 "_law_integers_right" ["dice"] (spRight 4) := .mk' F9 (PySem.W.mg_of X G0 a9) b9 (ok__law_integers_right F9 T h__law_pick h__law_roll h_is_integer)
  have h__law_texts_right : Has l.prog w K mg base CX0 4 "_law_texts_right" ["dice"] (spRight 60) := .mk' F10 (PySem.W.mg_of X G0 a10) b10 (ok__law_texts_right F10 T h__law_pick h__law_roll h__law_letters h_is_text h_is_piece h_is_sign)
  have h__law_lengths_right : Has l.prog w K mg base CX0 4 "_law_lengths_right" ["dice"] (spRight 40) := .mk' F11 (PySem.W.mg_of X G0 a11) b11 (ok__law_lengths_right F11 T h__law_letters h__law_roll h__law_pick h_is_text h_is_piece h_is_sign)
  exact ok_law F12 T h__law_dice h__law_lengths_right h__law_integers_right h__law_texts_right
end K01
open PySem PySem.W PyProof.Rows
set_option maxRecDepth 100000 in
set_option maxHeartbeats 0 in
theorem PySem.Challenge.cw_cutbehind_k01_integers_signs_texts_and_p_holds : PySem.Challenge.rw_cutbehind_k01_integers_signs_texts_and_p.Holds := by
  w_on; o_law; k_head; (case hw => w_witness2)
  k_fill
  refine G.walk_g (l := PySem.Challenge.rw_cutbehind_k01_integers_signs_texts_and_p) (n := 63) (k := 5) (x := "script") (sp := fun K => G.spLaw K) rfl (by decide) rfl ⟨rfl, by decide, by decide⟩ (fun w h Y => PySem.W.kIn_of Y) ?F (fun K H a ns hl _ hS => ⟨a, ns, rfl, hS, hl, fun _ => rfl⟩)
  case F =>
    intro w mg fa h KX G0 hmg
    refine' K01.all_mk (l := PySem.Challenge.rw_cutbehind_k01_integers_signs_texts_and_p) KX G0 hmg ?a0 ?l0 ?c0 ?k0 ?a1 ?l1 ?c1 ?k1 ?a2 ?l2 ?c2 ?k2 ?a3 ?l3 ?c3 ?k3 ?a4 ?l4 ?c4 ?k4 ?a5 ?l5 ?c5 ?k5 ?a6 ?l6 ?c6 ?k6 ?a7 ?l7 ?c7 ?k7 ?a8 ?l8 ?c8 ?k8 ?a9 ?l9 ?c9 ?k9 ?a10 ?l10 ?c10 ?k10 ?a11 ?l11 ?c11 ?k11 ?a12 ?l12 ?c12 ?k12 ?z_abs ?z_all ?z_bool ?z_int ?z_isinstance ?z_len ?z_list ?z_max ?z_min ?z_range ?z_repr ?z_str ?y_PIECE_SIGNS ?y_TEXT_SIGNS
    (case a0 => k_is)
    (case l0 => k_is)
    (case c0 => k_is)
    (case k0 => k_is)
    (case a1 => k_is)
    (case l1 => k_is)
    (case c1 => k_is)
    (case k1 => k_is)
    (case a2 => k_is)
    (case l2 => k_is)
    (case c2 => k_is)
    (case k2 => k_is)
    (case a3 => k_is)
    (case l3 => k_is)
    (case c3 => k_is)
    (case k3 => k_is)
    (case a4 => k_is)
    (case l4 => k_is)
    (case c4 => k_is)
    (case k4 => k_is)
    (case a5 => k_is)
    (case l5 => k_is)
    (case c5 => k_is)
    (case k5 => k_is)
    (case a6 => k_is)
    (case l6 => k_is)
    (case c6 => k_is)
    (case k6 => k_is)
    (case a7 => k_is)
    (case l7 => k_is)
    (case c7 => k_is)
    (case k7 => k_is)
    (case a8 => k_is)
    (case l8 => k_is)
    (case c8 => k_is)
    (case k8 => k_is)
    (case a9 => k_is)
    (case l9 => k_is)
    (case c9 => k_is)
    (case k9 => k_is)
    (case a10 => k_is)
    (case l10 => k_is)
    (case c10 => k_is)
    (case k10 => k_is)
    (case a11 => k_is)
    (case l11 => k_is)
    (case c11 => k_is)
    (case k11 => k_is)
    (case a12 => k_is)
    (case l12 => k_is)
    (case c12 => k_is)
    (case k12 => k_is)
    (case z_abs => k_is)
    (case z_all => k_is)
    (case z_bool => k_is)
    (case z_int => k_is)
    (case z_isinstance => k_is)
    (case z_len => k_is)
    (case z_list => k_is)
    (case z_max => k_is)
    (case z_min => k_is)
    (case z_range => k_is)
    (case z_repr => k_is)
    (case z_str => k_is)
    (case y_PIECE_SIGNS => k_is)
    (case y_TEXT_SIGNS => k_is)
#print axioms PySem.Challenge.cw_cutbehind_k01_integers_signs_texts_and_p_holds
