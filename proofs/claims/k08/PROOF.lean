import PyProof.Rows.All
import Wide.All
import OpenK.AllK
import Wide.FinOn
import PyProof.EqAt
import PyProof.EqKinds
import PyProof.TupleCall
import HandS.ForMost
import HandS.Wide
import HandS.IsInst
import HandS.Walk
import HandS.Style
import HandS.More
import HandS.TupAny
import HandS.TupMul
import HandS.DictComp
import HandS.ListItems
import HandS.Property
import KE.KDictCopyH
import HandS.Codes
import HandS.Small
import PySem.Challenge.RW_cutbehind_k08_whole_nowhere_dearer_for_a
set_option Elab.async false
set_option linter.all false
set_option maxRecDepth 100000
set_option maxHeartbeats 4000000
/-! The part that every claim shares: defs that are run where no repr is under way (FnG), and rules for what the hand layer lacks. -/
namespace G
open PySem PySem.Spec PyProof.Rows L2
/-! ### a def's promise where no guarded builtin is running -/
structure FnG (P : Program) (w : World) (K : PySem.W.Frag) (mg : Str → Option Value) (base : Heap) (CX : CXT) (k : Nat) (f : Addr) (fd : FuncData) (ps : List Str) (sp : Sp) : Prop where
  cnt : ∀ {vs H Q E}, sp vs H Q E → vs.length = ps.length
  go : ∀ {A : Around} {outer : List Env} {s : Shared} {H : Hp} {args : Args} {us : List Value} {vs : List V} {Q : VK} {E : XK}, A.guards = some [] → Room k A → Env0 P w K mg base A outer s H →
    BindsTo s fd args (ps.zip us) → Vals vs us → sp vs H Q E → codeAny (model P w) A (.call (.ref f) args) (CR CX outer P w H s Q E) s
section
variable {P : Program} {w : World} {K : PySem.W.Frag} {mg : Str → Option Value} {base : Heap} {CX : CXT} {k : Nat} {f : Addr} {fd : FuncData} {ps : List Str} {sp : Sp}
theorem FnG.of (F : FnOk P w K mg base CX k f fd ps sp) : FnG P w K mg base CX k f fd ps sp :=
  ⟨fun h => F.len _ _ _ _ h, fun {A outer s H args us vs Q E} _ hr e0 hb hv hs => F.run A outer s H args us vs Q E hr e0 hb hv hs⟩
theorem FnG.mono {j : Nat} (F : FnG P w K mg base CX j f fd ps sp) (h : j ≤ k) : FnG P w K mg base CX k f fd ps sp :=
  ⟨F.cnt, fun hg hr => F.go hg (hr.mono h)⟩
end
/-- the rule for a def of the text, by its body; the body's reader is told that nothing guarded runs -/
theorem fn_g {CX : CXT} {P : Program} {w : World} {K : PySem.W.Frag} {mg : Str → Option Value} {base : Heap} {k : Nat} {f : Addr} {x qual : Str} {st : Stmt} {fd : FuncData} {N ps : List Str} {sp : Sp}
    (F : Fun K x qual st f fd) (S : FnScope N ps (defScope st)) (cnt : ∀ vs H Q E, sp vs H Q E → vs.length = ps.length)
    (body : ∀ (cdv : Value) (A : Around) (outer : List Env) (s : Shared) (H : Hp) (vs : List V) (Q : VK) (E : XK), (A.deeper (envOfC qual (defScope st) s.heap.objs.size f cdv)).guards = some [] →
      Room k (A.deeper (envOfC qual (defScope st) s.heap.objs.size f cdv)) → sp vs H Q E →
      ∃ t, PSs (cxOf CX P w K mg base N qual (defScope st) f cdv A outer s H E) (defBody st) t ∧ t { nx := fun _ H' => Q .non H', rt := Q } (start N vs) H) :
    FnG P w K mg base CX (k + 1) f fd ps sp := by
  obtain ⟨oc, od, kV, doc, pm, an, cdv, ct, osl, hfd, look, code⟩ := F.ex
  subst hfd
  refine ⟨fun h => cnt _ _ _ _ h, ?_⟩
  intro A outer s H args us vs Q E hg room env0 hbind hvals want
  have kin : K.In s.heap := env0.mod.kin.keeps fun b o q => (env0.bs b o q).1
  have nolim : s.heap.NoLimit := env0.mod.nolimit.keeps fun b o q => (env0.bs b o q).1
  have kinds : ∀ y ∈ ps.zip us, (defScope st).names.lookup y.1 = some .local ∨ ((defScope st).names.lookup y.1 = some .cell ∧ ((cellsFrom (s.heap.objs.size + 1) (defScope st).names []).lookup y.1).isSome = true) := by
    rintro ⟨n, v⟩ hy
    cases S.par n (List.of_mem_zip hy).1 with
    | inl q => exact Or.inl q
    | inr q => exact Or.inr ⟨q, PySem.W.cellsFrom_some _ _ _ (Or.inl q)⟩
  refine codeAny_call_function room.depth (kin _ _ look) rfl S.co S.gen rfl (PySem.W.codeRec_of kin code) (hbind _ _ _ _ ?_)
  refine wpAny_newFunctionEnv_cells S.kind kinds ?_
  intro env he s1 z
  subst he
  refine ⟨nolim.keeps z.toInCall.keep, codeAny_func ?_⟩
  obtain ⟨t, ht, hq⟩ := body cdv A outer s H vs Q E hg (room.deeper _) want
  have I0 := inv_start (CX := CX) (P := P) (w := w) (mg := mg) (base := base) (qual := qual) (E := E) S room.hd env0 (cnt _ _ _ _ want) hvals z
  refine wpAny_mono (ht.run [] s1 (start N vs) H _ I0 hq) ?_ (fun _ _ q => q)
  intro fl s' hs
  cases fl with
  | ret u =>
    obtain ⟨v, σ', H', J, rv, q⟩ := hs
    exact ⟨v, H', J.os, J.bare, J.base, J.hok, rv, q⟩
  | next =>
    obtain ⟨σ', H', J, q⟩ := hs
    exact ⟨V.non, H', J.os, J.bare, J.base, J.hok, rfl, q⟩
  | brk => exact hs.elim fun _ z => z.elim fun _ z => False.elim z.2
  | cont => exact hs.elim fun _ z => z.elim fun _ z => False.elim z.2
/-- a def that lets nothing out -/
theorem fn_g0 {P : Program} {w : World} {K : PySem.W.Frag} {mg : Str → Option Value} {base : Heap} {k : Nat} {f : Addr} {x qual : Str} {st : Stmt} {fd : FuncData} {N ps : List Str} {sp : Sp}
    (F : Fun K x qual st f fd) (S : FnScope N ps (defScope st)) (cnt : ∀ vs H Q E, sp vs H Q E → vs.length = ps.length)
    (body : ∀ (cdv : Value) (A : Around) (outer : List Env) (s : Shared) (H : Hp) (vs : List V) (Q : VK) (E : XK), (A.deeper (envOfC qual (defScope st) s.heap.objs.size f cdv)).guards = some [] →
      Room k (A.deeper (envOfC qual (defScope st) s.heap.objs.size f cdv)) → sp vs H Q E →
      ∃ t, PSs (cxOf CX0 P w K mg base N qual (defScope st) f cdv A outer s H E).nox (defBody st) t ∧ t { nx := fun _ H' => Q .non H', rt := Q } (start N vs) H) :
    FnG P w K mg base CX0 (k + 1) f fd ps sp := fn_g F S cnt fun cdv A outer s H vs Q E hg hr h => by
  obtain ⟨t, ht, hq⟩ := body cdv A outer s H vs Q E hg hr h
  exact ⟨t, ht.nox, hq⟩

/-! ### a def as its callers use it -/
structure Has (P : Program) (w : World) (K : PySem.W.Frag) (mg : Str → Option Value) (base : Heap) (CX : CXT) (k : Nat) (x : Str) (ps : List Str) (sp : Sp) : Prop where
  ex : ∃ f fd, FnG P w K mg base CX k f fd ps sp ∧ mg x = some (.ref f) ∧ PySem.W.keepIn K (.ref f) = true ∧ Binds K fd ps []
theorem Has.mono {P : Program} {w : World} {K : PySem.W.Frag} {mg : Str → Option Value} {base : Heap} {CX : CXT} {j k : Nat} {x : Str} {ps : List Str} {sp : Sp} (F : Has P w K mg base CX j x ps sp) (h : j ≤ k) : Has P w K mg base CX k x ps sp := by
  obtain ⟨f, fd, G, r⟩ := F.ex
  exact ⟨f, fd, G.mono h, r⟩
theorem Has.mk' {P : Program} {w : World} {K : PySem.W.Frag} {mg : Str → Option Value} {base : Heap} {CX : CXT} {k : Nat} {x qual : Str} {ps : List Str} {sp : Sp} {f : Addr} {fd : FuncData} {st : Stmt} (F : Fun K x qual st f fd) (hm : mg x = some (.ref f)) (hb : Binds K fd ps [])
    (G : FnG P w K mg base CX k f fd ps sp) : Has P w K mg base CX k x ps sp := ⟨f, fd, G, hm, F.kp, hb⟩
section
variable {X : Cx} {CX : CXT} {k : Nat} {x : Str} {ps : List Str} {sp : Sp} {E : XK} {p pos : Pos} {e : Expr} {es : List Expr} {t : TA}
theorem run_g {f : Addr} {fd : FuncData} {pins : List (Addr × Obj)} {σ : L2.St} {H : Hp} {s : Shared} {Q : VK} {us : List Value} {vs : List V} (F : FnG X.prog X.w X.K X.mg X.base CX k f fd ps sp) (hg : X.A.guards = some []) (hr : Room k X.A) (hb : Binds X.K fd ps []) (hx : Passes CX X E)
    (I : Inv X pins σ H s) (r : Vals vs us) (h : sp vs H Q E) : wpAny (model X.prog X.w) X.A (call (.ref f) us) (EP X pins σ Q) X.xe s := by
  have hl : (us ++ []).length = ps.length := by
    rw [List.append_nil, ← r.length]
    exact F.cnt h
  have hb' := hb s us I.kIn hl
  rw [List.append_nil] at hb'
  refine wpAny_call (codeAny_mono (F.go hg hr I.env0 hb' r h) ?_)
  intro res s' q
  cases res with
  | error err => exact hx pins σ H s err s' I q
  | ok fl =>
    cases fl with
    | ret u => exact I.after q
    | next => exact q.elim
    | brk => exact q.elim
    | cont => exact q.elim
theorem pe_has (F : Has X.prog X.w X.K X.mg X.base CX k x ps sp) (hg : X.A.guards = some []) (hr : Room k X.A) (hx : Passes CX X E) (ha : PA X (e :: es) t) (hl : Gl X x := by rfl)
    (hdb : (x == ("__debug__" : Str)) = false := by decide) (he : starEach (e :: es) X.env = (false, eval e X.env) :: starEach es X.env := by rfl) (hpl : (backTo pos (starEach es X.env)).any (·.1) = false := by rfl) :
    PE X (.Call (.Name x p) (e :: es) [] pos) (tCall sp [] E t) := by
  obtain ⟨f, fd, G, hm, hk, hb⟩ := F.ex
  constructor
  intro pins s σ H Q I h
  refine wpAny_Call_Name_kw (ld_glob I hl hm ?_ hdb)
  refine PySem.W.callWith_K (h₀ := X.base) I.ok.mod.kin hk (thn (ha.run pos pins s σ H _ I h) ?_) he hpl
  rintro us s1 ⟨vs, H1, I1, r, q⟩
  refine ⟨I1.kIn, run_g G hg hr hb hx I1 r ?_⟩
  have q' : sp (vs ++ []) H1 Q E := q
  rw [List.append_nil] at q'
  exact q'
theorem pe_has0 (F : Has X.prog X.w X.K X.mg X.base CX k x ps sp) (hg : X.A.guards = some []) (hr : Room k X.A) (hx : Passes CX X E) (hl : Gl X x := by rfl) (hdb : (x == ("__debug__" : Str)) = false := by decide) :
    PE X (.Call (.Name x p) [] [] pos) (tCall sp [] E tNil) := by
  obtain ⟨f, fd, G, hm, hk, hb⟩ := F.ex
  constructor
  intro pins s σ H Q I h
  refine wpAny_Call_Name_kw (ld_glob I hl hm ?_ hdb)
  exact PySem.W.callWith_K0 I.kIn hk (run_g (us := []) (vs := []) G hg hr hb hx I .nil h)
end

/-! ### rules for ints of any size, texts, lists, repr -/
section
variable {X : Cx}
def CPowW (i j : Int) : Prop := 0 ≤ j ∧ (Builtin.Int.intBits i : Int) * j ≤ 2 ^ 27
theorem op_powW : OpR X (binaryOp .Pow) (rI CPowW fun i j => .int (i ^ j.toNat)) := by
  intro pins s σ H x y v u Q I rx ry h
  obtain ⟨i, j, rfl, rfl, ⟨h1, h2⟩, q⟩ := h
  obtain ⟨t1, rfl⟩ := rx
  obtain ⟨t2, rfl⟩ := ry
  exact pow_int h1 h2 ⟨V.int _, H, I.tok _, ⟨_, rfl⟩, q⟩
/-- a text said n times, n at least 2 -/
def sRep (z : Str) (n : Nat) : Str := ⟨(List.replicate n z.cps).foldl (· ++ ·) #[]⟩
def rMulS : R2 := fun x y H Q => ∃ (z : Str) (n : Int), x = .str z ∧ y = .int n ∧ 1 < n ∧ n < 2 ^ 40 ∧ 0 < z.length ∧ z.length * n.toNat ≤ sizeLine ∧ Q (.str (sRep z n.toNat)) H
theorem op_mulS : OpR X (binaryOp .Mult) rMulS := by
  intro pins s σ H x y v u Q I rx ry h
  obtain ⟨z, n, rfl, rfl, h1, h2, h3, h4, q⟩ := h
  obtain ⟨t1, rfl⟩ := rx
  obtain ⟨t2, rfl⟩ := ry
  have hz : sizeLine = 16777216 := sizeLine_eq
  have c0 : ¬ n < 1 := by omega
  have c1 : (n == 1 || z.length == 0) = false := by
    have a : (n == 1) = false := beq_eq_false_iff_ne.mpr (by omega)
    have b : (z.length == 0) = false := beq_eq_false_iff_ne.mpr (by omega)
    rw [a, b]
    rfl
  have h5 : (z.length * n.toNat : Nat) ≤ 16777216 := by rw [← hz]; exact h4
  refine PySem.P.mul_str ?_ ?_ ?_ ?_
  · have a : ¬ n < -(2 ^ 63 : Int) := by omega
    have b : ¬ n ≥ 2 ^ 63 := by omega
    rw [decide_eq_false a, decide_eq_false b]
    rfl
  · intro _ _ hgt
    have hn0 : (0 : Int) < n := by omega
    have e1 : (z.length : Int) ≤ 16777216 := by
      have : z.length * 1 ≤ z.length * n.toNat := Nat.mul_le_mul_left _ (by omega)
      omega
    have e2 : (8388608 : Int) ≤ (2 ^ 63 - 1) / n := by
      rw [Int.le_ediv_iff_mul_le hn0]
      have : 8388608 * n < 8388608 * 2 ^ 40 := by omega
      have e3 : (8388608 : Int) * 2 ^ 40 = 2 ^ 63 := by decide
      omega
    have e4 : (z.length : Int) ≤ 8388608 := by
      have : z.length * 2 ≤ z.length * n.toNat := Nat.mul_le_mul_left _ (by omega)
      omega
    omega
  · intro _ _
    unfold Builtin.Str.tooLong
    have : ¬ (z.length * n.toNat) > sizeLine := by omega
    simpa using this
  · rw [if_neg c0, c1]
    exact ⟨by
      show (sRep z n.toNat).length ≤ sizeLine
      exact fits_reps (by unfold Builtin.Str.tooLong; simpa using (show ¬ (z.length * n.toNat) > sizeLine by omega)), ⟨V.str _, H, I.tok _, ⟨_, rfl⟩, q⟩⟩

/-- the signs of a text, each a text -/
def signsV (z : Str) : List V := z.cps.toList.map fun c => V.str ⟨#[c]⟩
def rListS : List V → Hp → VK → Prop := fun xs H Q => ∃ z : Str, xs = [.str z] ∧ z.length ≤ sizeLine ∧ ∀ p, H p = none → Q (.ref p) (upd H p (.lst (signsV z)))
theorem vals_at : ∀ (xs : List V) (us : List Value), us.length = xs.length → (∀ (j : Nat) (u : Value), us[j]? = some u → ∃ x, xs[j]? = some x ∧ RelV x u) → Vals xs us
  | [], [], _, _ => .nil
  | [], _ :: _, n, _ => by cases n
  | _ :: _, [], n, _ => by cases n
  | x :: xs, u :: us, n, at' => by
    obtain ⟨y, ey, ry⟩ := at' 0 u rfl
    cases ey
    refine .cons ry (vals_at xs us (Nat.succ.inj n) ?_)
    intro j v hv
    exact at' (j + 1) v hv
theorem call_list_str (hc : X.calm = true) : CallR X (.type "list") rListS := by
  intro pins s σ H xs us Q I r h
  obtain ⟨z, rfl, hz, q⟩ := h
  obtain ⟨u, rfl, t, rfl⟩ := vals1 r
  refine PySem.call_list_str (I.ok.hd hc) z t ?_ hz
  intro h' tk acc c' keeps at' items
  have lenA : acc.toList.length = (signsV z).length := by
    unfold signsV
    rw [List.length_map, Array.length_toList, Array.length_toList]
    exact items.1
  have va : Vals (signsV z) acc.toList := vals_at _ _ lenA fun j u hu => by
    have hj : acc[j]? = some u := by simpa using hu
    obtain ⟨c, tk2, e1, rfl⟩ := items.2 j u hj
    refine ⟨V.str ⟨#[c]⟩, ?_, ⟨tk2, rfl⟩⟩
    unfold signsV
    have e2 : z.cps.toList[j]? = some c := by simpa using e1
    rw [List.getElem?_map, e2]
    rfl
  have lz : (signsV z).length ≤ sizeLine := by
    unfold signsV
    rw [List.length_map, Array.length_toList]
    exact hz
  refine ⟨.ref s.heap.objs.size, _, I.laid (t' := tk) (o := .lst (signsV z)) keeps (Nat.le_refl _) ?_, rfl, q _ (I.hok.fresh (Nat.le_refl _))⟩
  exact ⟨lz, acc.toList, c', va, by simpa using at'⟩

/-- repr of data of any depth (no dict within) -/
def rRepr (K : PySem.W.Frag) : List V → Hp → VK → Prop := fun xs H Q => ∃ x d, xs = [x] ∧ Dp K H x d ∧ d.showable = true ∧ d.hasDict = false ∧ d.depth ≤ 60 ∧ d.shown.length ≤ sizeLine ∧ Q (.str d.shown) H
theorem call_repr (hg : X.A.guards = some []) (hu : X.A.units + 64 < cLine) : CallR X (.builtin "repr") (rRepr X.K) := by
  intro pins s σ H xs us Q I r h
  obtain ⟨x, d, rfl, hd, hs, hD, hdep, hz, q⟩ := h
  obtain ⟨u, rfl, rx⟩ := vals1 r
  obtain ⟨as, rd⟩ := Dp.reads I d x u hd rx
  have fin : ∀ h' t tk, (∀ b o, s.heap.get? b = some o → h'.get? b = some o) → EP X pins σ Q (.str d.shown t) { s with heap := h', toks := tk } := fun h' t tk keeps =>
    ⟨V.str d.shown, H, I.kept keeps, ⟨t, rfl⟩, q⟩
  cases rd with
  | none =>
    simp only [PyData.shown] at fin
    exact PySem.P.repr_of_none (fin _ _ _ fun _ _ e => e)
  | bool b =>
    simp only [PyData.shown] at fin
    exact PySem.P.repr_of_bool (fin _ _ _ fun _ _ e => e)
  | int i t =>
    simp only [PyData.shown] at fin
    exact PySem.P.repr_of_int (by simpa [PyData.showable] using hs) (fin _ _ _ fun _ _ e => e)
  | str z t =>
    simp only [PyData.shown] at fin hz
    exact PySem.P.repr_of_str (fin _ _ _ fun _ _ e => e) hz
  | list a b c e => exact repr_of_reads' (.list a b c e) hs (PyData.noDict_hsm hD) hg (by omega) (fun _ _ e => e) fin hz
  | tuple a b c e => exact repr_of_reads' (.tuple a b c e) hs (PyData.noDict_hsm hD) hg (by omega) (fun _ _ e => e) fin hz
  | dict a b c e f => cases hD
end

/-! ### the end of a law row, for a law that is run where nothing guarded runs -/
theorem end_g {P : Program} {w : World} {K : PySem.W.Frag} {mg mb : Str → Option Value} {k : Nat} {fa a : Addr} {fd : FuncData} {x : Str} {sp : Sp} {s₁ : Shared} {vs : List Value} {ns : List Int}
    (kin : K.In s₁.heap) (nsM : s₁.heap.Ns mainGlobals mg) (nsB : s₁.heap.Ns builtinsNs mb) (plainB : ∀ x : Str, x ≠ "__name__" → mb x = bootBuiltins x) (nolim : s₁.heap.NoLimit) (gens : s₁.gens = #[])
    (at' : s₁.heap.get? a = some { cls := .type "list", data := .seq vs.toArray }) (areI : IntsAre vs ns) (short : ns.length ≤ sizeLine) (room : Room k callerA)
    (F : ∀ base : Heap, K.In base → base.Ns mainGlobals mg → FnG P w K mg base CX0 k fa fd [x] sp) (bind : ∀ (s : Shared) (u : Value), BindsTo s fd ⟨[u], []⟩ [(x, u)])
    (prom : ∀ H : Hp, Only H → SqL K H a (ns.map V.int) → sp [.ref a] H (fun v _ => v = .bl true) fun _ _ _ => False) :
    codeAny (model P w) callerA (.call (.ref fa) ⟨[.ref a], []⟩) (fun r s' => r = .ok (.ret (.bool true)) ∧ OldK s₁.heap s'.heap ∧ s'.os = s₁.os ∧ AllBare s'.gens) s₁ := by
  have hv := vals_ints areI
  have hlen := areI.length
  have go : ∀ H : Hp, Only H → SqL K H a (ns.map V.int) → HOk P w H s₁.heap → (∀ b, H b ≠ none → b = a) → (H a ≠ none → K.lookup a = none) →
      codeAny (model P w) callerA (.call (.ref fa) ⟨[.ref a], []⟩) (fun r s' => r = .ok (.ret (.bool true)) ∧ OldK s₁.heap s'.heap ∧ s'.os = s₁.os ∧ AllBare s'.gens) s₁ := by
    intro H only sq hok one notK
    have dictFree : ∀ {b : Addr} {o : Obj} {es : Array DictEntry} {ep : Nat}, s₁.heap.get? b = some o → o.data = .dict es ep → H b = none := by
      intro b o es ep e d
      match hb : H b with
      | none => rfl
      | some u =>
        have eb := one b (by rw [hb]; exact fun z => by cases z)
        rw [eb, at'] at e
        cases e
        exact absurd d (fun z => by cases z)
    have nsT : ∀ {b : Addr} {m : Str → Option Value}, s₁.heap.Ns b m → (hidT s₁.heap H).Ns b m := by
      rintro b m ⟨o, es, ep, e, d, rest⟩
      exact ⟨o, es, ep, hidT_get e (dictFree e d), d, rest⟩
    have kinT : K.In (hidT s₁.heap H) := by
      intro b o e
      refine hidT_get (kin b o e) ?_
      match hb : H b with
      | none => rfl
      | some u =>
        have nz : H b ≠ none := by rw [hb]; exact fun z => by cases z
        have eb := one b nz
        rw [eb] at nz e
        rw [notK nz] at e
        cases e
    have modT : Mod K mg (hidT s₁.heap H) := by
      refine ⟨kinT, nsT nsM, ⟨mb, nsT nsB, plainB⟩, ?_⟩
      obtain ⟨mc, l1, l2⟩ := nolim
      exact ⟨mc, nsT l1, l2⟩
    have start0 : Env0 P w K mg (hidT s₁.heap H) callerA [] s₁ H :=
      ⟨rfl, modT, fun _ _ e => of_hidT e, Nat.le_of_eq (hidT_size _ _), trivial, fun _ z => (List.not_mem_nil z).elim, hok, .of_eq gens⟩
    have ran := (F _ kinT (nsT nsM)).go (args := ⟨[.ref a], []⟩) (us := [.ref a]) (vs := [.ref a]) rfl room start0 (bind s₁ (.ref a)) (.cons rfl .nil) (prom H only sq)
    refine codeAny_mono ran ?_
    intro r s' h
    match r, h with
    | .ok (.ret u), ⟨v, H', os, bare, un, hok', rel, val⟩ =>
      have val' : v = .bl true := val
      subst val'
      have eu : u = Value.bool true := rel
      subst eu
      refine ⟨rfl, OldK.of_keep ?_, os, bare⟩
      intro b o e
      match hb : H b with
      | none => exact un.keep b o e hb (fun z => (List.not_mem_nil z).elim) (fun z => (List.not_mem_nil z).elim)
      | some _ =>
        rcases only b with z | ⟨ob, xs, z⟩
        · rw [hb] at z
          cases z
        · have old := (hok b _ z).1
          have new := (hok' b _ (un.frzs b ob _ z)).1
          rw [e] at old
          cases old
          exact new
    | .ok .next, z => exact False.elim z
    | .ok .brk, z => exact False.elim z
    | .ok .cont, z => exact False.elim z
    | .error _, z => exact False.elim z
  match hk : K.lookup a with
  | some o =>
    have e := kin a o hk
    rw [at'] at e
    cases e
    refine go (fun _ => none) (fun _ => Or.inl rfl) (Or.inr ⟨_, vs.toArray, _, hk, rfl, rfl, rfl, ?_, by simpa using hv⟩) (fun _ _ z => by cases z) (fun _ z => absurd rfl z) fun z => absurd rfl z
    rw [List.size_toArray, hlen]
    exact short
  | none =>
    let H1 : Hp := fun b => if b = a then some (.frz { cls := .type "list", data := .seq vs.toArray } (.lst (ns.map V.int))) else none
    have here : H1 a = some (.frz { cls := .type "list", data := .seq vs.toArray } (.lst (ns.map V.int))) := if_pos rfl
    have away : ∀ {b}, b ≠ a → H1 b = none := fun hb => if_neg hb
    refine go H1 (fun b => ?_) (Or.inl (Or.inr ⟨_, here⟩)) (fun b u z => ?_) (fun b z => ?_) fun _ => hk
    · by_cases hb : b = a
      · rw [hb]
        exact Or.inr ⟨_, _, here⟩
      · exact Or.inl (away hb)
    · by_cases hb : b = a
      · rw [hb] at z ⊢
        rw [here] at z
        cases z
        exact ⟨at', by rw [List.length_map]; exact short, vs, _, hv, at'⟩
      · rw [away hb] at z
        cases z
    · by_cases hb : b = a
      · exact hb
      · exact absurd (away hb) z
theorem walk_g {l : PySem.W.OpenLaw} {n k : Nat} {q : Program} {loose : List Str} {XP : (Str → Option Value) → Heap → Prop} {YP : World → Heap → Prop} {d : DefRec} {K : Params → PySem.W.Frag} {sp : PySem.W.Frag → Sp} {x : Str}
    (many : l.most = some n) (fits : n ≤ sizeLine) (plain : d.params.defaults = []) (room : Room k callerA) (hY : ∀ (w : World) (h : Heap), YP w h → (K w.params).In h)
    (F : ∀ (w : World) (mg : Str → Option Value) (fa : Addr) (h : Heap), (K w.params).In h → h.Ns mainGlobals mg → mg d.name = some (.ref fa) →
      ∃ fd : FuncData, (∀ (s : Shared) (u : Value), BindsTo s fd ⟨[u], []⟩ [(x, u)]) ∧ ∀ base : Heap, (K w.params).In base → base.Ns mainGlobals mg → FnG l.prog w (K w.params) mg base CX0 k fa fd [x] (sp (K w.params)))
    (prom : ∀ (K : PySem.W.Frag) (H : Hp) (a : Addr) (ns : List Int), ns.length ≤ n → Only H → SqL K H a (ns.map V.int) → sp K [.ref a] H (fun v _ => v = .bl true) fun _ _ _ => False) :
    PySem.W.WalkO q loose XP YP l.row.toRowW d [] (fun f vs => PySem.call f vs) := by
  refine Att.attach_call many plain ?_
  intro w s₀ s₁ mg mb fa o pm cd doc a vs ns G Y ho hd hcd hmg hobj hints hlen hgens
  obtain ⟨fd, bind, hF⟩ := F w mg fa _ (hY w _ Y) G.T.g hmg
  exact end_g (hY w _ Y) G.T.g G.T.b G.T.builtins G.T.nolimit hgens hobj hints (Nat.le_trans hlen fits) room hF bind fun H only sq => prom _ H a ns hlen only sq
end G
/-! The layer's rules with the written part K named, so that they serve within a comprehension. -/
namespace G
open PySem PySem.Spec PyProof.Rows L2
section
variable {X : Cx} (K : PySem.W.Frag)
theorem g_ix_list (e : X.K = K := by rfl) : IxR X (rIxL K) := by
  subst e
  exact ix_list
theorem g_ix_tup (e : X.K = K := by rfl) : IxR X (rIxT K) := by
  subst e
  exact ix_tup
theorem g_ix_seq (e : X.K = K := by rfl) : IxR X (rIx K) := by
  subst e
  exact ix_seq
def rLenQ : List V → Hp → VK → Prop := fun xs H Q => ∃ p ys, xs = [.ref p] ∧ (SqL K H p ys ∨ SqT K H p ys) ∧ Q (.int (ys.length : Int)) H
theorem g_len_seq (e : X.K = K := by rfl) : CallR X (.builtin "len") (rLenQ K) := by
  subst e
  exact call_len_seq
def rLenG : List V → Hp → VK → Prop := fun xs H Q => ∃ x n, xs = [x] ∧ LenV K x H n ∧ Q (.int (n : Int)) H
theorem g_len (e : X.K = K := by rfl) : CallR X (.builtin "len") (rLenG K) := by
  subst e
  exact call_len
def rListQ : List V → Hp → VK → Prop := fun xs H Q => ∃ p ys, xs = [.ref p] ∧ (SqL K H p ys ∨ SqT K H p ys) ∧ ∀ l, H l = none → Q (.ref l) (upd H l (.lst ys))
theorem g_list_of (e : X.K = K := by rfl) : CallR X (.type "list") (rListQ K) := by
  subst e
  exact call_list_of
def rListAny : List V → Hp → VK → Prop := fun xs H Q => rListS xs H Q ∨ rListQ K xs H Q
theorem g_list_any (hc : X.calm = true) (e : X.K = K := by rfl) : CallR X (.type "list") (rListAny K) := fun pins s σ H xs us Q I r h => by
  rcases h with h | h
  · exact call_list_str hc pins s σ H xs us Q I r h
  · exact g_list_of K e pins s σ H xs us Q I r h
def rDictP : List V → Hp → VK → Prop := fun xs H Q => ∃ (a : Addr) (ps : List Addr) (kvs : List (Key × V)), xs = [.ref a] ∧ SqL K H a (ps.map V.ref) ∧ Paired (fun p kv => SqT K H p [kV kv.1, kv.2]) ps kvs ∧ ∀ p, H p = none → Q (.ref p) (upd H p (.dK (mergeK [] kvs)))
theorem g_dictP (hc : X.calm = true) (e : X.K = K := by rfl) : CallR X (.type "dict") (rDictP K) := by
  subst e
  exact call_dictP hc
def rTupQ : List V → Hp → VK → Prop := fun xs H Q => ∃ p ys, xs = [.ref p] ∧ ((SqL K H p ys ∧ ∀ l, H l = none → Q (.ref l) (upd H l (.tup ys))) ∨ (SqT K H p ys ∧ Q (.ref p) H))
theorem g_tuple_of (e : X.K = K := by rfl) : CallR X (.type "tuple") (rTupQ K) := by
  subst e
  exact call_tuple_of
theorem g_isi (e : X.K = K := by rfl) : CallR X (.builtin "isinstance") (rIsi K) := by
  subst e
  exact call_isi
theorem g_isiT (e : X.K = K := by rfl) : CallR X (.builtin "isinstance") (rIsiT K) := by
  subst e
  exact call_isiT
theorem g_all (hc : X.calm = true) (e : X.K = K := by rfl) : CallR X (.builtin "all") (rAll K) := by
  subst e
  exact cr_all hc
theorem g_any (hc : X.calm = true) (e : X.K = K := by rfl) : CallR X (.builtin "any") (rAny K) := by
  subst e
  exact cr_any hc
theorem g_sum (hc : X.calm = true) (e : X.K = K := by rfl) : CallR X (.builtin "sum") (rSum K) := by
  subst e
  exact cr_sum hc
theorem g_max (hc : X.calm = true) (e : X.K = K := by rfl) : CallR X (.builtin "max") (rMax K) := by
  subst e
  exact cr_max hc
theorem g_min (hc : X.calm = true) (e : X.K = K := by rfl) : CallR X (.builtin "min") (rMin K) := by
  subst e
  exact cr_min hc
theorem g_sortedS (e : X.K = K := by rfl) : CallR X (.builtin "sorted") (rSortedS K) := by
  subst e
  exact cr_sortedS
theorem g_in_seq (e : X.K = K := by rfl) : OpR X (compareOp .In) (rIn K false) := by
  subst e
  exact op_in_seq
theorem g_notIn_seq (e : X.K = K := by rfl) : OpR X (compareOp .NotIn) (rIn K true) := by
  subst e
  exact op_notIn_seq
theorem g_eqD (hu : X.A.units + 64 < cLine) (e : X.K = K := by rfl) : OpR X (compareOp .Eq) (rEqD K) := by
  subst e
  exact op_eqD hu
theorem g_neD (hu : X.A.units + 64 < cLine) (e : X.K = K := by rfl) : OpR X (compareOp .NotEq) (rNeD K) := by
  subst e
  exact op_neD hu
theorem g_sl_list (e : X.K = K := by rfl) : SlR X (rSlL K) := by
  subst e
  exact sl_list
theorem g_sl_tup (e : X.K = K := by rfl) : SlR X (rSlA K) := by
  subst e
  exact sl_tupA
theorem g_repr (hg : X.A.guards = some []) (hu : X.A.units + 64 < cLine) (e : X.K = K := by rfl) : CallR X (.builtin "repr") (rRepr K) := by
  subst e
  exact call_repr hg hu
theorem g_fld {x : Expr} {f : Str} {pos : Pos} {ta : TE} (he : PE X x ta) (hb : attributeBase x f X.env (eval x X.env) = eval x X.env := by rfl) (e : X.K = K := by rfl) : PE X (.Attribute x f pos) (tFld K ta f) := by
  subst e
  exact pe_fld he hb
theorem g_list {tg l : Expr} {tl : TE} (hl : PE X l tl) (e : X.K = K := by rfl) : PI X tg l (iList K tl) := by
  subst e
  exact pi_list hl
theorem g_tuple {tg l : Expr} {tl : TE} (hl : PE X l tl) (e : X.K = K := by rfl) : PI X tg l (iTup K tl) := by
  subst e
  exact pi_tup hl
theorem g_tup {es : List Expr} {k : Nat} {t : TGs} {n : Nat} {pos : Pos} (hc : X.calm = true) (h : PGs X es t) (hn : (assignEach es X.env).length = n := by rfl) (hst : (assignEach es X.env).findIdx? (·.1) = none := by rfl) (e : X.K = K := by rfl) :
    PG X (.Tuple es k pos) (gTup K n t) := by
  subst e
  exact pg_tup hc h hn hst
/-- sep.join(a list or a tuple of texts) -/
def rJoin : V → List V → Hp → VK → Prop := fun x xs H Q => ∃ a p, ∃ ys : List Str, x = .str a ∧ xs = [.ref p] ∧ (SqL K H p (ys.map V.str) ∨ SqT K H p (ys.map V.str)) ∧ (ys.map (·.length)).sum + ys.length * a.length ≤ 16777216 ∧ Q (.str (Txt.join a ys)) H
theorem g_join {o x : Expr} {to te : TE} {apos pos : Pos} (ho : PE X o to) (he : PE X x te) (hs : starEach [x] X.env = [(false, eval x X.env)] := by rfl) (hbase : attributeBase o "join" X.env (eval o X.env) = eval o X.env := by rfl) (hline : (apos.endLine == pos.line) = true := by rfl) (e : X.K = K := by rfl) :
    PE X (.Call (.Attribute o "join" apos) [x] [] pos) (tM1 (rJoin K) to te) := by
  subst e
  exact pe_join ho he hs hbase hline
theorem g_bm0 {T name id : String} {o : Expr} {to : TE} {r : V → List V → Hp → VK → Prop} {apos cpos : Pos} (pa : PlainAttrs T) (slot : Slot T name id) (hty : typeOf (.builtin id) = pure (.type "method_descriptor")) (hm : MtR X id r) (ho : PE X o to)
    (hb : attributeBase o name X.env (eval o X.env) = eval o X.env := by rfl) (hl : (apos.endLine == cpos.line) = true := by rfl) (e : X.K = K := by rfl) : PE X (.Call (.Attribute o name apos) [] [] cpos) (tBM0 K T r to) := by
  subst e
  exact pe_bm0 pa slot hty hm ho hb hl
theorem g_bm {T name id : String} {o x : Expr} {xs : List Expr} {to : TE} {t : TA} {r : V → List V → Hp → VK → Prop} {apos cpos : Pos} (pa : PlainAttrs T) (slot : Slot T name id) (hty : typeOf (.builtin id) = pure (.type "method_descriptor")) (hm : MtR X id r) (ho : PE X o to) (ha : PA X (x :: xs) t)
    (hb : attributeBase o name X.env (eval o X.env) = eval o X.env := by rfl) (hf : ((backTo cpos (starEach (x :: xs) X.env)).all (fun y => !y.1) && (backToKw cpos (keywordEach [] X.env)).all (fun y => y.1.isSome) &&
      decide ((x :: xs).length + ([] : List Keyword).length + (if ([] : List Keyword).isEmpty then 0 else 1) < 30)) = true := by rfl)
    (hl : (apos.endLine == cpos.line) = true := by rfl) (hs : starEach (x :: xs) X.env = (false, eval x X.env) :: starEach xs X.env := by rfl) (hp : (backTo cpos (starEach xs X.env)).any (·.1) = false := by rfl) (e : X.K = K := by rfl) :
    PE X (.Call (.Attribute o name apos) (x :: xs) [] cpos) (tBM K T r to t) := by
  subst e
  exact pe_bm pa slot hty hm ho ha hb hf hl hs hp
end
end G
namespace G
open PySem PySem.Spec PyProof.Rows L2
theorem itT {c : Bool} {A B : Prop} (hc : c = true) (h : A) : if c = true then A else B := by
  rw [if_pos hc]
  exact h
theorem itF {c : Bool} {A B : Prop} (hc : c = false) (h : B) : if c = true then A else B := by
  rw [hc, if_neg Bool.false_ne_true]
  exact h
/-- an if on a Bool that is not known -/
theorem itB {c : Bool} {A B : Prop} (h1 : c = true → A) (h2 : c = false → B) : if c = true then A else B := by
  cases c
  · exact itF rfl (h2 rfl)
  · exact itT rfl (h1 rfl)
/-! ### kinds of values -/
def isStr : V → Bool | .str _ => true | _ => false
def isBl : V → Bool | .bl _ => true | _ => false
def isIntB : V → Bool | .int _ => true | .bl _ => true | _ => false
def Tyd (K : PySem.W.Frag) (H : Hp) (x : V) : Prop := ∃ t, TyX K H x t ∧ PySem.W.kitOne K t (.type "str") = some (isStr x) ∧ PySem.W.kitOne K t (.type "int") = some (isIntB x) ∧ PySem.W.kitOne K t (.type "bool") = some (isBl x)
section
variable {K : PySem.W.Frag} {H : Hp} {x : V}
theorem tyd_of {T : String} {a b c : Bool} (h : TyX K H x (.type T)) (ha : kitB T "str" = some a) (hb : kitB T "int" = some b) (hc : kitB T "bool" = some c) (ea : isStr x = a) (eb : isIntB x = b) (ec : isBl x = c) : Tyd K H x :=
  ⟨_, h, by rw [ea]; exact kit_ty ha, by rw [eb]; exact kit_ty hb, by rw [ec]; exact kit_ty hc⟩
theorem tyd_non  : Tyd K H .non := tyd_of (a := false) (b := false) (c := false) (.base .non) (by decide +kernel) (by decide +kernel) (by decide +kernel) rfl rfl rfl
theorem tyd_bl (b : Bool) : Tyd K H (.bl b) := tyd_of (a := false) (b := true) (c := true) (.base (.bl b)) (by decide +kernel) (by decide +kernel) (by decide +kernel) rfl rfl rfl
theorem tyd_int (i : Int) : Tyd K H (.int i) := tyd_of (a := false) (b := true) (c := false) (.base (.int i)) (by decide +kernel) (by decide +kernel) (by decide +kernel) rfl rfl rfl
theorem tyd_str (z : Str) : Tyd K H (.str z) := tyd_of (a := true) (b := false) (c := false) (.base (.str z)) (by decide +kernel) (by decide +kernel) (by decide +kernel) rfl rfl rfl
theorem tyd_lst {a : Addr} {xs : List V} (h : H a = some (.lst xs)) : Tyd K H (.ref a) := tyd_of (a := false) (b := false) (c := false) (.base (.lst h)) (by decide +kernel) (by decide +kernel) (by decide +kernel) rfl rfl rfl
theorem tyd_tup {a : Addr} {xs : List V} (h : H a = some (.tup xs)) : Tyd K H (.ref a) := tyd_of (a := false) (b := false) (c := false) (.base (.tup h)) (by decide +kernel) (by decide +kernel) (by decide +kernel) rfl rfl rfl
theorem tyd_dK {a : Addr} {kvs : List (Key × V)} (h : H a = some (.dK kvs)) : Tyd K H (.ref a) := tyd_of (a := false) (b := false) (c := false) (.base (.dK h)) (by decide +kernel) (by decide +kernel) (by decide +kernel) rfl rfl rfl
end
/-! ### texts as lists of codes -/
abbrev cs (z : Str) : List Nat := z.cps.toList
theorem cs_len (z : Str) : (cs z).length = z.length := by
  show z.cps.toList.length = z.cps.size
  simp
theorem str_ext {x y : Str} (h : cs x = cs y) : x = y := by
  obtain ⟨a⟩ := x
  obtain ⟨b⟩ := y
  have : a = b := Array.toList_inj.mp h
  rw [this]
theorem cs_app (x y : Str) : cs (x ++ y) = cs x ++ cs y := by
  show (x.cps ++ y.cps).toList = _
  simp
def lett (c : Nat) : Bool := decide (97 ≤ c) && decide (c ≤ 122)
def isWord : V → Bool | .str z => !(cs z).isEmpty && (cs z).all lett | _ => false
def isSign : V → Bool | .str z => decide ((cs z).length = 1) && (cs z).all lett | _ => false
def isText : V → Bool | .str z => decide ((cs z).length ≤ 8000) && (cs z).all lett | _ => false
def isPiece : V → Bool | .str z => decide (1 ≤ (cs z).length) && decide ((cs z).length ≤ 5) && (cs z).all lett | _ => false
def isInteger : V → Bool | .int i => decide (i.natAbs < 10 ^ 60) | _ => false
theorem lt_one {a b : Nat} : decide (([a] : List Nat) < [b]) = decide (a < b) := by
  by_cases h : a < b
  · rw [decide_eq_true h, decide_eq_true (List.cons_lt_cons_iff.mpr (Or.inl h))]
  · rw [decide_eq_false h, decide_eq_false (fun z => ?_)]
    rcases List.cons_lt_cons_iff.mp z with z | ⟨_, z⟩
    · exact h z
    · cases z
theorem lett_eq (c : Nat) : (!decide (([c] : List Nat) < [97])) = decide (97 ≤ c) ∧ (!decide (([122] : List Nat) < [c])) = decide (c ≤ 122) := by
  rw [lt_one, lt_one]
  constructor
  · by_cases h : c < 97
    · rw [decide_eq_true h, decide_eq_false (by omega)]
      rfl
    · rw [decide_eq_false h, decide_eq_true (by omega)]
      rfl
  · by_cases h : 122 < c
    · rw [decide_eq_true h, decide_eq_false (by omega)]
      rfl
    · rw [decide_eq_false h, decide_eq_true (by omega)]
      rfl
theorem abs_lt (i : Int) : decide ((if i < 0 then -i else i) < (10 : Int) ^ (60 : Int).toNat) = isInteger (.int i) := by
  show _ = decide (i.natAbs < 10 ^ 60)
  have e : (10 : Int) ^ (60 : Int).toNat = ((10 ^ 60 : Nat) : Int) := by decide +kernel
  rw [e]
  generalize (10 ^ 60 : Nat) = m
  by_cases h : i.natAbs < m
  · rw [decide_eq_true h, decide_eq_true]
    split <;> omega
  · rw [decide_eq_false h, decide_eq_false]
    split <;> omega
def szV : V → Prop | .str z => z.length ≤ 100000 | _ => True
theorem fits_sz {n : Nat} (h : n ≤ 100000) : n ≤ sizeLine := Nat.le_trans h (by decide)
theorem same_new {H : Hp} {p : Addr} {o : HO} (h : H p = none) : Same H (upd H p o) := fun b u e => by
  rw [upd_ne (ne_of_none e h)]
  exact e
/-- is_integer, is_word and the like: any value, told by a function on values -/
def spIs (K : PySem.W.Frag) (p : V → Bool) : Sp := fun vs H Q _ => ∃ x, vs = [x] ∧ Tyd K H x ∧ szV x ∧ ∀ H', Same H H' → Q (.bl (p x)) H'
theorem v_str_ne {z : Str} : (!decide (V.str z = V.str "")) = !(cs z).isEmpty := by
  by_cases h : cs z = []
  · have e : z = "" := str_ext (by rw [h]; rfl)
    rw [e]
    rfl
  · have e : V.str z ≠ V.str "" := fun q => h (by rw [V.str.inj q]; rfl)
    rw [decide_eq_false e]
    cases hz : cs z with
    | nil => exact absurd hz h
    | cons a l => rfl
theorem v_str_eq {z : Str} : decide (V.str z = V.str "") = (cs z).isEmpty := by
  have := v_str_ne (z := z)
  cases h1 : decide (V.str z = V.str "") <;> cases h2 : (cs z).isEmpty <;> rw [h1, h2] at this <;> first | rfl | cases this
theorem lett_of {c : Nat} (h : decide (97 ≤ c) = true) : lett c = decide (c ≤ 122) := by
  unfold lett
  rw [h]
  rfl
theorem lett_no {c : Nat} (h : decide (97 ≤ c) = false) : lett c = false := by
  unfold lett
  rw [h]
  rfl
theorem one_sign {z : Str} (h : (cs z).length = 1) : ∃ c, z = ⟨#[c]⟩ := by
  match hz : cs z, h with
  | [c], _ => exact ⟨c, str_ext (by rw [hz])⟩
theorem v_len_eq {z : Str} {n : Nat} : decide (V.int (z.length : Int) = V.int (n : Int)) = decide ((cs z).length = n) := by
  rw [cs_len]
  by_cases h : z.length = n
  · rw [decide_eq_true h, decide_eq_true (by rw [h])]
  · rw [decide_eq_false h, decide_eq_false (fun q => h (by have := V.int.inj q; omega))]
theorem v_len_eq1 {z : Str} : decide (V.int (z.length : Int) = V.int 1) = decide ((cs z).length = 1) := v_len_eq (n := 1)
theorem sign_one (c : Nat) : isSign (.str ⟨#[c]⟩) = lett c := by
  show (decide (([c] : List Nat).length = 1) && ([c] : List Nat).all lett) = lett c
  simp
/-! ### a comprehension whose element changes nothing -/
theorem wipe_set {σ : L2.St} {j : Nat} {v : V} : wipe ((wipe σ [j]).set j (some v)) [j] = wipe σ [j] := by
  show ((σ.set j none).set j (some v)).set j none = σ.set j none
  rw [List.set_set, List.set_set]
theorem lcp_str {z : Str} {te : TE} {j : Nat} {σ : L2.St} {H1 : Hp} {D : Addr} {Qd : Hp → Prop} (f : Nat → V) (hz : z.length ≤ sizeLine)
    (hs : ∀ (c : Nat) (acc : List V) (N : VK), c ∈ cs z → N (f c) (upd H1 D (.lst acc)) → te ((wipe σ [j]).set j (some (.str ⟨#[c]⟩))) (upd H1 D (.lst acc)) N) (hd : Qd (upd H1 D (.lst ((cs z).map f)))) :
    ∃ W : Nat → Nat → Hp → Prop, (∃ m, W 0 m (upd H1 D (.lst []))) ∧ ∀ i m H, W i m H →
      ((Its z).stop i H ∧ Qd H) ∨ ((Its z).go i H ∧ ∃ Nx : Hp → Prop, (∀ H', Nx H' → ∃ m', m' < m ∧ W (i + 1) m' H') ∧ ∀ x H', (Its z).yld i H x H' → gName j x (wipe σ [j]) H' fun σ2 H2 => wipe σ2 [j] = wipe σ [j] ∧ tYes σ2 H2 fun b H3 =>
        if b = true then te σ2 H3 fun y H4 => ∃ acc, H4 D = some (.lst acc) ∧ acc.length < sizeLine ∧ Nx (upd H4 D (.lst (acc ++ [y]))) else Nx H3) := by
  have hl := cs_len z
  refine ⟨fun i m H => m = (cs z).length - i ∧ i ≤ (cs z).length ∧ H = upd H1 D (.lst (((cs z).take i).map f)), ⟨_, rfl, Nat.zero_le _, rfl⟩, ?_⟩
  rintro i m H ⟨rfl, hi, rfl⟩
  by_cases hlt : i < (cs z).length
  · have hlt' : i < z.cps.size := by rw [hl] at hlt; exact hlt
    refine .inr ⟨hlt', fun H' => H' = upd H1 D (.lst (((cs z).take (i + 1)).map f)), fun H' e => ⟨(cs z).length - (i + 1), by omega, rfl, hlt, e⟩, ?_⟩
    rintro x H' ⟨rfl, c, hc, rfl⟩
    have hc' : (cs z)[i]? = some c := by simpa [cs] using hc
    refine ⟨wipe_set, hs c _ _ (List.mem_of_getElem? hc') ⟨_, upd_same, ?_, ?_⟩⟩
    · rw [List.length_map, List.length_take]
      omega
    · rw [upd_upd]
      have : (cs z).take (i + 1) = (cs z).take i ++ [c] := by
        rw [List.take_add_one, hc']
        rfl
      rw [this, List.map_append]
      rfl
  · have e : i = (cs z).length := by omega
    refine .inl ⟨by show z.cps.size ≤ i; rw [e, hl]; exact Nat.le_refl _, ?_⟩
    rw [e, List.take_length]
    exact hd

/-! ### the dice of the laws: a list of three ints -/
def Big (i : Int) : Prop := 0 ≤ i ∧ i.natAbs < 2 ^ 2200
/-- dice at l, good for n further rolls -/
def Dice (H : Hp) (l : Addr) (n : Nat) : Prop := ∃ d0 d1 d2 : Int, H l = some (.lst [.int d0, .int d1, .int d2]) ∧ Big d0 ∧ Big d1 ∧ 0 ≤ d2 ∧ d2 + n ≤ 2 ^ 62
/-- all but l is as it was -/
def Kp (l : Addr) (H H' : Hp) : Prop := ∀ b o, H b = some o → b ≠ l → H' b = some o
theorem Kp.refl (l : Addr) (H : Hp) : Kp l H H := fun _ _ e _ => e
theorem Kp.trans {l : Addr} {H H1 H2 : Hp} (a : Kp l H H1) (b : Kp l H1 H2) : Kp l H H2 := fun c o e n => b c o (a c o e n) n
theorem Kp.of {l : Addr} {H H' : Hp} (a : Same H H') : Kp l H H' := fun c o e _ => a c o e
theorem Kp.upd {l : Addr} {H : Hp} {o : HO} : Kp l H (upd H l o) := fun b u e n => by
  rw [upd_ne n]
  exact e
theorem Kp.new {l p : Addr} {H H' : Hp} {o : HO} (a : Kp l H H') (h : H' p = none) : Kp l H (L2.upd H' p o) := a.trans (.of (same_new h))
/-- what was not there ahead may change -/
theorem Kp.mut {l p : Addr} {H H' : Hp} {o : HO} (a : Kp l H H') (h : H p = none) : Kp l H (L2.upd H' p o) := fun b u e n => by
  rw [upd_ne (ne_of_none e h)]
  exact a b u e n
theorem Kp.seq {K : PySem.W.Frag} {l a : Addr} {H H' : Hp} {xs : List V} (k : Kp l H H') (n : a ≠ l) (h : SqL K H a xs) : SqL K H' a xs := by
  rcases h with (h | ⟨o, h⟩) | h
  · exact Or.inl (Or.inl (k _ _ h n))
  · exact Or.inl (Or.inr ⟨o, k _ _ h n⟩)
  · exact Or.inr h
theorem Kp.tup {K : PySem.W.Frag} {l a : Addr} {H H' : Hp} {xs : List V} (k : Kp l H H') (n : a ≠ l) (h : SqT K H a xs) : SqT K H' a xs := by
  rcases h with (h | ⟨o, h⟩) | h
  · exact Or.inl (Or.inl (k _ _ h n))
  · exact Or.inl (Or.inr ⟨o, k _ _ h n⟩)
  · exact Or.inr h
theorem Dice.ne {H : Hp} {l p : Addr} {n : Nat} (d : Dice H l n) (h : H p = none) : p ≠ l := by
  obtain ⟨_, _, _, e, _⟩ := d
  exact (ne_of_none e h).symm
theorem Dice.le {H : Hp} {l : Addr} {n m : Nat} (d : Dice H l n) (h : m ≤ n) : Dice H l m := by
  obtain ⟨d0, d1, d2, e, h0, h1, h2, h3⟩ := d
  exact ⟨d0, d1, d2, e, h0, h1, h2, by omega⟩
theorem Dice.same {H H' : Hp} {l : Addr} {n : Nat} (d : Dice H l n) (s : Same H H') : Dice H' l n := by
  obtain ⟨d0, d1, d2, e, r⟩ := d
  exact ⟨d0, d1, d2, s _ _ e, r⟩
theorem Dice.upd {H : Hp} {l p : Addr} {o : HO} {n : Nat} (d : Dice H l n) (h : p ≠ l) : Dice (L2.upd H p o) l n := by
  obtain ⟨d0, d1, d2, e, r⟩ := d
  exact ⟨d0, d1, d2, by rw [upd_ne h.symm]; exact e, r⟩
theorem big_mod {x : Int} {m : Int} (h : 0 < m) (hm : m.natAbs ≤ 2 ^ 2100) : 0 ≤ x % m ∧ (x % m).natAbs < 2 ^ 2100 := by
  have h1 := Int.emod_nonneg x (by omega : m ≠ 0)
  have h2 := Int.emod_lt_of_pos x h
  refine ⟨h1, ?_⟩
  generalize (2 ^ 2100 : Nat) = M at hm
  omega
theorem pow_mono2 : (2 : Nat) ^ 2100 * 4 + 2 ^ 2100 ≤ 2 ^ 2200 := by decide +kernel
theorem big_of {x : Int} (h0 : 0 ≤ x) (h : x.natAbs < 2 ^ 2100) : Big x := ⟨h0, by
  have := pow_mono2
  generalize (2 ^ 2100 : Nat) = M at *
  generalize (2 ^ 2200 : Nat) = N at *
  omega⟩
theorem big_zero : Big 0 := ⟨Int.le_refl _, by decide +kernel⟩
theorem one_small : (131071 * 64 + 5 : Nat) ≤ 2 ^ 2100 := by decide +kernel
theorem big_seed {x b s : Int} (h0 : 0 ≤ x) (h : x.natAbs < 2 ^ 2100) (hb : 0 ≤ b ∧ b ≤ 1) (hs : 0 ≤ s ∧ s ≤ 64) : Big (2 * x + b + 131071 * s + 3) := by
  have h1 := pow_mono2
  have h2 := one_small
  refine ⟨by omega, ?_⟩
  generalize (2 ^ 2100 : Nat) = M at *
  generalize (2 ^ 2200 : Nat) = N at *
  omega
theorem big_div {x u : Int} (h : Big x) (hu : 1 ≤ u) : Big (x / u) := by
  obtain ⟨h0, h1⟩ := h
  have a := Int.ediv_nonneg h0 (by omega : (0 : Int) ≤ u)
  have b : x / u ≤ x := Int.ediv_le_self u h0
  refine ⟨a, ?_⟩
  generalize (2 ^ 2200 : Nat) = N at *
  omega
/-- an expression with two ways, joined: an int under p on both -/
theorem tif_int {t : TT} {ta tb : TE} {σ : L2.St} {H : Hp} {Q : VK} {c : Bool} (p : Int → Prop) (ht : ∀ N : Bool → Hp → Prop, N c H → t σ H N)
    (ha : c = true → ∀ N : VK, (∀ i, p i → N (.int i) H) → ta σ H N) (hb : c = false → ∀ N : VK, (∀ i, p i → N (.int i) H) → tb σ H N) (hq : ∀ i, p i → Q (.int i) H) : tIf t ta tb σ H Q := by
  refine ht _ ?_
  exact itB (fun e => ha e _ hq) (fun e => hb e _ hq)
/-- _law_dice -/
def spDice (K : PySem.W.Frag) : Sp := fun vs H Q _ => ∃ (a : Addr) (ns : List Int) (s : Int), vs = [.ref a, .int s] ∧ SqL K H a (ns.map V.int) ∧ ns.length ≤ 63 ∧ 0 ≤ s ∧ s ≤ 64 ∧ ∀ l H', H l = none → Same H H' → Dice H' l (2 ^ 60) → Q (.ref l) H'
/-- _law_roll -/
def spRoll : Sp := fun vs H Q _ => ∃ (l : Addr) (u : Int) (n : Nat), vs = [.ref l, .int u] ∧ 1 ≤ u ∧ u ≤ 2 ^ 40 ∧ Dice H l (n + 1) ∧ ∀ r H', 0 ≤ r → r < u → Kp l H H' → Dice H' l n → Q (.int r) H'
/-- what the laws pick from: a list, a tuple, a text -/
inductive Seq (K : PySem.W.Frag) (H : Hp) (l : Addr) : V → List V → Prop
  | lst {a : Addr} {ys : List V} (n : a ≠ l) (h : SqL K H a ys) : Seq K H l (.ref a) ys
  | tup {a : Addr} {ys : List V} (n : a ≠ l) (h : SqT K H a ys) : Seq K H l (.ref a) ys
  | str {z : Str} {ys : List V} (h : z.length ≤ 1000) (e : ys = signsV z) : Seq K H l (.str z) ys
theorem Seq.kp {K : PySem.W.Frag} {H H' : Hp} {l : Addr} {x : V} {ys : List V} (s : Seq K H l x ys) (k : Kp l H H') : Seq K H' l x ys := by
  cases s with
  | lst n h => exact .lst n (k.seq n h)
  | tup n h => exact .tup n (k.tup n h)
  | str h e => exact .str h e
/-- _law_pick -/
def spPick (K : PySem.W.Frag) : Sp := fun vs H Q _ => ∃ (l : Addr) (x : V) (ys : List V) (n : Nat), vs = [.ref l, x] ∧ Seq K H l x ys ∧ ys ≠ [] ∧ ys.length ≤ 1000 ∧ Dice H l (n + 1) ∧ ∀ y H', y ∈ ys → Kp l H H' → Dice H' l n → Q y H'
theorem signsV_len (z : Str) : (signsV z).length = z.length := by
  unfold signsV
  rw [List.length_map, cs_len]

abbrev ch (c : Nat) : Str := ⟨#[c]⟩
abbrev chV (c : Nat) : V := .str (ch c)
def sOf (l : List Nat) : Str := ⟨l.toArray⟩
theorem cs_sOf (l : List Nat) : cs (sOf l) = l := by simp [sOf]
theorem sOf_cs (z : Str) : sOf (cs z) = z := str_ext (cs_sOf _)
theorem sOf_len (l : List Nat) : (sOf l).length = l.length := by rw [← cs_len, cs_sOf]
theorem signsV_eq (z : Str) : signsV z = (cs z).map chV := rfl
theorem joinL_one : ∀ l : List Nat, TL.joinL [] (l.map fun c => [c]) = l
  | [] => rfl
  | [a] => rfl
  | a :: b :: r => by
    show [a] ++ ([] ++ TL.joinL [] ((b :: r).map fun c => [c])) = a :: b :: r
    rw [joinL_one (b :: r)]
    rfl
theorem join_ch (l : List Nat) : Txt.join "" (l.map ch) = sOf l := by
  refine str_ext ?_
  rw [cs_sOf, TL.join_eq]
  have h := TL.tl_join "" (l.map ch)
  rw [List.map_map] at h
  exact h.trans (joinL_one l)
theorem sum_ch (l : List Nat) : ((l.map ch).map (·.length)).sum = l.length := by
  induction l with
  | nil => rfl
  | cons a r ih =>
    rw [List.map_cons, List.map_cons, List.sum_cons, ih]
    show 1 + r.length = r.length + 1
    omega
/-- _law_letters -/
def spLetters (K : PySem.W.Frag) : Sp := fun vs H Q _ => ∃ (l : Addr) (x : V) (cl : List Nat) (m n : Nat), vs = [.ref l, x, .int (m : Int)] ∧ Seq K H l x (cl.map chV) ∧ cl ≠ [] ∧ cl.length ≤ 1000 ∧ m ≤ 10000 ∧ Dice H l (n + m) ∧
  ∀ (zs : List Nat) H', zs.length = m → (∀ c ∈ zs, c ∈ cl) → Kp l H H' → Dice H' l n → Q (.str (sOf zs)) H'

/-! ### what repr shows -/
structure Shw (d : PyData) (k n : Nat) : Prop where
  s : d.showable = true
  h : d.hasDict = false
  dp : d.depth ≤ k
  len : d.shown.length ≤ n
theorem shw_bool (b : Bool) : Shw (.bool b) 0 5 := ⟨by simp [PyData.showable], by simp [PyData.hasDict], by simp [PyData.depth], by cases b <;> simp only [PyData.shown] <;> decide +kernel⟩
theorem shw_none : Shw .none 0 4 := ⟨by simp [PyData.showable], by simp [PyData.hasDict], by simp [PyData.depth], by simp only [PyData.shown]; decide +kernel⟩
theorem shw_int {i : Int} (h : i.natAbs.log2 < 1920) : Shw (.int i) 0 1921 := ⟨by simpa [PyData.showable] using h, by simp [PyData.hasDict], by simp [PyData.depth], by simp only [PyData.shown]; exact int_text_len_1921 h⟩
theorem Shw.le {d : PyData} {k n k' n' : Nat} (a : Shw d k n) (hk : k ≤ k') (hn : n ≤ n') : Shw d k' n' := ⟨a.s, a.h, Nat.le_trans a.dp hk, Nat.le_trans a.len hn⟩
theorem shownAll_map : ∀ ds : List PyData, PyData.shownAll ds = ds.map PyData.shown
  | [] => by simp [PyData.shownAll]
  | d :: r => by simp [PyData.shownAll, shownAll_map r]
theorem textFrom_le : ∀ (ts : List Str) (k : Nat) (acc : Str) (n : Nat), (∀ t ∈ ts, t.length ≤ n) → (textFrom k acc ts).length ≤ acc.length + ts.length * (n + 2)
  | [], k, acc, n, _ => by
    show acc.length ≤ acc.length + 0 * (n + 2)
    omega
  | t :: r, k, acc, n, h => by
    have h1 := textFrom_le r (k + 1) (acc ++ (if k > 0 then ", " else "" : String) ++ t) n fun x hx => h x (List.mem_cons_of_mem _ hx)
    have h2 := h t List.mem_cons_self
    rw [strLen_append, strLen_append] at h1
    have h3 : ((if k > 0 then ", " else "" : String) : Str).length ≤ 2 := by split <;> decide +kernel
    show (textFrom (k + 1) _ r).length ≤ acc.length + (r.length + 1) * (n + 2)
    rw [Nat.add_mul]
    omega
theorem shwAll {ds : List PyData} {k n : Nat} (h : ∀ d ∈ ds, Shw d k n) : PyData.showableAll ds = true ∧ PyData.hasDictAll ds = false ∧ PyData.depthAll ds ≤ k ∧ ∀ t ∈ PyData.shownAll ds, t.length ≤ n := by
  induction ds with
  | nil => exact ⟨by simp [PyData.showableAll], by simp [PyData.hasDictAll], by simp [PyData.depthAll], by simp [PyData.shownAll]⟩
  | cons d r ih =>
    obtain ⟨a1, a2, a3, a4⟩ := h d List.mem_cons_self
    obtain ⟨b1, b2, b3, b4⟩ := ih fun x hx => h x (List.mem_cons_of_mem _ hx)
    refine ⟨by simp [PyData.showableAll, a1, b1], by simp [PyData.hasDictAll, a2, b2], ?_, ?_⟩
    · simp only [PyData.depthAll]
      omega
    · intro t ht
      simp only [PyData.shownAll] at ht
      rcases List.mem_cons.mp ht with rfl | ht
      · exact a4
      · exact b4 t ht
theorem shw_list {ds : List PyData} {k n : Nat} (h : ∀ d ∈ ds, Shw d k n) : Shw (.list ds) (k + 1) (ds.length * (n + 2) + 2) := by
  obtain ⟨b1, b2, b3, b4⟩ := shwAll h
  refine ⟨by simpa [PyData.showable] using b1, by simpa [PyData.hasDict] using b2, by simp only [PyData.depth]; omega, ?_⟩
  simp only [PyData.shown]
  unfold listText
  rw [strLen_append]
  have h1 := textFrom_le _ 0 "[" n b4
  rw [shownAll_map, List.length_map] at h1
  rw [shownAll_map]
  have h2 : ((("[" : String) : Str)).length = 1 := by decide +kernel
  have h3 : ((("]" : String) : Str)).length = 1 := by decide +kernel
  omega
/-- a list of truths as data -/
def dBools (bs : List Bool) : PyData := .list (bs.map PyData.bool)
theorem shw_bools (bs : List Bool) : Shw (dBools bs) 1 (bs.length * 7 + 2) := by
  have h := shw_list (ds := bs.map PyData.bool) (k := 0) (n := 5) fun d hd => by
    obtain ⟨b, _, rfl⟩ := List.mem_map.mp hd
    exact shw_bool b
  rw [List.length_map] at h
  exact h
theorem dpAll_bools {K : PySem.W.Frag} {H : Hp} : ∀ bs : List Bool, DpAll K H (bs.map V.bl) (bs.map PyData.bool)
  | [] => .nil
  | b :: r => .cons (.bl b) (dpAll_bools r)
theorem dp_bools {K : PySem.W.Frag} {H : Hp} {a : Addr} {bs : List Bool} (h : SqL K H a (bs.map V.bl)) : Dp K H (.ref a) (dBools bs) := .lst h (dpAll_bools bs)
/-- repr(a list of truths), as rRepr asks -/
theorem repr_bools {K : PySem.W.Frag} {H : Hp} {a : Addr} {bs : List Bool} {Q : VK} (h : H a = some (.lst (bs.map V.bl))) (hn : bs.length ≤ 1000) (q : Q (.str (dBools bs).shown) H) : rRepr K [.ref a] H Q := by
  obtain ⟨s, hd, dp, len⟩ := shw_bools bs
  exact ⟨_, dBools bs, rfl, dp_bools (SqL.of h), s, hd, by omega, Nat.le_trans len (fits_sz (by omega)), q⟩
theorem mem_all {p : V → Bool} {ys : List V} {y : V} (h : ys.all p = true) (hy : y ∈ ys) : p y = true := List.all_eq_true.mp h y hy
def vIn (lo hi : Int) : V → Bool | .int i => decide (lo ≤ i) && decide (i ≤ hi) | _ => false
theorem vIn_of {lo hi : Int} {y : V} (h : vIn lo hi y = true) : ∃ i, y = .int i ∧ lo ≤ i ∧ i ≤ hi := by
  cases y with
  | int i =>
    have h' : (decide (lo ≤ i) && decide (i ≤ hi)) = true := h
    rw [Bool.and_eq_true] at h'
    exact ⟨i, rfl, of_decide_eq_true h'.1, of_decide_eq_true h'.2⟩
  | _ => cases h
theorem pick_int {lo hi : Int} {ys : List V} {y : V} (h : ys.all (vIn lo hi) = true) (hy : y ∈ ys) : ∃ i, y = .int i ∧ lo ≤ i ∧ i ≤ hi := vIn_of (mem_all h hy)
/-- a promise of a part of a law: it is right, c rolls are made -/
def spRight (c : Nat) : Sp := fun vs H Q _ => ∃ (l : Addr) (n : Nat), vs = [.ref l] ∧ Dice H l (n + c) ∧ ∀ H', Kp l H H' → Dice H' l n → Q (.bl true) H'
/-- is_integer: of any value, no size asked -/
def spIsI (K : PySem.W.Frag) (p : V → Bool) : Sp := fun vs H Q _ => ∃ x, vs = [x] ∧ Tyd K H x ∧ ∀ H', Same H H' → Q (.bl (p x)) H'
theorem Dice.new {H : Hp} {l p : Addr} {o : HO} {n : Nat} (d : Dice H l n) (h : H p = none) : Dice (L2.upd H p o) l n := d.upd (d.ne h)
/-- what a drawn odd value is: of a known kind, as long as it stands, and no integer -/
def OddI (K : PySem.W.Frag) (l : Addr) (H : Hp) (y : V) : Prop := (∀ H', Kp l H H' → Tyd K H' y) ∧ isInteger y = false
theorem isI_near {near r : Int} (h0 : 0 ≤ near + r) (s : Int) (hs : s = 1 ∨ s = -1) : isInteger (.int ((near + r) * s)) = decide (near + r < (10 : Int) ^ (60 : Int).toNat) := by
  show decide (((near + r) * s).natAbs < 10 ^ 60) = _
  have e : (10 : Int) ^ (60 : Int).toNat = ((10 ^ 60 : Nat) : Int) := by decide +kernel
  have e2 : ((near + r) * s).natAbs = (near + r).natAbs := by
    rcases hs with rfl | rfl
    · rw [Int.mul_one]
    · rw [Int.mul_neg, Int.mul_one, Int.natAbs_neg]
  rw [e, e2]
  generalize (10 ^ 60 : Nat) = m
  by_cases h : near + r < (m : Int)
  · rw [decide_eq_true h, decide_eq_true (by omega)]
  · rw [decide_eq_false h, decide_eq_false (by omega)]
theorem log_of {i : Int} (h : i.natAbs < 2 ^ 300) : i.natAbs.log2 < 1920 := Nat.lt_of_lt_of_le (PySem.Flt.log2_lt_of (by decide) h) (by decide)
theorem reprB (bs : List Bool) (hn : bs.length ≤ 1000) : (dBools bs).showable = true ∧ (dBools bs).hasDict = false ∧ (dBools bs).depth ≤ 60 ∧ (dBools bs).shown.length ≤ sizeLine := by
  obtain ⟨s, hd, dp, len⟩ := shw_bools bs
  exact ⟨s, hd, by omega, Nat.le_trans len (fits_sz (by omega))⟩
/-! ### texts made of pieces of texts -/
theorem isText_of {z : Str} (h1 : (cs z).length ≤ 8000) (h2 : ∀ c ∈ cs z, lett c = true) : isText (.str z) = true := by
  show (decide ((cs z).length ≤ 8000) && (cs z).all lett) = true
  rw [decide_eq_true h1, List.all_eq_true.mpr h2]
  rfl
theorem isPiece_of {z : Str} (h2 : ∀ c ∈ cs z, lett c = true) : isPiece (.str z) = (decide (1 ≤ (cs z).length) && decide ((cs z).length ≤ 5)) := by
  show (decide (1 ≤ (cs z).length) && decide ((cs z).length ≤ 5) && (cs z).all lett) = _
  rw [List.all_eq_true.mpr h2, Bool.and_true]
theorem isSign_of {z : Str} (h2 : ∀ c ∈ cs z, lett c = true) : isSign (.str z) = decide ((cs z).length = 1) := by
  show (decide ((cs z).length = 1) && (cs z).all lett) = _
  rw [List.all_eq_true.mpr h2, Bool.and_true]
theorem spoilt {z : Str} {c : Nat} (hc : c ∈ cs z) (h : lett c = false) : isText (.str z) = false ∧ isPiece (.str z) = false ∧ isSign (.str z) = false ∧ isWord (.str z) = false := by
  have e : (cs z).all lett = false := by
    cases q : (cs z).all lett with
    | false => rfl
    | true =>
      rw [List.all_eq_true.mp q c hc] at h
      cases h
  refine ⟨?_, ?_, ?_, ?_⟩
  · show (_ && (cs z).all lett) = false
    rw [e, Bool.and_false]
  · show (_ && (cs z).all lett) = false
    rw [e, Bool.and_false]
  · show (_ && (cs z).all lett) = false
    rw [e, Bool.and_false]
  · show (_ && (cs z).all lett) = false
    rw [e, Bool.and_false]
theorem cs_cut (z : Str) (lo hi : Option Int) : cs (cutS z lo hi) = ((cs z).drop (HT.sIx z.length 0 lo)).take (HT.sIx z.length z.length hi - HT.sIx z.length 0 lo) := by
  unfold cutS
  simp
theorem cut_sub {z : Str} {lo hi : Option Int} {c : Nat} (h : c ∈ cs (cutS z lo hi)) : c ∈ cs z := by
  rw [cs_cut] at h
  exact List.mem_of_mem_drop (List.mem_of_mem_take h)
theorem sIx_pos {n d : Nat} {i : Int} (h : 0 ≤ i) : HT.sIx n d (some i) = min i.toNat n := by
  show (if i < 0 then _ else _) = _
  rw [if_neg (by omega)]
theorem cut_len {z : Str} {a b : Int} (ha : 0 ≤ a) (hab : a ≤ b) (hb : b ≤ z.length) : (cs (cutS z (some a) (some b))).length = (b - a).toNat := by
  rw [cs_cut, sIx_pos ha, sIx_pos (by omega), List.length_take, List.length_drop, cs_len]
  omega
theorem cut_lenFrom {z : Str} {a : Int} (ha : 0 ≤ a) (hb : a ≤ z.length) : (cs (cutS z (some a) none)).length = z.length - a.toNat := by
  rw [cs_cut, sIx_pos ha, List.length_take, List.length_drop, cs_len]
  show min (z.length - _) _ = _
  omega
theorem cut_lenTo {z : Str} {b : Int} (h0 : 0 ≤ b) (hb : b ≤ z.length) : (cs (cutS z none (some b))).length = b.toNat := by
  rw [cs_cut, sIx_pos h0, List.length_take, List.length_drop, cs_len]
  show min (min b.toNat z.length - 0) (z.length - 0) = _
  omega
theorem str_app_len (x y : Str) : (x ++ y).length = x.length + y.length := strLen_append x y
/-- two ways joined, whatever the test and the ways do -/
theorem tif_join {t : TT} {ta tb : TE} {σ : L2.St} {H : Hp} {Q : VK} (P : Hp → Prop) (R : V → Hp → Prop) (ht : ∀ N : Bool → Hp → Prop, (∀ c H1, P H1 → N c H1) → t σ H N)
    (ha : ∀ H1, P H1 → ∀ N : VK, (∀ v H2, R v H2 → N v H2) → ta σ H1 N) (hb : ∀ H1, P H1 → ∀ N : VK, (∀ v H2, R v H2 → N v H2) → tb σ H1 N) (hq : ∀ v H2, R v H2 → Q v H2) : tIf t ta tb σ H Q :=
  ht _ fun c H1 p => itB (fun _ => ha H1 p _ hq) (fun _ => hb H1 p _ hq)
/-- a <= b <= c of known ints, as a value -/
theorem chain_le {ta tb tc : TE} {σ : L2.St} {H : Hp} {Q : VK} {a b c : Int} (ha : ∀ N : VK, N (.int a) H → ta σ H N) (hb : ∀ N : VK, N (.int b) H → tb σ H N) (hc : ∀ N : VK, N (.int c) H → tc σ H N)
    (q : Q (.bl (decide (a ≤ b) && decide (b ≤ c))) H) : tChain (rI0 fun i j => .bl (decide (i ≤ j))) (rI0 fun i j => .bl (decide (i ≤ j))) ta tb tc σ H Q := by
  refine ha _ (hb _ ⟨a, b, rfl, rfl, _, rfl, ?_⟩)
  refine itB (fun e => ?_) (fun e => ?_)
  · refine hc _ ⟨b, c, rfl, rfl, ?_⟩
    rw [e] at q
    exact q
  · rw [e] at q
    exact q
theorem odd_of {z : Str} {o : Nat} (h : (cs z).all (fun c => !lett c) = true) (ho : o ∈ z.cps.toList) : lett o = false := by
  have := List.all_eq_true.mp h o ho
  simpa using this
theorem v_int_eq {a b : Int} : decide (V.int a = V.int b) = decide (a = b) := by
  by_cases h : a = b
  · rw [decide_eq_true h, decide_eq_true (by rw [h])]
  · rw [decide_eq_false h, decide_eq_false (fun q => h (V.int.inj q))]
theorem sz_of' {z : Str} (h : z.length ≤ 100000) : szV (.str z) := h
theorem sign_no {z : Str} (h : (cs z).length ≠ 1) : isSign (.str z) = false := by
  show (decide ((cs z).length = 1) && (cs z).all lett) = false
  rw [decide_eq_false h]
  rfl
theorem piece_no {z : Str} (h : 5 < (cs z).length) : isPiece (.str z) = false := by
  show (decide (1 ≤ (cs z).length) && decide ((cs z).length ≤ 5) && (cs z).all lett) = false
  rw [decide_eq_false (by omega : ¬ (cs z).length ≤ 5), Bool.and_false]
  rfl
theorem ne_self {z : Str} : V.bl (!decide (V.str z = V.str z)) = V.bl false := by
  rw [decide_eq_true rfl]
  rfl
theorem is_self {z : Str} : V.bl (decide (V.str z = V.str z)) = V.bl true := by rw [decide_eq_true rfl]
theorem foldl_cat : ∀ (n : Nat) (a acc : Array Nat), ((List.replicate n a).foldl (· ++ ·) acc).toList = acc.toList ++ (List.replicate n a.toList).flatten
  | 0, a, acc => by simp
  | n + 1, a, acc => by
    rw [List.replicate_succ, List.foldl_cons, foldl_cat n a (acc ++ a), List.replicate_succ, List.flatten_cons]
    simp
theorem cs_rep (z : Str) (n : Nat) : cs (sRep z n) = (List.replicate n (cs z)).flatten := by
  have h := foldl_cat n z.cps #[]
  rw [show (#[] : Array Nat).toList = [] from rfl, List.nil_append] at h
  exact h
theorem rep_mem {z : Str} {n c : Nat} (h : c ∈ cs (sRep z n)) : c ∈ cs z := by
  rw [cs_rep] at h
  obtain ⟨l, hl, hc⟩ := List.mem_flatten.mp h
  rw [List.eq_of_mem_replicate hl] at hc
  exact hc
theorem sum_rep : ∀ n k : Nat, (List.replicate n k).sum = n * k
  | 0, k => by simp
  | n + 1, k => by
    rw [List.replicate_succ, List.sum_cons, sum_rep n k, Nat.add_mul]
    omega
theorem rep_len (z : Str) (n : Nat) : (sRep z n).length = n * z.length := by
  rw [← cs_len, cs_rep, List.length_flatten, List.map_replicate, sum_rep, cs_len]
theorem Kp.sameOf {l : Addr} {H H1 H2 : Hp} (s : Same H H1) (k : Kp l H1 H2) (h : H l = none) : Same H H2 := fun b o e => k b o (s b o e) (ne_of_none e h)
def spLaw (K : PySem.W.Frag) : Sp := fun vs H Q _ => ∃ (a : Addr) (ns : List Int), vs = [.ref a] ∧ SqL K H a (ns.map V.int) ∧ ns.length ≤ 63 ∧ ∀ H', Q (.bl true) H'
/-- how many cells are looked at -/
theorem cells_bound {n : Nat} {m : Int} (hm : 1 ≤ m) : 1 ≤ (if (if (n : Int) < m then (n : Int) else m) > 1 then (if (n : Int) < m then (n : Int) else m) else 1) ∧ (if (if (n : Int) < m then (n : Int) else m) > 1 then (if (n : Int) < m then (n : Int) else m) else 1) ≤ m := by
  split <;> split <;> omega
theorem small1000' {n : Nat} (h : n ≤ 100000) : n < sizeLine := Nat.lt_of_le_of_lt h (by decide)
/-- _law_some: drawn items of a row, each at most once -/
def spSome (K : PySem.W.Frag) : Sp := fun vs H Q _ => ∃ (l : Addr) (x : V) (ys : List V) (m n : Nat), vs = [.ref l, x, .int (m : Int)] ∧ Seq K H l x ys ∧ ys.length ≤ 1000 ∧ m ≤ 1000 ∧ Dice H l (n + m) ∧
  ∀ p zs rest H', H p = none → (zs ++ rest).Perm ys → zs.length = min m ys.length → H' p = some (.lst zs) → Kp l H H' → Dice H' l n → Q (.ref p) H'
theorem ix_pos {n : Nat} {r : Int} (h0 : 0 ≤ r) (h1 : r < n) : seqIndex? r n = some r.toNat := (ixN_seq (n := n) (i := r) (j := r.toNat) (by unfold ixN; rw [if_pos h0, if_pos h1])).1
theorem erase_perm {α : Type} : ∀ {l : List α} {k : Nat} {y : α}, l[k]? = some y → (y :: l.eraseIdx k).Perm l
  | [], k, y, h => by simp at h
  | a :: r, 0, y, h => by
    have e : a = y := by simpa using h
    subst e
    exact List.Perm.refl _
  | a :: r, k + 1, y, h => by
    have ih := erase_perm (l := r) (k := k) (y := y) (by simpa using h)
    show (y :: a :: r.eraseIdx k).Perm (a :: r)
    exact (List.Perm.swap a y _).trans (ih.cons a)
end G
namespace G
open PySem PySem.Spec PyProof.Rows L2
/-! ### comprehensions over anything that is walked, whose parts leave all that was tracked -/
section
variable {α : Type} {J : It} {G : Hp → Prop} {Y : Nat → Hp → V → Hp → Prop}
theorem take_fm {its : List α} {i : Nat} {a : α} {β : Type} (h : α → Option β) (e : its[i]? = some a) : (its.take (i + 1)).filterMap h = (its.take i).filterMap h ++ (h a).toList := by
  rw [List.take_add_one, e, List.filterMap_append]
  cases hh : h a <;> simp [hh]
theorem lcs (its : List α) (w : Walk J its.length G Y) (h : α → Option V) {g : TG} {tt : TT} {te : TE} {vs : List Nat} {σ : L2.St} {H1 : Hp} {D : Addr} {Qd : Hp → Prop} (hD : H1 D = none) (hz : its.length ≤ 1000000) (hG : ∀ H, Same H1 H → G H)
    (hs : ∀ i a x H H', its[i]? = some a → Same H1 H → Y i H x H' → ∀ (N : VK) (M : Hp → Prop), (∀ v H3, h a = some v → Same H H3 → N v H3) → (∀ H3, h a = none → Same H H3 → M H3) →
      g x (wipe σ vs) H' fun σ2 H2 => wipe σ2 vs = wipe σ vs ∧ tt σ2 H2 fun b H3 => if b = true then te σ2 H3 N else M H3)
    (hd : ∀ H, Same H1 H → H D = some (.lst (its.filterMap h)) → Qd H) :
    ∃ W : Nat → Nat → Hp → Prop, (∃ m, W 0 m (upd H1 D (.lst []))) ∧ ∀ i m H, W i m H →
      (J.stop i H ∧ Qd H) ∨ (J.go i H ∧ ∃ Nx : Hp → Prop, (∀ H', Nx H' → ∃ m', m' < m ∧ W (i + 1) m' H') ∧ ∀ x H', J.yld i H x H' → g x (wipe σ vs) H' fun σ2 H2 => wipe σ2 vs = wipe σ vs ∧ tt σ2 H2 fun b H3 =>
        if b = true then te σ2 H3 fun y H4 => ∃ acc, H4 D = some (.lst acc) ∧ acc.length < sizeLine ∧ Nx (upd H4 D (.lst (acc ++ [y]))) else Nx H3) := by
  refine lc_it w (fun i H => Same H1 H ∧ H D = some (.lst ((its.take i).filterMap h))) ⟨same_new hD, upd_same⟩ (fun i H _ p => hG H p.1) ?_ (fun H p => hd H p.1 (by rw [p.2, List.take_length]))
  rintro i x H H' hi ⟨s, e⟩ y
  obtain ⟨a, ha⟩ : ∃ a, its[i]? = some a := ⟨_, List.getElem?_eq_getElem hi⟩
  have short : ((its.take i).filterMap h).length < sizeLine := by
    have h1 := List.length_filterMap_le h (its.take i)
    rw [List.length_take] at h1
    exact Nat.lt_of_le_of_lt (by omega : _ ≤ 1000000) (by decide)
  refine hs i a x H H' ha s y _ _ (fun v H3 hv s3 => ⟨_, s3 _ _ e, short, fun b o q => ?_, ?_⟩) (fun H3 hv s3 => ⟨s.trans s3, ?_⟩)
  · rw [upd_ne (ne_of_none q hD)]
    exact s3 _ _ (s _ _ q)
  · rw [upd_same, take_fm h ha, hv]
    rfl
  · rw [s3 _ _ e, take_fm h ha, hv]
    show _ = some (HO.lst (_ ++ []))
    rw [List.append_nil]
end
/-- the pairs of a dict, each a new tuple -/
def YKV (kvs : List (Key × V)) : Nat → Hp → V → Hp → Prop := fun i H x H' => ∃ T k v, kvs[i]? = some (k, v) ∧ x = .ref T ∧ H T = none ∧ H' = upd H T (.tup [kV k, v])
theorem walk_kv {d : Addr} {o : Obj} {kvs : List (Key × V)} : Walk (Iti d o kvs) kvs.length (fun H => H d = some (.frz o (.dK kvs))) (YKV kvs) :=
  ⟨fun _ _ hi q => ⟨q, hi⟩, fun _ q => ⟨q, Nat.le_refl _⟩, fun _ _ _ _ _ _ y => y⟩
/-- the end of a body: an object that is not changed any more -/
def tFrz (t : TS) : TS := fun D σ H => t { D with nx := fun σ' H' => ∃ d u, H' d = some u ∧ Mut (some u) ∧ ∀ od, D.nx σ' (upd H' d (.frz od u)) } σ H
theorem pss_frz {X : Cx} {body : List Stmt} {t : TS} (h : PSs X body t) : PSs X body (tFrz t) := by
  refine ⟨fun pins s σ H D I hw => thn (h.run pins s σ H _ I hw) fun f s1 q => ?_⟩
  cases f with
  | next =>
    obtain ⟨σ', H', I1, d, u, hd, mu, k⟩ := q
    obtain ⟨od, I2⟩ := I1.lock hd mu
    exact ⟨σ', _, I2, k od⟩
  | brk => exact q
  | cont => exact q
  | ret v => exact q
/-! ### attributes by name -/
theorem lk_at {k : Str} {v : V} {r : List (Str × V)} : List.lookup k ((k, v) :: r) = some v := by
  have e : (k == k) = true := beq_self_eq_true k
  simp only [List.lookup, e]
theorem lk_by {k g : Str} {v : V} {r : List (Str × V)} (h : (k == g) = false) : List.lookup k ((g, v) :: r) = List.lookup k r := by
  simp only [List.lookup, h]
theorem pf_by {f g : Str} {v x : V} {r : List (Str × V)} (h : ¬ g = f) : putF f v ((g, x) :: r) = (g, x) :: putF f v r := if_neg h
/-! ### books -/
abbrev Ps := List (Str × Int)
def kvOf (ps : Ps) : List (Key × V) := ps.map fun p => (Sum.inr p.1, V.int p.2)
def lens (ps : Ps) : List Int := ps.map fun p => (p.1.length : Int)
def fees (ps : Ps) : List Int := ps.map (·.2)
def sgn (ps : Ps) : List Str := (ps.map (·.1)).filter fun z => decide (z.length = 1)
def IsMax (m : Int) (l : List Int) : Prop := m ∈ l ∧ ∀ y ∈ l, y ≤ m
def bookF (d tp ta : Addr) (L M : Int) : List (Str × V) := [("own_prices", .ref d), ("own_pieces", .ref tp), ("own_alphabet", .ref ta), ("own_longest", .int L), ("own_dearest", .int M)]
structure BookAt (C : Addr) (H : Hp) (b : Addr) (ps : Ps) (L M : Int) (dx d tp ta : Addr) (od : Obj) : Prop where
  ob : H b = some (.ins C dx (bookF d tp ta L M))
  dc : H d = some (.frz od (.dK (kvOf ps)))
  pi : H tp = some (.tup (ps.map fun p => V.str p.1))
  al : H ta = some (.tup ((sgn ps).map V.str))
  lo : IsMax L (lens ps)
  de : IsMax M (fees ps)
theorem BookAt.same {C : Addr} {H H' : Hp} {b : Addr} {ps : Ps} {L M : Int} {dx d tp ta : Addr} {od : Obj} (B : BookAt C H b ps L M dx d tp ta od) (s : Same H H') : BookAt C H' b ps L M dx d tp ta od :=
  ⟨s _ _ B.ob, s _ _ B.dc, s _ _ B.pi, s _ _ B.al, B.lo, B.de⟩
section
variable {d tp ta : Addr} {L M : Int}
theorem bf_prices : (bookF d tp ta L M).lookup ("own_prices" : Str) = some (.ref d) := lk_at
theorem bf_pieces : (bookF d tp ta L M).lookup ("own_pieces" : Str) = some (.ref tp) := (lk_by (by decide +kernel)).trans lk_at
theorem bf_alphabet : (bookF d tp ta L M).lookup ("own_alphabet" : Str) = some (.ref ta) := (lk_by (by decide +kernel)).trans ((lk_by (by decide +kernel)).trans lk_at)
theorem bf_longest : (bookF d tp ta L M).lookup ("own_longest" : Str) = some (.int L) := (lk_by (by decide +kernel)).trans ((lk_by (by decide +kernel)).trans ((lk_by (by decide +kernel)).trans lk_at))
theorem bf_dearest : (bookF d tp ta L M).lookup ("own_dearest" : Str) = some (.int M) := (lk_by (by decide +kernel)).trans ((lk_by (by decide +kernel)).trans ((lk_by (by decide +kernel)).trans ((lk_by (by decide +kernel)).trans lk_at)))
theorem bf_no {m : Str} (h1 : (m == ("own_prices" : Str)) = false) (h2 : (m == ("own_pieces" : Str)) = false) (h3 : (m == ("own_alphabet" : Str)) = false) (h4 : (m == ("own_longest" : Str)) = false) (h5 : (m == ("own_dearest" : Str)) = false) :
    (bookF d tp ta L M).lookup m = none := (lk_by h1).trans ((lk_by h2).trans ((lk_by h3).trans ((lk_by h4).trans ((lk_by h5).trans rfl))))
theorem bf_made : putF "own_dearest" (.int M) (putF "own_longest" (.int L) (putF "own_alphabet" (.ref ta) (putF "own_pieces" (.ref tp) (putF "own_prices" (.ref d) [])))) = bookF d tp ta L M := by
  show putF "own_dearest" (.int M) (putF "own_longest" (.int L) (putF "own_alphabet" (.ref ta) (putF "own_pieces" (.ref tp) [(("own_prices" : Str), .ref d)]))) = _
  rw [pf_by (by decide +kernel)]
  show putF "own_dearest" (.int M) (putF "own_longest" (.int L) (putF "own_alphabet" (.ref ta) [(("own_prices" : Str), .ref d), (("own_pieces" : Str), .ref tp)])) = _
  rw [pf_by (by decide +kernel), pf_by (by decide +kernel)]
  show putF "own_dearest" (.int M) (putF "own_longest" (.int L) [(("own_prices" : Str), .ref d), (("own_pieces" : Str), .ref tp), (("own_alphabet" : Str), .ref ta)]) = _
  rw [pf_by (by decide +kernel), pf_by (by decide +kernel), pf_by (by decide +kernel)]
  show putF "own_dearest" (.int M) [(("own_prices" : Str), .ref d), (("own_pieces" : Str), .ref tp), (("own_alphabet" : Str), .ref ta), (("own_longest" : Str), .int L)] = _
  rw [pf_by (by decide +kernel), pf_by (by decide +kernel), pf_by (by decide +kernel), pf_by (by decide +kernel)]
  rfl
end
/-! ### a def of the program as its callers use it (no word of guards) -/
structure HasO (P : Program) (w : World) (K : PySem.W.Frag) (mg : Str → Option Value) (base : Heap) (CX : CXT) (k : Nat) (x : Str) (ps : List Str) (sp : Sp) : Prop where
  ex : ∃ f fd, FnOk P w K mg base CX k f fd ps sp ∧ mg x = some (.ref f) ∧ PySem.W.keepIn K (.ref f) = true ∧ Binds K fd ps []
section
variable {P : Program} {w : World} {K : PySem.W.Frag} {mg : Str → Option Value} {base : Heap} {CX : CXT} {k : Nat} {x qual : Str} {ps : List Str} {sp : Sp}
theorem HasO.toG (F : HasO P w K mg base CX k x ps sp) : Has P w K mg base CX k x ps sp := by
  obtain ⟨f, fd, G, r⟩ := F.ex
  exact ⟨f, fd, .of G, r⟩
theorem HasO.mk' {f : Addr} {fd : FuncData} {st : Stmt} (F : Fun K x qual st f fd) (hm : mg x = some (.ref f)) (hb : Binds K fd ps []) (G : FnOk P w K mg base CX k f fd ps sp) : HasO P w K mg base CX k x ps sp := ⟨f, fd, G, hm, F.kp, hb⟩
end
section
variable {X : Cx} {CX : CXT} {k : Nat} {x : Str} {ps : List Str} {sp : Sp} {E : XK} {p pos : Pos} {e : Expr} {es : List Expr} {t : TA}
theorem pe_hasO (F : HasO X.prog X.w X.K X.mg X.base CX k x ps sp) (hr : Room k X.A) (hx : Passes CX X E) (ha : PA X (e :: es) t) (hl : Gl X x := by rfl)
    (hdb : (x == ("__debug__" : Str)) = false := by decide) (he : starEach (e :: es) X.env = (false, eval e X.env) :: starEach es X.env := by rfl) (hpl : (backTo pos (starEach es X.env)).any (·.1) = false := by rfl) :
    PE X (.Call (.Name x p) (e :: es) [] pos) (tCall sp [] E t) := by
  obtain ⟨f, fd, G, hm, hk, hb⟩ := F.ex
  exact pe_call G hr hl hm hk hb .nil hx ha hdb he hpl
end
/-! ### a dict that a walk locks -/
theorem unlock {H H' : Hp} {a : Addr} {u : HO} {od : Obj} (h : H a = some u) (s : Same (upd H a (.frz od u)) H') : Same H (upd H' a u) := fun b o e => by
  by_cases hb : b = a
  · rw [hb] at e ⊢
    rw [h] at e
    cases e
    exact upd_same
  · rw [upd_ne hb]
    exact s _ _ (by rw [upd_ne hb]; exact e)
theorem lock_ne {H : Hp} {a D : Addr} {o : HO} (h : upd H a o D = none) : D ≠ a := fun e => by
  rw [e, upd_same] at h
  cases h
theorem lock_free {H : Hp} {a D : Addr} {o : HO} (h : upd H a o D = none) : H D = none := by
  rw [upd_ne (lock_ne h)] at h
  exact h
/-- [elt for piece in a dict of texts for sign in piece], elt a value of the sign alone -/
theorem lc2_ks {kvs : List (Key × V)} {zs : List Str} {te : TE} {j1 j2 : Nat} {σ : L2.St} {H1 : Hp} {D d : Addr} {od : Obj} {Qd : Hp → Prop} (hk : kvs.map (·.1) = zs.map Sum.inr) (f : Nat → V) (hd0 : H1 d = some (.frz od (.dK kvs))) (hD : H1 D = none)
    (hz : ((zs.map cs).flatten).length ≤ 100000) (hw : ∀ v, wipe ((wipe σ [j1, j2]).set j1 (some v)) [j1, j2] = wipe σ [j1, j2])
    (hw1 : ∀ v u, wipe ((wipe ((wipe σ [j1, j2]).set j1 (some v)) [j2]).set j2 (some u)) [j2] = wipe ((wipe σ [j1, j2]).set j1 (some v)) [j2])
    (hv : ∀ v, ((wipe σ [j1, j2]).set j1 (some v))[j1]? = some (some v))
    (hs : ∀ z ∈ zs, ∀ c ∈ cs z, ∀ H, Same H1 H → ∀ N : VK, (∀ H', Same H H' → N (f c) H') → te ((wipe ((wipe σ [j1, j2]).set j1 (some (.str z))) [j2]).set j2 (some (chV c))) H N)
    (hd : ∀ H, Same H1 H → H D = some (.lst ((zs.map cs).flatten.map f)) → Qd H) :
    ∃ W : Nat → Nat → Hp → Prop, (∃ m, W 0 m (upd H1 D (.lst []))) ∧ ∀ i m H, W i m H →
      ((Itk d od kvs).stop i H ∧ Qd H) ∨ ((Itk d od kvs).go i H ∧ ∃ Nx : Hp → Prop, (∀ H', Nx H' → ∃ m', m' < m ∧ W (i + 1) m' H') ∧ ∀ x H', (Itk d od kvs).yld i H x H' → gName j1 x (wipe σ [j1, j2]) H' fun σ2 H2 => wipe σ2 [j1, j2] = wipe σ [j1, j2] ∧ tYes σ2 H2 fun b H3 =>
        if b = true then iStr (tVar j1) σ2 H3 fun J1 H4 => ∃ W1 : Nat → Nat → Hp → Prop, (∃ m, W1 0 m H4) ∧ ∀ j k H, W1 j k H →
          (J1.stop j H ∧ Nx H) ∨ (J1.go j H ∧ ∃ Nx1 : Hp → Prop, (∀ H', Nx1 H' → ∃ k', k' < k ∧ W1 (j + 1) k' H') ∧ ∀ x H', J1.yld j H x H' → gName j2 x (wipe σ2 [j2]) H' fun σ3 H5 => wipe σ3 [j2] = wipe σ2 [j2] ∧ tYes σ3 H5 fun b H6 =>
            if b = true then te σ3 H6 fun y H7 => ∃ acc, H7 D = some (.lst acc) ∧ acc.length < sizeLine ∧ Nx1 (upd H7 D (.lst (acc ++ [y]))) else Nx1 H6)
        else Nx H3) := by
  have len : kvs.length = zs.length := by
    have h := congrArg List.length hk
    rwa [List.length_map, List.length_map] at h
  have keep : ∀ {H : Hp} {o : HO}, Same H1 H → Same H1 (upd H D o) := fun s b o e => by
    rw [upd_ne (ne_of_none e hD)]
    exact s _ _ e
  have part : ∀ (i : Nat) (z : Str), zs[i]? = some z → ∀ j, ((((zs.take i).map cs).flatten.map f) ++ ((cs z).take j).map f).length ≤ 100000 := by
    intro i z hi j
    have e1 : zs = zs.take i ++ z :: zs.drop (i + 1) := by
      obtain ⟨hlt, hz'⟩ := List.getElem?_eq_some_iff.mp hi
      rw [← hz', List.getElem_cons_drop, List.take_append_drop]
    have e2 := hz
    rw [e1, List.map_append, List.flatten_append, List.map_cons, List.flatten_cons, List.length_append, List.length_append] at e2
    rw [List.length_append, List.length_map, List.length_map, List.length_take]
    omega
  refine ⟨fun i m H => m = kvs.length - i ∧ i ≤ kvs.length ∧ Same H1 H ∧ H D = some (.lst (((zs.take i).map cs).flatten.map f)), ⟨_, rfl, Nat.zero_le _, same_new hD, upd_same⟩, ?_⟩
  rintro i m H ⟨rfl, hi, s, e⟩
  have fz := s _ _ hd0
  by_cases hlt : i < kvs.length
  · refine .inr ⟨⟨fz, hlt⟩, fun H' => Same H1 H' ∧ H' D = some (.lst (((zs.take (i + 1)).map cs).flatten.map f)), fun H' q => ⟨kvs.length - (i + 1), by omega, rfl, hlt, q⟩, ?_⟩
    rintro x H' ⟨rfl, k, v, ek, rfl⟩
    obtain ⟨z, hz1⟩ : ∃ z, zs[i]? = some z := ⟨_, List.getElem?_eq_getElem (by omega)⟩
    have ez : k = Sum.inr z := by
      have h1 := congrArg (fun l => l[i]?) hk
      simp only [List.getElem?_map, ek, hz1] at h1
      exact Option.some.inj h1
    subst ez
    have hzm := List.mem_of_getElem? hz1
    refine ⟨hw _, _, hv _, z, rfl, fun j k' H' => k' = (cs z).length - j ∧ j ≤ (cs z).length ∧ Same H1 H' ∧ H' D = some (.lst ((((zs.take i).map cs).flatten.map f) ++ ((cs z).take j).map f)), ⟨_, rfl, Nat.zero_le _, s, by simpa using e⟩, ?_⟩
    rintro j k' H2 ⟨rfl, hj, s2, e2⟩
    have lz := cs_len z
    by_cases hjl : j < (cs z).length
    · refine .inr ⟨by show j < z.cps.size; rw [lz] at hjl; exact hjl, fun H' => Same H1 H' ∧ H' D = some (.lst ((((zs.take i).map cs).flatten.map f) ++ ((cs z).take (j + 1)).map f)), fun H' q => ⟨(cs z).length - (j + 1), by omega, rfl, hjl, q⟩, ?_⟩
      rintro x H3 ⟨rfl, c, hc, rfl⟩
      have hc' : (cs z)[j]? = some c := by simpa [cs] using hc
      refine ⟨hw1 _ _, hs z hzm c (List.mem_of_getElem? hc') _ s2 _ fun H4 s4 => ⟨_, s4 _ _ e2, Nat.lt_of_le_of_lt (part i z hz1 j) (by decide), keep (s2.trans s4), ?_⟩⟩
      rw [upd_same, List.append_assoc]
      congr 3
      have : (cs z).take (j + 1) = (cs z).take j ++ [c] := by
        rw [List.take_add_one, hc']
        rfl
      rw [this, List.map_append]
      rfl
    · have ej : j = (cs z).length := by omega
      subst ej
      refine .inl ⟨by show z.cps.size ≤ _; rw [lz]; exact Nat.le_refl _, s2, ?_⟩
      rw [List.take_length] at e2
      rw [e2]
      have : (zs.take (i + 1)).map cs = (zs.take i).map cs ++ [cs z] := by
        rw [List.take_add_one, hz1, List.map_append]
        rfl
      rw [this, List.flatten_append, List.map_append]
      simp
  · have ei : i = kvs.length := by omega
    subst ei
    refine .inl ⟨⟨fz, Nat.le_refl _⟩, hd H s ?_⟩
    rw [len, List.take_length] at e
    exact e
/-! ### the values of a dict, as a view -/
def vwV (d r : Addr) : HO := .ext fun h => h.IsValuesView r d
section
variable {X : Cx}
theorem mt_values : MtR X "dict.values" (fun x xs H Q => ∃ d kvs, x = .ref d ∧ xs = [] ∧ Rd H d (.dK kvs) ∧ ∀ r, H r = none → Q (.ref r) (upd H r (vwV d r))) := by
  intro pins s σ H x xs v us Q I rx rs h
  obtain ⟨d, kvs, rfl, rfl, hd, q⟩ := h
  cases rx
  cases rs
  obtain ⟨_, low, vs, _, hdo⟩ := dk_rd I.hok hd
  refine call_meetsIn PySem.F.slot_dict_values hdo.typeIs PySem.F.entry_dict_values (PySem.F.args_dict_values_1 _) (meets_dict_values (mixKind X.prog X.w) d low) ⟨⟨vs, hdo⟩, ?_⟩
  have view : (s.heap.push { cls := .type "dict_values", data := .fields #[.ref d] }).IsValuesView s.heap.objs.size d := ⟨_, Heap.get?_push_size _ rfl, rfl, rfl⟩
  refine ⟨.ref s.heap.objs.size, _, I.laid (o := vwV d s.heap.objs.size) (fun _ _ e => Heap.get?_push_of_some _ e) (Nat.le_refl _) ⟨view, ⟨_, Heap.get?_push_size _ rfl⟩, ?_⟩, rfl, q _ (I.hok.fresh (Nat.le_refl _))⟩
  rintro h1 h2 ⟨o, a, b, c⟩ k
  exact ⟨o, k o a, b, c⟩
theorem call_listVw (hc : X.calm = true) : CallR X (.type "list") (fun xs H Q => ∃ r d kvs, xs = [.ref r] ∧ H r = some (vwV d r) ∧ Rd H d (.dK kvs) ∧ ∀ p, H p = none → Q (.ref p) (upd H p (.lst (kvs.map (·.2))))) := by
  intro pins s σ H xs us Q I rs h
  obtain ⟨r, d, kvs, rfl, hr, hd, q⟩ := h
  obtain ⟨u, rfl, ru⟩ := vals1 rs
  cases ru
  obtain ⟨short, low, vs, rel, hdo⟩ := dk_rd I.hok hd
  obtain ⟨ep, at'⟩ := hdo.dictAt
  have view : s.heap.IsValuesView r d := (I.hok r _ hr).1
  have nl : kvs.length = vs.length := rel.length
  refine PySem.W.kdl_call (PySem.W.kdl_values (knd := mixKind X.prog X.w) (kvs := vs) (ep := ep)) (I.ok.hd hc) ⟨view, at'⟩ (by omega) ?_
  intro h' tk acc c' keeps new items
  have va : Vals (kvs.map (·.2)) acc.toList := vals_at _ _ (by rw [Array.length_toList, List.length_map, items.1, nl]) fun j w hw => by
    obtain ⟨k, hk⟩ := items.2 j w (by simpa using hw)
    obtain ⟨p, hp, rp⟩ : ∃ p, kvs[j]? = some p ∧ RelV p.2 w := by
      have jl : j < kvs.length := by
        have := (List.getElem?_eq_some_iff.mp hk).1
        omega
      refine ⟨kvs[j], List.getElem?_eq_getElem jl, ?_⟩
      obtain ⟨y, hy, ry⟩ := LiI.paired_get rel (List.getElem?_eq_getElem jl)
      rw [hk] at hy
      cases hy
      exact ry.2
    exact ⟨p.2, by rw [List.getElem?_map, hp]; rfl, rp⟩
  refine ⟨.ref s.heap.objs.size, _, I.laid (t' := tk) (o := .lst (kvs.map (·.2))) keeps (Nat.le_refl _) ⟨by rw [List.length_map]; exact short, acc.toList, c', va, by simpa using new⟩, rfl, q _ (I.hok.fresh (Nat.le_refl _))⟩
/-- len of a dict, locked or not -/
theorem call_lenF : CallR X (.builtin "len") (fun xs H Q => ∃ a kvs, xs = [V.ref a] ∧ Rd H a (.dK kvs) ∧ Q (.int (kvs.length : Int)) H) := by
  intro pins s σ H xs us Q I rs h
  obtain ⟨a, kvs, rfl, ha, q⟩ := h
  obtain ⟨u, rfl, ru⟩ := vals1 rs
  cases ru
  exact d_len I (by first | exact ha | exact Or.inl ha) fun t s' J => ⟨.int kvs.length, H, J, ⟨t, rfl⟩, q⟩
end
/-! ### what a dict of prices is -/
def inRange (x : V) (a b : Int) : Bool := match x with | .int i => decide (i.natAbs < 10 ^ 60) && (decide (a ≤ i) && decide (i ≤ b)) | _ => false
def isPrice (x : V) : Bool := inRange x 1 99
def keyStrs (kvs : List (Key × V)) : List Str := kvs.filterMap fun kv => match kv.1 with | .inr z => some z | .inl _ => none
def arePrices (kvs : List (Key × V)) : Bool :=
  (decide (1 ≤ (kvs.length : Int)) && decide ((kvs.length : Int) ≤ 12)) && (kvs.all fun kv => isPiece (kV kv.1) && isPrice kv.2) && decide (((keyStrs kvs).filter fun z => decide ((cs z).length = 1)).length ≤ 4) &&
    ((keyStrs kvs).map cs).flatten.all fun c => (valV kvs (Sum.inr (ch c))).isSome
/-- what was tracked is so still, or locked -/
def Sim (H H' : Hp) : Prop := ∀ b o, H b = some o → H' b = some o ∨ ∃ od, H' b = some (.frz od o)
theorem Sim.of {H H' : Hp} (s : Same H H') : Sim H H' := fun b o e => Or.inl (s b o e)
theorem Sim.lock {H : Hp} {a : Addr} {u : HO} {od : Obj} (h : H a = some u) : Sim H (upd H a (.frz od u)) := fun b o e => by
  by_cases hb : b = a
  · rw [hb] at e ⊢
    rw [h] at e
    cases e
    exact Or.inr ⟨od, upd_same⟩
  · exact Or.inl (by rw [upd_ne hb]; exact e)
theorem Sim.then {H H1 H2 : Hp} (a : Sim H H1) (s : Same H1 H2) : Sim H H2 := fun b o e => by
  rcases a b o e with h | ⟨od, h⟩
  · exact Or.inl (s _ _ h)
  · exact Or.inr ⟨od, s _ _ h⟩
theorem Sim.after {H H1 H2 : Hp} (s : Same H H1) (a : Sim H1 H2) : Sim H H2 := fun b o e => a b o (s b o e)
/-- of a known kind, as long as it stands, locked or not -/
def TydS (K : PySem.W.Frag) (H : Hp) (x : V) : Prop := ∀ H', Sim H H' → Tyd K H' x
section
variable {K : PySem.W.Frag} {H : Hp}
theorem TydS.now {x : V} (t : TydS K H x) : Tyd K H x := t H (.of (Same.refl H))
theorem TydS.same {H' : Hp} {x : V} (t : TydS K H x) (s : Same H H') : TydS K H' x := fun H2 z => t H2 (Sim.after s z)
theorem tydS_non : TydS K H .non := fun _ _ => tyd_non
theorem tydS_bl (b : Bool) : TydS K H (.bl b) := fun _ _ => tyd_bl b
theorem tydS_int (i : Int) : TydS K H (.int i) := fun _ _ => tyd_int i
theorem tydS_str (z : Str) : TydS K H (.str z) := fun _ _ => tyd_str z
theorem tydS_lst {a : Addr} {xs : List V} (h : H a = some (.lst xs)) : TydS K H (.ref a) := fun H' z => by
  rcases z a _ h with h | ⟨od, h⟩
  · exact tyd_lst h
  · exact tyd_of (a := false) (b := false) (c := false) (.base (.frz h)) (by decide +kernel) (by decide +kernel) (by decide +kernel) rfl rfl rfl
theorem tydS_tup {a : Addr} {xs : List V} (h : H a = some (.tup xs)) : TydS K H (.ref a) := fun H' z => by
  rcases z a _ h with h | ⟨od, h⟩
  · exact tyd_tup h
  · exact tyd_of (a := false) (b := false) (c := false) (.fTuple h) (by decide +kernel) (by decide +kernel) (by decide +kernel) rfl rfl rfl
theorem tydS_dK {a : Addr} {kvs : List (Key × V)} (h : H a = some (.dK kvs)) : TydS K H (.ref a) := fun H' z => by
  rcases z a _ h with h | ⟨od, h⟩
  · exact tyd_dK h
  · exact tyd_of (a := false) (b := false) (c := false) (.fDict h) (by decide +kernel) (by decide +kernel) (by decide +kernel) rfl rfl rfl
end
def KvOk (K : PySem.W.Frag) (H : Hp) (kvs : List (Key × V)) : Prop := ∀ kv ∈ kvs, szV (kV kv.1) ∧ TydS K H kv.2
theorem tyd_key {K : PySem.W.Frag} {H : Hp} (k : Key) : Tyd K H (kV k) := by
  cases k with
  | inl i => exact tyd_int i
  | inr z => exact tyd_str z
def spWithin (K : PySem.W.Frag) : Sp := fun vs H Q _ => ∃ x a b, vs = [x, .int a, .int b] ∧ Tyd K H x ∧ ∀ H', Same H H' → Q (.bl (inRange x a b)) H'
def spArePrices (K : PySem.W.Frag) : Sp := fun vs H Q _ => ∃ x, vs = [x] ∧
  ((∃ t, TyX K H x t ∧ PySem.W.kitOne K t (.type "dict") = some false ∧ ∀ H', Same H H' → Q (.bl false) H') ∨
   ∃ a kvs, x = .ref a ∧ H a = some (.dK kvs) ∧ kvs.length ≤ 1000 ∧ KvOk K H kvs ∧ ∀ H', Same H H' → Q (.bl (arePrices kvs)) H')
theorem piece_key {k : Key} (h : isPiece (kV k) = true) : ∃ z, k = Sum.inr z ∧ 1 ≤ (cs z).length ∧ (cs z).length ≤ 5 ∧ ∀ c ∈ cs z, lett c = true := by
  cases k with
  | inl i => cases h
  | inr z =>
    have h' : (decide (1 ≤ (cs z).length) && decide ((cs z).length ≤ 5) && (cs z).all lett) = true := h
    rw [Bool.and_eq_true, Bool.and_eq_true] at h'
    exact ⟨z, rfl, of_decide_eq_true h'.1.1, of_decide_eq_true h'.1.2, List.all_eq_true.mp h'.2⟩
theorem keys_of {kvs : List (Key × V)} (h : (kvs.all fun kv => isPiece (kV kv.1) && isPrice kv.2) = true) : kvs.map (·.1) = (keyStrs kvs).map Sum.inr := by
  induction kvs with
  | nil => rfl
  | cons a r ih =>
    rw [List.all_cons, Bool.and_eq_true, Bool.and_eq_true] at h
    obtain ⟨z, ez, _⟩ := piece_key h.1.1
    obtain ⟨k, v⟩ := a
    dsimp only at ez
    subst ez
    show Sum.inr z :: _ = Sum.inr z :: _
    rw [ih h.2]
    rfl
theorem keyStrs_piece {kvs : List (Key × V)} (h : (kvs.all fun kv => isPiece (kV kv.1) && isPrice kv.2) = true) : ∀ z ∈ keyStrs kvs, 1 ≤ (cs z).length ∧ (cs z).length ≤ 5 ∧ ∀ c ∈ cs z, lett c = true := by
  intro z hz
  obtain ⟨kv, hkv, e⟩ := List.mem_filterMap.mp hz
  have h1 := List.all_eq_true.mp h kv hkv
  rw [Bool.and_eq_true] at h1
  obtain ⟨y, ey, r⟩ := piece_key h1.1
  obtain ⟨k, v⟩ := kv
  dsimp only at ey e
  subst ey
  cases e
  exact r
theorem flat_len {zs : List Str} (h : ∀ z ∈ zs, (cs z).length ≤ 5) : ((zs.map cs).flatten).length ≤ 5 * zs.length := by
  induction zs with
  | nil => exact Nat.zero_le _
  | cons a r ih =>
    rw [List.map_cons, List.flatten_cons, List.length_append, List.length_cons]
    have h1 := h a List.mem_cons_self
    have h2 := ih fun z hz => h z (List.mem_cons_of_mem _ hz)
    omega
theorem singles : ∀ kvs : List (Key × V), (kvs.filterMap fun kv => match kv.1 with | .inr z => if decide ((cs z).length = 1) = true then some (V.str z) else none | .inl _ => none) = ((keyStrs kvs).filter fun z => decide ((cs z).length = 1)).map V.str
  | [] => rfl
  | (.inl i, v) :: r => singles r
  | (.inr z, v) :: r => by
    have ih := singles r
    have e : keyStrs ((Sum.inr z, v) :: r) = z :: keyStrs r := rfl
    rw [e, List.filter_cons, List.filterMap_cons]
    dsimp only
    cases h : decide ((cs z).length = 1) with
    | true =>
      rw [if_pos rfl, if_pos rfl, List.map_cons, ih]
    | false =>
      rw [if_neg Bool.false_ne_true, if_neg Bool.false_ne_true, ih]
/-! ### dict comprehensions; walks of lists and tuples told by a function -/
section
variable {α : Type} {J : It} {G : Hp → Prop} {Y : Nat → Hp → V → Hp → Prop}
theorem valV_none {κ : Type} [DecidableEq κ] {kvs : List (κ × V)} {k : κ} (h : k ∉ kvs.map (·.1)) : valV kvs k = none := by
  cases e : valV kvs k with
  | none => rfl
  | some v => exact absurd (valV_in e) h
theorem dcs (its : List α) (w : Walk J its.length G Y) (h : α → Key × V) (nd : (its.map fun a => (h a).1).Nodup) {g : TG} {tt : TT} {tk tv : TE} {vs : List Nat} {σ : L2.St} {H1 : Hp} {D : Addr} {Qd : Hp → Prop} (hD : H1 D = none) (hz : its.length ≤ 100000) (hG : ∀ H, Same H1 H → G H)
    (hs : ∀ i a x H H', its[i]? = some a → Same H1 H → Y i H x H' → ∀ (N : V → V → Hp → Prop) (M : Hp → Prop), (∀ H3, Same H H3 → N (kV (h a).1) (h a).2 H3) →
      g x (wipe σ vs) H' fun σ2 H2 => wipe σ2 vs = wipe σ vs ∧ tt σ2 H2 fun b H3 => if b = true then tk σ2 H3 fun y H4 => tv σ2 H4 fun z H5 => N y z H5 else M H3)
    (hd : ∀ H, Same H1 H → H D = some (.dK (its.map h)) → Qd H) :
    ∃ W : Nat → Nat → Hp → Prop, (∃ m, W 0 m (upd H1 D (.dK []))) ∧ ∀ i m H, W i m H →
      (J.stop i H ∧ Qd H) ∨ (J.go i H ∧ ∃ Nx : Hp → Prop, (∀ H', Nx H' → ∃ m', m' < m ∧ W (i + 1) m' H') ∧ ∀ x H', J.yld i H x H' → g x (wipe σ vs) H' fun σ2 H2 => wipe σ2 vs = wipe σ vs ∧ tt σ2 H2 fun b H3 =>
        if b = true then tk σ2 H3 fun y H4 => tv σ2 H4 fun z H5 => ∃ kvs k, y = kV k ∧ H5 D = some (.dK kvs) ∧ kvs.length < sizeLine ∧ Nx (upd H5 D (.dK (putK kvs k z))) else Nx H3) := by
  refine ⟨fun i m H => m = its.length - i ∧ i ≤ its.length ∧ Same H1 H ∧ H D = some (.dK ((its.take i).map h)), ⟨_, rfl, Nat.zero_le _, same_new hD, upd_same⟩, ?_⟩
  rintro i m H ⟨rfl, hi, s, e⟩
  by_cases hlt : i < its.length
  · obtain ⟨a, ha⟩ : ∃ a, its[i]? = some a := ⟨_, List.getElem?_eq_getElem hlt⟩
    refine .inr ⟨w.goes i H hlt (hG H s), fun H' => Same H1 H' ∧ H' D = some (.dK ((its.take (i + 1)).map h)), fun H' q => ⟨its.length - (i + 1), by omega, rfl, hlt, q⟩, ?_⟩
    intro x H' y
    refine hs i a x H H' ha s (w.yields i H x H' hlt (hG H s) y) _ _ fun H3 s3 => ⟨_, (h a).1, rfl, s3 _ _ e, ?_, fun b o q => ?_, ?_⟩
    · rw [List.length_map, List.length_take]
      exact Nat.lt_of_le_of_lt (by omega : _ ≤ 100000) (by decide)
    · rw [upd_ne (ne_of_none q hD)]
      exact s3 _ _ (s _ _ q)
    · have e1 : its.take (i + 1) = its.take i ++ [a] := by
        rw [List.take_add_one, ha]
        rfl
      have e2 : valV ((its.take i).map h) (h a).1 = none := valV_none fun m => by
        rw [List.map_map] at m
        have nd' : ((its.take (i + 1)).map fun a => (h a).1).Nodup := nd.sublist ((List.take_sublist _ _).map _)
        rw [e1, List.map_append] at nd'
        exact (List.nodup_append.mp nd').2.2 _ m _ (List.mem_singleton.mpr rfl) rfl
      rw [upd_same, putK_new _ e2, e1, List.map_append]
      rfl
  · have ei : i = its.length := by omega
    subst ei
    refine .inl ⟨w.stops H (hG H s), hd H s ?_⟩
    rw [e, List.take_length]
end
theorem walk_listF {β : Type} {K : PySem.W.Frag} {a : Addr} (f : β → V) (ys : List β) : Walk (Itl K a) ys.length (fun H => SqL K H a (ys.map f)) (fun i H x H' => H' = H ∧ ∃ b, ys[i]? = some b ∧ x = f b) := by
  have w := walk_list (K := K) (a := a) (xs := ys.map f)
  rw [List.length_map] at w
  refine w.mono (fun _ h => h) ?_
  rintro i H x H' hi _ ⟨rfl, hx⟩
  rw [List.getElem?_map] at hx
  cases e : ys[i]? with
  | none =>
    rw [e] at hx
    cases hx
  | some b =>
    rw [e] at hx
    exact ⟨rfl, b, rfl, (Option.some.inj hx).symm⟩
theorem walk_tupF {β : Type} {K : PySem.W.Frag} {a : Addr} (f : β → V) (ys : List β) : Walk (Itt K a) ys.length (fun H => SqT K H a (ys.map f)) (fun i H x H' => H' = H ∧ ∃ b, ys[i]? = some b ∧ x = f b) := by
  have w := walk_tup (K := K) (a := a) (xs := ys.map f)
  rw [List.length_map] at w
  refine w.mono (fun _ h => h) ?_
  rintro i H x H' hi _ ⟨rfl, hx⟩
  rw [List.getElem?_map] at hx
  cases e : ys[i]? with
  | none =>
    rw [e] at hx
    cases hx
  | some b =>
    rw [e] at hx
    exact ⟨rfl, b, rfl, (Option.some.inj hx).symm⟩
/-! ### a book is made -/
def priceIn (kvs : List (Key × V)) (z : Str) : Int := match valV kvs (Sum.inr z) with | some (.int p) => p | _ => 0
def psOf (kvs : List (Key × V)) (ys : List Str) : Ps := ys.map fun z => (z, priceIn kvs z)
theorem fm_some {α β : Type} (f : α → β) (l : List α) : l.filterMap (fun a => some (f a)) = l.map f := by
  rw [List.filterMap_eq_map']
theorem price_of_key {kvs : List (Key × V)} (h : (kvs.all fun kv => isPiece (kV kv.1) && isPrice kv.2) = true) {z : Str} (hz : z ∈ keyStrs kvs) : valV kvs (Sum.inr z) = some (.int (priceIn kvs z)) ∧ 1 ≤ priceIn kvs z ∧ priceIn kvs z ≤ 99 := by
  have hm : (Sum.inr z : Key) ∈ kvs.map (·.1) := by
    rw [keys_of h]
    exact List.mem_map.mpr ⟨z, hz, rfl⟩
  cases e : valV kvs (Sum.inr z : Key) with
  | none => exact absurd hm (valV_not e)
  | some v =>
    obtain ⟨kv, hkv, e1⟩ : ∃ kv ∈ kvs, kv.2 = v := by
      unfold valV at e
      cases e2 : kvs.find? (fun kv => decide (kv.1 = (Sum.inr z : Key))) with
      | none =>
        rw [e2] at e
        cases e
      | some kv =>
        rw [e2] at e
        exact ⟨kv, List.mem_of_find?_eq_some e2, Option.some.inj e⟩
    have h1 := List.all_eq_true.mp h kv hkv
    rw [Bool.and_eq_true] at h1
    have h2 := h1.2
    rw [e1] at h2
    cases v with
    | int p =>
      have h3 : (decide (p.natAbs < 10 ^ 60) && (decide (1 ≤ p) && decide (p ≤ 99))) = true := h2
      rw [Bool.and_eq_true, Bool.and_eq_true] at h3
      have e3 : priceIn kvs z = p := by
        unfold priceIn
        rw [e]
      rw [e3]
      exact ⟨rfl, of_decide_eq_true h3.2.1, of_decide_eq_true h3.2.2⟩
    | _ => cases h2
theorem ap_parts {kvs : List (Key × V)} (h : arePrices kvs = true) : (1 ≤ kvs.length ∧ kvs.length ≤ 12) ∧ (kvs.all fun kv => isPiece (kV kv.1) && isPrice kv.2) = true ∧ ((keyStrs kvs).filter fun z => decide ((cs z).length = 1)).length ≤ 4 ∧
    (((keyStrs kvs).map cs).flatten.all fun c => (valV kvs (Sum.inr (ch c))).isSome) = true := by
  unfold arePrices at h
  rw [Bool.and_eq_true, Bool.and_eq_true, Bool.and_eq_true, Bool.and_eq_true] at h
  obtain ⟨⟨⟨⟨a, b⟩, c⟩, d⟩, e⟩ := h
  have a' := of_decide_eq_true a
  have b' := of_decide_eq_true b
  exact ⟨⟨by omega, by omega⟩, c, of_decide_eq_true d, e⟩
theorem not_there {H H' : Hp} {a : Addr} (s : Same H H') (h : H' a = none) : H a = none := by
  cases e : H a with
  | none => rfl
  | some o =>
    rw [s _ _ e] at h
    cases h
theorem nd_of_map {α β : Type} {f : α → β} {l : List α} (h : (l.map f).Nodup) : l.Nodup := List.Pairwise.of_map f (fun _ _ n e => n (congrArg f e)) h
theorem nd_map {α β : Type} {f : α → β} (hf : ∀ a b, f a = f b → a = b) {l : List α} (h : l.Nodup) : (l.map f).Nodup := List.Pairwise.map f (fun a b n e => n (hf a b e)) h
section
variable {x y z u v : V}
theorem pf2 : putF "own_pieces" y [(("own_prices" : Str), x)] = [(("own_prices" : Str), x), ("own_pieces", y)] := by
  rw [pf_by (by decide +kernel)]
  rfl
theorem pf3 : putF "own_alphabet" z [(("own_prices" : Str), x), ("own_pieces", y)] = [(("own_prices" : Str), x), ("own_pieces", y), ("own_alphabet", z)] := by
  rw [pf_by (by decide +kernel), pf_by (by decide +kernel)]
  rfl
theorem pf4 : putF "own_longest" u [(("own_prices" : Str), x), ("own_pieces", y), ("own_alphabet", z)] = [(("own_prices" : Str), x), ("own_pieces", y), ("own_alphabet", z), ("own_longest", u)] := by
  rw [pf_by (by decide +kernel), pf_by (by decide +kernel), pf_by (by decide +kernel)]
  rfl
theorem pf5 : putF "own_dearest" v [(("own_prices" : Str), x), ("own_pieces", y), ("own_alphabet", z), ("own_longest", u)] = [(("own_prices" : Str), x), ("own_pieces", y), ("own_alphabet", z), ("own_longest", u), ("own_dearest", v)] := by
  rw [pf_by (by decide +kernel), pf_by (by decide +kernel), pf_by (by decide +kernel), pf_by (by decide +kernel)]
  rfl
end
theorem sgn_fm (kvs : List (Key × V)) (ys : List Str) : (ys.filterMap fun z => if decide ((cs z).length = 1) = true then some (V.str z) else none) = (sgn (psOf kvs ys)).map V.str := by
  induction ys with
  | nil => rfl
  | cons z r ih =>
    have e : sgn (psOf kvs (z :: r)) = if decide (z.length = 1) = true then z :: sgn (psOf kvs r) else sgn (psOf kvs r) := by
      unfold sgn psOf
      rw [List.map_cons, List.map_cons, List.filter_cons]
    rw [e, List.filterMap_cons, cs_len, ih]
    cases decide (z.length = 1) <;> rfl
theorem kv_keys (ps : Ps) : (kvOf ps).map (fun kv => kV kv.1) = ps.map fun p => V.str p.1 := by
  unfold kvOf
  rw [List.map_map]
  rfl
theorem kv_vals (ps : Ps) : (kvOf ps).map (·.2) = (fees ps).map V.int := by
  unfold kvOf fees
  rw [List.map_map, List.map_map]
  rfl
/-- Book.__init__ on a right dict -/
def spBook (C : Addr) (K : PySem.W.Frag) : Sp := fun vs H Q _ => ∃ (b dx a : Addr) (kvs : List (Key × V)), vs = [.ref b, .ref a] ∧ H b = some (.ins C dx []) ∧ H a = some (.dK kvs) ∧ KvOk K H kvs ∧ arePrices kvs = true ∧ (kvs.map (·.1)).Nodup ∧
  ∀ H' ys L M d tp ta od, ys.Perm (keyStrs kvs) → sortedS ys = true → BookAt C H' b (psOf kvs ys) L M dx d tp ta od → (∀ c o, H c = some o → c ≠ b → H' c = some o) → Q .non H'
end G
/-! Cheapest prices, in plain Lean: cuts by a tariff, the least fee. -/
namespace G
open PySem PySem.Spec PyProof.Rows L2
abbrev Tf := Str → Option Int
def Cut (F : Tf) (l : List Nat) (c : Ps) : Prop := (∀ p ∈ c, F p.1 = some p.2) ∧ (c.map fun p => cs p.1).flatten = l
def fee (c : Ps) : Int := (c.map (·.2)).sum
def Least (F : Tf) (l : List Nat) (m : Int) : Prop := (∃ c, Cut F l c ∧ fee c = m) ∧ ∀ c, Cut F l c → m ≤ fee c
def Over (F : Tf) (l : List Nat) : Prop := ∀ c ∈ l, ∃ p, F (ch c) = some p
structure Good (F : Tf) : Prop where
  pos : ∀ z p, F z = some p → 1 ≤ p ∧ p ≤ 99
  len : ∀ z p, F z = some p → 1 ≤ (cs z).length ∧ (cs z).length ≤ 5
  cov : ∀ z p, F z = some p → Over F (cs z)
open Classical in
noncomputable def lp (F : Tf) (l : List Nat) : Int := if h : ∃ m, Least F l m then h.choose else 0
section
variable {F F1 F2 : Tf} {l a b : List Nat} {m n : Int} {c d : Ps} {z : Str} {p : Int}
theorem Least.uniq (h : Least F l m) (k : Least F l n) : m = n := by
  obtain ⟨⟨c, hc, rfl⟩, hm⟩ := h
  obtain ⟨⟨d, hd, rfl⟩, hn⟩ := k
  have := hm d hd
  have := hn c hc
  omega
theorem lp_of (h : Least F l m) : lp F l = m := by
  have hx : ∃ m, Least F l m := ⟨m, h⟩
  unfold lp
  rw [dif_pos hx]
  exact hx.choose_spec.uniq h
theorem fee_app : fee (c ++ d) = fee c + fee d := by
  unfold fee
  rw [List.map_append, List.sum_append]
theorem Cut.app (h : Cut F a c) (k : Cut F b d) : Cut F (a ++ b) (c ++ d) := by
  refine ⟨fun p hp => ?_, ?_⟩
  · rcases List.mem_append.mp hp with q | q
    · exact h.1 p q
    · exact k.1 p q
  · rw [List.map_append, List.flatten_append, h.2, k.2]
theorem Cut.one (h : F z = some p) : Cut F (cs z) [(z, p)] := ⟨fun q hq => by rw [List.mem_singleton.mp hq]; exact h, by simp⟩
theorem Cut.nil : Cut F [] [] := ⟨fun _ h => (List.not_mem_nil h).elim, rfl⟩
theorem fee_one : fee [(z, p)] = p := by simp [fee]
theorem fee_nil : fee [] = 0 := rfl
theorem fee_cons {q : Str × Int} : fee (q :: c) = q.2 + fee c := rfl
theorem fee_pos (G : Good F) : ∀ c : Ps, (∀ p ∈ c, F p.1 = some p.2) → 0 ≤ fee c
  | [], _ => Int.le_refl _
  | q :: r, h => by
    have h1 := (G.pos _ _ (h q List.mem_cons_self)).1
    have h2 := fee_pos G r fun p hp => h p (List.mem_cons_of_mem _ hp)
    rw [fee_cons]
    omega
theorem cut_ex (o : Over F l) : ∃ c, Cut F l c := by
  induction l with
  | nil => exact ⟨[], Cut.nil⟩
  | cons x r ih =>
    obtain ⟨c, hc⟩ := ih fun y hy => o y (List.mem_cons_of_mem _ hy)
    obtain ⟨p, hp⟩ := o x List.mem_cons_self
    exact ⟨_, (Cut.one hp).app hc⟩
theorem least_ex (G : Good F) (o : Over F l) : ∃ m, Least F l m := by
  obtain ⟨c0, h0⟩ := cut_ex o
  have go : ∀ n : Nat, ∀ c, Cut F l c → (fee c).toNat = n → ∃ m, Least F l m := by
    intro n
    induction n using Nat.strongRecOn with
    | ind n ih =>
      intro c hc hn
      by_cases hx : ∃ d, Cut F l d ∧ fee d < fee c
      · obtain ⟨d, hd, lt⟩ := hx
        have := fee_pos G d hd.1
        exact ih (fee d).toNat (by omega) d hd rfl
      · refine ⟨fee c, ⟨c, hc, rfl⟩, fun d hd => ?_⟩
        by_cases q : fee c ≤ fee d
        · exact q
        · exact absurd ⟨d, hd, by omega⟩ hx
  exact go _ c0 h0 rfl
theorem lp_least (G : Good F) (o : Over F l) : Least F l (lp F l) := by
  obtain ⟨m, h⟩ := least_ex G o
  rw [lp_of h]
  exact h
theorem lp_nil (G : Good F) : lp F [] = 0 := lp_of ⟨⟨[], Cut.nil, rfl⟩, fun c hc => fee_pos G c hc.1⟩
theorem lp_le (G : Good F) (h : Cut F l c) (o : Over F l) : lp F l ≤ fee c := (lp_least G o).2 c h
theorem lp_cut (G : Good F) (o : Over F l) : ∃ c, Cut F l c ∧ fee c = lp F l := (lp_least G o).1
theorem Over.app (h : Over F a) (k : Over F b) : Over F (a ++ b) := fun c hc => by
  rcases List.mem_append.mp hc with q | q
  · exact h c q
  · exact k c q
theorem Over.left (h : Over F (a ++ b)) : Over F a := fun c hc => h c (List.mem_append_left _ hc)
theorem Over.right (h : Over F (a ++ b)) : Over F b := fun c hc => h c (List.mem_append_right _ hc)
theorem Over.take (h : Over F l) (i : Nat) : Over F (l.take i) := fun c hc => h c (List.mem_of_mem_take hc)
theorem Over.drop (h : Over F l) (i : Nat) : Over F (l.drop i) := fun c hc => h c (List.mem_of_mem_drop hc)
theorem lp_add (G : Good F) (ha : Over F a) (hb : Over F b) : lp F (a ++ b) ≤ lp F a + lp F b := by
  obtain ⟨c, hc, e1⟩ := lp_cut G ha
  obtain ⟨d, hd, e2⟩ := lp_cut G hb
  have := lp_le G (hc.app hd) (ha.app hb)
  rw [fee_app, e1, e2] at this
  exact this
theorem lp_piece (G : Good F) (h : F z = some p) : lp F (cs z) ≤ p := by
  have := lp_le G (Cut.one h) (G.cov z p h)
  rwa [fee_one] at this
theorem lp_app (G : Good F) (ha : Over F a) (h : F z = some p) : lp F (a ++ cs z) ≤ lp F a + p := by
  have h1 := lp_add G ha (G.cov z p h)
  have h2 := lp_piece G h
  omega
/-- the last piece of a cheapest cut -/
theorem lp_last (G : Good F) (o : Over F l) (ne : l ≠ []) : ∃ z p a, F z = some p ∧ l = a ++ cs z ∧ lp F l = lp F a + p := by
  obtain ⟨c, hc, e⟩ := lp_cut G o
  have nc : c ≠ [] := fun q => ne (by rw [← hc.2, q]; rfl)
  obtain ⟨d, q, rfl⟩ : ∃ d q, c = d ++ [q] := ⟨c.dropLast, c.getLast nc, (List.dropLast_concat_getLast nc).symm⟩
  have hq := hc.1 q (List.mem_append_right _ (List.mem_singleton.mpr rfl))
  have hl : l = (d.map fun p => cs p.1).flatten ++ cs q.1 := by
    rw [← hc.2, List.map_append, List.flatten_append]
    simp
  have hd : Cut F (d.map fun p => cs p.1).flatten d := ⟨fun p hp => hc.1 p (List.mem_append_left _ hp), rfl⟩
  have oa : Over F (d.map fun p => cs p.1).flatten := by
    rw [hl] at o
    exact o.left
  refine ⟨q.1, q.2, _, hq, hl, ?_⟩
  have h1 := lp_le G hd oa
  have h2 := lp_app G oa hq
  rw [← hl] at h2
  rw [fee_app] at e
  have h3 : fee [q] = q.2 := fee_one (z := q.1)
  rw [h3] at e
  omega
/-- one step of the row of cheapest prices -/
theorem lp_step (G : Good F) (o : Over F l) (ne : l ≠ []) {ys : List Int} (hin : ∀ y ∈ ys, ∃ z p a, F z = some p ∧ l = a ++ cs z ∧ y = lp F a + p)
    (hall : ∀ z p a, F z = some p → l = a ++ cs z → lp F a + p ∈ ys) (hm : m ∈ ys) (hl : ∀ y ∈ ys, m ≤ y) : m = lp F l := by
  obtain ⟨z, p, a, h1, h2, h3⟩ := lp_last G o ne
  have h4 := hl _ (hall z p a h1 h2)
  obtain ⟨z', p', a', h5, h6, h7⟩ := hin m hm
  have h8 := lp_app G (a := a') (by rw [h6] at o; exact o.left) h5
  rw [← h6] at h8
  omega
/-- dearer on no piece, dearer on no text -/
theorem lp_mono (G1 : Good F1) (G2 : Good F2) (h : ∀ z p, F2 z = some p → Over F1 (cs z) ∧ lp F1 (cs z) ≤ p) (o1 : Over F1 l) (o2 : Over F2 l) : lp F1 l ≤ lp F2 l := by
  obtain ⟨c, hc, e⟩ := lp_cut G2 o2
  rw [← e]
  have go : ∀ (c : Ps) (l : List Nat), Cut F2 l c → Over F1 l → lp F1 l ≤ fee c := by
    intro c
    induction c with
    | nil =>
      intro l hc _
      rw [← hc.2]
      exact Int.le_of_eq (lp_nil G1)
    | cons q r ih =>
      intro l hc ol
      have hl : l = cs q.1 ++ (r.map fun p => cs p.1).flatten := hc.2.symm
      rw [hl] at ol ⊢
      obtain ⟨h1, h2⟩ := h _ _ (hc.1 q List.mem_cons_self)
      have h3 := ih _ ⟨fun p hp => hc.1 p (List.mem_cons_of_mem _ hp), rfl⟩ ol.right
      have h4 := lp_add G1 ol.left ol.right
      rw [fee_cons]
      omega
  exact go c l hc o1
end
/-- the tariff of a dict -/
def tfD (kvs : List (Key × V)) : Tf := fun z => match valV kvs (Sum.inr z) with | some (.int p) => some p | _ => none
theorem tf_some {kvs : List (Key × V)} {z : Str} {p : Int} : tfD kvs z = some p ↔ valV kvs (Sum.inr z) = some (.int p) := by
  unfold tfD
  constructor
  · intro h
    split at h
    · rename_i q e
      rw [e, Option.some.inj h]
    · cases h
  · intro h
    rw [h]
theorem ks_mem {kvs : List (Key × V)} {z : Str} : z ∈ keyStrs kvs ↔ (Sum.inr z : Key) ∈ kvs.map (·.1) := by
  unfold keyStrs
  rw [List.mem_filterMap, List.mem_map]
  constructor
  · rintro ⟨⟨k, v⟩, h1, h2⟩
    cases k with
    | inl i => cases h2
    | inr y =>
      cases h2
      exact ⟨_, h1, rfl⟩
  · rintro ⟨⟨k, v⟩, h1, h2⟩
    dsimp only at h2
    subst h2
    exact ⟨_, h1, rfl⟩
theorem good_of {kvs : List (Key × V)} (av : arePrices kvs = true) : Good (tfD kvs) := by
  obtain ⟨_, al, _, fs⟩ := ap_parts av
  have key : ∀ {z p}, tfD kvs z = some p → z ∈ keyStrs kvs := fun h => ks_mem.mpr (valV_in (tf_some.mp h))
  refine ⟨fun z p h => ?_, fun z p h => ?_, fun z p h c hc => ?_⟩
  · obtain ⟨h1, h2, h3⟩ := price_of_key al (key h)
    rw [tf_some.mp h] at h1
    have : p = priceIn kvs z := V.int.inj (Option.some.inj h1)
    rw [this]
    exact ⟨h2, h3⟩
  · obtain ⟨h1, h2, _⟩ := keyStrs_piece al z (key h)
    exact ⟨h1, h2⟩
  · have h1 := List.all_eq_true.mp fs c (List.mem_flatten.mpr ⟨cs z, List.mem_map.mpr ⟨z, key h, rfl⟩, hc⟩)
    have h2 : (Sum.inr (ch c) : Key) ∈ kvs.map (·.1) := by
      cases e : valV kvs (Sum.inr (ch c)) with
      | none =>
        rw [e] at h1
        cases h1
      | some v => exact valV_in e
    exact ⟨_, tf_some.mpr (price_of_key al (ks_mem.mpr h2)).1⟩

theorem valV_mem {kvs : List (Key × V)} {k : Key} {v : V} (h : valV kvs k = some v) : (k, v) ∈ kvs := by
  unfold valV at h
  cases e : kvs.find? (fun kv => decide (kv.1 = k)) with
  | none =>
    rw [e] at h
    cases h
  | some kv =>
    rw [e] at h
    have h1 : kv.2 = v := Option.some.inj h
    have h2 : kv.1 = k := by simpa using List.find?_some e
    have h3 := List.mem_of_find?_eq_some e
    rw [← h1, ← h2]
    exact h3
/-- a dict of texts and prices -/
structure Tar (kvs : List (Key × V)) : Prop where
  good : Good (tfD kvs)
  mem : ∀ kv ∈ kvs, ∃ z p, kv = (Sum.inr z, V.int p) ∧ tfD kvs z = some p
  len : kvs.length ≤ 1000
theorem tar_of {kvs : List (Key × V)} (av : arePrices kvs = true) (nd : (kvs.map (·.1)).Nodup) : Tar kvs := by
  obtain ⟨⟨n1, n2⟩, al, _, fs⟩ := ap_parts av
  refine ⟨good_of av, fun kv hkv => ?_, by omega⟩
  have h1 := List.all_eq_true.mp al kv hkv
  rw [Bool.and_eq_true] at h1
  obtain ⟨z, ez, _⟩ := piece_key h1.1
  have h3 := val_nodup nd kv hkv
  rw [ez] at h3
  have hz : z ∈ keyStrs kvs := ks_mem.mpr (List.mem_map.mpr ⟨kv, hkv, ez⟩)
  obtain ⟨h4, _⟩ := price_of_key al hz
  rw [h4] at h3
  refine ⟨z, priceIn kvs z, ?_, tf_some.mpr h4⟩
  rw [Option.some.inj h3, ← ez]
theorem val_fun {g : Str → Int} : ∀ {ys : List Str} {z : Str}, valV (ys.map fun y => ((Sum.inr y : Key), V.int (g y))) (Sum.inr z) = if z ∈ ys then some (.int (g z)) else none
  | [], z => by
    rw [if_neg (List.not_mem_nil)]
    rfl
  | y :: r, z => by
    by_cases h : y = z
    · subst h
      rw [if_pos List.mem_cons_self, List.map_cons, valV_pos rfl]
    · rw [List.map_cons, valV_neg (fun e => h (Sum.inr.inj e)), val_fun]
      by_cases q : z ∈ r
      · rw [if_pos q, if_pos (List.mem_cons_of_mem _ q)]
      · rw [if_neg q, if_neg fun m => ?_]
        rcases List.mem_cons.mp m with e | e
        · exact h e.symm
        · exact q e
theorem kvOf_ps {kvs : List (Key × V)} {ys : List Str} : kvOf (psOf kvs ys) = ys.map fun y => ((Sum.inr y : Key), V.int (priceIn kvs y)) := by
  unfold kvOf psOf
  rw [List.map_map]
  rfl
theorem tf_psOf {kvs : List (Key × V)} {ys : List Str} (al : (kvs.all fun kv => isPiece (kV kv.1) && isPrice kv.2) = true) (pm : ys.Perm (keyStrs kvs)) : tfD (kvOf (psOf kvs ys)) = tfD kvs := by
  funext z
  unfold tfD
  rw [kvOf_ps, val_fun]
  by_cases h : z ∈ ys
  · rw [if_pos h, (price_of_key al (pm.mem_iff.mp h)).1]
  · rw [if_neg h, valV_none fun m => h (pm.mem_iff.mpr (ks_mem.mpr m))]
theorem tar_book {kvs : List (Key × V)} {ys : List Str} (av : arePrices kvs = true) (pm : ys.Perm (keyStrs kvs)) : Tar (kvOf (psOf kvs ys)) := by
  obtain ⟨⟨n1, n2⟩, al, _, fs⟩ := ap_parts av
  have e := tf_psOf al pm
  refine ⟨by rw [e]; exact good_of av, fun kv hkv => ?_, ?_⟩
  · rw [kvOf_ps] at hkv
    obtain ⟨y, hy, rfl⟩ := List.mem_map.mp hkv
    refine ⟨y, _, rfl, ?_⟩
    rw [e]
    exact tf_some.mpr (price_of_key al (pm.mem_iff.mp hy)).1
  · have h := congrArg List.length (keys_of al)
    rw [List.length_map, List.length_map] at h
    rw [kvOf_ps, List.length_map, pm.length_eq]
    omega
/-- a book as Book(prices) made it -/
structure Book1 (C : Addr) (H : Hp) (b : Addr) (kvs : List (Key × V)) : Prop where
  av : arePrices kvs = true
  nd : (kvs.map (·.1)).Nodup
  ex : ∃ ys L M dx d tp ta od, ys.Perm (keyStrs kvs) ∧ sortedS ys = true ∧ BookAt C H b (psOf kvs ys) L M dx d tp ta od
theorem Book1.same {C : Addr} {H H' : Hp} {b : Addr} {kvs : List (Key × V)} (B : Book1 C H b kvs) (s : Same H H') : Book1 C H' b kvs := by
  obtain ⟨ys, L, M, dx, d, tp, ta, od, h1, h2, h3⟩ := B.ex
  exact ⟨B.av, B.nd, ys, L, M, dx, d, tp, ta, od, h1, h2, h3.same s⟩
theorem kvOk_of {K : PySem.W.Frag} {H : Hp} {kvs : List (Key × V)} (al : (kvs.all fun kv => isPiece (kV kv.1) && isPrice kv.2) = true) : KvOk K H kvs := by
  intro kv hkv
  have h1 := List.all_eq_true.mp al kv hkv
  rw [Bool.and_eq_true] at h1
  obtain ⟨z, ez, _, h2, _⟩ := piece_key h1.1
  constructor
  · rw [ez]
    show z.length ≤ 100000
    rw [← cs_len]
    omega
  · have h3 := h1.2
    generalize kv.2 = v at h3
    cases v with
    | int p => exact tydS_int p
    | _ => cases h3
/-- Book(prices), as pe_mk asks -/
theorem made_book {C a x dx : Addr} {K : PySem.W.Frag} {H : Hp} {kvs : List (Key × V)} {Q : VK} {E : XK} (hx : H x = none) (hdx : H dx = none) (ha : H a = some (.dK kvs)) (av : arePrices kvs = true) (nd : (kvs.map (·.1)).Nodup) (q : ∀ H', Same H H' → Book1 C H' x kvs → Q .non H') :
    spBook C K (.ref x :: ([.ref a] ++ [])) (upd (upd H dx (.own x)) x (.ins C dx [])) Q E := by
  refine ⟨x, dx, a, kvs, rfl, upd_same, ?_, kvOk_of (ap_parts av).2.1, av, nd, ?_⟩
  · rw [upd_ne (ne_of_none ha hx), upd_ne (ne_of_none ha hdx)]
    exact ha
  · intro H' ys L M d tp ta od pm so B k
    refine q H' (fun c o e => k c o ?_ (ne_of_none e hx)) ⟨av, nd, ys, L, M, dx, d, tp, ta, od, pm, so, B⟩
    rw [upd_ne (ne_of_none e hx), upd_ne (ne_of_none e hdx)]
    exact e
/-! ### ends of texts -/
theorem ends_iff {x y : Str} : Txt.endswith x y = true ↔ ∃ a, cs x = a ++ cs y := by
  have l1 := cs_len x
  have l2 := cs_len y
  unfold Txt.endswith
  rw [StrLaws.subAt_eq, Nat.zero_add, Bool.and_eq_true, decide_eq_true_eq, beq_iff_eq]
  constructor
  · rintro ⟨h1, h2⟩
    refine ⟨(cs x).take (x.length - y.length), ?_⟩
    have h3 : ((cs x).drop (x.length - y.length)).take y.length = (cs x).drop (x.length - y.length) := List.take_of_length_le (by rw [List.length_drop]; omega)
    have h4 : (cs x).drop (x.length - y.length) = cs y := h3.symm.trans h2
    rw [← h4, List.take_append_drop]
  · rintro ⟨a, h⟩
    have h0 := congrArg List.length h
    rw [List.length_append] at h0
    refine ⟨by omega, ?_⟩
    show ((cs x).drop (x.length - y.length)).take y.length = cs y
    have e : x.length - y.length = a.length := by omega
    rw [h, e, List.drop_left, List.take_of_length_le (by omega)]
/-! ### rows of cheapest prices -/
noncomputable def rowV (F : Tf) (l : List Nat) (n : Nat) : List V := (List.range n).map fun j => V.int (lp F (l.take j))
theorem rowV_len {F : Tf} {l : List Nat} {n : Nat} : (rowV F l n).length = n := by
  unfold rowV
  rw [List.length_map, List.length_range]
theorem rowV_at {F : Tf} {l : List Nat} {n j : Nat} (h : j < n) : (rowV F l n)[j]? = some (.int (lp F (l.take j))) := by
  unfold rowV
  rw [List.getElem?_map, List.getElem?_range h]
  rfl
theorem rowV_succ {F : Tf} {l : List Nat} {n : Nat} : rowV F l (n + 1) = rowV F l n ++ [.int (lp F (l.take n))] := by
  unfold rowV
  rw [List.range_succ, List.map_append]
  rfl
theorem rowV_one {F : Tf} {l : List Nat} (G : Good F) : rowV F l 1 = [.int 0] := by
  show [V.int (lp F (l.take 0))] = _
  rw [List.take_zero, lp_nil G]
theorem atI_last {α : Type} {xs : List α} {v : α} : atI (xs ++ [v]) (-1) = some v := by
  have e : ixN (xs ++ [v]).length (-1) = some xs.length := by
    rw [List.length_append, List.length_singleton]
    unfold ixN
    rw [if_neg (by omega), if_pos (by omega)]
    congr 1
    omega
  unfold atI
  rw [e]
  show (xs ++ [v])[xs.length]? = some v
  simp
noncomputable def candG (F : Tf) (l : List Nat) (e : Nat) (st : Str) : Key × V → Option Int := fun kv => match kv with
  | (.inr y, .int p) => if Txt.endswith st y = true then some (lp F (l.take (e - y.length)) + p) else none
  | _ => none
theorem cand_min {kvs : List (Key × V)} {l : List Nat} {e : Nat} {st : Str} (T : Tar kvs) (ov : Over (tfD kvs) l) (hst : cs st = l.take e) (he : 1 ≤ e) (hel : e ≤ l.length) :
    0 < (kvs.filterMap (candG (tfD kvs) l e st)).length ∧ ∀ m ∈ kvs.filterMap (candG (tfD kvs) l e st), (∀ y ∈ kvs.filterMap (candG (tfD kvs) l e st), m ≤ y) → m = lp (tfD kvs) (l.take e) := by
  have le : (l.take e).length = e := by
    rw [List.length_take]
    omega
  have ne : l.take e ≠ [] := fun q => by
    rw [q] at le
    simp at le
    omega
  have ove : Over (tfD kvs) (l.take e) := ov.take e
  have part : ∀ {a : List Nat} {y : Str}, l.take e = a ++ cs y → a = l.take (e - y.length) := by
    intro a y h
    have h1 := congrArg List.length h
    rw [List.length_append, le, cs_len] at h1
    have h2 : (l.take e).take (e - y.length) = a := by
      rw [h, List.take_append_of_le_length (by omega), List.take_of_length_le (by omega)]
    rw [← h2, List.take_take]
    congr 1
    omega
  have hin : ∀ y ∈ kvs.filterMap (candG (tfD kvs) l e st), ∃ z p a, tfD kvs z = some p ∧ l.take e = a ++ cs z ∧ y = lp (tfD kvs) a + p := by
    intro y hy
    obtain ⟨kv, hkv, g⟩ := List.mem_filterMap.mp hy
    obtain ⟨z, p, rfl, hp⟩ := T.mem kv hkv
    have g' : (if Txt.endswith st z = true then some (lp (tfD kvs) (l.take (e - z.length)) + p) else none) = some y := g
    by_cases q : Txt.endswith st z = true
    · rw [if_pos q] at g'
      obtain ⟨a, ha⟩ := ends_iff.mp q
      rw [hst] at ha
      refine ⟨z, p, a, hp, ha, ?_⟩
      rw [part ha]
      exact (Option.some.inj g').symm
    · rw [if_neg q] at g'
      cases g'
  have hall : ∀ z p a, tfD kvs z = some p → l.take e = a ++ cs z → lp (tfD kvs) a + p ∈ kvs.filterMap (candG (tfD kvs) l e st) := by
    intro z p a hp ha
    refine List.mem_filterMap.mpr ⟨(Sum.inr z, V.int p), valV_mem (tf_some.mp hp), ?_⟩
    show (if Txt.endswith st z = true then some (lp (tfD kvs) (l.take (e - z.length)) + p) else none) = _
    rw [if_pos (ends_iff.mpr ⟨a, by rw [hst]; exact ha⟩), ← part ha]
  constructor
  · obtain ⟨z, p, a, h1, h2, _⟩ := lp_last T.good ove ne
    exact List.length_pos_of_mem (hall z p a h1 h2)
  · intro m hm hl
    exact lp_step T.good ove ne hin hall hm hl
theorem fm_int {α : Type} {g : α → Option Int} {l : List α} : l.filterMap (fun a => (g a).map V.int) = (l.filterMap g).map V.int := by
  rw [List.map_filterMap]
theorem same_mut {H H' : Hp} {a : Addr} {o : HO} (s : Same H H') (h : H a = none) : Same H (upd H' a o) := fun b u e => by
  rw [upd_ne (ne_of_none e h)]
  exact s _ _ e
theorem cs_cutTo {z : Str} {i : Nat} (h : i ≤ z.length) : cs (cutS z none (some (i : Int))) = (cs z).take i := by
  rw [cs_cut, sIx_pos (by omega)]
  show ((cs z).drop 0).take (min (Int.toNat (i : Int)) z.length - 0) = _
  rw [List.drop_zero, Int.toNat_natCast]
  congr 1
  omega
noncomputable def costF (F : Tf) (l : List Nat) (s : Nat) : Option Int := (F (sOf (l.drop s))).map fun p => lp F (l.take s) + p
noncomputable def costs (F : Tf) (l : List Nat) : List Int := (List.range (l.length - (l.length - 5))).filterMap fun i => costF F l (l.length - 5 + i)
theorem cost_min {F : Tf} {l : List Nat} (G : Good F) (o : Over F l) (ne : l ≠ []) : 0 < (costs F l).length ∧ ∀ m ∈ costs F l, (∀ y ∈ costs F l, m ≤ y) → m = lp F l := by
  have hin : ∀ y ∈ costs F l, ∃ z p a, F z = some p ∧ l = a ++ cs z ∧ y = lp F a + p := by
    intro y hy
    obtain ⟨i, hi, g⟩ := List.mem_filterMap.mp hy
    have g' : (F (sOf (l.drop (l.length - 5 + i)))).map (fun p => lp F (l.take (l.length - 5 + i)) + p) = some y := g
    cases e : F (sOf (l.drop (l.length - 5 + i))) with
    | none =>
      rw [e] at g'
      cases g'
    | some p =>
      rw [e] at g'
      exact ⟨_, p, l.take (l.length - 5 + i), e, by rw [cs_sOf, List.take_append_drop], (Option.some.inj g').symm⟩
  have hall : ∀ z p a, F z = some p → l = a ++ cs z → lp F a + p ∈ costs F l := by
    intro z p a hp ha
    obtain ⟨n1, n2⟩ := G.len z p hp
    have hl := congrArg List.length ha
    rw [List.length_append] at hl
    have e1 : l.length - 5 + (a.length - (l.length - 5)) = a.length := by omega
    refine List.mem_filterMap.mpr ⟨a.length - (l.length - 5), List.mem_range.mpr (by omega), ?_⟩
    show costF F l (l.length - 5 + (a.length - (l.length - 5))) = _
    rw [e1]
    unfold costF
    have e2 : l.drop a.length = cs z := by rw [ha, List.drop_left]
    have e3 : l.take a.length = a := by rw [ha, List.take_left]
    rw [e2, e3, sOf_cs, hp]
    rfl
  constructor
  · obtain ⟨z, p, a, h1, h2, _⟩ := lp_last G o ne
    exact List.length_pos_of_mem (hall z p a h1 h2)
  · intro m hm hl
    exact lp_step G o ne hin hall hm hl
theorem tar_val {kvs : List (Key × V)} (T : Tar kvs) (z : Str) : valV kvs (Sum.inr z) = (tfD kvs z).map V.int := by
  cases e : valV kvs (Sum.inr z : Key) with
  | none =>
    unfold tfD
    rw [e]
    rfl
  | some v =>
    obtain ⟨y, p, e1, e2⟩ := T.mem _ (valV_mem e)
    have e3 : z = y := Sum.inr.inj (congrArg Prod.fst e1)
    subst e3
    rw [e2]
    have e4 : v = V.int p := congrArg Prod.snd e1
    rw [e4]
    rfl
theorem cs_cutAB {z : Str} {a b : Nat} (hab : a ≤ b) (hb : b ≤ z.length) : cs (cutS z (some (a : Int)) (some (b : Int))) = ((cs z).take b).drop a := by
  have e1 : min a z.length = a := by omega
  have e2 : min b z.length = b := by omega
  rw [cs_cut, sIx_pos (by omega), sIx_pos (by omega), Int.toNat_natCast, Int.toNat_natCast, List.drop_take, e1, e2]
theorem cs_cutFrom {z : Str} {a : Nat} (h : a ≤ z.length) : cs (cutS z (some (a : Int)) none) = (cs z).drop a := by
  rw [cs_cut, sIx_pos (by omega), Int.toNat_natCast]
  have e : min a z.length = a := by omega
  rw [e]
  show ((cs z).drop a).take (z.length - a) = _
  exact List.take_of_length_le (by rw [List.length_drop, cs_len]; omega)
theorem max0 (n : Nat) : (if (n : Int) - 5 > 0 then (n : Int) - 5 else 0) = ((n - 5 : Nat) : Int) := by split <;> omega
/-- _law_least, of a dict that is locked or not -/
def spLawLeast : Sp := fun vs H Q _ => ∃ d kvs z, vs = [.ref d, .str z] ∧ Rd H d (.dK kvs) ∧ Tar kvs ∧ Over (tfD kvs) (cs z) ∧ z.length ≤ 10000 ∧ ∀ H', Same H H' → Q (.int (lp (tfD kvs) (cs z))) H'
theorem fm_range_succ {α : Type} {g : Nat → Option α} {j : Nat} : (List.range (j + 1)).filterMap g = (List.range j).filterMap g ++ (g j).toList := by
  rw [List.range_succ, List.filterMap_append]
  congr 1
theorem rd_same {H H' : Hp} {d : Addr} {u : HO} (r : Rd H d u) (s : Same H H') : Rd H' d u := by
  rcases r with h | ⟨od, h⟩
  · exact .inl (s _ _ h)
  · exact .inr ⟨od, s _ _ h⟩
/-! ### tables of cheapest prices -/
structure TblOk (F : Tf) (S : Str → Prop) (kf : List (Key × V)) : Prop where
  val : ∀ z, S z → valV kf (Sum.inr z) = some (.int (lp F (cs z)))
  key : ∀ kv ∈ kf, ∃ z, kv.1 = Sum.inr z ∧ S z
theorem TblOk.congr {F : Tf} {S S' : Str → Prop} {kf : List (Key × V)} (T : TblOk F S kf) (h : ∀ z, S z ↔ S' z) : TblOk F S' kf :=
  ⟨fun z hz => T.val z ((h z).mpr hz), fun kv hkv => (T.key kv hkv).imp fun z q => ⟨q.1, (h z).mp q.2⟩⟩
theorem put_mem {kvs : List (Key × V)} {k : Key} {v : V} {kv : Key × V} (h : kv ∈ putK kvs k v) : kv.1 = k ∨ kv ∈ kvs := by
  unfold putK at h
  by_cases q : (kvs.any fun kv => decide (kv.1 = k)) = true
  · rw [if_pos q] at h
    obtain ⟨x, hx, rfl⟩ := List.mem_map.mp h
    by_cases e : x.1 = k
    · rw [if_pos e]
      exact Or.inl e
    · rw [if_neg e]
      exact Or.inr hx
  · rw [if_neg q] at h
    rcases List.mem_append.mp h with h | h
    · exact Or.inr h
    · rw [List.mem_singleton.mp h]
      exact Or.inl rfl
theorem put_len {kvs : List (Key × V)} {k : Key} {v : V} : (putK kvs k v).length ≤ kvs.length + 1 := by
  unfold putK
  split
  · rw [List.length_map]
    omega
  · rw [List.length_append]
    exact Nat.le_refl _
theorem TblOk.put {F : Tf} {S : Str → Prop} {kf : List (Key × V)} (T : TblOk F S kf) (y : Str) : TblOk F (fun z => S z ∨ z = y) (putK kf (Sum.inr y) (.int (lp F (cs y)))) := by
  refine ⟨fun z hz => ?_, fun kv hkv => ?_⟩
  · rw [valV_put]
    by_cases e : z = y
    · subst e
      rw [if_pos rfl]
    · rw [if_neg fun q => e (Sum.inr.inj q)]
      exact T.val z (hz.resolve_right e)
  · rcases put_mem hkv with h | h
    · exact ⟨y, h, Or.inr rfl⟩
    · obtain ⟨z, h1, h2⟩ := T.key kv h
      exact ⟨z, h1, Or.inl h2⟩
def tv (t : List Nat) : V := .str (sOf t)
def grow (sg : List Nat) (ts : List (List Nat)) : List (List Nat) := ts.flatMap fun t => sg.map fun c => t ++ [c]
def layerL (sg : List Nat) : Nat → List (List Nat)
  | 0 => [[]]
  | n + 1 => grow sg (layerL sg n)
theorem grow_len {sg : List Nat} : ∀ {ts : List (List Nat)}, (grow sg ts).length = ts.length * sg.length
  | [] => by simp [grow]
  | t :: r => by
    have ih := grow_len (sg := sg) (ts := r)
    unfold grow at ih ⊢
    rw [List.flatMap_cons, List.length_append, ih, List.length_map, List.length_cons, Nat.add_mul]
    omega
theorem layer_len {sg : List Nat} (n : Nat) : (layerL sg n).length = sg.length ^ n := by
  induction n with
  | zero => rfl
  | succ n ih => rw [layerL, grow_len, ih, Nat.pow_succ]
theorem layer_le {sg : List Nat} {n : Nat} (h4 : sg.length ≤ 4) (h8 : n ≤ 8) : (layerL sg n).length ≤ 65536 := by
  rw [layer_len]
  calc sg.length ^ n ≤ 4 ^ n := Nat.pow_le_pow_left h4 n
    _ ≤ 4 ^ 8 := Nat.pow_le_pow_right (by decide) h8
    _ = 65536 := by decide
theorem layer_mem {sg : List Nat} : ∀ {n : Nat} {t : List Nat}, t ∈ layerL sg n ↔ t.length = n ∧ ∀ c ∈ t, c ∈ sg
  | 0, t => by
    show t ∈ [[]] ↔ _
    rw [List.mem_singleton]
    constructor
    · rintro rfl
      exact ⟨rfl, fun _ h => (List.not_mem_nil h).elim⟩
    · rintro ⟨h, _⟩
      exact List.eq_nil_of_length_eq_zero h
  | n + 1, t => by
    show t ∈ grow sg (layerL sg n) ↔ _
    unfold grow
    rw [List.mem_flatMap]
    constructor
    · rintro ⟨u, hu, h⟩
      obtain ⟨c, hc, rfl⟩ := List.mem_map.mp h
      obtain ⟨h1, h2⟩ := layer_mem.mp hu
      refine ⟨by rw [List.length_append, h1]; rfl, fun d hd => ?_⟩
      rcases List.mem_append.mp hd with q | q
      · exact h2 d q
      · rw [List.mem_singleton.mp q]
        exact hc
    · rintro ⟨h1, h2⟩
      have ne : t ≠ [] := fun e => by
        rw [e] at h1
        cases h1
      refine ⟨t.dropLast, layer_mem.mpr ⟨by rw [List.length_dropLast, h1]; rfl, fun c hc => h2 c (List.dropLast_subset t hc)⟩, List.mem_map.mpr ⟨t.getLast ne, h2 _ (List.getLast_mem ne), List.dropLast_concat_getLast ne⟩⟩
def InAll (sg : List Nat) (n : Nat) (z : Str) : Prop := (cs z).length ≤ n ∧ ∀ c ∈ cs z, c ∈ sg
theorem inAll_zero {F : Tf} {sg : List Nat} (G : Good F) : TblOk F (InAll sg 0) [(Sum.inr (sOf []), .int 0)] := by
  refine ⟨fun z hz => ?_, fun kv hkv => ?_⟩
  · have e : z = sOf [] := str_ext (List.eq_nil_of_length_eq_zero (Nat.le_zero.mp hz.1))
    rw [e, valV_pos rfl, cs_sOf, lp_nil G]
  · rw [List.mem_singleton.mp hkv]
    exact ⟨_, rfl, Nat.le_refl _, fun c h => (List.not_mem_nil (a := c) h).elim⟩
theorem inAll_succ {sg : List Nat} {n : Nat} {z : Str} : InAll sg n z ∨ z ∈ (layerL sg (n + 1)).map sOf ↔ InAll sg (n + 1) z := by
  constructor
  · rintro (⟨h1, h2⟩ | h)
    · exact ⟨by omega, h2⟩
    · obtain ⟨t, ht, rfl⟩ := List.mem_map.mp h
      obtain ⟨h1, h2⟩ := layer_mem.mp ht
      exact ⟨by rw [cs_sOf]; omega, by rw [cs_sOf]; exact h2⟩
  · rintro ⟨h1, h2⟩
    rcases Nat.lt_or_ge n (cs z).length with h | h
    · exact Or.inr (List.mem_map.mpr ⟨cs z, layer_mem.mpr ⟨by omega, h2⟩, sOf_cs z⟩)
    · exact Or.inl ⟨h, h2⟩
theorem grow_take {sg : List Nat} {ts : List (List Nat)} {j : Nat} {t : List Nat} (h : ts[j]? = some t) : grow sg (ts.take (j + 1)) = grow sg (ts.take j) ++ sg.map fun c => t ++ [c] := by
  rw [List.take_add_one, h]
  unfold grow
  rw [List.flatMap_append]
  simp
theorem emp : Str.ofString "" = sOf [] := str_ext (by rfl)
theorem tv_at {ts : List (List Nat)} {j : Nat} {x : V} (h : (ts.map tv)[j]? = some x) : ∃ t, ts[j]? = some t ∧ x = tv t := by
  rw [List.getElem?_map] at h
  cases e : ts[j]? with
  | none =>
    rw [e] at h
    cases h
  | some t =>
    rw [e] at h
    exact ⟨t, rfl, (Option.some.inj h).symm⟩
theorem tv_app (t : List Nat) (c : Nat) : V.str (sOf t ++ ch c) = tv (t ++ [c]) := by
  unfold tv
  congr 1
  exact str_ext (by rw [cs_app, cs_sOf, cs_sOf])
theorem tbl_take {F : Tf} {S : Str → Prop} {kf : List (Key × V)} {ts : List (List Nat)} {j : Nat} {t : List Nat} (h : ts[j]? = some t) (T : TblOk F (fun z => S z ∨ z ∈ (ts.take j).map sOf) kf) :
    TblOk F (fun z => S z ∨ z ∈ (ts.take (j + 1)).map sOf) (putK kf (Sum.inr (sOf t)) (.int (lp F t))) := by
  have h1 := T.put (sOf t)
  rw [cs_sOf] at h1
  refine h1.congr fun z => ?_
  rw [List.take_add_one, h, List.map_append, List.mem_append]
  show (S z ∨ _) ∨ z = sOf t ↔ S z ∨ _ ∨ z ∈ [sOf t]
  rw [List.mem_singleton, or_assoc]
/-- _law_all -/
def spAll (K : PySem.W.Frag) : Sp := fun vs H Q _ => ∃ d kvs sa sg n, vs = [.ref d, .ref sa, .int ((n : Nat) : Int)] ∧ H d = some (.dK kvs) ∧ Tar kvs ∧ SqL K H sa (sg.map chV) ∧ (∀ c ∈ sg, ∃ p, tfD kvs (ch c) = some p) ∧ sg.length ≤ 4 ∧ n ≤ 8 ∧
  ∀ fo kf H', H fo = none → H' fo = some (.dK kf) → TblOk (tfD kvs) (InAll sg n) kf → kf.length ≤ 600000 → Same H H' → Q (.ref fo) H'
/-! ### dicts of prices while they are made -/
theorem keys_nd' {kvs : List (Key × V)} (nd : (kvs.map (·.1)).Nodup) (al : (kvs.all fun kv => isPiece (kV kv.1) && isPrice kv.2) = true) : (keyStrs kvs).Nodup := by
  rw [keys_of al] at nd
  exact nd_of_map nd
structure PrOk (sg : List Nat) (kvs : List (Key × V)) : Prop where
  mem : ∀ kv ∈ kvs, ∃ z p, kv = (Sum.inr z, V.int p) ∧ (1 ≤ (cs z).length ∧ (cs z).length ≤ 5) ∧ (∀ c ∈ cs z, c ∈ sg) ∧ 1 ≤ p ∧ p ≤ 99
  nd : (kvs.map (·.1)).Nodup
theorem PrOk.nil {sg : List Nat} : PrOk sg [] := ⟨fun _ h => (List.not_mem_nil h).elim, List.nodup_nil⟩
theorem put_keys {kvs : List (Key × V)} {k : Key} {v : V} : (putK kvs k v).map (·.1) = if (valV kvs k).isSome = true then kvs.map (·.1) else kvs.map (·.1) ++ [k] := by
  unfold putK
  rw [valV_any]
  split
  · rw [List.map_map]
    refine List.map_congr_left fun kv _ => ?_
    show (if kv.1 = k then (kv.1, v) else kv).1 = kv.1
    split <;> rfl
  · rw [List.map_append]
    rfl
theorem put_val_mem {kvs : List (Key × V)} {k : Key} {v : V} {kv : Key × V} (h : kv ∈ putK kvs k v) : kv = (k, v) ∨ kv ∈ kvs := by
  unfold putK at h
  by_cases q : (kvs.any fun kv => decide (kv.1 = k)) = true
  · rw [if_pos q] at h
    obtain ⟨x, hx, rfl⟩ := List.mem_map.mp h
    by_cases e : x.1 = k
    · rw [if_pos e, e]
      exact Or.inl rfl
    · rw [if_neg e]
      exact Or.inr hx
  · rw [if_neg q] at h
    rcases List.mem_append.mp h with h | h
    · exact Or.inr h
    · exact Or.inl (List.mem_singleton.mp h)
theorem PrOk.put {sg : List Nat} {kvs : List (Key × V)} (P : PrOk sg kvs) {z : Str} {p : Int} (h1 : 1 ≤ (cs z).length ∧ (cs z).length ≤ 5) (h2 : ∀ c ∈ cs z, c ∈ sg) (h3 : 1 ≤ p ∧ p ≤ 99) : PrOk sg (putK kvs (Sum.inr z) (.int p)) := by
  refine ⟨fun kv hkv => ?_, ?_⟩
  · rcases put_val_mem hkv with h | h
    · exact ⟨z, p, h, h1, h2, h3⟩
    · exact P.mem kv h
  · rw [put_keys]
    split
    · exact P.nd
    · rename_i q
      refine List.nodup_append.mpr ⟨P.nd, by simp, fun a ha b hb e => ?_⟩
      rw [List.mem_singleton.mp hb] at e
      rw [e] at ha
      refine q ?_
      cases e2 : valV kvs (Sum.inr z : Key) with
      | none => exact absurd ha (valV_not e2)
      | some v => rfl
theorem PrOk.merge {sg : List Nat} : ∀ {more kvs : List (Key × V)}, PrOk sg kvs → (∀ kv ∈ more, ∃ z p, kv = (Sum.inr z, V.int p) ∧ (1 ≤ (cs z).length ∧ (cs z).length ≤ 5) ∧ (∀ c ∈ cs z, c ∈ sg) ∧ 1 ≤ p ∧ p ≤ 99) →
    PrOk sg (mergeK kvs more) ∧ (mergeK kvs more).length ≤ kvs.length + more.length
  | [], kvs, P, _ => ⟨P, Nat.le_refl _⟩
  | a :: r, kvs, P, h => by
    obtain ⟨z, p, rfl, h1, h2, h3⟩ := h a List.mem_cons_self
    obtain ⟨q1, q2⟩ := PrOk.merge (more := r) (P.put h1 h2 h3) fun kv hkv => h kv (List.mem_cons_of_mem _ hkv)
    refine ⟨q1, Nat.le_trans q2 ?_⟩
    have := put_len (kvs := kvs) (k := Sum.inr z) (v := .int p)
    rw [List.length_cons]
    omega
theorem nd_sub_len {α : Type} [BEq α] [LawfulBEq α] : ∀ {l1 l2 : List α}, l1.Nodup → (∀ a ∈ l1, a ∈ l2) → l1.length ≤ l2.length
  | [], _, _, _ => Nat.zero_le _
  | a :: r, l2, nd, h => by
    obtain ⟨h1, h2⟩ := List.nodup_cons.mp nd
    have h3 := nd_sub_len (l1 := r) (l2 := l2.erase a) h2 fun b hb => by
      have nb : b ≠ a := fun e => h1 (e ▸ hb)
      exact (List.mem_erase_of_ne nb).mpr (h b (List.mem_cons_of_mem _ hb))
    have h4 := h a List.mem_cons_self
    rw [List.length_erase_of_mem h4] at h3
    have := List.length_pos_of_mem h4
    rw [List.length_cons]
    omega
theorem PrOk.tf {sg : List Nat} {kvs : List (Key × V)} (P : PrOk sg kvs) {z : Str} : z ∈ keyStrs kvs ↔ ∃ p, tfD kvs z = some p := by
  rw [ks_mem]
  constructor
  · intro h
    obtain ⟨kv, hkv, e⟩ := List.mem_map.mp h
    obtain ⟨y, p, rfl, _⟩ := P.mem kv hkv
    have h2 := val_nodup P.nd _ hkv
    dsimp only at e h2
    cases e
    exact ⟨p, tf_some.mpr h2⟩
  · rintro ⟨p, h⟩
    exact valV_in (tf_some.mp h)
/-- a dict of prices over the signs sg, all of them in it -/
theorem PrOk.right {sg : List Nat} {kvs : List (Key × V)} (P : PrOk sg kvs) (hs : ∀ c ∈ sg, (valV kvs (Sum.inr (ch c))).isSome = true) (hl : ∀ c ∈ sg, lett c = true) (n4 : sg.length ≤ 4) (n0 : 1 ≤ sg.length) (n12 : kvs.length ≤ 12) :
    arePrices kvs = true ∧ ∀ c, (∃ p, tfD kvs (ch c) = some p) ↔ c ∈ sg := by
  have al : (kvs.all fun kv => isPiece (kV kv.1) && isPrice kv.2) = true := by
    rw [List.all_eq_true]
    intro kv hkv
    obtain ⟨z, p, rfl, h1, h2, h3⟩ := P.mem kv hkv
    rw [Bool.and_eq_true]
    refine ⟨?_, ?_⟩
    · show isPiece (.str z) = true
      rw [isPiece_of fun c hc => hl c (h2 c hc), decide_eq_true h1.1, decide_eq_true h1.2]
      rfl
    · show (decide (p.natAbs < 10 ^ 60) && (decide (1 ≤ p) && decide (p ≤ 99))) = true
      rw [decide_eq_true (by omega : p.natAbs < 10 ^ 60), decide_eq_true h3.1, decide_eq_true h3.2]
      rfl
  have key : ∀ {z}, z ∈ keyStrs kvs → (∀ c ∈ cs z, c ∈ sg) := by
    intro z hz
    obtain ⟨kv, hkv, e⟩ := List.mem_map.mp (ks_mem.mp hz)
    obtain ⟨y, p, rfl, _, h2, _⟩ := P.mem kv hkv
    dsimp only at e
    cases e
    exact h2
  refine ⟨?_, fun c => ⟨fun ⟨p, h⟩ => key (ks_mem.mpr (valV_in (tf_some.mp h))) c (by simp [cs]), fun h => ?_⟩⟩
  · unfold arePrices
    have e1 : 1 ≤ kvs.length := by
      cases sg with
      | nil => simp at n0
      | cons c r =>
        have := hs c List.mem_cons_self
        cases kvs with
        | nil => cases this
        | cons a r => simp
    have e3 : ((keyStrs kvs).filter fun z => decide ((cs z).length = 1)).length ≤ 4 := by
      refine Nat.le_trans (nd_sub_len (l2 := sg.map ch) ((keys_nd' P.nd al).filter _) fun z hz => ?_) (by rw [List.length_map]; exact n4)
      obtain ⟨h1, h2⟩ := List.mem_filter.mp hz
      obtain ⟨c, rfl⟩ := G.one_sign (z := z) (by simpa using h2)
      exact List.mem_map.mpr ⟨c, key h1 c (by simp [cs]), rfl⟩
    have e4 : (((keyStrs kvs).map cs).flatten.all fun c => (valV kvs (Sum.inr (ch c))).isSome) = true := by
      rw [List.all_eq_true]
      intro c hc
      obtain ⟨l, hl, hcl⟩ := List.mem_flatten.mp hc
      obtain ⟨z, hz, rfl⟩ := List.mem_map.mp hl
      exact hs c (key hz c hcl)
    rw [decide_eq_true (by omega : 1 ≤ (kvs.length : Int)), decide_eq_true (by omega : (kvs.length : Int) ≤ 12), al, decide_eq_true e3, e4]
    rfl
  · have h1 := hs c h
    cases e : valV kvs (Sum.inr (ch c) : Key) with
    | none =>
      rw [e] at h1
      cases h1
    | some v =>
      have h2 := P.tf.mp (ks_mem.mpr (valV_in e))
      exact h2
theorem kp_free {l a : Addr} {H H' : Hp} (k : Kp l H H') (n : a ≠ l) (h : H' a = none) : H a = none := by
  cases e : H a with
  | none => rfl
  | some o =>
    rw [k a o e n] at h
    cases h
theorem paired_of {α β : Type} {F : α → β → Prop} : ∀ {ps : List (α × β)}, (∀ p ∈ ps, F p.1 p.2) → Paired F (ps.map (·.1)) (ps.map (·.2))
  | [], _ => .nil
  | p :: r, h => .cons (h p List.mem_cons_self) (paired_of fun q hq => h q (List.mem_cons_of_mem _ hq))
theorem lift_map {α : Type} {f : α → V} {P : α → Prop} : ∀ {zs : List V}, (∀ v ∈ zs, ∃ w, v = f w ∧ P w) → ∃ ws : List α, zs = ws.map f ∧ ∀ w ∈ ws, P w
  | [], _ => ⟨[], rfl, fun _ h => (List.not_mem_nil h).elim⟩
  | v :: r, h => by
    obtain ⟨w, rfl, hw⟩ := h v List.mem_cons_self
    obtain ⟨ws, rfl, hws⟩ := lift_map (zs := r) fun u hu => h u (List.mem_cons_of_mem _ hu)
    refine ⟨w :: ws, rfl, fun u hu => ?_⟩
    rcases List.mem_cons.mp hu with rfl | hu
    · exact hw
    · exact hws u hu
def PairOk (sg : List Nat) (kv : Key × V) : Prop := ∃ z p, kv = (Sum.inr z, V.int p) ∧ (1 ≤ (cs z).length ∧ (cs z).length ≤ 5) ∧ (∀ c ∈ cs z, c ∈ sg) ∧ 1 ≤ p ∧ p ≤ 99
/-- a word of the menu -/
def Word (sg w : List Nat) : Prop := 2 ≤ w.length ∧ w.length ≤ 5 ∧ ∀ c ∈ w, c ∈ sg
theorem Word.piece {sg w : List Nat} (h : Word sg w) : (1 ≤ (cs (sOf w)).length ∧ (cs (sOf w)).length ≤ 5) ∧ ∀ c ∈ cs (sOf w), c ∈ sg := by
  obtain ⟨h1, h2, h3⟩ := h
  rw [cs_sOf]
  exact ⟨⟨by omega, h2⟩, h3⟩
/-! ### what is sorted -/
theorem so_pw : ∀ {ys : List Str}, sortedS ys = true → ys.Pairwise fun a b => cs a ≤ cs b
  | [], _ => .nil
  | [x], _ => by simp
  | x :: y :: r, h => by
    have h' : (!ltCps y.cps.toList x.cps.toList && risingS y r) = true := h
    rw [Bool.and_eq_true] at h'
    have ih := so_pw (ys := y :: r) h'.2
    have h1 : cs x ≤ cs y := by
      have h2 := h'.1
      rw [ltCps_eq] at h2
      exact List.not_lt.mp (by simpa using h2)
    refine List.Pairwise.cons (fun b hb => ?_) ih
    rcases List.mem_cons.mp hb with rfl | hb
    · exact h1
    · exact List.le_trans h1 ((List.pairwise_cons.mp ih).1 b hb)
theorem so_eq {ys zs : List Str} (h1 : ys.Pairwise fun a b => cs a ≤ cs b) (h2 : zs.Pairwise fun a b => cs a ≤ cs b) (p : ys.Perm zs) : ys = zs := p.eq_of_pairwise (fun a b _ _ h k => str_ext (List.le_antisymm h k)) h1 h2
def SameSigns (F1 F2 : Tf) : Prop := ∀ c, (∃ p, F1 (ch c) = some p) ↔ ∃ p, F2 (ch c) = some p
theorem sgn_ps {kvs : List (Key × V)} {ys : List Str} : sgn (psOf kvs ys) = ys.filter fun z => decide (z.length = 1) := by
  unfold sgn psOf
  rw [List.map_map]
  congr 1
  exact List.map_id' ys
theorem tf_key {kvs : List (Key × V)} {z : Str} (al : (kvs.all fun kv => isPiece (kV kv.1) && isPrice kv.2) = true) : z ∈ keyStrs kvs ↔ ∃ p, tfD kvs z = some p :=
  ⟨fun h => ⟨_, tf_some.mpr (price_of_key al h).1⟩, fun ⟨p, h⟩ => ks_mem.mpr (valV_in (tf_some.mp h))⟩
theorem keys_nd {kvs : List (Key × V)} (al : (kvs.all fun kv => isPiece (kV kv.1) && isPrice kv.2) = true) (nd : (kvs.map (·.1)).Nodup) : (keyStrs kvs).Nodup := by
  rw [keys_of al] at nd
  exact nd_of_map nd
theorem sgn_eq {kvs1 kvs2 : List (Key × V)} {ys1 ys2 : List Str} (al1 : (kvs1.all fun kv => isPiece (kV kv.1) && isPrice kv.2) = true) (al2 : (kvs2.all fun kv => isPiece (kV kv.1) && isPrice kv.2) = true)
    (nd1 : (kvs1.map (·.1)).Nodup) (nd2 : (kvs2.map (·.1)).Nodup) (pm1 : ys1.Perm (keyStrs kvs1)) (pm2 : ys2.Perm (keyStrs kvs2)) (so1 : sortedS ys1 = true) (so2 : sortedS ys2 = true) (ss : SameSigns (tfD kvs1) (tfD kvs2)) :
    sgn (psOf kvs1 ys1) = sgn (psOf kvs2 ys2) := by
  rw [sgn_ps, sgn_ps]
  refine so_eq ((so_pw so1).filter _) ((so_pw so2).filter _) ?_
  refine (List.perm_ext_iff_of_nodup ((pm1.nodup_iff.mpr (keys_nd al1 nd1)).filter _) ((pm2.nodup_iff.mpr (keys_nd al2 nd2)).filter _)).mpr fun z => ?_
  rw [List.mem_filter, List.mem_filter, pm1.mem_iff, pm2.mem_iff, tf_key al1, tf_key al2]
  constructor
  · rintro ⟨h1, h2⟩
    obtain ⟨c, rfl⟩ := one_sign (z := z) (by rw [cs_len]; simpa using h2)
    exact ⟨(ss c).mp h1, h2⟩
  · rintro ⟨h1, h2⟩
    obtain ⟨c, rfl⟩ := one_sign (z := z) (by rw [cs_len]; simpa using h2)
    exact ⟨(ss c).mpr h1, h2⟩
/-! ### tuples of texts as data -/
theorem dpAll_strs {K : PySem.W.Frag} {H : Hp} : ∀ zs : List Str, DpAll K H (zs.map V.str) (zs.map PyData.str)
  | [] => .nil
  | z :: r => .cons (.str z) (dpAll_strs r)
theorem strOk_lett {z : Str} (h : ∀ c ∈ cs z, lett c = true) : PyData.strOk z = true := by
  show z.cps.all (fun c => decide (c < 0x110000)) = true
  rw [Array.all_eq_true_iff_forall_mem]
  intro c hc
  have h1 := h c (by simpa [cs] using hc)
  unfold lett at h1
  rw [Bool.and_eq_true] at h1
  have := of_decide_eq_true h1.2
  exact decide_eq_true (by omega)
theorem shaped_strs {zs : List Str} (h : ∀ z ∈ zs, ∀ c ∈ cs z, lett c = true) : SeqAt.shaped (.tuple (zs.map PyData.str)) = true := by
  have h1 : ∀ l : List Str, (∀ z ∈ l, ∀ c ∈ cs z, lett c = true) → PyData.canLayAll0 (l.map PyData.str) = true := by
    intro l hl
    induction l with
    | nil => rfl
    | cons a r ih => simp [PyData.canLayAll0, PyData.canLay0, strOk_lett (hl a List.mem_cons_self), ih fun z hz => hl z (List.mem_cons_of_mem _ hz)]
  have h2 : ∀ l : List Str, PyData.depthAll (l.map PyData.str) = 0 := by
    intro l
    induction l with
    | nil => simp [PyData.depthAll]
    | cons a r ih => simp [PyData.depthAll, PyData.depth, ih]
  unfold SeqAt.shaped
  rw [Bool.and_eq_true]
  refine ⟨by simpa [PyData.canLay0] using h1 zs h, decide_eq_true ?_⟩
  simp only [PyData.depth, h2]
  omega
theorem eqv_strs {zs : List Str} (h : ∀ z ∈ zs, ∀ c ∈ cs z, lett c = true) : PyData.eqv (.tuple (zs.map PyData.str)) (.tuple (zs.map PyData.str)) = true :=
  SeqAt.eqv_refl _ (SeqAt.canLay_of_shaped (shaped_strs h))
/-! ### promises of cutbehind.base.compared -/
def NoDear (F1 F2 : Tf) : Prop := ∀ z p, F2 z = some p → lp F1 (cs z) ≤ p
/-- what dearer_in returns -/
def DearR (F1 F2 : Tf) (r : V) : Prop := (r = .non ∧ NoDear F1 F2) ∨ ∃ z p, r = .str z ∧ F2 z = some p ∧ p < lp F1 (cs z) ∧ ∀ z' p', F2 z' = some p' → cs z' < cs z → lp F1 (cs z') ≤ p'
def spReqBook (C : Addr) : Sp := fun vs H Q _ => ∃ b dx fs, vs = [.ref b] ∧ H b = some (.ins C dx fs) ∧ Q .non H
def Two (C : Addr) (H : Hp) (vs : List V) (k1 k2 : List (Key × V)) : Prop := ∃ b1 b2, vs = [.ref b1, .ref b2] ∧ Book1 C H b1 k1 ∧ Book1 C H b2 k2 ∧ SameSigns (tfD k1) (tfD k2)
def spReqCmp (C : Addr) : Sp := fun vs H Q _ => ∃ k1 k2, Two C H vs k1 k2 ∧ ∀ H', Same H H' → Q .non H'
def spDearer (C : Addr) : Sp := fun vs H Q _ => ∃ k1 k2, Two C H vs k1 k2 ∧ ∀ r H', Same H H' → DearR (tfD k1) (tfD k2) r → Q r H'
def spNowhere (C : Addr) : Sp := fun vs H Q _ => ∃ k1 k2, Two C H vs k1 k2 ∧ ∀ b H', Same H H' → (b = true ↔ NoDear (tfD k1) (tfD k2)) → Q (.bl b) H'
def spAsCheap (C : Addr) : Sp := fun vs H Q _ => ∃ k1 k2, Two C H vs k1 k2 ∧ ∀ b H', Same H H' → (b = true ↔ NoDear (tfD k1) (tfD k2) ∧ NoDear (tfD k2) (tfD k1)) → Q (.bl b) H'
theorem dear_non {F1 F2 : Tf} {r : V} (d : DearR F1 F2 r) : decide (r = .non) = true ↔ NoDear F1 F2 := by
  rw [decide_eq_true_eq]
  rcases d with ⟨h1, h2⟩ | ⟨z, p, h1, h2, h3, _⟩
  · exact ⟨fun _ => h2, fun _ => h1⟩
  · refine ⟨fun e => ?_, fun n => ?_⟩
    · rw [h1] at e
      cases e
    · have := n z p h2
      omega
theorem SameSigns.symm {F1 F2 : Tf} (h : SameSigns F1 F2) : SameSigns F2 F1 := fun c => (h c).symm
/-! ### lists of texts as data; heaps with a lock -/
theorem shaped_lstrs {zs : List Str} (h : ∀ z ∈ zs, ∀ c ∈ cs z, lett c = true) : SeqAt.shaped (.list (zs.map PyData.str)) = true := by
  have h1 := shaped_strs h
  unfold SeqAt.shaped at h1 ⊢
  simpa [PyData.canLay0, PyData.depth] using h1
theorem eqv_nil (zs : List Str) : PyData.eqv (.list (zs.map PyData.str)) (.list []) = zs.isEmpty := by cases zs <;> simp [PyData.eqv, PyData.eqvAll]
theorem rd_lock {H : Hp} {a b : Addr} {u v : HO} {od : Obj} (h : H a = some u) (k : H b = some v) : Rd (upd H b (.frz od v)) a u := by
  by_cases e : a = b
  · subst e
    rw [h] at k
    cases k
    exact .inr ⟨od, upd_same⟩
  · exact .inl (by rw [upd_ne e]; exact h)
theorem repr_bool {K : PySem.W.Frag} {H : Hp} {b : Bool} {Q : VK} (q : Q (.str (PyData.bool b).shown) H) : rRepr K [.bl b] H Q :=
  ⟨_, .bool b, rfl, .bl b, (shw_bool b).s, (shw_bool b).h, Nat.le_trans (shw_bool b).dp (by omega), Nat.le_trans (shw_bool b).len (fits_sz (by omega)), q⟩
/-- x == [] for a list of texts -/
theorem eq_nil {K : PySem.W.Frag} {H : Hp} {a p : Addr} {zs : List Str} {Q : VK} (h : SqL K H a (zs.map V.str)) (hp : H p = some (.lst [])) (hl : ∀ z ∈ zs, ∀ c ∈ cs z, lett c = true) (q : Q (.bl zs.isEmpty) H) : rEqD K (.ref a) (.ref p) H Q := by
  refine ⟨.list (zs.map PyData.str), .list [], .lst h (dpAll_strs zs), .lst (SqL.of hp) .nil, shaped_lstrs hl, by decide, ?_⟩
  rw [eqv_nil]
  exact q
/-! ### books under changes of lists; which texts are dearer -/
theorem Book1.keep {C : Addr} {H H' : Hp} {b : Addr} {kvs : List (Key × V)} (B : Book1 C H b kvs) (h : ∀ a o, H a = some o → (∀ xs, o ≠ .lst xs) → H' a = some o) : Book1 C H' b kvs := by
  obtain ⟨ys, L, M, dx, d, tp, ta, od, h1, h2, A⟩ := B.ex
  exact ⟨B.av, B.nd, ys, L, M, dx, d, tp, ta, od, h1, h2, h _ _ A.ob (fun _ e => by cases e), h _ _ A.dc (fun _ e => by cases e), h _ _ A.pi (fun _ e => by cases e), h _ _ A.al (fun _ e => by cases e), A.lo, A.de⟩
theorem Book1.updL {C : Addr} {H : Hp} {a b : Addr} {kvs : List (Key × V)} {xs : List V} {o : HO} (B : Book1 C H b kvs) (h : H a = some (.lst xs)) : Book1 C (upd H a o) b kvs :=
  B.keep fun c u e n => by
    rw [upd_ne fun q => ?_]
    · exact e
    · rw [q, h] at e
      exact n xs (Option.some.inj e).symm
theorem Book1.kp {C : Addr} {H H' : Hp} {l b : Addr} {kvs : List (Key × V)} {n : Nat} (B : Book1 C H b kvs) (D : Dice H l n) (k : Kp l H H') : Book1 C H' b kvs := by
  obtain ⟨d0, d1, d2, h, _⟩ := D
  refine B.keep fun c u e n => k c u e fun q => ?_
  rw [q, h] at e
  exact n _ (Option.some.inj e).symm
noncomputable def dearG (F1 F2 : Tf) : Key × V → Option Str := fun kv => match kv.1 with
  | .inr z => if lp F2 (cs z) < lp F1 (cs z) then some z else none
  | .inl _ => none
theorem Tar.mono {k1 k2 : List (Key × V)} (t1 : Tar k1) (t2 : Tar k2) (ss : SameSigns (tfD k1) (tfD k2)) (h : NoDear (tfD k1) (tfD k2)) {l : List Nat} (o : Over (tfD k1) l) : lp (tfD k1) l ≤ lp (tfD k2) l :=
  lp_mono t1.good t2.good (fun z p hz => ⟨fun c hc => (ss c).mpr (t2.good.cov z p hz c hc), h z p hz⟩) o fun c hc => (ss c).mp (o c hc)
theorem dear_iff {k1 k2 kf : List (Key × V)} {S : Str → Prop} (T : TblOk (tfD k1) S kf) (t1 : Tar k1) (t2 : Tar k2) (ss : SameSigns (tfD k1) (tfD k2)) (hS : ∀ z, S z → Over (tfD k1) (cs z)) (hk : ∀ z p, tfD k2 z = some p → S z) :
    kf.filterMap (dearG (tfD k1) (tfD k2)) = [] ↔ NoDear (tfD k1) (tfD k2) := by
  rw [List.filterMap_eq_nil_iff]
  constructor
  · intro h z p hz
    have h1 := h _ (valV_mem (T.val z (hk z p hz)))
    have h2 : (if lp (tfD k2) (cs z) < lp (tfD k1) (cs z) then some z else none) = none := h1
    have h3 := lp_piece t2.good hz
    by_cases q : lp (tfD k2) (cs z) < lp (tfD k1) (cs z)
    · rw [if_pos q] at h2
      cases h2
    · omega
  · intro n kv hkv
    obtain ⟨z, ez, hz⟩ := T.key kv hkv
    unfold dearG
    rw [ez]
    show (if lp (tfD k2) (cs z) < lp (tfD k1) (cs z) then some z else none) = none
    have := t1.mono t2 ss n (hS z hz)
    rw [if_neg (by omega)]
theorem nodear_trans {k0 k1 k2 : List (Key × V)} (t0 : Tar k0) (t1 : Tar k1) (t2 : Tar k2) (s01 : SameSigns (tfD k0) (tfD k1)) (s12 : SameSigns (tfD k1) (tfD k2)) (h : NoDear (tfD k0) (tfD k1)) (k : NoDear (tfD k1) (tfD k2)) : NoDear (tfD k0) (tfD k2) := by
  intro z p hz
  have h1 := k z p hz
  have h2 := t0.mono t1 s01 h (l := cs z) fun c hc => (s01 c).mpr ((s12 c).mpr (t2.good.cov z p hz c hc))
  omega
theorem nodear_self {k : List (Key × V)} (t : Tar k) : NoDear (tfD k) (tfD k) := fun z p hz => lp_piece t.good hz
theorem fm_str {α : Type} {g : α → Option Str} {l : List α} : l.filterMap (fun a => (g a).map V.str) = (l.filterMap g).map V.str := by
  rw [List.map_filterMap]
theorem tandv {ta tb : TE} {σ : L2.St} {H : Hp} {Q : VK} {a b : Bool} (ha : ∀ N : VK, N (.bl a) H → ta σ H N) (hb : ∀ N : VK, N (.bl b) H → tb σ H N) (q : Q (.bl (a && b)) H) : tAndV ta tb σ H Q := by
  refine ha _ ⟨a, rfl, ?_⟩
  refine itB (fun e => hb _ ?_) (fun e => ?_)
  · rw [e] at q
    exact q
  · rw [e] at q
    exact q
/-- least_price, of a dict that is not changed -/
def spLeastPrice : Sp := fun vs H Q _ => ∃ d od kvs z, vs = [.ref d, .str z] ∧ H d = some (.frz od (.dK kvs)) ∧ Tar kvs ∧ Over (tfD kvs) (cs z) ∧ z.length ≤ 10000 ∧ ∀ H', Same H H' → Q (.int (lp (tfD kvs) (cs z))) H'
end G
namespace K08
open PySem PySem.Spec PyProof.Rows L2 G
open L2 (St)

def top (i : Nat) : Stmt := PySem.Challenge.pw_cutbehind_k08_whole_nowhere_dearer_for_a.main.body.getD i (.Pass ⟨0, 0, 0, 0⟩)
abbrev s_is_integer : Stmt := top 3
abbrev s_is_word : Stmt := top 5
abbrev s_is_piece : Stmt := top 6
abbrev s_is_integer_within : Stmt := top 4
abbrev s_is_price : Stmt := top 17
abbrev s_are_prices : Stmt := top 18
abbrev s_Book___init__ : Stmt := inClass (top 24) 0
abbrev s_least_price : Stmt := top 26
abbrev s_require_book : Stmt := top 21
abbrev s_require_comparable : Stmt := top 27
abbrev s_dearer_in : Stmt := top 28
abbrev s_is_nowhere_dearer : Stmt := top 29
abbrev s_dearer_piece : Stmt := top 30
abbrev s_are_as_cheap : Stmt := top 31
abbrev s__law_dice : Stmt := top 33
abbrev s__law_roll : Stmt := top 34
abbrev s__law_pick : Stmt := top 35
abbrev s__law_letters : Stmt := top 37
abbrev s__law_some : Stmt := top 36
abbrev s__law_least : Stmt := top 39
abbrev s__law_all : Stmt := top 38
abbrev s__law_three : Stmt := top 40
abbrev s__law_texts : Stmt := top 41
abbrev s__law_costs : Stmt := top 42
abbrev s__law_pair_right : Stmt := top 43
abbrev s__law_right : Stmt := top 44
abbrev s_law : Stmt := top 45
structure Txt (K : PySem.W.Frag) (mg : Str → Option Value) (C : Addr) : Prop where
  cl : Cls K C
  ic : C8.InsC K C
  n_own_prices : NoAttr K C "own_prices"
  n_own_pieces : NoAttr K C "own_pieces"
  n_own_alphabet : NoAttr K C "own_alphabet"
  n_own_longest : NoAttr K C "own_longest"
  n_own_dearest : NoAttr K C "own_dearest"
  gC : mg "Book" = some (.ref C)
  b_abs : mg "abs" = none
  b_all : mg "all" = none
  b_bool : mg "bool" = none
  b_dict : mg "dict" = none
  b_int : mg "int" = none
  b_isinstance : mg "isinstance" = none
  b_len : mg "len" = none
  b_list : mg "list" = none
  b_max : mg "max" = none
  b_min : mg "min" = none
  b_range : mg "range" = none
  b_repr : mg "repr" = none
  b_sorted : mg "sorted" = none
  b_str : mg "str" = none
  b_tuple : mg "tuple" = none
  b_zip : mg "zip" = none
  g_MAX_ALPHABET : ∃ t, mg "MAX_ALPHABET" = some (.int 4 t)
  g_MAX_PIECES : ∃ t, mg "MAX_PIECES" = some (.int 12 t)
  g_MAX_PRICE : ∃ t, mg "MAX_PRICE" = some (.int 99 t)
  g_PIECE_SIGNS : ∃ t, mg "PIECE_SIGNS" = some (.int 5 t)

def PlainAt (sg : List Nat) (H : Hp) (p : Addr) (kvs : List (Key × V)) : Prop := H p = some (.dK kvs) ∧ arePrices kvs = true ∧ (kvs.map (·.1)).Nodup ∧ ∀ c, (∃ q, tfD kvs (ch c) = some q) ↔ c ∈ sg
/-- _law_three -/
def spThree (K : PySem.W.Frag) : Sp := fun vs H Q _ => ∃ (l sa : Addr) (sg : List Nat) (n : Nat), vs = [.ref l, .ref sa] ∧ sa ≠ l ∧ SqL K H sa (sg.map chV) ∧ 1 ≤ sg.length ∧ sg.length ≤ 4 ∧ (∀ c ∈ sg, lett c = true) ∧ Dice H l (n + 100) ∧
  ∀ (q : Addr) (ps : List (Addr × List (Key × V))) H', H q = none → H' q = some (.lst (ps.map fun p => V.ref p.1)) → ps.length = 3 → (∀ p ∈ ps, H p.1 = none ∧ PlainAt sg H' p.1 p.2) → Kp l H H' → Dice H' l n → Q (.ref q) H'
/-- _law_texts -/
def spTexts (K : PySem.W.Frag) : Sp := fun vs H Q _ => ∃ (l sa pa : Addr) (sg : List Nat) (ps : List (Addr × List (Key × V))) (n : Nat), vs = [.ref l, .ref sa, .ref pa] ∧ sa ≠ l ∧ pa ≠ l ∧ SqL K H sa (sg.map chV) ∧ 1 ≤ sg.length ∧ sg.length ≤ 4 ∧ H pa = some (.lst (ps.map fun p => V.ref p.1)) ∧ ps.length = 3 ∧
  (∀ p ∈ ps, PlainAt sg H p.1 p.2 ∧ p.1 ≠ l) ∧ Dice H l (n + 400) ∧
  ∀ (q : Addr) (ts : List Str) H', H q = none → H' q = some (.lst (ts.map V.str)) → ts.length ≤ 1000 → (∀ t ∈ ts, (cs t).length ≤ 100 ∧ ∀ c ∈ cs t, c ∈ sg) → (∀ p ∈ ps, ∀ z ∈ keyStrs p.2, z ∈ ts) → Kp l H H' → Dice H' l n → Q (.ref q) H'
def sizeOf (n : Nat) : Nat := if n = 1 then 8 else if n = 2 then 6 else if n = 3 then 4 else 3
theorem sizeOf_at {n : Nat} (h1 : 1 ≤ n) (h4 : n ≤ 4) : atI [V.int 8, .int 6, .int 4, .int 3] ((n : Int) - 1) = some (.int ((sizeOf n : Nat) : Int)) := by
  have : n = 1 ∨ n = 2 ∨ n = 3 ∨ n = 4 := by omega
  rcases this with rfl | rfl | rfl | rfl <;> rfl
theorem sizeOf_le (n : Nat) : sizeOf n ≤ 8 := by
  unfold sizeOf
  repeat' split
  all_goals omega
/-- _law_costs -/
def spCosts (K : PySem.W.Frag) : Sp := fun vs H Q _ => ∃ (d sa ta : Addr) (kvs : List (Key × V)) (sg : List Nat) (ts : List Str), vs = [.ref d, .ref sa, .ref ta] ∧ H d = some (.dK kvs) ∧ Tar kvs ∧ SqL K H sa (sg.map chV) ∧ 1 ≤ sg.length ∧ sg.length ≤ 4 ∧ (∀ c, (∃ q, tfD kvs (ch c) = some q) ↔ c ∈ sg) ∧
  SqL K H ta (ts.map V.str) ∧ ts.length ≤ 1000 ∧ (∀ t ∈ ts, (cs t).length ≤ 100 ∧ ∀ c ∈ cs t, c ∈ sg) ∧
  ∀ fo kf H', H fo = none → H' fo = some (.dK kf) → TblOk (tfD kvs) (fun z => InAll sg (sizeOf sg.length) z ∨ z ∈ ts) kf → kf.length ≤ 700000 → Same H H' → Q (.ref fo) H'
/-- _law_pair_right -/
def spPair (C : Addr) : Sp := fun vs H Q _ => ∃ (b1 b2 d1 d2 da : Addr) (k1 k2 : List (Key × V)) (xs : List Str), vs = [.ref b1, .ref b2, .ref d1, .ref d2, .ref da] ∧ Book1 C H b1 k1 ∧ Book1 C H b2 k2 ∧ SameSigns (tfD k1) (tfD k2) ∧ H d1 = some (.dK k1) ∧ H d2 = some (.dK k2) ∧
  H da = some (.lst (xs.map V.str)) ∧ (∀ z ∈ xs, ∀ c ∈ cs z, lett c = true) ∧ (xs = [] ↔ NoDear (tfD k1) (tfD k2)) ∧ ∀ H', Same H H' → Q (.bl true) H'

section
variable {P : Program} {w : World} {K : PySem.W.Frag} {mg : Str → Option Value} {base : Heap} {C : Addr}
theorem sc_is_integer : FnScope ["value"] ["value"] (defScope s_is_integer) := ⟨rfl, rfl, rfl, by decide +kernel, rfl, by decide +kernel, by decide +kernel⟩
theorem ok_is_integer {f : Addr} {fd : FuncData} (F : Fun K "is_integer" "is_integer" s_is_integer f fd) (T : Txt K mg C) : FnOk P w K mg base CX0 1 f fd ["value"] (spIsI K isInteger) := by
  refine F.ok sc_is_integer (fun vs H Q E h => ?_) (fun cdv A outer s H vs Q E hr h => ?_)
  · obtain ⟨x, rfl, _⟩ := h
    rfl
  · have hu := hu_of hr
    obtain ⟨x, rfl, ty, k⟩ := h
    obtain ⟨t, ht, hs, hi, hb⟩ := id ty
    have k0 := k H (Same.refl H)
    refine ⟨_, (pss_cons (ps_if (PW.pt (pw_or (pt_val (pe_callB (g_isi K) (by rfl) T.b_isinstance (by decide +kernel) (pa_cons (pv 0) (pa_cons (pe_bltn (v := .ty "bool") rfl T.b_bool (by decide +kernel) rfl) pa_nil)))) (pw_or1 (pt_not (pt_val (pe_callB (g_isi K) (by rfl) T.b_isinstance (by decide +kernel) (pa_cons (pv 0) (pa_cons (pe_bltn (v := .ty "int") rfl T.b_int (by decide +kernel) rfl) pa_nil)))))))) (pss_one (ps_ret pe_bl)) pss_nil)
      (pss_one (ps_ret (pe_cmpR op_lt (pe_callB call_abs (by rfl) T.b_abs (by decide +kernel) (pa_cons (pv 0) pa_nil)) (pe_op op_powW pe_int pe_int) (nomark _))))), ?_⟩
    cases x with
    | bl b =>
      refine ⟨_, rfl, _, _, _, _, _, rfl, .ty _, ht, hb, _, rfl, ?_⟩
      exact k0
    | int i =>
      refine ⟨_, rfl, _, _, _, _, _, rfl, .ty _, ht, hb, _, rfl, ?_⟩
      refine ⟨_, rfl, _, _, _, _, _, rfl, .ty _, ht, hi, _, rfl, ?_⟩
      refine ⟨_, rfl, _, rfl, _, _, rfl, rfl, ⟨by decide, by decide +kernel⟩, _, _, rfl, rfl, ?_⟩
      have e : decide ((if i < 0 then -i else i) < (10 : Int) ^ (60 : Int).toNat) = isInteger (.int i) := abs_lt i
      rw [← e] at k0
      exact k0
    | _ =>
      refine ⟨_, rfl, _, _, _, _, _, rfl, .ty _, ht, hb, _, rfl, ?_⟩
      refine ⟨_, rfl, _, _, _, _, _, rfl, .ty _, ht, hi, _, rfl, ?_⟩
      exact k0
theorem sc_is_word : FnScope ["value", "letter"] ["value"] (defScope s_is_word) := ⟨rfl, rfl, rfl, by decide +kernel, rfl, by decide +kernel, by decide +kernel⟩
theorem ok_is_word {f : Addr} {fd : FuncData} (F : Fun K "is_word" "is_word" s_is_word f fd) (T : Txt K mg C) : FnOk P w K mg base CX0 1 f fd ["value"] (spIs K isWord) := by
  refine F.ok sc_is_word (fun vs H Q E h => ?_) (fun cdv A outer s H vs Q E hr h => ?_)
  · obtain ⟨x, rfl, _⟩ := h
    rfl
  · have hu := hu_of hr
    obtain ⟨x, rfl, ty, sz, k⟩ := h
    obtain ⟨t, ht, hs, hi, hb⟩ := id ty
    have k0 := k H (Same.refl H)
    refine ⟨_, (pss_one (ps_ret (pe_and (pe_callB (g_isi K) (by rfl) T.b_isinstance (by decide +kernel) (pa_cons (pv 0) (pa_cons (pe_bltn (v := .ty "str") rfl T.b_str (by decide +kernel) rfl) pa_nil))) (pe_and (pe_cmpR op_ne (pv 0) pe_str (nomark _)) (pe_one (pe_callB (g_all K rfl) (by rfl) T.b_all (by decide +kernel) (pa_cons (pe_lc (own := [("letter", 1)]) rfl sc_is_word.nd (pi_str (pv 0)) (blkOk_by (own := [("letter", 1)]) (N := ["value", "letter"]) (sc := defScope s_is_word) (by decide +kernel)) (fun _ _ _ _ _ => (pg_name (i := 1) sc_is_word.nd rfl (Or.inl rfl))) (fun _ _ _ _ _ => pts_nil) (fun _ _ _ _ _ => (pe_chain op_le_str op_le_str pe_str (pv 1) pe_str))) pa_nil))))))), ?_⟩
    cases x with
    | str z =>
      have sz' : z.length ≤ sizeLine := fits_sz sz
      refine ⟨_, rfl, _, _, _, _, _, rfl, .ty _, ht, hs, _, rfl, ?_⟩
      refine ⟨_, rfl, rfl, _, rfl, ?_⟩
      rw [v_str_ne]
      refine itB (fun e1 => ?_) (fun e1 => ?_)
      · refine ⟨_, rfl, _, rfl, fun D hD => ?_⟩
        refine lcp_str (fun c => .bl (lett c)) sz' (fun c acc N hc hN => ?_) ?_
        · refine ⟨_, rfl, _, _, rfl, rfl, _, rfl, ?_⟩
          show if (!decide (([c] : List Nat) < [97])) = true then _ else _
          rw [(lett_eq c).1]
          refine itB (fun e2 => ?_) (fun e2 => ?_)
          · refine ⟨_, _, rfl, rfl, ?_⟩
            show N (.bl (!decide (([122] : List Nat) < [c]))) _
            rw [(lett_eq c).2, ← lett_of e2]
            exact hN
          · rw [lett_no e2] at hN
            exact hN
        · refine ⟨_, (cs z).map lett, rfl, SqL.of (by rw [upd_same, List.map_map]; rfl), ?_⟩
          have e4 : ((cs z).map lett).all id = isWord (.str z) := by
            show _ = (!(cs z).isEmpty && (cs z).all lett)
            rw [e1, List.all_map]
            rfl
          rw [e4]
          exact k _ (same_new hD)
      · have e4 : isWord (.str z) = false := by
          show (!(cs z).isEmpty && (cs z).all lett) = false
          rw [e1]
          rfl
        rw [e4] at k0
        exact k0
    | _ =>
      refine ⟨_, rfl, _, _, _, _, _, rfl, .ty _, ht, hs, _, rfl, ?_⟩
      exact k0
theorem sc_is_piece : FnScope ["value"] ["value"] (defScope s_is_piece) := ⟨rfl, rfl, rfl, by decide +kernel, rfl, by decide +kernel, by decide +kernel⟩
theorem ok_is_piece {f : Addr} {fd : FuncData} (F : Fun K "is_piece" "is_piece" s_is_piece f fd) (T : Txt K mg C) (c_is_word : HasO P w K mg base CX0 1 "is_word" ["value"] (spIs K isWord)) : FnOk P w K mg base CX0 2 f fd ["value"] (spIs K isPiece) := by
  refine F.ok sc_is_piece (fun vs H Q E h => ?_) (fun cdv A outer s H vs Q E hr h => ?_)
  · obtain ⟨x, rfl, _⟩ := h
    rfl
  · have hu := hu_of hr
    obtain ⟨x, rfl, ty, sz, k⟩ := h
    obtain ⟨t, ht, hs, hi, hb⟩ := id ty
    have k0 := k H (Same.refl H)
    refine ⟨_, (pss_one (ps_ret (pe_and (pe_callB (g_isi K) (by rfl) T.b_isinstance (by decide +kernel) (pa_cons (pv 0) (pa_cons (pe_bltn (v := .ty "str") rfl T.b_str (by decide +kernel) rfl) pa_nil))) (pe_and (pe_chain op_le op_le pe_int (pe_callB call_len_str (by rfl) T.b_len (by decide +kernel) (pa_cons (pv 0) pa_nil)) (pe_glob (v := .int 5) rfl T.g_PIECE_SIGNS.choose_spec ⟨_, rfl⟩)) (pe_one (pe_hasO c_is_word (hr.mono (by decide)) pass0 (pa_cons (pv 0) pa_nil))))))), ?_⟩
    cases x with
    | str z =>
      have sz' : z.length ≤ sizeLine := fits_sz sz
      refine ⟨_, rfl, _, _, _, _, _, rfl, .ty _, ht, hs, _, rfl, ?_⟩
      refine ⟨_, rfl, _, rfl, sz', _, _, rfl, rfl, _, rfl, ?_⟩
      refine itB (fun e1 => ?_) (fun e1 => ?_)
      · have e1' := of_decide_eq_true e1
        refine ⟨_, _, rfl, rfl, _, rfl, ?_⟩
        refine itB (fun e2 => ?_) (fun e2 => ?_)
        · have e2' := of_decide_eq_true e2
          refine ⟨_, rfl, _, rfl, ty, sz, fun H' s' => ?_⟩
          have e5 : isWord (.str z) = isPiece (.str z) := by
            show (!(cs z).isEmpty && (cs z).all lett) = (decide (1 ≤ (cs z).length) && decide ((cs z).length ≤ 5) && (cs z).all lett)
            rw [cs_len, decide_eq_true (by omega), decide_eq_true (by omega)]
            have : (cs z).isEmpty = false := by
              cases hz : cs z with
              | nil =>
                have := cs_len z
                rw [hz] at this
                simp at this
                omega
              | cons a l => rfl
            rw [this]
            rfl
          rw [e5]
          exact k _ s'
        · have e2' := of_decide_eq_false e2
          have e4 : isPiece (.str z) = false := by
            show (decide (1 ≤ (cs z).length) && decide ((cs z).length ≤ 5) && (cs z).all lett) = false
            rw [cs_len, decide_eq_false (by omega : ¬ z.length ≤ 5), Bool.and_false]
            rfl
          rw [e4] at k0
          exact k0
      · have e1' := of_decide_eq_false e1
        have e4 : isPiece (.str z) = false := by
          show (decide (1 ≤ (cs z).length) && decide ((cs z).length ≤ 5) && (cs z).all lett) = false
          rw [cs_len, decide_eq_false (by omega : ¬ 1 ≤ z.length)]
          rfl
        rw [e4] at k0
        exact ⟨_, rfl, k0⟩
    | _ =>
      refine ⟨_, rfl, _, _, _, _, _, rfl, .ty _, ht, hs, _, rfl, ?_⟩
      exact k0
theorem sc_is_integer_within : FnScope ["value", "least", "most"] ["value", "least", "most"] (defScope s_is_integer_within) := ⟨rfl, rfl, rfl, by decide +kernel, rfl, by decide +kernel, by decide +kernel⟩
theorem ok_is_integer_within {f : Addr} {fd : FuncData} (F : Fun K "is_integer_within" "is_integer_within" s_is_integer_within f fd) (T : Txt K mg C) (c_is_integer : HasO P w K mg base CX0 1 "is_integer" ["value"] (spIsI K isInteger)) : FnOk P w K mg base CX0 2 f fd ["value", "least", "most"] (spWithin K) := by
  refine F.ok sc_is_integer_within (fun vs H Q E h => ?_) (fun cdv A outer s H vs Q E hr h => ?_)
  · obtain ⟨x, a, b, rfl, _⟩ := h
    rfl
  · have hu := hu_of hr
    obtain ⟨x, a, b, rfl, ty, k⟩ := h
    refine ⟨_, (pss_one (ps_ret (pe_and (pe_hasO c_is_integer (hr.mono (by decide)) pass0 (pa_cons (pv 0) pa_nil)) (pe_one (pe_chain op_le op_le (pv 1) (pv 0) (pv 2)))))), ?_⟩
    refine ⟨_, rfl, _, rfl, ty, fun H1 s1 => ⟨_, rfl, ?_⟩⟩
    have k1 := k H1 s1
    cases x with
    | int i =>
      refine itB (fun e => ?_) (fun e => ?_)
      · have e' : decide (i.natAbs < 10 ^ 60) = true := e
        have e2 : inRange (.int i) a b = (decide (a ≤ i) && decide (i ≤ b)) := by
          show (decide (i.natAbs < 10 ^ 60) && (decide (a ≤ i) && decide (i ≤ b))) = _
          rw [e']
          rfl
        rw [e2] at k1
        exact chain_le (a := a) (b := i) (c := b) (fun N hN => ⟨_, rfl, hN⟩) (fun N hN => ⟨_, rfl, hN⟩) (fun N hN => ⟨_, rfl, hN⟩) k1
      · have e' : decide (i.natAbs < 10 ^ 60) = false := e
        have e2 : inRange (.int i) a b = false := by
          show (decide (i.natAbs < 10 ^ 60) && (decide (a ≤ i) && decide (i ≤ b))) = _
          rw [e']
          rfl
        rw [e2] at k1
        exact k1
    | _ => exact k1
theorem sc_is_price : FnScope ["value"] ["value"] (defScope s_is_price) := ⟨rfl, rfl, rfl, by decide +kernel, rfl, by decide +kernel, by decide +kernel⟩
theorem ok_is_price {f : Addr} {fd : FuncData} (F : Fun K "is_price" "is_price" s_is_price f fd) (T : Txt K mg C) (c_is_integer_within : HasO P w K mg base CX0 2 "is_integer_within" ["value", "least", "most"] (spWithin K)) : FnOk P w K mg base CX0 3 f fd ["value"] (spIsI K isPrice) := by
  refine F.ok sc_is_price (fun vs H Q E h => ?_) (fun cdv A outer s H vs Q E hr h => ?_)
  · obtain ⟨x, rfl, _⟩ := h
    rfl
  · have hu := hu_of hr
    obtain ⟨x, rfl, ty, k⟩ := h
    refine ⟨_, (pss_one (ps_ret (pe_hasO c_is_integer_within (hr.mono (by decide)) pass0 (pa_cons (pv 0) (pa_cons pe_int (pa_cons (pe_glob (v := .int 99) rfl T.g_MAX_PRICE.choose_spec ⟨_, rfl⟩) pa_nil)))))), ?_⟩
    exact ⟨_, rfl, x, 1, 99, rfl, ty, k⟩
theorem sc_are_prices : FnScope ["value", "piece", "sign", "price"] ["value"] (defScope s_are_prices) := ⟨rfl, rfl, rfl, by decide +kernel, rfl, by decide +kernel, by decide +kernel⟩
theorem ok_are_prices {f : Addr} {fd : FuncData} (F : Fun K "are_prices" "are_prices" s_are_prices f fd) (T : Txt K mg C) (c_is_piece : HasO P w K mg base CX0 2 "is_piece" ["value"] (spIs K isPiece)) (c_is_price : HasO P w K mg base CX0 3 "is_price" ["value"] (spIsI K isPrice)) : FnOk P w K mg base CX0 4 f fd ["value"] (spArePrices K) := by
  refine F.ok sc_are_prices (fun vs H Q E h => ?_) (fun cdv A outer s H vs Q E hr h => ?_)
  · obtain ⟨x, rfl, _⟩ := h
    rfl
  · have hu := hu_of hr
    obtain ⟨x, rfl, hx⟩ := h
    refine ⟨_, (pss_cons (ps_if (PW.pt (pw_or (pt_not (pt_val (pe_callB (g_isi K) (by rfl) T.b_isinstance (by decide +kernel) (pa_cons (pv 0) (pa_cons (pe_bltn (v := .ty "dict") rfl T.b_dict (by decide +kernel) rfl) pa_nil))))) (pw_or1 (pt_not (pt_chain op_le op_le pe_int (pe_callB call_lenF (by rfl) T.b_len (by decide +kernel) (pa_cons (pv 0) pa_nil)) (pe_glob (v := .int 12) rfl T.g_MAX_PIECES.choose_spec ⟨_, rfl⟩)))))) (pss_one (ps_ret pe_bl)) pss_nil)
      (pss_cons (ps_if (pt_not (pt_val (pe_callB (g_all K rfl) (by rfl) T.b_all (by decide +kernel) (pa_cons (pe_lock (by exact (pe_lc (own := [("piece", 1), ("price", 3)]) rfl sc_are_prices.nd (pi_items (pv 0)) (blkOk_by (own := [("piece", 1), ("price", 3)]) (N := ["value", "piece", "sign", "price"]) (sc := defScope s_are_prices) (by decide +kernel)) (fun _ _ _ _ _ => (g_tup K (n := 2) rfl (pgs_cons (pg_name (i := 1) sc_are_prices.nd rfl (Or.inl rfl)) (pgs_cons (pg_name (i := 3) sc_are_prices.nd rfl (Or.inl rfl)) pgs_nil)))) (fun _ _ _ _ _ => pts_nil) (fun _ _ _ _ _ => (pe_and (pe_hasO c_is_piece (hr.mono (by decide)) pass0 (pa_cons (pv 1) pa_nil)) (pe_one (pe_hasO c_is_price (hr.mono (by decide)) pass0 (pa_cons (pv 3) pa_nil)))))))) pa_nil)))) (pss_one (ps_ret pe_bl)) pss_nil)
      (pss_cons (ps_if (pt_cmpR op_gt (pe_callB (g_len_seq K) (by rfl) T.b_len (by decide +kernel) (pa_cons (pe_lock (by exact (pe_lc (own := [("piece", 1)]) rfl sc_are_prices.nd (pi_keys (pv 0)) (blkOk_by (own := [("piece", 1)]) (N := ["value", "piece", "sign", "price"]) (sc := defScope s_are_prices) (by decide +kernel)) (fun _ _ _ _ _ => (pg_name (i := 1) sc_are_prices.nd rfl (Or.inl rfl))) (fun _ _ _ _ _ => (pts_one (pt_cmpR op_eq (pe_callB call_len_str (by rfl) T.b_len (by decide +kernel) (pa_cons (pv 1) pa_nil)) pe_int (nomark _)))) (fun _ _ _ _ _ => (pv 1))))) pa_nil)) (pe_glob (v := .int 4) rfl T.g_MAX_ALPHABET.choose_spec ⟨_, rfl⟩) (nomark _)) (pss_one (ps_ret pe_bl)) pss_nil)
      (pss_one (ps_ret (pe_callB (g_all K rfl) (by rfl) T.b_all (by decide +kernel) (pa_cons (pe_lock (by exact (pe_lc2 (own := [("piece", 1), ("sign", 2)]) (vs1 := [2]) rfl sc_are_prices.nd (pi_keys (pv 0)) (blkOk_by (own := [("piece", 1), ("sign", 2)]) (N := ["value", "piece", "sign", "price"]) (sc := defScope s_are_prices) (by decide +kernel)) (by decide) (fun _ _ _ _ _ => (pg_name (i := 1) sc_are_prices.nd rfl (Or.inl rfl))) (fun _ _ _ _ _ => pts_nil) (fun _ _ _ _ _ => (pi_str (pv 1))) (fun _ _ _ _ _ => (pg_name (i := 2) sc_are_prices.nd rfl (Or.inl rfl))) (fun _ _ _ _ _ => pts_nil) (fun _ _ _ _ _ => (pe_cmp (pc_din hu (pv 2) (pv 0))))))) pa_nil))))))), ?_⟩
    rcases hx with ⟨t, ht, hdict, k⟩ | ⟨a, kvs, rfl, ha, hn, ok, k⟩
    · refine ⟨_, rfl, _, _, _, _, _, rfl, .ty _, ht, hdict, _, rfl, ?_⟩
      exact k H (Same.refl H)
    refine ⟨_, rfl, _, _, _, _, _, rfl, .ty _, .base (.dK ha), kit_ty (show kitB "dict" "dict" = some true by decide +kernel), _, rfl, ?_⟩
    refine ⟨_, rfl, _, _, rfl, .inl ha, _, _, rfl, rfl, _, rfl, ?_⟩
    have k0 := k H (Same.refl H)
    have fz : ∀ od, (upd H a (.frz od (.dK kvs))) a = some (.frz od (.dK kvs)) := fun od => upd_same
    unfold arePrices at k k0
    -- 1 <= len(value) <= MAX_PIECES
    cases e1 : decide (1 ≤ (kvs.length : Int)) with
    | false =>
      rw [e1] at k0
      exact ⟨_, rfl, k0⟩
    | true =>
    rw [e1] at k k0
    refine ⟨_, _, rfl, rfl, _, rfl, ?_⟩
    cases e2 : decide ((kvs.length : Int) ≤ 12) with
    | false =>
      rw [e2] at k0
      exact k0
    | true =>
    rw [e2] at k k0
    -- the pieces and the prices
    refine ⟨a, _, ha, trivial, fun od => ?_⟩
    refine ⟨_, rfl, a, od, kvs, rfl, upd_same, fun D hD => ?_⟩
    have nDa := lock_ne hD
    refine lcs kvs walk_kv (fun kv => some (.bl (isPiece (kV kv.1) && isPrice kv.2))) hD (by omega) (fun H' s => s _ _ (fz od)) ?_ ?_
    · rintro i kv x H2 H3 hi s ⟨T, k', v', e, rfl, hT, rfl⟩ N M hN hM
      have ekv : kv = (k', v') := Option.some.inj (hi.symm.trans e)
      subst ekv
      obtain ⟨sz, tyv⟩ := ok _ (List.mem_of_getElem? hi)
      have sH : ∀ {H'}, Same H2 H' → Same (upd H a (.frz od (.dK kvs))) H' := fun z => s.trans z
      refine ⟨T, _, rfl, SqT.of upd_same, rfl, _, _, rfl, _, _, rfl, rfl, rfl, ?_⟩
      have sT : Same H2 (upd H2 T (.tup [kV k', v'])) := same_new hT
      refine ⟨_, rfl, _, rfl, tyd_key _, sz, fun H4 s4 => ⟨_, rfl, ?_⟩⟩
      refine itB (fun p1 => ?_) (fun p1 => ?_)
      · refine ⟨_, rfl, _, rfl, tyv _ (((Sim.lock ha).then s).then (sT.trans s4)), fun H5 s5 => ?_⟩
        refine hN _ _ ?_ (sT.trans (s4.trans s5))
        show some (V.bl (isPiece (kV k') && isPrice v')) = _
        rw [p1]
        rfl
      · refine hN _ _ ?_ (sT.trans s4)
        show some (V.bl (isPiece (kV k') && isPrice v')) = _
        rw [p1]
        rfl
    rintro H2 s2 e2'
    have S2 : Same H (upd H2 a (.dK kvs)) := unlock ha s2
    refine ⟨s2 _ _ (fz od), _, kvs.map (fun kv => isPiece (kV kv.1) && isPrice kv.2), rfl, SqL.of (by rw [upd_ne nDa, e2', List.map_map, List.filterMap_eq_map']; rfl), _, rfl, ?_⟩
    have k2 := k _ S2
    have a2 : (upd H2 a (.dK kvs)) a = some (.dK kvs) := upd_same
    generalize upd H2 a (.dK kvs) = H3 at S2 k2 a2 ⊢
    have e3' : ((kvs.map fun kv => isPiece (kV kv.1) && isPrice kv.2).all id) = (kvs.all fun kv => isPiece (kV kv.1) && isPrice kv.2) := by
      rw [List.all_map]
      rfl
    rw [e3']
    clear e3' e2' s2 H2 hD nDa k0 fz od D
    cases e3 : (kvs.all fun kv => isPiece (kV kv.1) && isPrice kv.2) with
    | false =>
      rw [e3] at k2
      exact k2
    | true =>
    rw [e3] at k k2
    have hk := keys_of e3
    have hp := keyStrs_piece e3
    have ln : (keyStrs kvs).length = kvs.length := by
      have h := congrArg List.length hk
      rw [List.length_map, List.length_map] at h
      exact h.symm
    -- how many single signs
    refine ⟨a, _, a2, trivial, fun od => ?_⟩
    refine ⟨_, rfl, a, od, rfl, .inl ⟨kvs, upd_same, fun D hD => ?_⟩⟩
    have nDa := lock_ne hD
    refine lcs kvs walk_keys (fun kv => match kv.1 with | .inr z => if decide ((cs z).length = 1) = true then some (.str z) else none | .inl _ => none) hD (by omega) (fun H' s => s _ _ upd_same) ?_ ?_
    · rintro i kv x H4 H5 hi s ⟨rfl, k', v', e, rfl⟩ N M hN hM
      have ekv : kv = (k', v') := Option.some.inj (hi.symm.trans e)
      subst ekv
      obtain ⟨z, hz⟩ : ∃ z, k' = Sum.inr z := by
        have h1 := congrArg (fun l => l[i]?) hk
        simp only [List.getElem?_map, hi] at h1
        cases h2 : (keyStrs kvs)[i]? with
        | none => rw [h2] at h1; cases h1
        | some z => rw [h2] at h1; exact ⟨z, Option.some.inj h1⟩
      subst hz
      have zs := (ok _ (List.mem_of_getElem? hi)).1
      refine ⟨rfl, _, rfl, _, rfl, fits_sz zs, rfl, _, rfl, ?_⟩
      rw [v_len_eq1]
      refine itB (fun q1 => ?_) (fun q1 => ?_)
      · refine ⟨_, rfl, hN _ _ ?_ (Same.refl _)⟩
        show (if decide ((cs z).length = 1) = true then some (V.str z) else none) = _
        rw [if_pos q1]
        rfl
      · refine hM _ ?_ (Same.refl _)
        show (if decide ((cs z).length = 1) = true then some (V.str z) else none) = _
        rw [if_neg (by rw [q1]; exact Bool.false_ne_true)]
    rintro H4 s4 e4
    have e5 : (kvs.filterMap fun kv => match kv.1 with | .inr z => if decide ((cs z).length = 1) = true then some (V.str z) else none | .inl _ => none) = ((keyStrs kvs).filter fun z => decide ((cs z).length = 1)).map V.str := singles kvs
    rw [e5] at e4
    have S4 : Same H (upd H4 a (.dK kvs)) := S2.trans (unlock a2 s4)
    refine ⟨s4 _ _ upd_same, _, _, rfl, .inl (SqL.of (by rw [upd_ne nDa]; exact e4)), _, _, rfl, rfl, _, rfl, ?_⟩
    have k4 := k _ S4
    have a4 : (upd H4 a (.dK kvs)) a = some (.dK kvs) := upd_same
    generalize upd H4 a (.dK kvs) = H5 at S4 k4 a4 ⊢
    clear e4 e5 s4 H4 hD nDa od D S2 k2 a2 H3
    rw [List.length_map]
    cases e6 : decide (((keyStrs kvs).filter fun z => decide ((cs z).length = 1)).length ≤ 4) with
    | false =>
      rw [e6] at k4
      refine itT (decide_eq_true (by have := of_decide_eq_false e6; omega)) ?_
      exact k4
    | true =>
    rw [e6] at k k4
    refine itF (decide_eq_false (by have := of_decide_eq_true e6; omega)) ?_
    -- each sign of each piece
    have fl := flat_len (zs := keyStrs kvs) fun z hz => (hp z hz).2.1
    refine ⟨a, _, a4, trivial, fun od => ?_⟩
    refine ⟨_, rfl, a, od, rfl, .inl ⟨kvs, upd_same, fun D hD => ?_⟩⟩
    have nDa := lock_ne hD
    refine lc2_ks (zs := keyStrs kvs) hk (fun c => .bl (valV kvs (Sum.inr (ch c))).isSome) upd_same hD (by omega) (fun _ => rfl) (fun _ _ => rfl) (fun _ => rfl) ?_ ?_
    · intro z hz c hc H6 s6 N hN
      exact ⟨_, rfl, _, rfl, a, _, rfl, Or.inl ⟨kvs, Sum.inr (ch c), Or.inr ⟨od, s6 _ _ upd_same⟩, rfl, rfl⟩, hN _ (Same.refl _)⟩
    rintro H6 s6 e7
    refine ⟨s6 _ _ upd_same, _, ((keyStrs kvs).map cs).flatten.map (fun c => (valV kvs (Sum.inr (ch c))).isSome), rfl, SqL.of (by rw [upd_ne nDa, e7, List.map_map]; rfl), ?_⟩
    rw [List.all_map]
    exact k _ (S4.trans (unlock a4 s6))
theorem sc_Book___init__ : FnScope ["self", "prices", "piece"] ["self", "prices"] (defScope s_Book___init__) := ⟨rfl, rfl, rfl, by decide +kernel, rfl, by decide +kernel, by decide +kernel⟩
theorem ok_Book___init__ {f : Addr} {fd : FuncData} (F : Fun K "__init__" "Book.__init__" s_Book___init__ f fd) (T : Txt K mg C) (c_are_prices : HasO P w K mg base CX0 4 "are_prices" ["value"] (spArePrices K)) : FnOk P w K mg base CX0 5 f fd ["self", "prices"] (spBook C K) := by
  refine F.ok sc_Book___init__ (fun vs H Q E h => ?_) (fun cdv A outer s H vs Q E hr h => ?_)
  · obtain ⟨b, dx, a, kvs, rfl, _⟩ := h
    rfl
  · have hu := hu_of hr
    obtain ⟨b, dx, a, kvs, rfl, hb, ha, ok, av, nd, k⟩ := h
    refine ⟨_, (pss_frz (pss_cons (ps_if (pt_not (pt_val (pe_hasO c_are_prices (hr.mono (by decide)) pass0 (pa_cons (pv 1) pa_nil)))) (pss_one ps_never) pss_nil)
      (pss_cons (ps_fld (pv 0) (pe_dc (own := [("piece", 2)]) rfl sc_Book___init__.nd (g_list K (pe_callB (g_sortedS K) (by rfl) T.b_sorted (by decide +kernel) (pa_cons (pe_callTy (call_listD rfl) (by rfl) T.b_list (by decide +kernel) (pa_cons (pv 1) pa_nil)) pa_nil))) (blkOk_by (own := [("piece", 2)]) (N := ["self", "prices", "piece"]) (sc := defScope s_Book___init__) (by decide +kernel)) (fun _ _ _ _ _ => (pg_name (i := 2) sc_Book___init__.nd rfl (Or.inl rfl))) (fun _ _ _ _ _ => pts_nil) (fun _ _ _ _ _ => (pv 2)) (fun _ _ _ _ _ => (pe_dget hu (pv 1) (pv 2) (fun _ _ => rfl)))) rfl)
      (pss_cons (ps_fld (pv 0) (pe_callTy (g_tuple_of K) (by rfl) T.b_tuple (by decide +kernel) (pa_cons (pe_callTy (call_listD rfl) (by rfl) T.b_list (by decide +kernel) (pa_cons (g_fld K (pv 0)) pa_nil)) pa_nil)) rfl)
      (pss_cons (ps_fld (pv 0) (pe_callTy (g_tuple_of K) (by rfl) T.b_tuple (by decide +kernel) (pa_cons (pe_lc (own := [("piece", 2)]) rfl sc_Book___init__.nd (g_tuple K (g_fld K (pv 0))) (blkOk_by (own := [("piece", 2)]) (N := ["self", "prices", "piece"]) (sc := defScope s_Book___init__) (by decide +kernel)) (fun _ _ _ _ _ => (pg_name (i := 2) sc_Book___init__.nd rfl (Or.inl rfl))) (fun _ _ _ _ _ => (pts_one (pt_cmpR op_eq (pe_callB call_len_str (by rfl) T.b_len (by decide +kernel) (pa_cons (pv 2) pa_nil)) pe_int (nomark _)))) (fun _ _ _ _ _ => (pv 2))) pa_nil)) rfl)
      (pss_cons (ps_fld (pv 0) (pe_callB (g_max K rfl) (by rfl) T.b_max (by decide +kernel) (pa_cons (pe_lc (own := [("piece", 2)]) rfl sc_Book___init__.nd (g_tuple K (g_fld K (pv 0))) (blkOk_by (own := [("piece", 2)]) (N := ["self", "prices", "piece"]) (sc := defScope s_Book___init__) (by decide +kernel)) (fun _ _ _ _ _ => (pg_name (i := 2) sc_Book___init__.nd rfl (Or.inl rfl))) (fun _ _ _ _ _ => pts_nil) (fun _ _ _ _ _ => (pe_callB call_len_str (by rfl) T.b_len (by decide +kernel) (pa_cons (pv 2) pa_nil)))) pa_nil)) rfl)
      (pss_one (ps_fld (pv 0) (pe_callB (g_max K rfl) (by rfl) T.b_max (by decide +kernel) (pa_cons (pe_callTy (call_listVw rfl) (by rfl) T.b_list (by decide +kernel) (pa_cons (g_bm0 K PySem.F.plainAttrs_dict PySem.F.slot_dict_values PySem.F.type_dict_values mt_values (g_fld K (pv 0))) pa_nil)) pa_nil)) rfl)))))))), ?_⟩
    obtain ⟨⟨n1, n2⟩, al, f4, fs⟩ := ap_parts av
    have nb : b ≠ a := fun e => by
      rw [e, ha] at hb
      cases hb
    refine ⟨_, rfl, _, rfl, .inr ⟨a, kvs, rfl, ha, by omega, ok, fun H1 s1 => ⟨_, congrArg V.bl av, ?_⟩⟩⟩
    have hk := keys_of al
    have hkV : (kvs.map fun kv => kV kv.1) = (keyStrs kvs).map V.str := by
      have h := congrArg (List.map kV) hk
      rw [List.map_map, List.map_map] at h
      exact h
    have ln : (keyStrs kvs).length = kvs.length := by
      have h := congrArg List.length hk
      rw [List.length_map, List.length_map] at h
      exact h.symm
    -- the prices
    refine ⟨_, rfl, a, kvs, rfl, .inl (s1 _ _ ha), fun p hp => ?_⟩
    refine ⟨p, keyStrs kvs, rfl, SqL.of (by rw [upd_same, hkV]), by omega, fun ys p2 pm so hp2 => ?_⟩
    refine ⟨p2, rfl, ⟨_, SqL.of upd_same⟩, fun D hD => ?_⟩
    have ly : ys.length = kvs.length := by rw [pm.length_eq, ln]
    have ndk : (keyStrs kvs).Nodup := by
      rw [hk] at nd
      exact nd_of_map nd
    have ndy : ys.Nodup := pm.nodup_iff.mpr ndk
    have s2 : Same H (upd (upd H1 p (.lst (kvs.map fun kv => kV kv.1))) p2 (.lst (ys.map V.str))) := (s1.trans (same_new hp)).trans (same_new hp2)
    have l2 : (upd (upd H1 p (.lst (kvs.map fun kv => kV kv.1))) p2 (.lst (ys.map V.str))) p2 = some (.lst (ys.map V.str)) := upd_same
    generalize (upd (upd H1 p (.lst (kvs.map fun kv => kV kv.1))) p2 (.lst (ys.map V.str))) = H2 at s2 l2 hD ⊢
    have nDb : D ≠ b := (ne_of_none (s2 _ _ hb) hD).symm
    have hDn := not_there s2 hD
    refine dcs ys (walk_listF (K := K) V.str ys) (fun z => (Sum.inr z, .int (priceIn kvs z))) (nd_map (f := fun z : Str => (Sum.inr z : Key)) (fun _ _ h => Sum.inr.inj h) ndy) hD (by omega) (fun H' s => SqL.of (s _ _ l2)) ?_ ?_
    · rintro i z x H3 H4 hi s3 ⟨rfl, z', ez, rfl⟩ N M hN
      have e1 : z = z' := Option.some.inj (hi.symm.trans ez)
      subst e1
      exact ⟨wipe_set, _, rfl, _, rfl, _, rfl, a, _, rfl, .inl ⟨kvs, Sum.inr z, .inl (s3 _ _ (s2 _ _ ha)), rfl, (price_of_key al (pm.mem_iff.mp (List.mem_of_getElem? hi))).1.symm⟩, hN _ (Same.refl _)⟩
    rintro H3 s3 e3
    have e3' : H3 D = some (.dK (kvOf (psOf kvs ys))) := by
      rw [e3]
      unfold kvOf psOf
      rw [List.map_map]
      rfl
    have b3 := s3 _ _ (s2 _ _ hb)
    have hps : (psOf kvs ys).map (fun p => V.str p.1) = ys.map V.str := by
      unfold psOf
      rw [List.map_map]
      rfl
    refine ⟨_, rfl, b, C, dx, [], rfl, b3, T.cl, T.n_own_prices, by decide, ?_⟩
    have k3 : Kp b H (upd H3 b (.ins C dx (putF "own_prices" (.ref D) []))) := (Kp.of (s2.trans s3)).trans Kp.upd
    have d3 : upd H3 b (.ins C dx (putF "own_prices" (.ref D) [])) D = some (.dK (kvOf (psOf kvs ys))) := by
      rw [upd_ne nDb]
      exact e3'
    have o3 : upd H3 b (.ins C dx (putF "own_prices" (.ref D) [])) b = some (.ins C dx [(("own_prices" : Str), .ref D)]) := upd_same
    generalize upd H3 b (.ins C dx (putF "own_prices" (.ref D) [])) = H4 at k3 d3 o3 ⊢
    clear e3 e3' b3 s3 s2 l2 hD
    -- the pieces
    refine ⟨_, rfl, b, C, dx, _, _, rfl, o3, T.cl, T.n_own_prices, lk_at, D, _, rfl, .inl d3, fun p3 hp3 => ?_⟩
    refine ⟨p3, _, rfl, .inl ⟨SqL.of upd_same, fun tp htp => ?_⟩⟩
    rw [kv_keys, hps] at htp ⊢
    have npb : p3 ≠ b := (ne_of_none o3 hp3).symm
    have ntb : tp ≠ b := (ne_of_none ((same_new hp3) _ _ o3) htp).symm
    have o4' := (same_new hp3 (o := .lst (ys.map V.str))).trans (same_new htp (o := .tup (ys.map V.str)))
    refine ⟨_, rfl, b, C, dx, _, rfl, o4' _ _ o3, T.cl, T.n_own_pieces, by simp, ?_⟩
    rw [pf2]
    have k4 := (k3.trans (.of o4')).trans (Kp.upd (o := .ins C dx [(("own_prices" : Str), .ref D), ("own_pieces", .ref tp)]))
    have d4 : (upd (upd (upd H4 p3 (.lst (ys.map V.str))) tp (.tup (ys.map V.str))) b (.ins C dx [(("own_prices" : Str), .ref D), ("own_pieces", .ref tp)])) D = some (.dK (kvOf (psOf kvs ys))) := by
      rw [upd_ne nDb]
      exact o4' _ _ d3
    have t4 : (upd (upd (upd H4 p3 (.lst (ys.map V.str))) tp (.tup (ys.map V.str))) b (.ins C dx [(("own_prices" : Str), .ref D), ("own_pieces", .ref tp)])) tp = some (.tup (ys.map V.str)) := by
      rw [upd_ne ntb]
      exact upd_same
    have o4 : (upd (upd (upd H4 p3 (.lst (ys.map V.str))) tp (.tup (ys.map V.str))) b (.ins C dx [(("own_prices" : Str), .ref D), ("own_pieces", .ref tp)])) b = some (.ins C dx [(("own_prices" : Str), .ref D), ("own_pieces", .ref tp)]) := upd_same
    generalize (upd (upd (upd H4 p3 (.lst (ys.map V.str))) tp (.tup (ys.map V.str))) b (.ins C dx [(("own_prices" : Str), .ref D), ("own_pieces", .ref tp)])) = H5 at k4 d4 t4 o4 ⊢
    clear o4' htp hp3 npb k3 d3 o3
    -- the alphabet
    refine ⟨_, rfl, b, C, dx, _, _, rfl, o4, T.cl, T.n_own_pieces, (lk_by (by decide +kernel)).trans lk_at, tp, rfl, ⟨_, SqT.of t4⟩, fun L hL => ?_⟩
    have nLb : L ≠ b := (ne_of_none o4 hL).symm
    refine lcs ys (walk_tupF (K := K) V.str ys) (fun z => if decide ((cs z).length = 1) = true then some (V.str z) else none) hL (by omega) (fun H' s => SqT.of (s _ _ t4)) ?_ ?_
    · rintro i z x H6 H7 hi s6 ⟨rfl, z', ez, rfl⟩ N M hN hM
      have e1 : z = z' := Option.some.inj (hi.symm.trans ez)
      subst e1
      have hz := (keyStrs_piece al z (pm.mem_iff.mp (List.mem_of_getElem? hi))).2.1
      refine ⟨wipe_set, _, rfl, _, rfl, fits_sz (by rw [← cs_len]; omega), rfl, _, rfl, ?_⟩
      rw [v_len_eq1]
      refine itB (fun q1 => ?_) (fun q1 => ?_)
      · exact ⟨_, rfl, hN _ _ (if_pos q1) (Same.refl _)⟩
      · exact hM _ (if_neg (by rw [q1]; exact Bool.false_ne_true)) (Same.refl _)
    rintro H6 s6 e6
    rw [sgn_fm kvs ys] at e6
    refine ⟨L, _, rfl, .inl ⟨SqL.of e6, fun ta hta => ?_⟩⟩
    have nab : ta ≠ b := (ne_of_none (s6 _ _ o4) hta).symm
    have o6 := s6.trans (same_new hta (o := .tup ((sgn (psOf kvs ys)).map V.str)))
    refine ⟨_, rfl, b, C, dx, _, rfl, o6 _ _ o4, T.cl, T.n_own_alphabet, by simp, ?_⟩
    rw [pf3]
    have k6 := (k4.trans (.of o6)).trans (Kp.upd (o := .ins C dx [(("own_prices" : Str), .ref D), ("own_pieces", .ref tp), ("own_alphabet", .ref ta)]))
    have d6 : (upd (upd H6 ta (.tup ((sgn (psOf kvs ys)).map V.str))) b (.ins C dx [(("own_prices" : Str), .ref D), ("own_pieces", .ref tp), ("own_alphabet", .ref ta)])) D = some (.dK (kvOf (psOf kvs ys))) := by
      rw [upd_ne nDb]
      exact o6 _ _ d4
    have t6 : (upd (upd H6 ta (.tup ((sgn (psOf kvs ys)).map V.str))) b (.ins C dx [(("own_prices" : Str), .ref D), ("own_pieces", .ref tp), ("own_alphabet", .ref ta)])) tp = some (.tup (ys.map V.str)) := by
      rw [upd_ne ntb]
      exact o6 _ _ t4
    have a6 : (upd (upd H6 ta (.tup ((sgn (psOf kvs ys)).map V.str))) b (.ins C dx [(("own_prices" : Str), .ref D), ("own_pieces", .ref tp), ("own_alphabet", .ref ta)])) ta = some (.tup ((sgn (psOf kvs ys)).map V.str)) := by
      rw [upd_ne nab]
      exact upd_same
    have o6' : (upd (upd H6 ta (.tup ((sgn (psOf kvs ys)).map V.str))) b (.ins C dx [(("own_prices" : Str), .ref D), ("own_pieces", .ref tp), ("own_alphabet", .ref ta)])) b = some (.ins C dx [(("own_prices" : Str), .ref D), ("own_pieces", .ref tp), ("own_alphabet", .ref ta)]) := upd_same
    generalize (upd (upd H6 ta (.tup ((sgn (psOf kvs ys)).map V.str))) b (.ins C dx [(("own_prices" : Str), .ref D), ("own_pieces", .ref tp), ("own_alphabet", .ref ta)])) = H7 at k6 d6 t6 a6 o6' ⊢
    clear o6 e6 s6 hta hL k4 d4 t4 o4
    -- the longest
    refine ⟨_, rfl, b, C, dx, _, _, rfl, o6', T.cl, T.n_own_pieces, (lk_by (by decide +kernel)).trans lk_at, tp, rfl, ⟨_, SqT.of t6⟩, fun L hL => ?_⟩
    refine lcs ys (walk_tupF (K := K) V.str ys) (fun z => some (V.int (z.length : Int))) hL (by omega) (fun H' s => SqT.of (s _ _ t6)) ?_ ?_
    · rintro i z x H8 H9 hi s8 ⟨rfl, z', ez, rfl⟩ N M hN hM
      have e1 : z = z' := Option.some.inj (hi.symm.trans ez)
      subst e1
      have hz := (keyStrs_piece al z (pm.mem_iff.mp (List.mem_of_getElem? hi))).2.1
      exact ⟨wipe_set, _, rfl, _, rfl, fits_sz (by rw [← cs_len]; omega), hN _ _ rfl (Same.refl _)⟩
    rintro H8 s8 e8
    have ll : (ys.filterMap fun z => some (V.int (z.length : Int))) = (lens (psOf kvs ys)).map V.int := by
      rw [fm_some]
      unfold lens psOf
      rw [List.map_map, List.map_map]
      rfl
    rw [ll] at e8
    refine ⟨L, _, rfl, SqL.of e8, by unfold lens psOf; rw [List.length_map, List.length_map]; omega, fun lo lo1 lo2 => ?_⟩
    refine ⟨_, rfl, b, C, dx, _, rfl, s8 _ _ o6', T.cl, T.n_own_longest, by simp, ?_⟩
    rw [pf4]
    have k8 := (k6.trans (.of s8)).trans (Kp.upd (o := .ins C dx [(("own_prices" : Str), .ref D), ("own_pieces", .ref tp), ("own_alphabet", .ref ta), ("own_longest", .int lo)]))
    have d8 : (upd H8 b (.ins C dx [(("own_prices" : Str), .ref D), ("own_pieces", .ref tp), ("own_alphabet", .ref ta), ("own_longest", .int lo)])) D = some (.dK (kvOf (psOf kvs ys))) := by
      rw [upd_ne nDb]
      exact s8 _ _ d6
    have t8 : (upd H8 b (.ins C dx [(("own_prices" : Str), .ref D), ("own_pieces", .ref tp), ("own_alphabet", .ref ta), ("own_longest", .int lo)])) tp = some (.tup (ys.map V.str)) := by
      rw [upd_ne ntb]
      exact s8 _ _ t6
    have a8 : (upd H8 b (.ins C dx [(("own_prices" : Str), .ref D), ("own_pieces", .ref tp), ("own_alphabet", .ref ta), ("own_longest", .int lo)])) ta = some (.tup ((sgn (psOf kvs ys)).map V.str)) := by
      rw [upd_ne nab]
      exact s8 _ _ a6
    have o8 : (upd H8 b (.ins C dx [(("own_prices" : Str), .ref D), ("own_pieces", .ref tp), ("own_alphabet", .ref ta), ("own_longest", .int lo)])) b = some (.ins C dx [(("own_prices" : Str), .ref D), ("own_pieces", .ref tp), ("own_alphabet", .ref ta), ("own_longest", .int lo)]) := upd_same
    generalize (upd H8 b (.ins C dx [(("own_prices" : Str), .ref D), ("own_pieces", .ref tp), ("own_alphabet", .ref ta), ("own_longest", .int lo)])) = H9 at k8 d8 t8 a8 o8 ⊢
    clear s8 e8 hL k6 d6 t6 a6 o6'
    have ntD : tp ≠ D := fun e => by
      rw [e, d8] at t8
      cases t8
    have naD : ta ≠ D := fun e => by
      rw [e, d8] at a8
      cases a8
    -- the dearest
    refine ⟨_, rfl, b, C, dx, _, _, rfl, o8, T.cl, T.n_own_prices, lk_at, .inr (.inr (.inl ⟨rfl, .inl ⟨_, d8⟩⟩)), D, _, rfl, rfl, .inl d8, fun r hr => ?_⟩
    refine ⟨r, D, _, rfl, upd_same, .inl (same_new hr _ _ d8), fun q hq => ?_⟩
    rw [kv_vals] at *
    refine ⟨q, _, rfl, SqL.of upd_same, by unfold fees psOf; rw [List.length_map, List.length_map]; omega, fun de de1 de2 => ?_⟩
    have s9 := (same_new hr (o := vwV D r)).trans (same_new hq (o := .lst ((fees (psOf kvs ys)).map V.int)))
    refine ⟨_, rfl, b, C, dx, _, rfl, s9 _ _ o8, T.cl, T.n_own_dearest, by simp, ?_⟩
    rw [pf5]
    have k9 := (k8.trans (.of s9)).trans (Kp.upd (o := .ins C dx (bookF D tp ta lo de)))
    refine ⟨D, _, (upd_ne nDb).trans (s9 _ _ d8), trivial, fun od => ?_⟩
    refine k _ ys lo de D tp ta od pm so ⟨?_, upd_same, ?_, ?_, ⟨lo1, lo2⟩, ⟨de1, de2⟩⟩ ?_
    · exact (upd_ne nDb.symm).trans upd_same
    · rw [upd_ne ntD, upd_ne ntb, hps]
      exact s9 _ _ t8
    · rw [upd_ne naD, upd_ne nab]
      exact s9 _ _ a8
    · intro c o e n
      rw [upd_ne (ne_of_none e hDn)]
      exact k9 _ _ e n
theorem sc_least_price : FnScope ["prices", "text", "found", "end", "start", "piece"] ["prices", "text"] (defScope s_least_price) := ⟨rfl, rfl, rfl, by decide +kernel, rfl, by decide +kernel, by decide +kernel⟩
theorem ok_least_price {f : Addr} {fd : FuncData} (F : Fun K "least_price" "least_price" s_least_price f fd) (T : Txt K mg C) : FnOk P w K mg base CX0 4 f fd ["prices", "text"] (spLeastPrice) := by
  refine F.ok sc_least_price (fun vs H Q E h => ?_) (fun cdv A outer s H vs Q E hr h => ?_)
  · obtain ⟨d, od, kvs, z, rfl, _⟩ := h
    rfl
  · have hu := hu_of hr
    obtain ⟨d, od, kvs, z, rfl, hd, tar, ov, hz, k⟩ := h
    refine ⟨_, (pss_cons (ps_set (i := 2) sc_least_price.nd rfl (Or.inr rfl) (pe_lst (pa_cons pe_int pa_nil)))
      (pss_cons (ps_for PassesOwn.never rfl (pi_range2 (by rfl) T.b_range (pa_cons pe_int (pa_cons (pe_op op_add (pe_callB call_len_str (by rfl) T.b_len (by decide +kernel) (pa_cons (pv 1) pa_nil)) pe_int) pa_nil))) (pg_name (i := 3) sc_least_price.nd rfl (Or.inr rfl)) (pss_cons (ps_set (i := 4) sc_least_price.nd rfl (Or.inr rfl) (pe_slice sl_str (pv 1) po_none (po_some (pv 3))))
      (pss_one (ps_expr (g_bm K PySem.F.plainAttrs_list PySem.F.slot_list_append PySem.F.type_list_append mt_append (pv 2) (pa_cons (pe_callB (g_min K rfl) (by rfl) T.b_min (by decide +kernel) (pa_cons (pe_lc (own := [("piece", 5)]) rfl sc_least_price.nd (pi_keys (pv 0)) (blkOk_by (own := [("piece", 5)]) (N := ["prices", "text", "found", "end", "start", "piece"]) (sc := defScope s_least_price) (by decide +kernel)) (fun _ _ _ _ _ => (pg_name (i := 5) sc_least_price.nd rfl (Or.inl rfl))) (fun _ _ _ _ _ => (pts_one (pt_val (pe_m1 PySem.F.slot_str_endswith PySem.F.type_str_endswith mt_endswith (pv 4) (pv 5))))) (fun _ _ _ _ _ => (pe_op op_add (pe_ix (g_ix_list K) (pv 2) (pe_op op_sub (pv 3) (pe_callB call_len_str (by rfl) T.b_len (by decide +kernel) (pa_cons (pv 5) pa_nil))) (fun _ _ => rfl)) (pe_dget hu (pv 0) (pv 5) (fun _ _ => rfl))))) pa_nil)) pa_nil))))))
      (pss_one (ps_ret (pe_ix (g_ix_list K) (pv 2) (pe_un un_neg pe_int) (fun _ _ => rfl)))))), ?_⟩
    have good := tar.good
    have lz := cs_len z
    refine ⟨(by show 1 ≤ sizeLine; decide), fun fo hfo => ?_⟩
    have nfd : d ≠ fo := ne_of_none hd hfo
    refine ⟨_, rfl, z, rfl, fits_sz (by omega), _, _, rfl, rfl, 1, _, rfl, ⟨by omega, by omega, by omega, by omega⟩, for_range (lo := 1) (Pv := fun i σ H' => ∃ u v w, σ = [some (.ref d), some (.str z), some (.ref fo), u, v, w] ∧ Same H H' ∧ H' fo = some (.lst (rowV (tfD kvs) (cs z) (i + 1))))
      ⟨_, _, _, rfl, same_new hfo, by rw [upd_same, rowV_one good]⟩ ?_ ?_⟩
    · rintro i σ H1 hi ⟨u, v, w, rfl, s1, f1⟩
      have hi' : i < z.length := by omega
      have d1 := s1 _ _ hd
      have e1 : (1 : Int) + (i : Int) = ((i + 1 : Nat) : Int) := by omega
      rw [e1]
      refine ⟨_, rfl, _, rfl, _, rfl, _, rfl, fits_sz (by omega), ?_⟩
      have hst : cs (cutS z none (some ((i + 1 : Nat) : Int))) = (cs z).take (i + 1) := cs_cutTo (by omega)
      have lst : (cutS z none (some ((i + 1 : Nat) : Int))).length = i + 1 := by
        rw [← cs_len, hst, List.length_take]
        omega
      dsimp only [gName]
      generalize cutS z none (some ((i + 1 : Nat) : Int)) = st at hst lst ⊢
      refine ⟨_, rfl, .inl ⟨rfl, _, SqL.of f1⟩, _, rfl, d, od, rfl, .inl ⟨kvs, d1, fun D hD => ?_⟩⟩
      refine lcs kvs walk_keys (fun kv => (candG (tfD kvs) (cs z) (i + 1) st kv).map V.int) hD (by have := tar.len; omega) (fun H' s => s _ _ d1) ?_ ?_
      · rintro j kv x H2 H3 hj s2 ⟨rfl, k', v', ek, rfl⟩ N M hN hM
        have ekv : kv = (k', v') := Option.some.inj (hj.symm.trans ek)
        subst ekv
        obtain ⟨y, p, ey, hp⟩ := tar.mem _ (List.mem_of_getElem? hj)
        cases ey
        have ly := good.len y p hp
        rw [cs_len] at ly
        refine ⟨wipe_set, _, rfl, ⟨_, rfl⟩, _, rfl, _, _, rfl, rfl, _, rfl, ?_⟩
        refine itB (fun q => ?_) (fun q => ?_)
        · obtain ⟨a, ha⟩ := ends_iff.mp q
          have la := congrArg List.length ha
          rw [List.length_append, cs_len, cs_len, lst] at la
          refine ⟨_, rfl, _, rfl, _, rfl, _, rfl, fits_sz (by omega), _, _, rfl, rfl, fo, _, _, _, rfl, rfl, SqL.of (s2 _ _ f1), at_of (j := i + 1 - y.length) (by omega) (rowV_at (by omega)), _, rfl, _, rfl, d, _, rfl, .inl ⟨kvs, Sum.inr y, .inr ⟨od, s2 _ _ d1⟩, rfl, (tf_some.mp hp).symm⟩, _, _, rfl, rfl, hN _ _ ?_ (Same.refl _)⟩
          show (if Txt.endswith st y = true then some (lp (tfD kvs) ((cs z).take (i + 1 - y.length)) + p) else none).map V.int = _
          rw [if_pos q]
          rfl
        · refine hM _ ?_ (Same.refl _)
          show (if Txt.endswith st y = true then some (lp (tfD kvs) ((cs z).take (i + 1 - y.length)) + p) else none).map V.int = _
          rw [if_neg (by rw [q]; exact Bool.false_ne_true)]
          rfl
      rintro H2 s2 e2
      rw [fm_int] at e2
      obtain ⟨pos, least⟩ := cand_min tar ov hst (by omega) (by omega)
      refine ⟨D, _, rfl, SqL.of e2, pos, fun m hm hl => ?_⟩
      have em := least m hm hl
      subst em
      refine ⟨fo, _, _, rfl, rfl, s2 _ _ f1, by rw [rowV_len]; exact small1000' (by omega), ?_⟩
      refine ⟨_, _, _, rfl, same_mut (s1.trans s2) hfo, ?_⟩
      rw [upd_same, rowV_succ (n := i + 1)]
    · rintro σ H1 ⟨u, v, w, rfl, s1, f1⟩
      have e1 : ((z.length : Int) + 1 - 1).toNat = z.length := by omega
      rw [e1] at f1
      refine ⟨_, rfl, _, rfl, fo, _, _, _, rfl, rfl, SqL.of f1, by rw [rowV_succ]; exact atI_last, ?_⟩
      have e2 : (cs z).take z.length = cs z := List.take_of_length_le (by omega)
      rw [e2]
      exact k _ s1
theorem sc_require_book : FnScope ["value"] ["value"] (defScope s_require_book) := ⟨rfl, rfl, rfl, by decide +kernel, rfl, by decide +kernel, by decide +kernel⟩
theorem ok_require_book {f : Addr} {fd : FuncData} (F : Fun K "require_book" "require_book" s_require_book f fd) (T : Txt K mg C) : FnOk P w K mg base CX0 1 f fd ["value"] (spReqBook C) := by
  refine F.ok sc_require_book (fun vs H Q E h => ?_) (fun cdv A outer s H vs Q E hr h => ?_)
  · obtain ⟨b, dx, fs, rfl, _⟩ := h
    rfl
  · have hu := hu_of hr
    obtain ⟨b, dx, fs, rfl, hb, k⟩ := h
    refine ⟨_, (pss_one (ps_if (pt_not (pt_val (pe_callB (C8.call_isC T.ic) (by rfl) T.b_isinstance (by decide +kernel) (pa_cons (pv 0) (pa_cons (pe_glob (v := .ref C) rfl T.gC rfl) pa_nil))))) (pss_one ps_never) pss_nil)), ?_⟩
    exact ⟨_, rfl, b, dx, fs, rfl, hb, true, rfl, k⟩
theorem sc_require_comparable : FnScope ["book", "other"] ["book", "other"] (defScope s_require_comparable) := ⟨rfl, rfl, rfl, by decide +kernel, rfl, by decide +kernel, by decide +kernel⟩
theorem ok_require_comparable {f : Addr} {fd : FuncData} (F : Fun K "require_comparable" "require_comparable" s_require_comparable f fd) (T : Txt K mg C) (c_require_book : HasO P w K mg base CX0 1 "require_book" ["value"] (spReqBook C)) : FnOk P w K mg base CX0 2 f fd ["book", "other"] (spReqCmp C) := by
  refine F.ok sc_require_comparable (fun vs H Q E h => ?_) (fun cdv A outer s H vs Q E hr h => ?_)
  · obtain ⟨k1, k2, ⟨b1, b2, rfl, _⟩, _⟩ := h
    rfl
  · have hu := hu_of hr
    obtain ⟨k1, k2, ⟨b1, b2, rfl, B1, B2, ss⟩, k⟩ := h
    obtain ⟨av1, nd1, ys1, L1, M1, dx1, d1, tp1, ta1, od1, pm1, so1, A1⟩ := id B1
    obtain ⟨av2, nd2, ys2, L2', M2, dx2, d2, tp2, ta2, od2, pm2, so2, A2⟩ := id B2
    obtain ⟨_, al1, _, _⟩ := ap_parts av1
    obtain ⟨_, al2, _, _⟩ := ap_parts av2
    refine ⟨_, (pss_cons (ps_expr (pe_hasO c_require_book (hr.mono (by decide)) pass0 (pa_cons (pv 0) pa_nil)))
      (pss_cons (ps_expr (pe_hasO c_require_book (hr.mono (by decide)) pass0 (pa_cons (pv 1) pa_nil)))
      (pss_one (ps_if (pt_cmpR (g_neD K hr.units) (g_fld K (pv 0)) (g_fld K (pv 1)) (nomark _)) (pss_one ps_never) pss_nil)))), ?_⟩
    have hsg := sgn_eq al1 al2 nd1 nd2 pm1 pm2 so1 so2 ss
    have hl : ∀ z ∈ sgn (psOf k2 ys2), ∀ c ∈ cs z, lett c = true := fun z hz => by
      rw [sgn_ps] at hz
      exact (keyStrs_piece al2 z (pm2.mem_iff.mp (List.mem_filter.mp hz).1)).2.2
    refine ⟨_, rfl, b1, dx1, _, rfl, A1.ob, ?_⟩
    refine ⟨_, rfl, b2, dx2, _, rfl, A2.ob, ?_⟩
    refine ⟨_, rfl, b1, C, dx1, _, _, rfl, A1.ob, T.cl, T.n_own_alphabet, bf_alphabet, _, rfl, b2, C, dx2, _, _, rfl, A2.ob, T.cl, T.n_own_alphabet, bf_alphabet, .tuple ((sgn (psOf k1 ys1)).map PyData.str), .tuple ((sgn (psOf k2 ys2)).map PyData.str), .tup (SqT.of A1.al) (dpAll_strs _), .tup (SqT.of A2.al) (dpAll_strs _), by rw [hsg]; exact shaped_strs hl, shaped_strs hl, ?_⟩
    refine ⟨false, congrArg V.bl (by rw [hsg, eqv_strs hl]; rfl), ?_⟩
    exact k _ (Same.refl _)
theorem sc_dearer_in : FnScope ["book", "other", "piece", "price"] ["book", "other"] (defScope s_dearer_in) := ⟨rfl, rfl, rfl, by decide +kernel, rfl, by decide +kernel, by decide +kernel⟩
theorem ok_dearer_in {f : Addr} {fd : FuncData} (F : Fun K "dearer_in" "dearer_in" s_dearer_in f fd) (T : Txt K mg C) (c_least_price : HasO P w K mg base CX0 4 "least_price" ["prices", "text"] (spLeastPrice)) : FnOk P w K mg base CX0 5 f fd ["book", "other"] (spDearer C) := by
  refine F.ok sc_dearer_in (fun vs H Q E h => ?_) (fun cdv A outer s H vs Q E hr h => ?_)
  · obtain ⟨k1, k2, ⟨b1, b2, rfl, _⟩, _⟩ := h
    rfl
  · have hu := hu_of hr
    obtain ⟨k1, k2, ⟨b1, b2, rfl, B1, B2, ss⟩, k⟩ := h
    obtain ⟨av1, nd1, ys1, L1, M1, dx1, d1, tp1, ta1, od1, pm1, so1, A1⟩ := id B1
    obtain ⟨av2, nd2, ys2, L2', M2, dx2, d2, tp2, ta2, od2, pm2, so2, A2⟩ := id B2
    obtain ⟨_, al1, _, _⟩ := ap_parts av1
    obtain ⟨_, al2, _, _⟩ := ap_parts av2
    refine ⟨_, (pss_cons (ps_for PassesOwn.never rfl (pi_items (g_fld K (pv 1))) (g_tup K (n := 2) rfl (pgs_cons (pg_name (i := 2) sc_dearer_in.nd rfl (Or.inl rfl)) (pgs_cons (pg_name (i := 3) sc_dearer_in.nd rfl (Or.inl rfl)) pgs_nil))) (pss_one (ps_if (pt_cmpR op_gt (pe_hasO c_least_price (hr.mono (by decide)) pass0 (pa_cons (g_fld K (pv 0)) (pa_cons (pv 2) pa_nil))) (pv 3) (nomark _)) (pss_one (ps_ret (pv 2))) pss_nil)))
      (pss_one (ps_ret pe_non))), ?_⟩
    have tar1 := tar_book av1 pm1
    have e1 := tf_psOf al1 pm1
    have tar2 := tar_of av2 nd2
    refine ⟨_, rfl, b2, C, dx2, _, _, rfl, A2.ob, T.cl, T.n_own_prices, bf_prices, d2, od2, kvOf (psOf k2 ys2), rfl, A2.dc, for_it walk_items (Pv := fun i σ H' => ∃ u v, σ = [some (.ref b1), some (.ref b2), u, v] ∧ Same H H' ∧ ∀ j z, j < i → ys2[j]? = some z → lp (tfD k1) (cs z) ≤ priceIn k2 z)
      ⟨_, _, rfl, Same.refl _, fun _ _ h => absurd h (Nat.not_lt_zero _)⟩ (fun i σ H' hi q => by obtain ⟨u, v, _, s, _⟩ := q; exact s _ _ A2.dc) ?_ ?_⟩
    · rintro i x σ H1 H2 hi ⟨u, v, rfl, s1, low⟩ ⟨Tt, xk, xv, rfl, hT, rfl, ek, ev⟩
      dsimp only at ek ev
      rw [kvOf_ps, List.getElem?_map] at ek ev
      obtain ⟨z, hz⟩ : ∃ z, ys2[i]? = some z := by
        cases e : ys2[i]? with
        | none =>
          rw [e] at ek
          cases ek
        | some z => exact ⟨z, rfl⟩
      rw [hz] at ek ev
      cases ek
      cases ev
      have hzk := pm2.mem_iff.mp (List.mem_of_getElem? hz)
      have hp : tfD k2 z = some (priceIn k2 z) := tf_some.mpr (price_of_key al2 hzk).1
      have ov : Over (tfD k1) (cs z) := fun c hc => (ss c).mpr (tar2.good.cov z _ hp c hc)
      have s2 : Same H (upd H1 Tt (.tup [kV (Sum.inr z), V.int (priceIn k2 z)])) := s1.trans (same_new hT)
      refine ⟨Tt, _, rfl, SqT.of upd_same, rfl, _, _, rfl, _, _, rfl, rfl, ?_⟩
      refine ⟨_, rfl, b1, C, dx1, _, _, rfl, s2 _ _ A1.ob, T.cl, T.n_own_prices, bf_prices, _, rfl, d1, od1, _, z, rfl, s2 _ _ A1.dc, tar1, by rw [e1]; exact ov, by have := (tar2.good.len z _ hp).2; rw [cs_len] at this; omega, fun H3 s3 => ?_⟩
      rw [e1]
      refine ⟨_, rfl, _, _, rfl, rfl, _, rfl, ?_⟩
      refine itB (fun q => ?_) (fun q => ?_)
      · refine ⟨_, rfl, k _ _ (s2.trans s3) (Or.inr ⟨z, _, rfl, hp, by have := of_decide_eq_true q; omega, fun z' p' hp' hlt => ?_⟩)⟩
        obtain ⟨j, hj⟩ := List.getElem?_of_mem (pm2.mem_iff.mpr ((tf_key al2).mpr ⟨p', hp'⟩))
        have ep : p' = priceIn k2 z' := by
          have h1 := (price_of_key al2 ((tf_key al2).mpr ⟨p', hp'⟩)).1
          rw [tf_some.mp hp'] at h1
          exact V.int.inj (Option.some.inj h1)
        rw [ep]
        refine low j z' ?_ hj
        rcases Nat.lt_trichotomy j i with h | h | h
        · exact h
        · subst h
          rw [hz] at hj
          cases hj
          exact absurd hlt (List.lt_irrefl _)
        · obtain ⟨l1, g1⟩ := List.getElem?_eq_some_iff.mp hz
          obtain ⟨l2, g2⟩ := List.getElem?_eq_some_iff.mp hj
          have h5 := List.pairwise_iff_getElem.mp (so_pw so2) i j l1 l2 h
          rw [g1, g2] at h5
          exact absurd hlt (List.not_lt.mpr h5)
      · refine ⟨_, _, rfl, s2.trans s3, fun j z' hj hz' => ?_⟩
        rcases Nat.lt_or_ge j i with h | h
        · exact low j z' h hz'
        · have ej : j = i := by omega
          subst ej
          rw [hz] at hz'
          cases hz'
          have := of_decide_eq_false q
          omega
    · rintro σ H1 ⟨u, v, rfl, s1, low⟩
      refine k _ _ s1 (Or.inl ⟨rfl, fun z p hp => ?_⟩)
      have hk := (tf_key al2).mpr ⟨p, hp⟩
      obtain ⟨j, hj⟩ := List.getElem?_of_mem (pm2.mem_iff.mpr hk)
      have h1 := (price_of_key al2 hk).1
      rw [tf_some.mp hp] at h1
      rw [V.int.inj (Option.some.inj h1)]
      refine low j z ?_ hj
      have := (List.getElem?_eq_some_iff.mp hj).1
      rw [kvOf_ps, List.length_map]
      exact this
theorem sc_is_nowhere_dearer : FnScope ["book", "other"] ["book", "other"] (defScope s_is_nowhere_dearer) := ⟨rfl, rfl, rfl, by decide +kernel, rfl, by decide +kernel, by decide +kernel⟩
theorem ok_is_nowhere_dearer {f : Addr} {fd : FuncData} (F : Fun K "is_nowhere_dearer" "is_nowhere_dearer" s_is_nowhere_dearer f fd) (T : Txt K mg C) (c_require_comparable : HasO P w K mg base CX0 2 "require_comparable" ["book", "other"] (spReqCmp C)) (c_dearer_in : HasO P w K mg base CX0 5 "dearer_in" ["book", "other"] (spDearer C)) : FnOk P w K mg base CX0 6 f fd ["book", "other"] (spNowhere C) := by
  refine F.ok sc_is_nowhere_dearer (fun vs H Q E h => ?_) (fun cdv A outer s H vs Q E hr h => ?_)
  · obtain ⟨k1, k2, ⟨b1, b2, rfl, _⟩, _⟩ := h
    rfl
  · have hu := hu_of hr
    obtain ⟨k1, k2, ⟨b1, b2, rfl, B1, B2, ss⟩, k⟩ := h
    refine ⟨_, (pss_cons (ps_expr (pe_hasO c_require_comparable (hr.mono (by decide)) pass0 (pa_cons (pv 0) (pa_cons (pv 1) pa_nil))))
      (pss_one (ps_ret (pe_cmpR op_isN (pe_hasO c_dearer_in (hr.mono (by decide)) pass0 (pa_cons (pv 0) (pa_cons (pv 1) pa_nil))) pe_non (nomark _))))), ?_⟩
    refine ⟨_, rfl, _, rfl, k1, k2, ⟨b1, b2, rfl, B1, B2, ss⟩, fun H1 s1 => ?_⟩
    refine ⟨_, rfl, _, rfl, k1, k2, ⟨b1, b2, rfl, B1.same s1, B2.same s1, ss⟩, fun r H2 s2 dr => ?_⟩
    exact ⟨rfl, k _ _ (s1.trans s2) (dear_non dr)⟩
theorem sc_dearer_piece : FnScope ["book", "other"] ["book", "other"] (defScope s_dearer_piece) := ⟨rfl, rfl, rfl, by decide +kernel, rfl, by decide +kernel, by decide +kernel⟩
theorem ok_dearer_piece {f : Addr} {fd : FuncData} (F : Fun K "dearer_piece" "dearer_piece" s_dearer_piece f fd) (T : Txt K mg C) (c_require_comparable : HasO P w K mg base CX0 2 "require_comparable" ["book", "other"] (spReqCmp C)) (c_dearer_in : HasO P w K mg base CX0 5 "dearer_in" ["book", "other"] (spDearer C)) : FnOk P w K mg base CX0 6 f fd ["book", "other"] (spDearer C) := by
  refine F.ok sc_dearer_piece (fun vs H Q E h => ?_) (fun cdv A outer s H vs Q E hr h => ?_)
  · obtain ⟨k1, k2, ⟨b1, b2, rfl, _⟩, _⟩ := h
    rfl
  · have hu := hu_of hr
    obtain ⟨k1, k2, ⟨b1, b2, rfl, B1, B2, ss⟩, k⟩ := h
    refine ⟨_, (pss_cons (ps_expr (pe_hasO c_require_comparable (hr.mono (by decide)) pass0 (pa_cons (pv 0) (pa_cons (pv 1) pa_nil))))
      (pss_one (ps_ret (pe_hasO c_dearer_in (hr.mono (by decide)) pass0 (pa_cons (pv 0) (pa_cons (pv 1) pa_nil)))))), ?_⟩
    refine ⟨_, rfl, _, rfl, k1, k2, ⟨b1, b2, rfl, B1, B2, ss⟩, fun H1 s1 => ?_⟩
    refine ⟨_, rfl, _, rfl, k1, k2, ⟨b1, b2, rfl, B1.same s1, B2.same s1, ss⟩, fun r H2 s2 dr => ?_⟩
    exact k _ _ (s1.trans s2) dr
theorem sc_are_as_cheap : FnScope ["book", "other"] ["book", "other"] (defScope s_are_as_cheap) := ⟨rfl, rfl, rfl, by decide +kernel, rfl, by decide +kernel, by decide +kernel⟩
theorem ok_are_as_cheap {f : Addr} {fd : FuncData} (F : Fun K "are_as_cheap" "are_as_cheap" s_are_as_cheap f fd) (T : Txt K mg C) (c_require_comparable : HasO P w K mg base CX0 2 "require_comparable" ["book", "other"] (spReqCmp C)) (c_dearer_in : HasO P w K mg base CX0 5 "dearer_in" ["book", "other"] (spDearer C)) : FnOk P w K mg base CX0 6 f fd ["book", "other"] (spAsCheap C) := by
  refine F.ok sc_are_as_cheap (fun vs H Q E h => ?_) (fun cdv A outer s H vs Q E hr h => ?_)
  · obtain ⟨k1, k2, ⟨b1, b2, rfl, _⟩, _⟩ := h
    rfl
  · have hu := hu_of hr
    obtain ⟨k1, k2, ⟨b1, b2, rfl, B1, B2, ss⟩, k⟩ := h
    refine ⟨_, (pss_cons (ps_expr (pe_hasO c_require_comparable (hr.mono (by decide)) pass0 (pa_cons (pv 0) (pa_cons (pv 1) pa_nil))))
      (pss_one (ps_ret (pe_and (pe_cmpR op_isN (pe_hasO c_dearer_in (hr.mono (by decide)) pass0 (pa_cons (pv 0) (pa_cons (pv 1) pa_nil))) pe_non (nomark _)) (pe_one (pe_cmpR op_isN (pe_hasO c_dearer_in (hr.mono (by decide)) pass0 (pa_cons (pv 1) (pa_cons (pv 0) pa_nil))) pe_non (nomark _))))))), ?_⟩
    refine ⟨_, rfl, _, rfl, k1, k2, ⟨b1, b2, rfl, B1, B2, ss⟩, fun H1 s1 => ?_⟩
    refine ⟨_, rfl, _, rfl, k1, k2, ⟨b1, b2, rfl, B1.same s1, B2.same s1, ss⟩, fun r H2 s2 dr => ?_⟩
    refine ⟨rfl, _, rfl, ?_⟩
    have n1 := dear_non dr
    refine itB (fun q => ?_) (fun q => ?_)
    · refine ⟨_, rfl, _, rfl, k2, k1, ⟨b2, b1, rfl, (B2.same s1).same s2, (B1.same s1).same s2, ss.symm⟩, fun r' H3 s3 dr' => ?_⟩
      refine ⟨rfl, k _ _ (s1.trans (s2.trans s3)) ?_⟩
      rw [dear_non dr']
      exact ⟨fun h => ⟨n1.mp q, h⟩, fun h => h.2⟩
    · refine k _ _ (s1.trans s2) ?_
      have no : ¬ NoDear (tfD k1) (tfD k2) := fun h => absurd ((n1.mpr h).symm.trans q) (by decide)
      exact ⟨fun h => absurd h (by decide), fun h => absurd h.1 no⟩
theorem sc__law_dice : FnScope ["script", "spot", "cell", "whole"] ["script", "spot"] (defScope s__law_dice) := ⟨rfl, rfl, rfl, by decide +kernel, rfl, by decide +kernel, by decide +kernel⟩
theorem ok__law_dice {f : Addr} {fd : FuncData} (F : Fun K "_law_dice" "_law_dice" s__law_dice f fd) (T : Txt K mg C) : FnG P w K mg base CX0 1 f fd ["script", "spot"] (spDice K) := by
  refine fn_g0 F sc__law_dice (fun vs H Q E h => ?_) (fun cdv A outer s H vs Q E hg hr h => ?_)
  · obtain ⟨a, ns, s, rfl, _⟩ := h
    rfl
  · have hu := hu_of hr
    obtain ⟨a, ns, s, rfl, hS, hn, hs0, hs1, k⟩ := h
    refine ⟨_, (pss_cons (ps_set (i := 2) sc__law_dice.nd rfl (Or.inl rfl) (pe_ifExp (pt_cmpR op_lt (pv 1) (pe_callB (g_len_seq K) (by rfl) T.b_len (by decide +kernel) (pa_cons (pv 0) pa_nil)) (nomark _)) (pe_ix (g_ix_list K) (pv 0) (pv 1) (fun _ _ => rfl)) (pe_op op_add (pe_op op_mulW pe_int (pv 1)) pe_int)))
      (pss_cons (ps_set (i := 3) sc__law_dice.nd rfl (Or.inl rfl) (pe_op op_mod (pe_callTy call_int1 (by rfl) T.b_int (by decide +kernel) (pa_cons (pe_callB call_abs (by rfl) T.b_abs (by decide +kernel) (pa_cons (pv 2) pa_nil)) pa_nil)) (pe_op op_powW (pe_op op_powW pe_int pe_int) pe_int)))
      (pss_one (ps_ret (pe_lst (pa_cons (pe_ifExp (pt_cmpR op_ge (pv 3) (pe_op op_powW pe_int pe_int) (nomark _)) (pv 3) pe_int) (pa_cons (pe_op op_add (pe_op op_add (pe_op op_add (pe_op op_mulW pe_int (pv 3)) (pe_callTy call_int1 (by rfl) T.b_int (by decide +kernel) (pa_cons (pe_cmpR op_lt (pv 2) pe_int (nomark _)) pa_nil))) (pe_op op_mulW pe_int (pv 1))) pe_int) (pa_cons pe_int pa_nil)))))))), ?_⟩
    refine tif_int (c := decide (s < ((ns.map V.int).length : Int))) (fun _ => True) (fun N hN => ?_) (fun e N hN => ?_) (fun e N hN => ?_) (fun cell _ => ?_)
    · exact ⟨_, rfl, _, rfl, _, _, rfl, .inl hS, _, _, rfl, rfl, _, rfl, hN⟩
    · have e1 : s.toNat < ns.length := by
        have := of_decide_eq_true e
        rw [List.length_map] at this
        omega
      refine ⟨_, rfl, _, rfl, _, _, _, _, rfl, rfl, hS, at_of (j := s.toNat) (by omega) (by rw [List.getElem?_map, List.getElem?_eq_getElem e1]; rfl), ?_⟩
      exact hN _ trivial
    · refine ⟨_, rfl, _, _, rfl, rfl, wide_mul (a := 8) (b := 8) (by decide) (by omega) (by decide) (by decide) (by decide), _, _, rfl, rfl, ?_⟩
      exact hN _ trivial
    · -- whole
      refine ⟨_, rfl, _, rfl, .inl ⟨_, rfl, _, _, rfl, rfl, ⟨by decide, by decide +kernel⟩, _, _, rfl, rfl, ⟨by decide, by decide +kernel⟩, _, _, rfl, rfl, (show (0 : Int) < ((10 : Int) ^ (57 : Int).toNat) ^ (11 : Int).toNat by decide +kernel), ?_⟩⟩
      have wb := big_mod (x := if cell < 0 then -cell else cell) (m := ((10 : Int) ^ (57 : Int).toNat) ^ (11 : Int).toNat) (by decide +kernel) (by decide +kernel)
      dsimp only [gName, tRet, tLst, tCons]
      generalize (if cell < 0 then -cell else cell) % ((10 : Int) ^ (57 : Int).toNat) ^ (11 : Int).toNat = whole at wb ⊢
      obtain ⟨w0, w1⟩ := wb
      refine tif_int (c := decide ((10 : Int) ^ (18 : Int).toNat ≤ whole)) Big (fun N hN => ?_) (fun e N hN => ?_) (fun e N hN => ?_) (fun d0 b0 => ?_)
      · exact ⟨_, rfl, _, _, rfl, rfl, ⟨by decide, by decide +kernel⟩, _, _, rfl, rfl, _, rfl, hN⟩
      · exact ⟨_, rfl, hN _ (big_of w0 w1)⟩
      · exact hN _ big_zero
      refine ⟨_, rfl, _, _, rfl, rfl, wide_mul (a := 2) (b := 2100) (by decide) w1 (by decide) (by decide) (by decide), _, rfl, _, _, rfl, rfl, .inr ⟨_, rfl, _, _, rfl, rfl, ?_⟩⟩
      refine ⟨_, rfl, _, _, rfl, rfl, wide_mul (a := 20) (b := 8) (by decide) (by omega) (by decide) (by decide) (by decide), _, _, rfl, rfl, _, _, rfl, rfl, ?_⟩
      refine ⟨(by show 3 ≤ sizeLine; decide), fun p hp => ?_⟩
      refine k p _ hp (same_new hp) ⟨_, _, _, upd_same, b0, big_seed w0 w1 ?_ ⟨hs0, by omega⟩, Int.le_refl _, by omega⟩
      by_cases hc : cell < 0
      · rw [decide_eq_true hc]; exact ⟨by decide, by decide⟩
      · rw [decide_eq_false hc]; exact ⟨by decide, by decide⟩
theorem sc__law_roll : FnScope ["dice", "upto", "found", "one", "two"] ["dice", "upto"] (defScope s__law_roll) := ⟨rfl, rfl, rfl, by decide +kernel, rfl, by decide +kernel, by decide +kernel⟩
theorem ok__law_roll {f : Addr} {fd : FuncData} (F : Fun K "_law_roll" "_law_roll" s__law_roll f fd) (T : Txt K mg C) : FnG P w K mg base CX0 1 f fd ["dice", "upto"] (spRoll) := by
  refine fn_g0 F sc__law_roll (fun vs H Q E h => ?_) (fun cdv A outer s H vs Q E hg hr h => ?_)
  · obtain ⟨l, u, n, rfl, _⟩ := h
    rfl
  · have hu := hu_of hr
    obtain ⟨l, u, n, rfl, hu0, hu1, ⟨d0, d1, d2, hD, b0, b1, p2, q2⟩, k⟩ := h
    refine ⟨_, (pss_cons (ps_if (pt_cmpR op_gt (pe_ix (g_ix_list K) (pv 0) pe_int (fun _ _ => rfl)) pe_int (nomark _)) (pss_cons (ps_set (i := 2) sc__law_roll.nd rfl (Or.inl rfl) (pe_op op_mod (pe_callTy call_int1 (by rfl) T.b_int (by decide +kernel) (pa_cons (pe_ix (g_ix_list K) (pv 0) pe_int (fun _ _ => rfl)) pa_nil)) (pv 1)))
      (pss_cons (ps_asg (pe_op op_fdivW (pe_ix (g_ix_list K) (pv 0) pe_int (fun _ _ => rfl)) (pv 1)) (pg_sub (pv 0) pe_int set_list))
      (pss_one (ps_ret (pv 2))))) pss_nil)
      (pss_cons (ps_asg (pe_op op_add (pe_ix (g_ix_list K) (pv 0) pe_int (fun _ _ => rfl)) pe_int) (pg_sub (pv 0) pe_int set_list))
      (pss_cons (ps_set (i := 3) sc__law_roll.nd rfl (Or.inl rfl) (pe_op op_mod (pe_callTy call_int1 (by rfl) T.b_int (by decide +kernel) (pa_cons (pe_op op_add (pe_op op_mulW (pe_ix (g_ix_list K) (pv 0) pe_int (fun _ _ => rfl)) pe_int) (pe_op op_mulW (pe_ix (g_ix_list K) (pv 0) pe_int (fun _ _ => rfl)) pe_int)) pa_nil)) pe_int))
      (pss_cons (ps_set (i := 4) sc__law_roll.nd rfl (Or.inl rfl) (pe_op op_mod (pe_callTy call_int1 (by rfl) T.b_int (by decide +kernel) (pa_cons (pe_op op_add (pe_op op_mulW (pv 3) (pv 3)) (pe_op op_mulW (pe_ix (g_ix_list K) (pv 0) pe_int (fun _ _ => rfl)) pe_int)) pa_nil)) pe_int))
      (pss_one (ps_ret (pe_op op_mod (pe_callTy call_int1 (by rfl) T.b_int (by decide +kernel) (pa_cons (pe_op op_fdivW (pe_op op_mod (pe_callTy call_int1 (by rfl) T.b_int (by decide +kernel) (pa_cons (pe_op op_add (pe_op op_mulW (pv 4) (pv 4)) (pv 3)) pa_nil)) pe_int) pe_int) pa_nil)) (pv 1)))))))), ?_⟩
    refine ⟨_, rfl, _, _, _, _, rfl, rfl, SqL.of hD, rfl, _, _, rfl, rfl, _, rfl, ?_⟩
    have u0 : 0 < u := by omega
    refine itB (fun e => ?_) (fun e => ?_)
    · refine ⟨_, rfl, _, _, _, _, rfl, rfl, SqL.of hD, rfl, .inl ⟨_, rfl, _, rfl, _, _, rfl, rfl, u0, ?_⟩⟩
      refine ⟨_, rfl, _, _, _, _, rfl, rfl, SqL.of hD, rfl, _, rfl, _, _, rfl, rfl, wide_div (b := 64) u0 (by omega) (by decide) (by decide), ?_⟩
      refine ⟨_, rfl, _, _, _, _, rfl, rfl, hD, rfl, ?_⟩
      refine ⟨_, rfl, ?_⟩
      exact k _ _ (Int.emod_nonneg _ (by omega)) (Int.emod_lt_of_pos _ u0) Kp.upd ⟨_, _, _, upd_same, big_div b0 hu0, b1, p2, by omega⟩
    · refine ⟨_, rfl, _, _, _, _, rfl, rfl, SqL.of hD, rfl, _, _, rfl, rfl, _, rfl, _, _, _, _, rfl, rfl, hD, rfl, ?_⟩
      have hD2 : upd H l (.lst [.int d0, .int d1, .int (d2 + 1)]) l = some (.lst [.int d0, .int d1, .int (d2 + 1)]) := upd_same
      refine ⟨_, rfl, _, _, _, _, rfl, rfl, SqL.of hD2, rfl, _, _, rfl, rfl, wide_mul (a := 2200) (b := 40) b1.2 (by decide) (by decide) (by decide) (by decide), ?_⟩
      refine ⟨_, rfl, _, _, _, _, rfl, rfl, SqL.of hD2, rfl, _, _, rfl, rfl, wide_mul (a := 64) (b := 40) (by omega) (by decide) (by decide) (by decide) (by decide), _, _, rfl, rfl, .inl ⟨_, rfl, _, _, rfl, rfl, (show (0 : Int) < 2305843009213693951 by decide), ?_⟩⟩
      have o1 := Int.emod_nonneg (d1 * 25214903917 + (d2 + 1) * 40692) (by decide : (2305843009213693951 : Int) ≠ 0)
      have o2 := Int.emod_lt_of_pos (d1 * 25214903917 + (d2 + 1) * 40692) (by decide : (0 : Int) < 2305843009213693951)
      dsimp only
      generalize (d1 * 25214903917 + (d2 + 1) * 40692) % 2305843009213693951 = one' at o1 o2 ⊢
      refine ⟨_, rfl, _, rfl, _, _, rfl, rfl, wide_mul (a := 64) (b := 64) (by omega) (by omega) (by decide) (by decide) (by decide), ?_⟩
      refine ⟨_, rfl, _, _, _, _, rfl, rfl, SqL.of hD2, rfl, _, _, rfl, rfl, wide_mul (a := 64) (b := 40) (by omega) (by decide) (by decide) (by decide) (by decide), _, _, rfl, rfl, .inl ⟨_, rfl, _, _, rfl, rfl, (show (0 : Int) < 1152921504606846883 by decide), ?_⟩⟩
      have t1 := Int.emod_nonneg (one' * one' + (d2 + 1) * 69621) (by decide : (1152921504606846883 : Int) ≠ 0)
      have t2 := Int.emod_lt_of_pos (one' * one' + (d2 + 1) * 69621) (by decide : (0 : Int) < 1152921504606846883)
      dsimp only
      generalize (one' * one' + (d2 + 1) * 69621) % 1152921504606846883 = two' at t1 t2 ⊢
      refine ⟨_, rfl, _, rfl, _, _, rfl, rfl, wide_mul (a := 64) (b := 64) (by omega) (by omega) (by decide) (by decide) (by decide), _, rfl, _, _, rfl, rfl, .inl ⟨_, rfl, ?_⟩⟩
      refine ⟨_, _, rfl, rfl, (show (0 : Int) < 4398046511093 by decide), _, _, rfl, rfl, wide_div (b := 64) (by decide) (by decide) (by decide) (by decide), .inl ⟨_, rfl, _, rfl, _, _, rfl, rfl, u0, ?_⟩⟩
      exact k _ _ (Int.emod_nonneg _ (by omega)) (Int.emod_lt_of_pos _ u0) Kp.upd ⟨_, _, _, hD2, b0, b1, by omega, by omega⟩
theorem sc__law_pick : FnScope ["dice", "items"] ["dice", "items"] (defScope s__law_pick) := ⟨rfl, rfl, rfl, by decide +kernel, rfl, by decide +kernel, by decide +kernel⟩
theorem ok__law_pick {f : Addr} {fd : FuncData} (F : Fun K "_law_pick" "_law_pick" s__law_pick f fd) (T : Txt K mg C) (c__law_roll : Has P w K mg base CX0 1 "_law_roll" ["dice", "upto"] (spRoll)) : FnG P w K mg base CX0 2 f fd ["dice", "items"] (spPick K) := by
  refine fn_g0 F sc__law_pick (fun vs H Q E h => ?_) (fun cdv A outer s H vs Q E hg hr h => ?_)
  · obtain ⟨l, x, ys, n, rfl, _⟩ := h
    rfl
  · have hu := hu_of hr
    obtain ⟨l, x, ys, n, rfl, S, ne, hl, D, k⟩ := h
    have hpos : 0 < ys.length := List.length_pos_iff.mpr ne
    refine ⟨_, (pss_one (ps_ret (pe_ix (g_ix_seq K) (pv 1) (pe_has c__law_roll hg (hr.mono (by decide)) pass0 (pa_cons (pv 0) (pa_cons (pe_callB (g_len K) (by rfl) T.b_len (by decide +kernel) (pa_cons (pv 1) pa_nil)) pa_nil))) (fun _ _ => rfl)))), ?_⟩
    have hlen : LenV K x H ys.length := by
      cases S with
      | lst _ h => exact .inl ⟨_, h, rfl⟩
      | tup _ h => exact .inr ⟨_, h, rfl⟩
      | str h e => exact ⟨fits_sz (by omega), by rw [e, signsV_len]⟩
    refine ⟨_, rfl, _, rfl, _, rfl, _, _, rfl, hlen, l, _, n, rfl, by omega, by omega, D, fun r H' r0 r1 kp D' => ?_⟩
    have hr1 : r.toNat < ys.length := by omega
    have hat : ys[r.toNat]? = some ys[r.toNat] := List.getElem?_eq_getElem hr1
    have hmem : ys[r.toNat] ∈ ys := List.getElem_mem hr1
    cases S with
    | lst n h => exact .inl ⟨_, _, _, _, rfl, rfl, kp.seq n h, at_of (j := r.toNat) (by omega) hat, k _ _ hmem kp D'⟩
    | tup n h => exact .inr (.inl ⟨_, _, _, _, rfl, rfl, kp.tup n h, at_of (j := r.toNat) (by omega) hat, k _ _ hmem kp D'⟩)
    | @str z _ h e =>
      subst e
      have hc : ∃ c, (cs z)[r.toNat]? = some c := ⟨_, List.getElem?_eq_getElem (by rw [cs_len, ← signsV_len]; exact hr1)⟩
      obtain ⟨c, hc⟩ := hc
      have e2 : atI (cs z) r = some c := by
        have : r = ((r.toNat : Nat) : Int) := by omega
        rw [this]
        exact atI_nat hc
      refine .inr (.inr ⟨_, _, _, rfl, rfl, fits_sz (by omega), e2, ?_⟩)
      refine k _ _ ?_ kp D'
      unfold signsV
      exact List.mem_map.mpr ⟨c, List.mem_of_getElem? hc, rfl⟩
theorem sc__law_letters : FnScope ["dice", "signs", "many", "turn"] ["dice", "signs", "many"] (defScope s__law_letters) := ⟨rfl, rfl, rfl, by decide +kernel, rfl, by decide +kernel, by decide +kernel⟩
theorem ok__law_letters {f : Addr} {fd : FuncData} (F : Fun K "_law_letters" "_law_letters" s__law_letters f fd) (T : Txt K mg C) (c__law_pick : Has P w K mg base CX0 2 "_law_pick" ["dice", "items"] (spPick K)) : FnG P w K mg base CX0 3 f fd ["dice", "signs", "many"] (spLetters K) := by
  refine fn_g0 F sc__law_letters (fun vs H Q E h => ?_) (fun cdv A outer s H vs Q E hg hr h => ?_)
  · obtain ⟨l, x, cl, m, n, rfl, _⟩ := h
    rfl
  · have hu := hu_of hr
    obtain ⟨l, x, cl, m, n, rfl, S, ne, hl, hm, D, k⟩ := h
    refine ⟨_, (pss_one (ps_ret (g_join K pe_str (pe_lc (own := [("turn", 3)]) rfl sc__law_letters.nd (pi_range1 (by rfl) T.b_range (pa_cons (pv 2) pa_nil)) (blkOk_by (own := [("turn", 3)]) (N := ["dice", "signs", "many", "turn"]) (sc := defScope s__law_letters) (by decide +kernel)) (fun _ _ _ _ _ => (pg_name (i := 3) sc__law_letters.nd rfl (Or.inl rfl))) (fun _ _ _ _ _ => pts_nil) (fun _ _ _ _ _ => (pe_has c__law_pick hg (hr.mono (by decide)) pass0 (pa_cons (pv 0) (pa_cons (pv 1) pa_nil)))))))), ?_⟩
    refine ⟨⟨_, rfl⟩, _, rfl, _, rfl, by omega, by omega, fun p hp => ?_⟩
    have npl : p ≠ l := D.ne hp
    refine lc_range (fun i H' => ∃ zs : List Nat, zs.length = i ∧ (∀ c ∈ zs, c ∈ cl) ∧ H' p = some (.lst (zs.map chV)) ∧ Kp l H H' ∧ Dice H' l (n + (m - i)) ∧ i ≤ m)
      ⟨[], rfl, fun _ z => (List.not_mem_nil z).elim, upd_same, (Kp.refl _ _).new hp, D.upd npl, Nat.zero_le _⟩ ?_ ?_
    · rintro i H' hi ⟨zs, e1, e2, e3, kp, D', hi2⟩
      have e6 : Int.toNat (m : Int) = m := by omega
      rw [e6] at hi
      refine ⟨rfl, _, rfl, _, rfl, l, x, cl.map chV, n + (m - (i + 1)), rfl, S.kp kp, by simpa using ne, by simpa using hl, D'.le (by omega), fun y H2 hy kp2 D2 => ?_⟩
      obtain ⟨c, hc, rfl⟩ := List.mem_map.mp hy
      refine ⟨_, kp2 _ _ e3 npl, by rw [List.length_map]; exact Nat.lt_of_le_of_lt (by omega : zs.length ≤ 10000) (by decide), zs ++ [c], ?_, ?_, ?_, ?_, ?_, by omega⟩
      · rw [List.length_append, e1]
        rfl
      · intro d hd
        rcases List.mem_append.mp hd with hd | hd
        · exact e2 d hd
        · rw [List.mem_singleton.mp hd]
          exact hc
      · rw [upd_same, List.map_append]
        rfl
      · exact (kp.trans kp2).mut hp
      · exact D2.upd npl
    · rintro H' ⟨zs, e1, e2, e3, kp, D', hi2⟩
      have e6 : Int.toNat (m : Int) = m := by omega
      rw [e6] at e1 D'
      refine ⟨_, p, zs.map ch, rfl, rfl, .inl (SqL.of (by rw [e3, List.map_map]; rfl)), ?_, ?_⟩
      · rw [sum_ch, List.length_map]
        show zs.length + zs.length * 0 ≤ _
        omega
      · rw [join_ch]
        exact k zs H' e1 e2 kp (D'.le (by omega))
theorem sc__law_some : FnScope ["dice", "items", "many", "left", "found", "turn"] ["dice", "items", "many"] (defScope s__law_some) := ⟨rfl, rfl, rfl, by decide +kernel, rfl, by decide +kernel, by decide +kernel⟩
theorem ok__law_some {f : Addr} {fd : FuncData} (F : Fun K "_law_some" "_law_some" s__law_some f fd) (T : Txt K mg C) (c__law_roll : Has P w K mg base CX0 1 "_law_roll" ["dice", "upto"] (spRoll)) : FnG P w K mg base CX0 2 f fd ["dice", "items", "many"] (spSome K) := by
  refine fn_g0 F sc__law_some (fun vs H Q E h => ?_) (fun cdv A outer s H vs Q E hg hr h => ?_)
  · obtain ⟨l, x, ys, m, n, rfl, _⟩ := h
    rfl
  · have hu := hu_of hr
    obtain ⟨l, x, ys, m, n, rfl, S, hl, hm, D, k⟩ := h
    refine ⟨_, (pss_cons (ps_par (i := 3) (j := 4) (by rfl) sc__law_some.nd rfl rfl (by decide) rfl rfl (pa_cons (pe_callTy (g_list_any K rfl) (by rfl) T.b_list (by decide +kernel) (pa_cons (pv 1) pa_nil)) (pa_cons (pe_lst pa_nil) pa_nil)) (by rfl))
      (pss_cons (ps_for PassesOwn.never rfl (pi_range1 (by rfl) T.b_range (pa_cons (pe_callB (call_min2 rfl) (by rfl) T.b_min (by decide +kernel) (pa_cons (pv 2) (pa_cons (pe_callB (g_len_seq K) (by rfl) T.b_len (by decide +kernel) (pa_cons (pv 3) pa_nil)) pa_nil))) pa_nil)) (pg_name (i := 5) sc__law_some.nd rfl (Or.inl rfl)) (pss_one (ps_expr (g_bm K PySem.F.plainAttrs_list PySem.F.slot_list_append PySem.F.type_list_append mt_append (pv 4) (pa_cons (g_bm K PySem.F.plainAttrs_list PySem.F.slot_list_pop PySem.F.type_list_pop mt_popAt (pv 3) (pa_cons (pe_has c__law_roll hg (hr.mono (by decide)) pass0 (pa_cons (pv 0) (pa_cons (pe_callB (g_len_seq K) (by rfl) T.b_len (by decide +kernel) (pa_cons (pv 3) pa_nil)) pa_nil))) pa_nil)) pa_nil)))))
      (pss_one (ps_ret (pv 4))))), ?_⟩
    have hL : ∀ (Q : VK), (∀ p, H p = none → Q (.ref p) (upd H p (.lst ys))) → rListAny K [x] H Q := by
      intro Q q
      cases S with
      | lst _ h => exact .inr ⟨_, _, rfl, .inl h, q⟩
      | tup _ h => exact .inr ⟨_, _, rfl, .inr h, q⟩
      | str h e =>
        subst e
        exact .inl ⟨_, rfl, fits_sz (by omega), q⟩
    refine ⟨_, rfl, hL _ fun lf hlf => ?_⟩
    refine ⟨by show 0 ≤ sizeLine; decide, fun fo hfo => ?_⟩
    have nlf : lf ≠ l := D.ne hlf
    have nfo : fo ≠ l := (D.new hlf).ne hfo
    have nff : lf ≠ fo := ne_of_none upd_same hfo
    have hfo0 : H fo = none := (same_new hlf).free hfo
    refine ⟨_, _, rfl, ?_⟩
    have hlen : (if (ys.length : Int) < (m : Int) then (ys.length : Int) else (m : Int)) = ((min m ys.length : Nat) : Int) := by split <;> omega
    refine ⟨_, rfl, _, rfl, lf, _, rfl, .inl (SqL.of (by rw [upd_ne nff]; exact upd_same)), _, _, rfl, _, congrArg (fun i => [V.int i]) hlen, by omega, by omega, ?_⟩
    rw [Int.toNat_natCast]
    refine for_range (lo := 0) (n := min m ys.length) (fun i σ H' => ∃ t zs rest, σ = [some (.ref l), some x, some (.int (m : Int)), some (.ref lf), some (.ref fo), t] ∧ (zs ++ rest).Perm ys ∧ zs.length = i ∧ H' lf = some (.lst rest) ∧ H' fo = some (.lst zs) ∧ Kp l H H' ∧ Dice H' l (n + (m - i)))
      ⟨_, [], ys, rfl, List.Perm.refl _, rfl, by rw [upd_ne nff]; exact upd_same, upd_same, ((Kp.refl _ _).new hlf).new hfo, (D.new hlf).new hfo⟩ ?_ ?_
    · rintro i σ H1 hi ⟨t, zs, rest, rfl, pm, zl, e1, e2, kp, D1⟩
      have lrest : rest.length + i = ys.length := by
        have := pm.length_eq
        rw [List.length_append, zl] at this
        omega
      refine ⟨_, rfl, .inl ⟨rfl, _, SqL.of e2⟩, _, rfl, .inl ⟨rfl, _, SqL.of e1⟩, _, rfl, _, rfl, lf, _, rfl, .inl (SqL.of e1), l, _, n + (m - (i + 1)), rfl, by omega, by omega, D1.le (by omega), fun r H2 r0 r1 kp2 D2 => ?_⟩
      obtain ⟨y, hy⟩ : ∃ y, rest[r.toNat]? = some y := ⟨_, List.getElem?_eq_getElem (by omega)⟩
      have e1' := kp2 _ _ e1 nlf
      have e2' := kp2 _ _ e2 nfo
      refine ⟨lf, rest, r, r.toNat, y, rfl, rfl, e1', by omega, by omega, ix_pos r0 (by omega), hy, ?_⟩
      refine ⟨fo, zs, y, rfl, rfl, by rw [upd_ne nff.symm]; exact e2', small1000' (by omega), ?_⟩
      refine ⟨_, zs ++ [y], rest.eraseIdx r.toNat, rfl, ?_, ?_, ?_, upd_same, ?_, ?_⟩
      · have h := erase_perm hy
        rw [List.append_assoc]
        exact (h.append_left zs).trans pm
      · rw [List.length_append, zl]
        rfl
      · rw [upd_ne nff]
        exact upd_same
      · exact ((kp.trans kp2).mut hlf).mut hfo0
      · exact (D2.upd nlf).upd nfo
    · rintro σ H1 ⟨t, zs, rest, rfl, pm, zl, e1, e2, kp, D1⟩
      exact ⟨_, rfl, k fo zs rest H1 hfo0 pm zl e2 kp (D1.le (by omega))⟩
theorem sc__law_least : FnScope ["prices", "text", "found", "stop", "costs", "start"] ["prices", "text"] (defScope s__law_least) := ⟨rfl, rfl, rfl, by decide +kernel, rfl, by decide +kernel, by decide +kernel⟩
theorem ok__law_least {f : Addr} {fd : FuncData} (F : Fun K "_law_least" "_law_least" s__law_least f fd) (T : Txt K mg C) : FnG P w K mg base CX0 2 f fd ["prices", "text"] (spLawLeast) := by
  refine fn_g0 F sc__law_least (fun vs H Q E h => ?_) (fun cdv A outer s H vs Q E hg hr h => ?_)
  · obtain ⟨d, kvs, z, rfl, _⟩ := h
    rfl
  · have hu := hu_of hr
    obtain ⟨d, kvs, z, rfl, hd, tar, ov, hz, k⟩ := h
    refine ⟨_, (pss_cons (ps_set (i := 2) sc__law_least.nd rfl (Or.inl rfl) (pe_lst (pa_cons pe_int pa_nil)))
      (pss_cons (ps_for PassesOwn.never rfl (pi_range2 (by rfl) T.b_range (pa_cons pe_int (pa_cons (pe_op op_add (pe_callB call_len_str (by rfl) T.b_len (by decide +kernel) (pa_cons (pv 1) pa_nil)) pe_int) pa_nil))) (pg_name (i := 3) sc__law_least.nd rfl (Or.inl rfl)) (pss_cons (ps_set (i := 4) sc__law_least.nd rfl (Or.inl rfl) (pe_lst pa_nil))
      (pss_cons (ps_for PassesOwn.never rfl (pi_range2 (by rfl) T.b_range (pa_cons (pe_callB (call_max2 rfl) (by rfl) T.b_max (by decide +kernel) (pa_cons pe_int (pa_cons (pe_op op_sub (pv 3) pe_int) pa_nil))) (pa_cons (pv 3) pa_nil))) (pg_name (i := 5) sc__law_least.nd rfl (Or.inl rfl)) (pss_one (ps_if (pt_cmp (pc_din hu (pe_slice sl_str (pv 1) (po_some (pv 5)) (po_some (pv 3))) (pv 0))) (pss_one (ps_expr (g_bm K PySem.F.plainAttrs_list PySem.F.slot_list_append PySem.F.type_list_append mt_append (pv 4) (pa_cons (pe_op op_add (pe_ix (g_ix_list K) (pv 2) (pv 5) (fun _ _ => rfl)) (pe_dget hu (pv 0) (pe_slice sl_str (pv 1) (po_some (pv 5)) (po_some (pv 3))) (fun _ _ => rfl))) pa_nil)))) pss_nil)))
      (pss_one (ps_expr (g_bm K PySem.F.plainAttrs_list PySem.F.slot_list_append PySem.F.type_list_append mt_append (pv 2) (pa_cons (pe_callB (g_min K rfl) (by rfl) T.b_min (by decide +kernel) (pa_cons (pv 4) pa_nil)) pa_nil)))))))
      (pss_one (ps_ret (pe_ix (g_ix_list K) (pv 2) (pe_un un_neg pe_int) (fun _ _ => rfl)))))), ?_⟩
    have good := tar.good
    have lz := cs_len z
    refine ⟨(by show 1 ≤ sizeLine; decide), fun fo hfo => ?_⟩
    refine ⟨_, rfl, z, rfl, fits_sz (by omega), _, _, rfl, rfl, 1, _, rfl, ⟨by omega, by omega, by omega, by omega⟩, for_range (lo := 1) (Pv := fun i σ H' => ∃ u v w, σ = [some (.ref d), some (.str z), some (.ref fo), u, v, w] ∧ Same H H' ∧ H' fo = some (.lst (rowV (tfD kvs) (cs z) (i + 1))))
      ⟨_, _, _, rfl, same_new hfo, by rw [upd_same, rowV_one good]⟩ ?_ ?_⟩
    · rintro i σ H1 hi ⟨u, v, w, rfl, s1, f1⟩
      have hi' : i < z.length := by omega
      have e1 : (1 : Int) + (i : Int) = ((i + 1 : Nat) : Int) := by omega
      rw [e1]
      have hl : ((cs z).take (i + 1)).length = i + 1 := by rw [List.length_take]; omega
      have ovl := ov.take (i + 1)
      refine ⟨by show 0 ≤ sizeLine; decide, fun co hco => ?_⟩
      have hco0 : H co = none := s1.free hco
      have nfc : fo ≠ co := ne_of_none f1 hco
      refine ⟨_, rfl, _, _, rfl, rfl, _, _, rfl, _, rfl, ((i + 1 - 5 : Nat) : Int), _, congrArg (fun t => [V.int t, V.int ((i + 1 : Nat) : Int)]) (max0 (i + 1)), ⟨by omega, by omega, by omega, by omega⟩, ?_⟩
      have e2 : (((i + 1 : Nat) : Int) - ((i + 1 - 5 : Nat) : Int)).toNat = i + 1 - (i + 1 - 5) := by omega
      rw [e2]
      refine for_range (lo := ((i + 1 - 5 : Nat) : Int)) (Pv := fun j σ H' => ∃ v, σ = [some (.ref d), some (.str z), some (.ref fo), some (.int ((i + 1 : Nat) : Int)), some (.ref co), v] ∧ Same H H' ∧ H' fo = some (.lst (rowV (tfD kvs) (cs z) (i + 1))) ∧
        H' co = some (.lst (((List.range j).filterMap fun t => costF (tfD kvs) ((cs z).take (i + 1)) (i + 1 - 5 + t)).map V.int))) ⟨_, rfl, s1.trans (same_new hco), by rw [upd_ne nfc]; exact f1, upd_same⟩ ?_ ?_
      · rintro j σ H2 hj ⟨v, rfl, s2, f2, c2⟩
        have e3 : ((i + 1 - 5 : Nat) : Int) + (j : Int) = ((i + 1 - 5 + j : Nat) : Int) := by omega
        have hs : i + 1 - 5 + j < i + 1 := by omega
        obtain ⟨st, hst⟩ : ∃ st, st = i + 1 - 5 + j := ⟨_, rfl⟩
        rw [e3, ← hst]
        rw [← hst] at hs
        have hcut : cutS z (some (st : Int)) (some ((i + 1 : Nat) : Int)) = sOf (((cs z).take (i + 1)).drop st) := str_ext (by rw [cs_cutAB (by omega) (by omega), cs_sOf])
        refine ⟨_, rfl, _, rfl, _, rfl, _, rfl, _, rfl, _, rfl, fits_sz (by omega), _, rfl, d, _, rfl, .inl ⟨kvs, Sum.inr _, rd_same hd s2, rfl, rfl⟩, _, rfl, ?_⟩
        rw [hcut, tar_val tar]
        cases ef : tfD kvs (sOf (((cs z).take (i + 1)).drop st)) with
        | none =>
          refine itF rfl ?_
          refine ⟨_, rfl, s2, f2, ?_⟩
          have eg : costF (tfD kvs) ((cs z).take (i + 1)) st = none := by
            unfold costF
            rw [ef]
            rfl
          rw [fm_range_succ, ← hst, eg, Option.toList_none, List.append_nil]
          exact c2
        | some p =>
          refine itT rfl ?_
          refine ⟨_, rfl, .inl ⟨rfl, _, SqL.of c2⟩, _, rfl, _, rfl, fo, _, _, _, rfl, rfl, SqL.of f2, at_of (j := st) rfl (rowV_at (by omega)), _, rfl, _, rfl, _, rfl, _, rfl, _, rfl, _, rfl, _, rfl, fits_sz (by omega), d, .int p, rfl, .inl ⟨kvs, Sum.inr _, rd_same hd s2, rfl, by rw [hcut, tar_val tar, ef]; rfl⟩, _, _, rfl, rfl, co, _, _, rfl, rfl, c2, ?_, ?_⟩
          · rw [List.length_map]
            exact small1000' (Nat.le_trans (List.length_filterMap_le _ _) (by rw [List.length_range]; omega))
          · refine ⟨_, rfl, same_mut s2 hco0, by rw [upd_ne nfc]; exact f2, ?_⟩
            have eg : costF (tfD kvs) ((cs z).take (i + 1)) st = some (lp (tfD kvs) ((cs z).take st) + p) := by
              unfold costF
              rw [ef, List.take_take]
              have : min st (i + 1) = st := by omega
              rw [this]
              rfl
            rw [upd_same, fm_range_succ, ← hst, eg, List.map_append]
            rfl
      · rintro σ H2 ⟨v, rfl, s2, f2, c2⟩
        have ce : costs (tfD kvs) ((cs z).take (i + 1)) = (List.range (i + 1 - (i + 1 - 5))).filterMap fun t => costF (tfD kvs) ((cs z).take (i + 1)) (i + 1 - 5 + t) := by
          unfold costs
          rw [hl]
        rw [← ce] at c2
        obtain ⟨pos, least⟩ := cost_min good ovl (fun q => by rw [q] at hl; simp at hl)
        refine ⟨_, rfl, .inl ⟨rfl, _, SqL.of f2⟩, _, rfl, co, _, rfl, SqL.of c2, pos, fun m hm hle => ?_⟩
        have em := least m hm hle
        subst em
        refine ⟨fo, _, _, rfl, rfl, f2, by rw [rowV_len]; exact small1000' (by omega), ?_⟩
        refine ⟨_, _, _, rfl, same_mut s2 hfo, ?_⟩
        rw [upd_same, rowV_succ (n := i + 1)]
    · rintro σ H1 ⟨u, v, w, rfl, s1, f1⟩
      have e1 : ((z.length : Int) + 1 - 1).toNat = z.length := by omega
      rw [e1] at f1
      refine ⟨_, rfl, _, rfl, fo, _, _, _, rfl, rfl, SqL.of f1, by rw [rowV_succ]; exact atI_last, ?_⟩
      have e2 : (cs z).take z.length = cs z := List.take_of_length_le (by omega)
      rw [e2]
      exact k _ s1
theorem sc__law_all : FnScope ["prices", "signs", "size", "found", "layer", "turn", "longer", "text", "costs", "start", "sign"] ["prices", "signs", "size"] (defScope s__law_all) := ⟨rfl, rfl, rfl, by decide +kernel, rfl, by decide +kernel, by decide +kernel⟩
theorem ok__law_all {f : Addr} {fd : FuncData} (F : Fun K "_law_all" "_law_all" s__law_all f fd) (T : Txt K mg C) : FnG P w K mg base CX0 2 f fd ["prices", "signs", "size"] (spAll K) := by
  refine fn_g0 F sc__law_all (fun vs H Q E h => ?_) (fun cdv A outer s H vs Q E hg hr h => ?_)
  · obtain ⟨d, kvs, sa, sg, n, rfl, _⟩ := h
    rfl
  · have hu := hu_of hr
    obtain ⟨d, kvs, sa, sg, n, rfl, hd, tar, hs, cov, h4, h8, k⟩ := h
    refine ⟨_, (pss_cons (ps_par (i := 3) (j := 4) (by rfl) sc__law_all.nd rfl rfl (by decide) rfl rfl (pa_cons (pe_disp (pps_cons pe_str pe_int pps_nil) (by rfl) (by rfl) (fun z => by cases z) (by decide)) (pa_cons (pe_lst (pa_cons pe_str pa_nil)) pa_nil)) (by rfl))
      (pss_cons (ps_for PassesOwn.never rfl (pi_range1 (by rfl) T.b_range (pa_cons (pv 2) pa_nil)) (pg_name (i := 5) sc__law_all.nd rfl (Or.inl rfl)) (pss_cons (ps_set (i := 6) sc__law_all.nd rfl (Or.inl rfl) (pe_lst pa_nil))
      (pss_cons (ps_for PassesOwn.never rfl (g_list K (pv 4)) (pg_name (i := 7) sc__law_all.nd rfl (Or.inr rfl)) (pss_one (ps_expr (g_bm K PySem.F.plainAttrs_list PySem.F.slot_list_extend PySem.F.type_list_extend mt_extend (pv 6) (pa_cons (pe_lc (own := [("sign", 10)]) rfl sc__law_all.nd (g_list K (pv 1)) (blkOk_by (own := [("sign", 10)]) (N := ["prices", "signs", "size", "found", "layer", "turn", "longer", "text", "costs", "start", "sign"]) (sc := defScope s__law_all) (by decide +kernel)) (fun _ _ _ _ _ => (pg_name (i := 10) sc__law_all.nd rfl (Or.inl rfl))) (fun _ _ _ _ _ => pts_nil) (fun _ _ _ _ _ => (pe_op op_add_str (pv 7) (pv 10)))) pa_nil)))))
      (pss_cons (ps_for PassesOwn.never rfl (g_list K (pv 6)) (pg_name (i := 7) sc__law_all.nd rfl (Or.inr rfl)) (pss_cons (ps_set (i := 8) sc__law_all.nd rfl (Or.inl rfl) (pe_lst pa_nil))
      (pss_cons (ps_for PassesOwn.never rfl (pi_range2 (by rfl) T.b_range (pa_cons (pe_callB (call_max2 rfl) (by rfl) T.b_max (by decide +kernel) (pa_cons pe_int (pa_cons (pe_op op_sub (pe_callB call_len_str (by rfl) T.b_len (by decide +kernel) (pa_cons (pv 7) pa_nil)) pe_int) pa_nil))) (pa_cons (pe_callB call_len_str (by rfl) T.b_len (by decide +kernel) (pa_cons (pv 7) pa_nil)) pa_nil))) (pg_name (i := 9) sc__law_all.nd rfl (Or.inl rfl)) (pss_one (ps_if (pt_cmp (pc_din hu (pe_slice sl_str (pv 7) (po_some (pv 9)) po_none) (pv 0))) (pss_one (ps_expr (g_bm K PySem.F.plainAttrs_list PySem.F.slot_list_append PySem.F.type_list_append mt_append (pv 8) (pa_cons (pe_op op_add (pe_dget hu (pv 3) (pe_slice sl_str (pv 7) po_none (po_some (pv 9))) (fun _ _ => rfl)) (pe_dget hu (pv 0) (pe_slice sl_str (pv 7) (po_some (pv 9)) po_none) (fun _ _ => rfl))) pa_nil)))) pss_nil)))
      (pss_one (ps_asg (pe_callB (g_min K rfl) (by rfl) T.b_min (by decide +kernel) (pa_cons (pv 8) pa_nil)) (pg_sub (pv 3) (pv 7) (set_dict hu)))))))
      (pss_one (ps_set (i := 4) sc__law_all.nd rfl (Or.inl rfl) (pe_callTy (g_list_of K) (by rfl) T.b_list (by decide +kernel) (pa_cons (pv 6) pa_nil))))))))
      (pss_one (ps_ret (pv 3))))), ?_⟩
    have good := tar.good
    refine fun fo hfo => ⟨upd_same, [(Sum.inr (Str.ofString ""), V.int 0)], rfl, by decide, ?_⟩
    refine ⟨by show 1 ≤ sizeLine; decide, fun la hla => ?_⟩
    refine ⟨_, _, rfl, ?_⟩
    rw [upd_upd] at hla ⊢
    have e0 : mergeK [] [((Sum.inr (Str.ofString "") : Key), V.int 0)] = [(Sum.inr (sOf []), V.int 0)] := by
      rw [emp]
      rfl
    rw [e0] at hla ⊢
    have s0 : Same H (upd (upd H fo (.dK [(Sum.inr (sOf []), V.int 0)])) la (.lst [V.str (Str.ofString "")])) := (same_new hfo).trans (same_new hla)
    have f0 : (upd (upd H fo (.dK [(Sum.inr (sOf []), V.int 0)])) la (.lst [V.str (Str.ofString "")])) fo = some (.dK [(Sum.inr (sOf []), V.int 0)]) := same_new hla _ _ upd_same
    have l0 : (upd (upd H fo (.dK [(Sum.inr (sOf []), V.int 0)])) la (.lst [V.str (Str.ofString "")])) la = some (.lst ((layerL sg 0).map tv)) := by
      rw [upd_same, emp]
      rfl
    generalize (upd (upd H fo (.dK [(Sum.inr (sOf []), V.int 0)])) la (.lst [V.str (Str.ofString "")])) = H0 at s0 f0 l0 ⊢
    refine ⟨_, rfl, (n : Int), rfl, by omega, by omega, ?_⟩
    rw [Int.toNat_natCast]
    refine for_range (lo := 0) (n := n) (fun i σ H' => ∃ la x5 x6 x7 x8 x9 x10 kf, σ = [some (.ref d), some (.ref sa), some (.int (n : Int)), some (.ref fo), some (.ref la), x5, x6, x7, x8, x9, x10] ∧ Same H H' ∧ H' fo = some (.dK kf) ∧ TblOk (tfD kvs) (InAll sg i) kf ∧ kf.length ≤ 1 + i * 65536 ∧
      H' la = some (.lst ((layerL sg i).map tv))) ⟨la, _, _, _, _, _, _, _, rfl, s0, f0, inAll_zero good, Nat.le_refl _, l0⟩ ?_ ?_
    · clear s0 f0 l0 H0 e0 hla la
      rintro i σ H1 hi ⟨la, x5, x6, x7, x8, x9, x10, kf, rfl, s1, f1, t1, n1, l1⟩
      have lay := layer_le h4 (show i ≤ 8 by omega)
      have lay2 := layer_le h4 (show i + 1 ≤ 8 by omega)
      refine ⟨by show 0 ≤ sizeLine; decide, fun lo hlo => ?_⟩
      have hlo0 : H lo = none := s1.free hlo
      have nfl : fo ≠ lo := ne_of_none f1 hlo
      have nal : la ≠ lo := ne_of_none l1 hlo
      refine ⟨_, rfl, la, rfl, ⟨_, SqL.of (same_new hlo _ _ l1)⟩, for_list (K := K) (xs := (layerL sg i).map tv) (fun j σ H' => ∃ x7 x10, σ = [some (.ref d), some (.ref sa), some (.int (n : Int)), some (.ref fo), some (.ref la), some (.int (0 + (i : Int))), some (.ref lo), x7, x8, x9, x10] ∧ Same H H' ∧ H' fo = some (.dK kf) ∧
        H' la = some (.lst ((layerL sg i).map tv)) ∧ H' lo = some (.lst ((grow sg ((layerL sg i).take j)).map tv))) ⟨_, _, rfl, s1.trans (same_new hlo), same_new hlo _ _ f1, same_new hlo _ _ l1, upd_same⟩ (fun j σ H' hj q => by obtain ⟨_, _, _, _, _, q, _⟩ := q; exact SqL.of q) ?_ ?_⟩
      · rintro j x σ H2 hx ⟨x7, x10, rfl, s2, f2, l2, o2⟩
        obtain ⟨t, ht, rfl⟩ := tv_at hx
        have tl : t.length = i := (layer_mem.mp (List.mem_of_getElem? ht)).1
        refine ⟨_, rfl, .inl ⟨rfl, _, SqL.of o2⟩, _, rfl, sa, rfl, ⟨_, s2.seq hs⟩, fun D hD => ?_⟩
        refine lcs sg (walk_listF (K := K) chV sg) (fun c => some (tv (t ++ [c]))) hD (by omega) (fun H' s => (s2.trans s).seq hs) ?_ ?_
        · rintro i' c x H3 H4 hc s3 ⟨rfl, c', ec, rfl⟩ N M hN hM
          have e1 : c = c' := Option.some.inj (hc.symm.trans ec)
          subst e1
          refine ⟨wipe_set, _, rfl, _, rfl, sOf t, ch c, rfl, rfl, ?_, ?_⟩
          · rw [sOf_len]
            exact fits_sz (by rw [tl]; show i + 1 ≤ 100000; omega)
          · rw [tv_app]
            exact hN _ _ rfl (Same.refl _)
        rintro H3 s3 e3
        rw [fm_some] at e3
        refine ⟨lo, D, _, _, rfl, rfl, s3 _ _ o2, e3, ?_, ?_⟩
        · rw [List.length_map, List.length_map, grow_len, List.length_take]
          have h6 : min j (layerL sg i).length * sg.length ≤ 65536 * 4 := Nat.mul_le_mul (by omega) h4
          exact Nat.le_of_lt (Nat.lt_of_le_of_lt (by omega : _ ≤ 1000000) (by decide))
        · refine ⟨_, _, rfl, same_mut (s2.trans s3) hlo0, by rw [upd_ne nfl]; exact s3 _ _ f2, by rw [upd_ne nal]; exact s3 _ _ l2, ?_⟩
          rw [upd_same, grow_take ht, List.map_append, List.map_map]
          rfl
      rintro σ H2 ⟨x7', x10', rfl, s2, f2, l2, o2⟩
      rw [List.length_map, List.take_length] at o2
      refine ⟨_, rfl, lo, rfl, ⟨_, SqL.of o2⟩, for_list (K := K) (xs := (layerL sg (i + 1)).map tv) (fun j σ H' => ∃ x7 x8 x9 x10 kf', σ = [some (.ref d), some (.ref sa), some (.int (n : Int)), some (.ref fo), some (.ref la), some (.int (0 + (i : Int))), some (.ref lo), x7, x8, x9, x10] ∧ Same H H' ∧ H' fo = some (.dK kf') ∧
        TblOk (tfD kvs) (fun z => InAll sg i z ∨ z ∈ ((layerL sg (i + 1)).take j).map sOf) kf' ∧ kf'.length ≤ kf.length + j ∧ H' lo = some (.lst ((layerL sg (i + 1)).map tv))) ⟨_, _, _, _, kf, rfl, s2, f2, t1.congr (fun z => by simp), Nat.le_refl _, o2⟩ (fun j σ H' hj q => by obtain ⟨_, _, _, _, _, _, _, _, _, _, q⟩ := q; exact SqL.of q) ?_ ?_⟩
      · rintro j x σ H3 hx ⟨y7, y8, y9, y10, kf', rfl, s3, f3, t3, n3, o3⟩
        obtain ⟨t, ht, rfl⟩ := tv_at hx
        obtain ⟨tl, tsg⟩ := layer_mem.mp (List.mem_of_getElem? ht)
        have jl : j < (layerL sg (i + 1)).length := (List.getElem?_eq_some_iff.mp ht).1
        have ovt : Over (tfD kvs) t := fun c hc => cov c (tsg c hc)
        have lt : (sOf t).length = t.length := sOf_len t
        have cst : cs (sOf t) = t := cs_sOf t
        refine ⟨by show 0 ≤ sizeLine; decide, fun co hco => ?_⟩
        have hco0 : H co = none := s3.free hco
        have nfc : fo ≠ co := ne_of_none f3 hco
        have nlc : lo ≠ co := ne_of_none o3 hco
        have e4 : (((sOf t).length : Nat) : Int) = ((i + 1 : Nat) : Int) := by rw [lt, tl]
        refine ⟨_, rfl, sOf t, rfl, fits_sz (by rw [lt, tl]; omega), _, _, rfl, rfl, _, _, rfl, _, rfl, sOf t, rfl, fits_sz (by rw [lt, tl]; omega), ((i + 1 - 5 : Nat) : Int), ((i + 1 : Nat) : Int), by rw [e4, max0 (i + 1)], ⟨by omega, by omega, by omega, by omega⟩, ?_⟩
        have e2 : (((i + 1 : Nat) : Int) - ((i + 1 - 5 : Nat) : Int)).toNat = i + 1 - (i + 1 - 5) := by omega
        rw [e2]
        refine for_range (lo := ((i + 1 - 5 : Nat) : Int)) (Pv := fun q σ H' => ∃ v, σ = [some (.ref d), some (.ref sa), some (.int (n : Int)), some (.ref fo), some (.ref la), some (.int (0 + (i : Int))), some (.ref lo), some (tv t), some (.ref co), v, y10] ∧ Same H H' ∧ H' fo = some (.dK kf') ∧ H' lo = some (.lst ((layerL sg (i + 1)).map tv)) ∧
          H' co = some (.lst (((List.range q).filterMap fun u => costF (tfD kvs) t (i + 1 - 5 + u)).map V.int))) ⟨_, rfl, s3.trans (same_new hco), by rw [upd_ne nfc]; exact f3, by rw [upd_ne nlc]; exact o3, upd_same⟩ ?_ ?_
        · rintro q σ H4 hq ⟨v, rfl, s4, f4, o4, c4⟩
          have e3 : ((i + 1 - 5 : Nat) : Int) + (q : Int) = ((i + 1 - 5 + q : Nat) : Int) := by omega
          have hst' : i + 1 - 5 + q < i + 1 := by omega
          obtain ⟨st, hst⟩ : ∃ st, st = i + 1 - 5 + q := ⟨_, rfl⟩
          rw [e3, ← hst]
          rw [← hst] at hst'
          have hcut : cutS (sOf t) (some (st : Int)) none = sOf (t.drop st) := str_ext (by rw [cs_cutFrom (by omega), cst, cs_sOf])
          have hcut2 : cutS (sOf t) none (some (st : Int)) = sOf (t.take st) := str_ext (by rw [cs_cutTo (by omega), cst, cs_sOf])
          refine ⟨_, rfl, _, rfl, _, rfl, sOf t, rfl, fits_sz (by rw [lt, tl]; omega), _, rfl, d, _, rfl, .inl ⟨kvs, Sum.inr _, .inl (s4 _ _ hd), rfl, rfl⟩, _, rfl, ?_⟩
          rw [hcut, tar_val tar]
          cases ef : tfD kvs (sOf (t.drop st)) with
          | none =>
            refine itF rfl ?_
            refine ⟨_, rfl, s4, f4, o4, ?_⟩
            have eg : costF (tfD kvs) t st = none := by
              unfold costF
              rw [ef]
              rfl
            rw [fm_range_succ, ← hst, eg, Option.toList_none, List.append_nil]
            exact c4
          | some p =>
            refine itT rfl ?_
            have vt : valV kf' (Sum.inr (sOf (t.take st))) = some (.int (lp (tfD kvs) (t.take st))) := by
              have h := t3.val (sOf (t.take st)) (Or.inl ⟨by rw [cs_sOf, List.length_take]; omega, by rw [cs_sOf]; exact fun c hc => tsg c (List.mem_of_mem_take hc)⟩)
              rw [cs_sOf] at h
              exact h
            refine ⟨_, rfl, .inl ⟨rfl, _, SqL.of c4⟩, _, rfl, _, rfl, _, rfl, _, rfl, sOf t, rfl, fits_sz (by rw [lt, tl]; omega), fo, .int (lp (tfD kvs) (t.take st)), rfl, .inl ⟨kf', Sum.inr _, .inl f4, rfl, by rw [hcut2]; exact vt.symm⟩, _, rfl, _, rfl, _, rfl, _, rfl, sOf t, rfl, fits_sz (by rw [lt, tl]; omega), d, .int p, rfl, .inl ⟨kvs, Sum.inr _, .inl (s4 _ _ hd), rfl, by rw [hcut, tar_val tar, ef]; rfl⟩, _, _, rfl, rfl, co, _, _, rfl, rfl, c4, ?_, ?_⟩
            · rw [List.length_map]
              exact small1000' (Nat.le_trans (List.length_filterMap_le _ _) (by rw [List.length_range]; omega))
            · refine ⟨_, rfl, same_mut s4 hco0, by rw [upd_ne nfc]; exact f4, by rw [upd_ne nlc]; exact o4, ?_⟩
              have eg : costF (tfD kvs) t st = some (lp (tfD kvs) (t.take st) + p) := by
                unfold costF
                rw [ef]
                rfl
              rw [upd_same, fm_range_succ, ← hst, eg, List.map_append]
              rfl
        · rintro σ H4 ⟨v, rfl, s4, f4, o4, c4⟩
          have ce : costs (tfD kvs) t = (List.range (i + 1 - (i + 1 - 5))).filterMap fun u => costF (tfD kvs) t (i + 1 - 5 + u) := by
            unfold costs
            rw [tl]
          rw [← ce] at c4
          obtain ⟨pos, least⟩ := cost_min good ovt (fun q => by rw [q] at tl; simp at tl)
          refine ⟨_, rfl, co, _, rfl, SqL.of c4, pos, fun m hm hle => ?_⟩
          have em := least m hm hle
          subst em
          refine ⟨_, rfl, _, rfl, fo, _, rfl, .inl ⟨kf', Sum.inr (sOf t), f4, rfl, ?_, rfl⟩, ?_⟩
          · exact Nat.lt_of_le_of_lt (by omega : _ ≤ 1000000) (by decide)
          · refine ⟨_, _, _, _, _, rfl, same_mut s4 hfo, upd_same, tbl_take ht t3, ?_, by rw [upd_ne (Ne.symm nfl)]; exact o4⟩
            have := put_len (kvs := kf') (k := Sum.inr (sOf t)) (v := .int (lp (tfD kvs) t))
            omega
      · rintro σ H3 ⟨y7, y8, y9, y10, kf', rfl, s3, f3, t3, n3, o3⟩
        rw [List.length_map] at n3 t3
        rw [List.take_length] at t3
        refine ⟨_, rfl, lo, _, rfl, .inl (SqL.of o3), fun la2 hla2 => ?_⟩
        refine ⟨la2, _, _, _, _, _, _, kf', rfl, s3.trans (same_new hla2), same_new hla2 _ _ f3, t3.congr fun z => inAll_succ, ?_, upd_same⟩
        omega
    · rintro σ H1 ⟨la, x5, x6, x7, x8, x9, x10, kf, rfl, s1, f1, t1, n1, l1⟩
      exact ⟨_, rfl, k fo kf H1 hfo f1 t1 (by omega) s1⟩
theorem sc__law_three : FnScope ["dice", "signs", "upto", "menu", "found", "turn", "sign", "common", "some", "prices", "price", "piece"] ["dice", "signs"] (defScope s__law_three) := ⟨rfl, rfl, rfl, by decide +kernel, rfl, by decide +kernel, by decide +kernel⟩
theorem ok__law_three {f : Addr} {fd : FuncData} (F : Fun K "_law_three" "_law_three" s__law_three f fd) (T : Txt K mg C) (c__law_pick : Has P w K mg base CX0 2 "_law_pick" ["dice", "items"] (spPick K)) (c__law_some : Has P w K mg base CX0 2 "_law_some" ["dice", "items", "many"] (spSome K)) (c__law_letters : Has P w K mg base CX0 3 "_law_letters" ["dice", "signs", "many"] (spLetters K)) (c__law_roll : Has P w K mg base CX0 1 "_law_roll" ["dice", "upto"] (spRoll)) : FnG P w K mg base CX0 4 f fd ["dice", "signs"] (spThree K) := by
  refine fn_g0 F sc__law_three (fun vs H Q E h => ?_) (fun cdv A outer s H vs Q E hg hr h => ?_)
  · obtain ⟨l, sa, sg, n, rfl, _⟩ := h
    rfl
  · have hu := hu_of hr
    obtain ⟨l, sa, sg, n, rfl, nsa, hs, n1, n4, hl, D, k⟩ := h
    refine ⟨_, (pss_cons (ps_asg (pe_tup (pa_cons (pe_has c__law_pick hg (hr.mono (by decide)) pass0 (pa_cons (pv 0) (pa_cons (pe_lst (pa_cons pe_int (pa_cons pe_int (pa_cons pe_int (pa_cons pe_int pa_nil))))) pa_nil))) (pa_cons (pe_lst pa_nil) (pa_cons (pe_lst pa_nil) pa_nil)))) (g_tup K (n := 3) rfl (pgs_cons (pg_name (i := 2) sc__law_three.nd rfl (Or.inr rfl)) (pgs_cons (pg_name (i := 3) sc__law_three.nd rfl (Or.inl rfl)) (pgs_cons (pg_name (i := 4) sc__law_three.nd rfl (Or.inl rfl)) pgs_nil)))))
      (pss_cons (ps_for PassesOwn.never rfl (pi_range1 (by rfl) T.b_range (pa_cons pe_int pa_nil)) (pg_name (i := 5) sc__law_three.nd rfl (Or.inl rfl)) (pss_one (ps_expr (g_bm K PySem.F.plainAttrs_list PySem.F.slot_list_append PySem.F.type_list_append mt_append (pv 3) (pa_cons (pe_has c__law_letters hg (hr.mono (by decide)) pass0 (pa_cons (pv 0) (pa_cons (pv 1) (pa_cons (pe_op op_add pe_int (pe_has c__law_roll hg (hr.mono (by decide)) pass0 (pa_cons (pv 0) (pa_cons pe_int pa_nil)))) pa_nil)))) pa_nil)))))
      (pss_cons (ps_setLc (i := 7) (own := [("sign", 6)]) rfl sc__law_three.nd rfl rfl (sw_true rfl rfl rfl (by decide +kernel)) (g_list K (pv 1)) (blkOk_by (own := [("sign", 6)]) (N := ["dice", "signs", "upto", "menu", "found", "turn", "sign", "common", "some", "prices", "price", "piece"]) (sc := defScope s__law_three) (by decide +kernel)) (fun _ _ _ _ _ => (pg_name (i := 6) sc__law_three.nd rfl (Or.inl rfl))) (fun _ _ _ _ _ => pts_nil) (fun _ _ _ _ _ => (pe_op op_add pe_int (pe_has c__law_roll hg (hr.mono (by decide)) pass0 (pa_cons (pv 0) (pa_cons (pv 2) pa_nil))))))
      (pss_cons (ps_for PassesOwn.never rfl (pi_range1 (by rfl) T.b_range (pa_cons pe_int pa_nil)) (pg_name (i := 5) sc__law_three.nd rfl (Or.inl rfl)) (pss_cons (ps_set (i := 8) sc__law_three.nd rfl (Or.inl rfl) (pe_has c__law_some hg (hr.mono (by decide)) pass0 (pa_cons (pv 0) (pa_cons (pv 3) (pa_cons (pe_has c__law_roll hg (hr.mono (by decide)) pass0 (pa_cons (pv 0) (pa_cons pe_int pa_nil))) pa_nil)))))
      (pss_cons (ps_set (i := 9) sc__law_three.nd rfl (Or.inl rfl) (pe_callTy (g_dictP K rfl) (by rfl) T.b_dict (by decide +kernel) (pa_cons (pe_lc (own := [("piece", 11)]) rfl sc__law_three.nd (g_list K (pv 8)) (blkOk_by (own := [("piece", 11)]) (N := ["dice", "signs", "upto", "menu", "found", "turn", "sign", "common", "some", "prices", "price", "piece"]) (sc := defScope s__law_three) (by decide +kernel)) (fun _ _ _ _ _ => (pg_name (i := 11) sc__law_three.nd rfl (Or.inl rfl))) (fun _ _ _ _ _ => pts_nil) (fun _ _ _ _ _ => (pe_tup (pa_cons (pv 11) (pa_cons (pe_op op_add pe_int (pe_has c__law_roll hg (hr.mono (by decide)) pass0 (pa_cons (pv 0) (pa_cons (pv 2) pa_nil)))) pa_nil))))) pa_nil)))
      (pss_cons (ps_for PassesOwn.never rfl (pi_zip (by rfl) T.b_zip (pa_cons (pv 1) (pa_cons (pv 7) pa_nil))) (g_tup K (n := 2) rfl (pgs_cons (pg_name (i := 6) sc__law_three.nd rfl (Or.inl rfl)) (pgs_cons (pg_name (i := 10) sc__law_three.nd rfl (Or.inl rfl)) pgs_nil))) (pss_one (ps_asg (pe_ifExp (pt_cmpR op_gt (pe_has c__law_roll hg (hr.mono (by decide)) pass0 (pa_cons (pv 0) (pa_cons pe_int pa_nil))) pe_int (nomark _)) (pv 10) (pe_op op_add pe_int (pe_has c__law_roll hg (hr.mono (by decide)) pass0 (pa_cons (pv 0) (pa_cons (pv 2) pa_nil))))) (pg_sub (pv 9) (pv 6) (set_dict hu)))))
      (pss_one (ps_expr (g_bm K PySem.F.plainAttrs_list PySem.F.slot_list_append PySem.F.type_list_append mt_append (pv 4) (pa_cons (pv 9) pa_nil))))))))
      (pss_one (ps_ret (pv 4))))))), ?_⟩
    have nsg : sg ≠ [] := fun e => by
      rw [e] at n1
      simp at n1
    refine ⟨_, rfl, by show 4 ≤ sizeLine; decide, fun p hp => ?_⟩
    have np := D.ne hp
    refine ⟨l, .ref p, _, n + 99, rfl, .lst np (SqL.of upd_same), by simp, by simp, (D.new hp).le (by omega), fun y H1 hy kp1 D1 => ?_⟩
    obtain ⟨up, rfl, u1, u2⟩ := pick_int (lo := 2) (hi := 99) (by decide) hy
    refine ⟨by show 0 ≤ sizeLine; decide, fun me hme => ?_⟩
    refine ⟨by show 0 ≤ sizeLine; decide, fun fo hfo => ?_⟩
    refine ⟨(by show 3 ≤ sizeLine; decide), fun tp htp => ?_⟩
    refine ⟨tp, _, rfl, SqT.of upd_same, rfl, _, _, rfl, _, _, rfl, _, _, rfl, rfl, ?_⟩
    have kp0 : Kp l H H1 := (Kp.of (same_new hp)).trans kp1
    have nme : me ≠ l := D1.ne hme
    have nfo : fo ≠ l := (D1.new hme).ne hfo
    have nmf : me ≠ fo := ne_of_none upd_same hfo
    have hme0 : H me = none := kp_free kp0 nme hme
    have hfo0 : H fo = none := kp_free (kp0.new hme) nfo hfo
    have k2 : Kp l H (upd (upd (upd H1 me (.lst [])) fo (.lst [])) tp (.tup [.int up, .ref me, .ref fo])) := ((kp0.new hme).new hfo).new htp
    have D2 : Dice (upd (upd (upd H1 me (.lst [])) fo (.lst [])) tp (.tup [.int up, .ref me, .ref fo])) l (n + 99) := ((D1.new hme).new hfo).new htp
    have m2 : (upd (upd (upd H1 me (.lst [])) fo (.lst [])) tp (.tup [.int up, .ref me, .ref fo])) me = some (.lst []) := same_new htp _ _ (same_new hfo _ _ upd_same)
    have f2 : (upd (upd (upd H1 me (.lst [])) fo (.lst [])) tp (.tup [.int up, .ref me, .ref fo])) fo = some (.lst []) := same_new htp _ _ upd_same
    generalize (upd (upd (upd H1 me (.lst [])) fo (.lst [])) tp (.tup [.int up, .ref me, .ref fo])) = H2 at k2 D2 m2 f2 ⊢
    clear htp hfo hme kp1 D1 hy kp0 D np hp H1 tp p
    refine ⟨5, rfl, by decide, by decide, for_range (lo := 0) (n := 5) (fun i σ H' => ∃ x5 x6 x7 x8 x9 x10 x11, σ = [some (.ref l), some (.ref sa), some (.int up), some (.ref me), some (.ref fo), x5, x6, x7, x8, x9, x10, x11] ∧
      ∃ ws : List (List Nat), ws.length = i ∧ (∀ w ∈ ws, Word sg w) ∧ H' me = some (.lst (ws.map tv)) ∧ H' fo = some (.lst []) ∧ Kp l H H' ∧ Dice H' l (n + (99 - 6 * i))) ⟨_, _, _, _, _, _, _, rfl, [], rfl, fun _ h => (List.not_mem_nil h).elim, m2, f2, k2, D2⟩ ?_ ?_⟩
    · rintro i σ H3 hi ⟨x5, x6, x7, x8, x9, x10, x11, rfl, ws, wl, ww, m3, f3, k3, D3⟩
      refine ⟨_, rfl, .inl ⟨rfl, _, SqL.of m3⟩, _, rfl, _, rfl, _, rfl, l, 4, n + (99 - 6 * i - 1), rfl, by decide, by decide, D3.le (by omega), fun r H4 r0 r1 k4 D4 => ⟨_, _, rfl, rfl, ?_⟩⟩
      refine ⟨l, .ref sa, sg, (2 + r).toNat, n + (99 - 6 * (i + 1)), by rw [Int.toNat_of_nonneg (by omega)]; rfl, .lst nsa ((k3.trans k4).seq nsa hs), nsg, by omega, by omega, D4.le (by omega), fun zs H5 zl zc k5 D5 => ?_⟩
      refine ⟨me, _, _, rfl, rfl, k5 _ _ (k4 _ _ m3 nme) nme, by rw [List.length_map]; exact small1000' (by omega), ?_⟩
      refine ⟨_, _, _, _, _, _, _, rfl, ws ++ [zs], by rw [List.length_append, wl]; rfl, fun w hw => ?_, by rw [upd_same, List.map_append]; rfl, by rw [upd_ne nmf.symm]; exact k5 _ _ (k4 _ _ f3 nfo) nfo, ((k3.trans k4).trans k5).mut hme0, D5.upd nme⟩
      rcases List.mem_append.mp hw with h | h
      · exact ww w h
      · rw [List.mem_singleton.mp h]
        exact ⟨by omega, by omega, zc⟩
    rintro σ H3 ⟨x5, x6, x7, x8, x9, x10, x11, rfl, ws, wl, ww, m3, f3, k3, D3⟩
    clear k2 D2 m2 f2 H2
    -- the common prices
    refine ⟨_, rfl, sa, rfl, ⟨_, k3.seq nsa hs⟩, fun co hco => ?_⟩
    have nco : co ≠ l := D3.ne hco
    have hco0 : H co = none := kp_free k3 nco hco
    have ncm : me ≠ co := ne_of_none m3 hco
    have ncf : fo ≠ co := ne_of_none f3 hco
    refine lc_it (walk_listF (K := K) chV sg) (fun i H' => ∃ ks : List Int, ks.length = i ∧ (∀ q ∈ ks, 1 ≤ q ∧ q ≤ 99) ∧ H' co = some (.lst (ks.map V.int)) ∧ H' me = some (.lst (ws.map tv)) ∧ H' fo = some (.lst []) ∧ Kp l H H' ∧ Dice H' l (n + (69 - i)))
      ⟨[], rfl, fun _ h => (List.not_mem_nil h).elim, upd_same, by rw [upd_ne ncm]; exact m3, by rw [upd_ne ncf]; exact f3, k3.new hco, (D3.new hco).le (by omega)⟩ (fun i H' _ q => by obtain ⟨_, _, _, _, _, _, q, _⟩ := q; exact q.seq nsa hs) ?_ ?_
    · rintro i x H4 H5 hi ⟨ks, kl, kk, c4, m4, f4, k4, D4⟩ ⟨rfl, c, hc, rfl⟩
      refine ⟨wipe_set, _, rfl, _, rfl, l, up, n + (69 - (i + 1)), rfl, by omega, by omega, D4.le (by omega), fun r H6 r0 r1 k6 D6 => ⟨_, _, rfl, rfl, ?_⟩⟩
      refine ⟨_, k6 _ _ c4 nco, by rw [List.length_map]; exact small1000' (by omega), ks ++ [1 + r], by rw [List.length_append, kl]; rfl, fun q hq => ?_, by rw [upd_same, List.map_append]; rfl, by rw [upd_ne ncm]; exact k6 _ _ m4 nme, by rw [upd_ne ncf]; exact k6 _ _ f4 nfo, (k4.trans k6).mut hco0, D6.upd nco⟩
      rcases List.mem_append.mp hq with h | h
      · exact kk q h
      · rw [List.mem_singleton.mp h]
        omega
    rintro H4 ⟨ks, kl, kk, c4, m4, f4, k4, D4⟩
    clear k3 D3 m3 f3 hco H3
    refine ⟨3, rfl, by decide, by decide, for_range (lo := 0) (n := 3) (fun i σ H' => ∃ x5 x6 x8 x9 x10 x11, σ = [some (.ref l), some (.ref sa), some (.int up), some (.ref me), some (.ref fo), x5, x6, some (.ref co), x8, x9, x10, x11] ∧
      ∃ ps : List (Addr × List (Key × V)), ps.length = i ∧ (∀ p ∈ ps, H p.1 = none ∧ p.1 ≠ l ∧ p.1 ≠ fo ∧ PlainAt sg H' p.1 p.2) ∧ H' fo = some (.lst (ps.map fun p => V.ref p.1)) ∧ H' co = some (.lst (ks.map V.int)) ∧ H' me = some (.lst (ws.map tv)) ∧ Kp l H H' ∧ Dice H' l (n + (65 - 20 * i)))
      ⟨_, _, _, _, _, _, rfl, [], rfl, fun _ h => (List.not_mem_nil h).elim, f4, c4, m4, k4, D4.le (by omega)⟩ ?_ ?_⟩
    · clear c4 m4 f4 k4 D4 H4
      rintro i σ H5 hi ⟨x5, x6, x8, x9, x10, x11, rfl, ps, pl, pp, f5, c5, m5, k5, D5⟩
      refine ⟨_, rfl, _, rfl, _, rfl, l, 6, n + (65 - 20 * i - 1), rfl, by decide, by decide, D5.le (by omega), fun r H6 r0 r1 k6 D6 => ?_⟩
      refine ⟨l, .ref me, ws.map tv, r.toNat, n + (65 - 20 * i - 6), by rw [Int.toNat_of_nonneg r0]; rfl, .lst nme (SqL.of (k6 _ _ m5 nme)), by rw [List.length_map]; omega, by omega, D6.le (by omega), fun so zs rest H7 hso pm zl e7 k7 D7 => ?_⟩
      have nso : so ≠ l := D6.ne hso
      obtain ⟨zw, rfl, zww⟩ : ∃ zw : List (List Nat), zs = zw.map tv ∧ ∀ w ∈ zw, Word sg w := by
        refine lift_map fun v hv => ?_
        obtain ⟨w, hw, rfl⟩ := List.mem_map.mp (pm.mem_iff.mp (List.mem_append_left rest hv))
        exact ⟨w, rfl, ww w hw⟩
      have zlen : zw.length ≤ 5 := by
        rw [List.length_map, List.length_map] at zl
        omega
      have k57 : Kp l H5 H7 := k6.trans k7
      -- the pairs
      refine ⟨_, rfl, so, rfl, ⟨_, SqL.of e7⟩, fun L hL => ?_⟩
      have nL : L ≠ l := D7.ne hL
      refine lc_it (walk_listF (K := K) tv zw) (fun j H' => ∃ prs : List (Addr × (Key × V)), prs.length = j ∧ H' L = some (.lst (prs.map fun p => V.ref p.1)) ∧ (∀ p ∈ prs, p.1 ≠ l ∧ p.1 ≠ L ∧ H' p.1 = some (.tup [kV p.2.1, p.2.2]) ∧ PairOk sg p.2) ∧ Kp l H7 H' ∧ Dice H' l (n + (65 - 20 * i - 6 - j)))
        ⟨[], rfl, upd_same, fun _ h => (List.not_mem_nil h).elim, (Kp.refl _ _).new hL, (D7.new hL).le (by omega)⟩ (fun j H' _ q => by obtain ⟨_, _, _, _, q, _⟩ := q; exact SqL.of (q _ _ e7 nso)) ?_ ?_
      · rintro j x H8 H9 hj ⟨prs, prl, L8, pr8, k8, D8⟩ ⟨rfl, w, hw, rfl⟩
        have wW := zww w (List.mem_of_getElem? hw)
        refine ⟨wipe_set, _, rfl, _, rfl, _, rfl, l, up, n + (65 - 20 * i - 6 - (j + 1)), rfl, by omega, by omega, D8.le (by omega), fun r' H10 r0' r1' k10 D10 => ⟨_, _, rfl, rfl, ?_⟩⟩
        refine ⟨(by show 2 ≤ sizeLine; decide), fun tT hT => ?_⟩
        have nT : tT ≠ l := D10.ne hT
        have nTL : tT ≠ L := (ne_of_none (k10 _ _ L8 nL) hT).symm
        refine ⟨_, same_new hT _ _ (k10 _ _ L8 nL), by rw [List.length_map]; exact small1000' (by omega), prs ++ [(tT, (Sum.inr (sOf w), .int (1 + r')))], by rw [List.length_append, prl]; rfl, by rw [upd_same, List.map_append]; rfl, fun p hp => ?_, ?_, ?_⟩
        · rcases List.mem_append.mp hp with h | h
          · obtain ⟨q1, q2, q3, q4⟩ := pr8 p h
            exact ⟨q1, q2, by rw [upd_ne q2]; exact same_new hT _ _ (k10 _ _ q3 q1), q4⟩
          · rw [List.mem_singleton.mp h]
            obtain ⟨w1, w2⟩ := wW.piece
            exact ⟨nT, nTL, by rw [upd_ne nTL]; exact upd_same, sOf w, 1 + r', rfl, w1, w2, by omega, by omega⟩
        · exact ((k8.trans k10).new hT).mut hL
        · exact (D10.new hT).upd nL
      rintro H8 ⟨prs, prl, L8, pr8, k8, D8⟩
      refine ⟨L, prs.map (·.1), prs.map (·.2), rfl, SqL.of (by rw [L8, List.map_map]; rfl), paired_of (F := fun (p : Addr) (kv : Key × V) => SqT K H8 p [kV kv.1, kv.2]) (ps := prs) (fun p hp => SqT.of (pr8 p hp).2.2.1), fun pd hpd => ?_⟩
      obtain ⟨P0, l0⟩ := PrOk.merge (sg := sg) (more := prs.map (·.2)) PrOk.nil fun kv hkv => by
        obtain ⟨p, hp, rfl⟩ := List.mem_map.mp hkv
        exact (pr8 p hp).2.2.2
      have npd : pd ≠ l := D8.ne hpd
      have k58 : Kp l H5 H8 := k57.trans k8
      have hpd0 : H pd = none := kp_free (k5.trans k58) npd hpd
      rw [List.length_map, prl] at l0
      -- the single signs
      refine ⟨_, rfl, _, rfl, sa, co, sg.map chV, ks.map V.int, rfl, (((k5.trans k58).new hpd).seq nsa hs), SqL.of (same_new hpd _ _ (k58 _ _ c5 nco)), for_it (walk_zip (K := K) (xs := sg.map chV) (ys := ks.map V.int) (n := sg.length) (by rw [List.length_map, List.length_map, kl, Nat.min_self])) (Pv := fun j σ H' => ∃ x6 x10, σ = [some (.ref l), some (.ref sa), some (.int up), some (.ref me), some (.ref fo), some (.int (0 + (i : Int))), x6, some (.ref co), some (.ref so), some (.ref pd), x10, x11] ∧
        ∃ kv, H' pd = some (.dK kv) ∧ PrOk sg kv ∧ kv.length ≤ 5 + j ∧ (∀ c ∈ sg.take j, (valV kv (Sum.inr (ch c))).isSome = true) ∧ Kp l H8 H' ∧ Dice H' l (n + (65 - 20 * i - 11 - 2 * j)))
        ⟨_, _, rfl, _, upd_same, P0, Nat.le_trans l0 (by show 0 + zw.length ≤ 5 + 0; omega), fun c hc => by simp at hc, (Kp.refl _ _).new hpd, (D8.new hpd).le (by omega)⟩ (fun j σ H' _ q => by
          obtain ⟨_, _, _, _, _, _, _, _, q, _⟩ := q
          exact ⟨(k5.trans (k58.trans q)).seq nsa hs, SqL.of (q _ _ (k58 _ _ c5 nco) nco)⟩) ?_ ?_⟩
      · rintro j x σ H9 H10 hj ⟨y6, y10, rfl, kv, d9, P9, l9, g9, k9, D9⟩ ⟨tT, xc, xq, rfl, hT, rfl, ec, eq⟩
        obtain ⟨c, hc⟩ : ∃ c, sg[j]? = some c := ⟨_, List.getElem?_eq_getElem hj⟩
        obtain ⟨q, hq⟩ : ∃ q, ks[j]? = some q := ⟨_, List.getElem?_eq_getElem (by rw [kl]; exact hj)⟩
        dsimp only at ec eq
        rw [List.getElem?_map, hc] at ec
        rw [List.getElem?_map, hq] at eq
        cases ec
        cases eq
        have hqq := kk q (List.mem_of_getElem? hq)
        have cin := List.mem_of_getElem? hc
        have d9' := same_new hT (o := .tup [chV c, .int q]) _ _ d9
        have D9' := D9.new (o := .tup [chV c, .int q]) hT
        refine ⟨tT, _, rfl, SqT.of upd_same, rfl, _, _, rfl, _, _, rfl, rfl, ?_⟩
        refine tif_join (fun H1 => Kp l (upd H9 tT (.tup [chV c, .int q])) H1 ∧ Dice H1 l (n + (65 - 20 * i - 11 - 2 * j - 1))) (fun v H2 => ∃ q', v = .int q' ∧ 1 ≤ q' ∧ q' ≤ 99 ∧ Kp l (upd H9 tT (.tup [chV c, .int q])) H2 ∧ Dice H2 l (n + (65 - 20 * i - 11 - 2 * (j + 1))))
          (fun N hN => ⟨_, rfl, l, 4, n + (65 - 20 * i - 11 - 2 * j - 1), rfl, by decide, by decide, D9'.le (by omega), fun r' H1 _ _ kk' DD => ⟨_, _, rfl, rfl, _, rfl, hN _ _ ⟨kk', DD⟩⟩⟩)
          (fun H1 hP N hN => ⟨_, rfl, hN _ _ ⟨q, rfl, hqq.1, hqq.2, hP.1, hP.2.le (by omega)⟩⟩)
          (fun H1 hP N hN => ⟨_, rfl, _, rfl, l, up, n + (65 - 20 * i - 11 - 2 * (j + 1)), rfl, by omega, by omega, hP.2.le (by omega), fun r' H2 q0 q1 kk' DD => ⟨_, _, rfl, rfl, hN _ _ ⟨1 + r', rfl, by omega, by omega, hP.1.trans kk', DD⟩⟩⟩) ?_
        rintro v H2 ⟨q', rfl, q1, q2, k12, D12⟩
        have d12 := k12 _ _ d9' npd
        refine ⟨_, rfl, _, rfl, pd, _, rfl, .inl ⟨kv, Sum.inr (ch c), d12, rfl, small1000' (by omega), rfl⟩, ?_⟩
        refine ⟨_, _, rfl, _, upd_same, P9.put (z := ch c) (by simp [cs]) (fun d hd => by simp [cs] at hd; rw [hd]; exact cin) ⟨q1, q2⟩, ?_, fun d hd => ?_, ?_, D12.upd npd⟩
        · have := put_len (kvs := kv) (k := Sum.inr (ch c)) (v := .int q')
          omega
        · rw [valV_put]
          by_cases e : (Sum.inr (ch d) : Key) = Sum.inr (ch c)
          · rw [if_pos e]
            rfl
          · rw [if_neg e]
            rw [List.take_add_one, hc] at hd
            rcases List.mem_append.mp hd with h | h
            · exact g9 d h
            · have : d = c := by simpa using h
              rw [this] at e
              exact absurd rfl e
        · exact ((k9.new hT).trans k12).mut hpd
      rintro σ H9 ⟨y6, y10, rfl, kv, d9, P9, l9, g9, k9, D9⟩
      rw [List.take_length] at g9
      obtain ⟨av, sgns⟩ := P9.right g9 hl n4 n1 (by omega)
      have k59 := k58.trans k9
      have nfd : fo ≠ pd := ne_of_none (k58 _ _ f5 nfo) hpd
      refine ⟨_, rfl, .inl ⟨rfl, _, SqL.of (k59 _ _ f5 nfo)⟩, _, rfl, fo, _, _, rfl, rfl, k59 _ _ f5 nfo, by rw [List.length_map]; exact small1000' (by omega), ?_⟩
      refine ⟨_, _, _, _, _, _, rfl, ps ++ [(pd, kv)], by rw [List.length_append, pl]; rfl, fun p hp => ?_, by rw [upd_same, List.map_append]; rfl, by rw [upd_ne ncf.symm]; exact k59 _ _ c5 nco, by rw [upd_ne nmf]; exact k59 _ _ m5 nme, (k5.trans k59).mut hfo0, (D9.upd nfo).le (by omega)⟩
      rcases List.mem_append.mp hp with h | h
      · obtain ⟨q1, q2, q3, q4, q5⟩ := pp p h
        exact ⟨q1, q2, q3, by rw [upd_ne q3]; exact k59 _ _ q4 q2, q5⟩
      · rw [List.mem_singleton.mp h]
        exact ⟨hpd0, npd, nfd.symm, by rw [upd_ne nfd.symm]; exact d9, av, P9.nd, sgns⟩
    · rintro σ H5 ⟨x5, x6, x8, x9, x10, x11, rfl, ps, pl, pp, f5, c5, m5, k5, D5⟩
      exact ⟨_, rfl, k fo ps H5 hfo0 f5 pl (fun p hp => ⟨(pp p hp).1, (pp p hp).2.2.2⟩) k5 (D5.le (by omega))⟩
theorem sc__law_texts : FnScope ["dice", "signs", "plain", "found", "prices", "turn"] ["dice", "signs", "plain"] (defScope s__law_texts) := ⟨rfl, rfl, rfl, by decide +kernel, rfl, by decide +kernel, by decide +kernel⟩
theorem ok__law_texts {f : Addr} {fd : FuncData} (F : Fun K "_law_texts" "_law_texts" s__law_texts f fd) (T : Txt K mg C) (c__law_letters : Has P w K mg base CX0 3 "_law_letters" ["dice", "signs", "many"] (spLetters K)) (c__law_roll : Has P w K mg base CX0 1 "_law_roll" ["dice", "upto"] (spRoll)) : FnG P w K mg base CX0 4 f fd ["dice", "signs", "plain"] (spTexts K) := by
  refine fn_g0 F sc__law_texts (fun vs H Q E h => ?_) (fun cdv A outer s H vs Q E hg hr h => ?_)
  · obtain ⟨l, sa, pa, sg, ps, n, rfl, _⟩ := h
    rfl
  · have hu := hu_of hr
    obtain ⟨l, sa, pa, sg, ps, n, rfl, nsa, npa, hs, n1, n4, hp, pl, pp, D, k⟩ := h
    refine ⟨_, (pss_cons (ps_set (i := 3) sc__law_texts.nd rfl (Or.inl rfl) (pe_lst pa_nil))
      (pss_cons (ps_for PassesOwn.never rfl (g_list K (pv 2)) (pg_name (i := 4) sc__law_texts.nd rfl (Or.inl rfl)) (pss_one (ps_expr (g_bm K PySem.F.plainAttrs_list PySem.F.slot_list_extend PySem.F.type_list_extend mt_extend (pv 3) (pa_cons (pe_callTy (call_listD rfl) (by rfl) T.b_list (by decide +kernel) (pa_cons (pv 4) pa_nil)) pa_nil)))))
      (pss_cons (ps_for PassesOwn.never rfl (pi_range1 (by rfl) T.b_range (pa_cons pe_int pa_nil)) (pg_name (i := 5) sc__law_texts.nd rfl (Or.inl rfl)) (pss_one (ps_expr (g_bm K PySem.F.plainAttrs_list PySem.F.slot_list_append PySem.F.type_list_append mt_append (pv 3) (pa_cons (pe_has c__law_letters hg (hr.mono (by decide)) pass0 (pa_cons (pv 0) (pa_cons (pv 1) (pa_cons (pe_op op_add pe_int (pe_has c__law_roll hg (hr.mono (by decide)) pass0 (pa_cons (pv 0) (pa_cons pe_int pa_nil)))) pa_nil)))) pa_nil)))))
      (pss_one (ps_ret (pv 3)))))), ?_⟩
    have nsg : sg ≠ [] := fun e => by
      rw [e] at n1
      simp at n1
    refine ⟨by show 0 ≤ sizeLine; decide, fun fo hfo => ?_⟩
    have nfo : fo ≠ l := D.ne hfo
    have nfp : pa ≠ fo := ne_of_none hp hfo
    have small : ∀ {p}, p ∈ ps → (keyStrs p.2).length ≤ 12 ∧ (∀ z ∈ keyStrs p.2, (cs z).length ≤ 100 ∧ ∀ c ∈ cs z, c ∈ sg) ∧ (p.2.map fun kv => kV kv.1) = (keyStrs p.2).map V.str := by
      intro p hpp
      obtain ⟨q, av, nd, sgns⟩ := (pp p hpp).1
      obtain ⟨⟨_, m12⟩, al, _, _⟩ := ap_parts av
      have hk := keys_of al
      refine ⟨?_, fun z hz => ⟨by have := (keyStrs_piece al z hz).2.1; omega, fun c hc => (sgns c).mp ((tar_of av nd).good.cov z _ (tf_some.mpr (price_of_key al hz).1) c hc)⟩, ?_⟩
      · have h := congrArg List.length hk
        rw [List.length_map, List.length_map] at h
        omega
      · have h := congrArg (List.map kV) hk
        rw [List.map_map, List.map_map] at h
        exact h
    refine ⟨_, rfl, pa, rfl, ⟨_, SqL.of (same_new hfo _ _ hp)⟩, for_list (K := K) (xs := ps.map fun p => V.ref p.1) (fun i σ H' => ∃ x4 x5, σ = [some (.ref l), some (.ref sa), some (.ref pa), some (.ref fo), x4, x5] ∧ Same H H' ∧
      ∃ ts : List Str, H' fo = some (.lst (ts.map V.str)) ∧ ts.length ≤ 12 * i ∧ (∀ t ∈ ts, (cs t).length ≤ 100 ∧ ∀ c ∈ cs t, c ∈ sg) ∧ (∀ p ∈ ps.take i, ∀ z ∈ keyStrs p.2, z ∈ ts)) ⟨_, _, rfl, same_new hfo, [], upd_same, Nat.zero_le _, fun _ h => (List.not_mem_nil h).elim, fun p hp => by simp at hp⟩
      (fun i σ H' _ q => by obtain ⟨_, _, _, q, _⟩ := q; exact SqL.of (q _ _ hp)) ?_ ?_⟩
    · rintro i x σ H1 hx ⟨x4, x5, rfl, s1, ts, f1, tl, tt, tk⟩
      rw [List.getElem?_map] at hx
      obtain ⟨p, ep⟩ : ∃ p, ps[i]? = some p := by
        cases e : ps[i]? with
        | none =>
          rw [e] at hx
          cases hx
        | some p => exact ⟨p, rfl⟩
      rw [ep] at hx
      cases hx
      have il : i < ps.length := (List.getElem?_eq_some_iff.mp ep).1
      have pin := List.mem_of_getElem? ep
      obtain ⟨m1, m2, m3⟩ := small pin
      refine ⟨_, rfl, .inl ⟨rfl, _, SqL.of f1⟩, _, rfl, p.1, p.2, rfl, .inl (s1 _ _ (pp p pin).1.1), fun L hL => ?_⟩
      have nfL : fo ≠ L := ne_of_none f1 hL
      rw [m3]
      refine ⟨fo, L, _, _, rfl, rfl, same_new hL _ _ f1, upd_same, ?_, ?_⟩
      · rw [List.length_map, List.length_map]
        exact Nat.le_of_lt (small1000' (by omega))
      · refine ⟨_, _, rfl, same_mut (s1.trans (same_new hL)) hfo, ts ++ keyStrs p.2, by rw [upd_same, List.map_append], by rw [List.length_append]; omega, fun t ht => ?_, fun p' hp' z hz => ?_⟩
        · rcases List.mem_append.mp ht with h | h
          · exact tt t h
          · exact m2 t h
        · rw [List.take_add_one, ep] at hp'
          rcases List.mem_append.mp hp' with h | h
          · exact List.mem_append_left _ (tk p' h z hz)
          · have : p' = p := by simpa using h
            subst this
            exact List.mem_append_right _ hz
    rintro σ H1 ⟨x4, x5, rfl, s1, ts, f1, tl, tt, tk⟩
    rw [List.length_map] at tl tk
    rw [List.take_length] at tk
    rw [pl] at tl
    refine ⟨3, rfl, by decide, by decide, for_range (lo := 0) (n := 3) (fun i σ H' => ∃ x4 x5, σ = [some (.ref l), some (.ref sa), some (.ref pa), some (.ref fo), x4, x5] ∧ Kp l H H' ∧ Dice H' l (n + (400 - 100 * i)) ∧
      ∃ ts' : List Str, H' fo = some (.lst (ts'.map V.str)) ∧ ts'.length ≤ 36 + i ∧ (∀ t ∈ ts', (cs t).length ≤ 100 ∧ ∀ c ∈ cs t, c ∈ sg) ∧ (∀ p ∈ ps, ∀ z ∈ keyStrs p.2, z ∈ ts')) ⟨_, _, rfl, .of s1, (D.same s1).le (by omega), ts, f1, tl, tt, tk⟩ ?_ ?_⟩
    · clear f1 tl tt tk
      rintro i σ H2 hi ⟨y4, y5, rfl, k2, D2, ts, f2, tl, tt, tk⟩
      refine ⟨_, rfl, .inl ⟨rfl, _, SqL.of f2⟩, _, rfl, _, rfl, _, rfl, l, 80, n + (400 - 100 * i - 1), rfl, by decide, by decide, D2.le (by omega), fun r H4 r0 r1 k4 D4 => ⟨_, _, rfl, rfl, ?_⟩⟩
      refine ⟨l, .ref sa, sg, (1 + r).toNat, n + (400 - 100 * (i + 1)), by rw [Int.toNat_of_nonneg (by omega)]; rfl, .lst nsa ((k2.trans k4).seq nsa hs), nsg, by omega, by omega, D4.le (by omega), fun zs H5 zl zc k5 D5 => ?_⟩
      refine ⟨fo, _, _, rfl, rfl, k5 _ _ (k4 _ _ f2 nfo) nfo, by rw [List.length_map]; exact small1000' (by omega), ?_⟩
      refine ⟨_, _, rfl, ((k2.trans k4).trans k5).mut hfo, D5.upd nfo, ts ++ [sOf zs], by rw [upd_same, List.map_append]; rfl, by rw [List.length_append]; exact Nat.add_le_add_right tl 1, fun t ht => ?_, fun p hp z hz => List.mem_append_left _ (tk p hp z hz)⟩
      rcases List.mem_append.mp ht with h | h
      · exact tt t h
      · rw [List.mem_singleton.mp h, cs_sOf]
        exact ⟨by omega, zc⟩
    · rintro σ H2 ⟨y4, y5, rfl, k2, D2, ts, f2, tl, tt, tk⟩
      exact ⟨_, rfl, k fo ts H2 hfo f2 (by omega) tt tk k2 (D2.le (by omega))⟩
theorem sc__law_costs : FnScope ["prices", "signs", "texts", "found", "text"] ["prices", "signs", "texts"] (defScope s__law_costs) := ⟨rfl, rfl, rfl, by decide +kernel, rfl, by decide +kernel, by decide +kernel⟩
theorem ok__law_costs {f : Addr} {fd : FuncData} (F : Fun K "_law_costs" "_law_costs" s__law_costs f fd) (T : Txt K mg C) (c__law_all : Has P w K mg base CX0 2 "_law_all" ["prices", "signs", "size"] (spAll K)) (c__law_least : Has P w K mg base CX0 2 "_law_least" ["prices", "text"] (spLawLeast)) : FnG P w K mg base CX0 3 f fd ["prices", "signs", "texts"] (spCosts K) := by
  refine fn_g0 F sc__law_costs (fun vs H Q E h => ?_) (fun cdv A outer s H vs Q E hg hr h => ?_)
  · obtain ⟨d, sa, ta, kvs, sg, ts, rfl, _⟩ := h
    rfl
  · have hu := hu_of hr
    obtain ⟨d, sa, ta, kvs, sg, ts, rfl, hd, tar, hs, n1, n4, sgns, ht, tl, tt, k⟩ := h
    refine ⟨_, (pss_cons (ps_set (i := 3) sc__law_costs.nd rfl (Or.inl rfl) (pe_has c__law_all hg (hr.mono (by decide)) pass0 (pa_cons (pv 0) (pa_cons (pv 1) (pa_cons (pe_ix (g_ix_list K) (pe_lst (pa_cons pe_int (pa_cons pe_int (pa_cons pe_int (pa_cons pe_int pa_nil))))) (pe_op op_sub (pe_callB (g_len_seq K) (by rfl) T.b_len (by decide +kernel) (pa_cons (pv 1) pa_nil)) pe_int) (fun _ _ => rfl)) pa_nil)))))
      (pss_cons (ps_for PassesOwn.never rfl (g_list K (pv 2)) (pg_name (i := 4) sc__law_costs.nd rfl (Or.inl rfl)) (pss_one (ps_asg (pe_has c__law_least hg (hr.mono (by decide)) pass0 (pa_cons (pv 0) (pa_cons (pv 4) pa_nil))) (pg_sub (pv 3) (pv 4) (set_dict hu)))))
      (pss_one (ps_ret (pv 3))))), ?_⟩
    refine ⟨_, rfl, _, rfl, by show 4 ≤ sizeLine; decide, fun p hp => ?_⟩
    refine ⟨_, rfl, sa, _, rfl, .inl ((same_new hp).seq hs), _, _, rfl, rfl, p, _, _, _, rfl, rfl, SqL.of upd_same, by rw [List.length_map]; exact sizeOf_at n1 n4, ?_⟩
    refine ⟨d, kvs, sa, sg, sizeOf sg.length, rfl, same_new hp _ _ hd, tar, (same_new hp).seq hs, fun c hc => (sgns c).mpr hc, n4, sizeOf_le _, fun fo kf H1 hfo f1 t1 l1 s1 => ?_⟩
    have s01 := (same_new hp).trans s1
    have hfo0 : H fo = none := (same_new hp).free hfo
    refine ⟨_, rfl, ta, rfl, ⟨_, s01.seq ht⟩, for_list (K := K) (xs := ts.map V.str) (fun i σ H' => ∃ x4, σ = [some (.ref d), some (.ref sa), some (.ref ta), some (.ref fo), x4] ∧ Same H H' ∧ ∃ kf', H' fo = some (.dK kf') ∧ kf'.length ≤ 600000 + i ∧
      TblOk (tfD kvs) (fun z => InAll sg (sizeOf sg.length) z ∨ z ∈ ts.take i) kf') ⟨_, rfl, s01, kf, f1, l1, t1.congr fun z => by simp⟩ (fun i σ H' _ q => by obtain ⟨_, _, q, _⟩ := q; exact q.seq ht) ?_ ?_⟩
    · rintro i x σ H2 hx ⟨x4, rfl, s2, kf', f2, l2, t2⟩
      rw [List.getElem?_map] at hx
      obtain ⟨z, ez⟩ : ∃ z, ts[i]? = some z := by
        cases e : ts[i]? with
        | none =>
          rw [e] at hx
          cases hx
        | some p => exact ⟨p, rfl⟩
      rw [ez] at hx
      cases hx
      have il : i < ts.length := (List.getElem?_eq_some_iff.mp ez).1
      obtain ⟨z1, z2⟩ := tt z (List.mem_of_getElem? ez)
      rw [cs_len] at z1
      refine ⟨_, rfl, _, rfl, d, kvs, z, rfl, .inl (s2 _ _ hd), tar, fun c hc => (sgns c).mpr (z2 c hc), by omega, fun H3 s3 => ?_⟩
      refine ⟨_, rfl, _, rfl, fo, _, rfl, .inl ⟨kf', Sum.inr z, s3 _ _ f2, rfl, ?_, rfl⟩, ?_⟩
      · exact Nat.lt_of_le_of_lt (by omega : _ ≤ 1000000) (by decide)
      · refine ⟨_, rfl, same_mut (s2.trans s3) hfo0, _, upd_same, ?_, (t2.put z).congr fun y => ?_⟩
        · have := put_len (kvs := kf') (k := Sum.inr z) (v := .int (lp (tfD kvs) (cs z)))
          omega
        · rw [List.take_add_one, ez, List.mem_append]
          show (_ ∨ _) ∨ _ ↔ _ ∨ _ ∨ y ∈ [z]
          rw [List.mem_singleton, or_assoc]
    · rintro σ H2 ⟨x4, rfl, s2, kf', f2, l2, t2⟩
      rw [List.length_map] at l2 t2
      rw [List.take_length] at t2
      exact ⟨_, rfl, k fo kf' H2 hfo0 f2 t2 (by omega) s2⟩
theorem sc__law_pair_right : FnScope ["one", "two", "plain", "other", "dearer", "told", "piece"] ["one", "two", "plain", "other", "dearer"] (defScope s__law_pair_right) := ⟨rfl, rfl, rfl, by decide +kernel, rfl, by decide +kernel, by decide +kernel⟩
theorem ok__law_pair_right {f : Addr} {fd : FuncData} (F : Fun K "_law_pair_right" "_law_pair_right" s__law_pair_right f fd) (T : Txt K mg C) (c_dearer_piece : HasO P w K mg base CX0 6 "dearer_piece" ["book", "other"] (spDearer C)) (c__law_least : Has P w K mg base CX0 2 "_law_least" ["prices", "text"] (spLawLeast)) (c_is_nowhere_dearer : HasO P w K mg base CX0 6 "is_nowhere_dearer" ["book", "other"] (spNowhere C)) : FnG P w K mg base CX0 8 f fd ["one", "two", "plain", "other", "dearer"] (spPair C) := by
  refine fn_g0 F sc__law_pair_right (fun vs H Q E h => ?_) (fun cdv A outer s H vs Q E hg hr h => ?_)
  · obtain ⟨b1, b2, d1, d2, da, k1, k2, xs, rfl, _⟩ := h
    rfl
  · have hu := hu_of hr
    obtain ⟨b1, b2, d1, d2, da, k1, k2, xs, rfl, B1, B2, ss, e1, e2, ea, xl, xn, k⟩ := h
    refine ⟨_, (pss_cons (ps_set (i := 5) sc__law_pair_right.nd rfl (Or.inr rfl) (pe_hasO c_dearer_piece (hr.mono (by decide)) pass0 (pa_cons (pv 0) (pa_cons (pv 1) pa_nil))))
      (pss_cons (ps_if (PW.pt (pw_or (pt_cmpR op_ne (pe_callB (g_repr K hg hr.units) (by rfl) T.b_repr (by decide +kernel) (pa_cons (pe_hasO c_is_nowhere_dearer (hr.mono (by decide)) pass0 (pa_cons (pv 0) (pa_cons (pv 1) pa_nil))) pa_nil)) (pe_callB (g_repr K hg hr.units) (by rfl) T.b_repr (by decide +kernel) (pa_cons (pe_cmpR (g_eqD K hr.units) (pv 4) (pe_lst pa_nil) (nomark _)) pa_nil)) (nomark _)) (pw_or1 (pt_cmpR op_ne (pe_cmpR op_isN (pv 5) pe_non (nomark _)) (pe_cmpR (g_eqD K hr.units) (pv 4) (pe_lst pa_nil) (nomark _)) (nomark _))))) (pss_one (ps_ret pe_bl)) pss_nil)
      (pss_cons (ps_if (pt_cmpR op_isN (pv 5) pe_non (nomark _)) (pss_one (ps_ret pe_bl)) pss_nil)
      (pss_cons (ps_if (PW.pt (pw_or (pt_cmp (pc_dnotin hu (pv 5) (pv 3))) (pw_or1 (pt_cmpR op_le (pe_has c__law_least hg (hr.mono (by decide)) pass0 (pa_cons (pv 2) (pa_cons (pv 5) pa_nil))) (pe_dget hu (pv 3) (pv 5) (fun _ _ => rfl)) (nomark _))))) (pss_one (ps_ret pe_bl)) pss_nil)
      (pss_one (ps_ret (pe_cmpR (g_eqD K hr.units) (pe_lock (by exact (pe_lc (own := [("piece", 6)]) rfl sc__law_pair_right.nd (pi_keys (pv 3)) (blkOk_by (own := [("piece", 6)]) (N := ["one", "two", "plain", "other", "dearer", "told", "piece"]) (sc := defScope s__law_pair_right) (by decide +kernel)) (fun _ _ _ _ _ => (pg_name (i := 6) sc__law_pair_right.nd rfl (Or.inl rfl))) (fun _ _ _ _ _ => (pts_one (PW.pt (pw_and (pt_cmpR op_lt_str (pv 6) (pv 5) (nomark _)) (pw_and1 (pt_cmpR op_gt (pe_has c__law_least hg (hr.mono (by decide)) pass0 (pa_cons (pv 2) (pa_cons (pv 6) pa_nil))) (pe_dget hu (pv 3) (pv 6) (fun _ _ => rfl)) (nomark _))))))) (fun _ _ _ _ _ => (pv 6))))) (pe_lst pa_nil) (nomark _)))))))), ?_⟩
    have tar1 := tar_of B1.av B1.nd
    have tar2 := tar_of B2.av B2.nd
    have al2 := (ap_parts B2.av).2.1
    have isE : ∀ {b : Bool}, (b = true ↔ NoDear (tfD k1) (tfD k2)) → b = xs.isEmpty := by
      intro b h
      rw [Bool.eq_iff_iff, h, ← xn, List.isEmpty_iff]
    refine ⟨_, rfl, _, rfl, k1, k2, ⟨b1, b2, rfl, B1, B2, ss⟩, fun r H1 s1 dr => ?_⟩
    refine ⟨_, rfl, _, rfl, k1, k2, ⟨b1, b2, rfl, B1.same s1, B2.same s1, ss⟩, fun b H2 s2 hb => ?_⟩
    have hbx := isE hb
    subst hbx
    have s12 := s1.trans s2
    dsimp only [tNil]
    refine repr_bool ?_
    refine ⟨_, rfl, by show 0 ≤ sizeLine; decide, fun p hp => ?_⟩
    have s3 := s12.trans (same_new hp (o := .lst []))
    refine eq_nil (SqL.of (s3 _ _ ea)) upd_same xl ?_
    dsimp only [tNil]
    refine repr_bool ?_
    refine ⟨rfl, false, ne_self, ?_⟩
    refine itF rfl ?_
    refine ⟨_, rfl, rfl, ?_⟩
    refine ⟨_, rfl, by show 0 ≤ sizeLine; decide, fun p2 hp2 => ?_⟩
    have s4 := s3.trans (same_new hp2 (o := .lst []))
    refine eq_nil (SqL.of (s4 _ _ ea)) upd_same xl ?_
    have er := isE (dear_non dr)
    rw [er]
    refine ⟨rfl, false, by simp, ?_⟩
    refine itF rfl ?_
    generalize (upd (upd H2 p (.lst [])) p2 (.lst [])) = H3 at s4 ⊢
    refine ⟨_, rfl, rfl, _, rfl, ?_⟩
    refine itB (fun q => ?_) (fun q => ?_)
    · exact k _ s4
    · rcases dr with ⟨rfl, _⟩ | ⟨z, p, rfl, hz, lt, low⟩
      · cases q
      have vz : valV k2 (Sum.inr z) = some (.int p) := tf_some.mp hz
      have ov : ∀ {y q}, tfD k2 y = some q → Over (tfD k1) (cs y) := fun h c hc => (ss c).mpr (tar2.good.cov _ _ h c hc)
      have ln : ∀ {y q}, tfD k2 y = some q → y.length ≤ 10000 := fun h => by
        have := (tar2.good.len _ _ h).2
        rw [cs_len] at this
        omega
      refine ⟨_, rfl, _, rfl, d2, _, rfl, .inl ⟨k2, Sum.inr z, .inl (s4 _ _ e2), rfl, rfl⟩, false, by rw [vz]; rfl, ?_⟩
      refine itF rfl ?_
      refine ⟨_, rfl, _, rfl, d1, k1, z, rfl, .inl (s4 _ _ e1), tar1, ov hz, ln hz, fun H4 s5 => ?_⟩
      have e1' := s5 _ _ (s4 _ _ e1)
      have e2' := s5 _ _ (s4 _ _ e2)
      refine ⟨_, rfl, _, rfl, d2, .int p, rfl, .inl ⟨k2, Sum.inr z, .inl e2', rfl, vz.symm⟩, _, _, rfl, rfl, false, congrArg V.bl (decide_eq_false (by omega)), ?_⟩
      refine itF rfl ?_
      refine ⟨d2, _, e2', trivial, fun od => ⟨_, rfl, d2, od, rfl, .inl ⟨k2, upd_same, fun D hD => ?_⟩⟩⟩
      have nD := lock_ne hD
      refine lcs k2 walk_keys (fun _ => (none : Option V)) hD (by have := tar2.len; omega) (fun H' s => s _ _ upd_same) ?_ ?_
      · rintro i kv x H5 H6 hi s6 ⟨rfl, k', v', ek, rfl⟩ N M hN hM
        have ekv : kv = (k', v') := Option.some.inj (hi.symm.trans ek)
        subst ekv
        obtain ⟨y, q', ey, hq'⟩ := tar2.mem _ (List.mem_of_getElem? hi)
        cases ey
        refine ⟨wipe_set, _, rfl, _, rfl, y, z, rfl, rfl, _, rfl, ?_⟩
        refine itB (fun c1 => ?_) (fun c1 => hM _ rfl (Same.refl _))
        have lo := low y q' hq' (of_decide_eq_true c1)
        refine ⟨_, rfl, _, rfl, d1, k1, y, rfl, rd_same (rd_lock e1' e2') s6, tar1, ov hq', ln hq', fun H7 s7 => ?_⟩
        refine ⟨_, rfl, _, rfl, d2, .int q', rfl, .inl ⟨k2, Sum.inr y, .inr ⟨od, s7 _ _ (s6 _ _ upd_same)⟩, rfl, (tf_some.mp hq').symm⟩, _, _, rfl, rfl, false, congrArg V.bl (decide_eq_false (by omega)), ?_⟩
        exact itF rfl (hM _ rfl s7)
      rintro H5 s6 e5
      have s7 : Same H (upd H5 d2 (.dK k2)) := (s4.trans s5).trans (unlock e2' s6)
      refine ⟨s6 _ _ upd_same, by show 0 ≤ sizeLine; decide, fun p3 hp3 => ?_⟩
      have nil : (k2.filterMap fun _ => (none : Option V)) = [] := by
        generalize k2 = l
        induction l with
        | nil => rfl
        | cons a r ih => exact ih
      rw [nil] at e5
      refine eq_nil (zs := []) (SqL.of (same_new hp3 _ _ (by rw [upd_ne nD]; exact e5))) upd_same (fun _ h => (List.not_mem_nil h).elim) ?_
      exact k _ (s7.trans (same_new hp3))
theorem sc__law_right : FnScope ["dice", "signs", "plain", "books", "texts", "tables", "grid", "at", "to", "dearer", "told", "prices", "text"] ["dice"] (defScope s__law_right) := ⟨rfl, rfl, rfl, by decide +kernel, rfl, by decide +kernel, by decide +kernel⟩
theorem ok__law_right {f : Addr} {fd : FuncData} (F : Fun K "_law_right" "_law_right" s__law_right f fd) (T : Txt K mg C) (c_Book : C8.Mak P w K mg base 5 "Book" C (spBook C K) []) (c__law_some : Has P w K mg base CX0 2 "_law_some" ["dice", "items", "many"] (spSome K)) (c__law_three : Has P w K mg base CX0 4 "_law_three" ["dice", "signs"] (spThree K)) (c__law_texts : Has P w K mg base CX0 4 "_law_texts" ["dice", "signs", "plain"] (spTexts K)) (c__law_costs : Has P w K mg base CX0 3 "_law_costs" ["prices", "signs", "texts"] (spCosts K)) (c_are_as_cheap : HasO P w K mg base CX0 6 "are_as_cheap" ["book", "other"] (spAsCheap C)) (c_is_nowhere_dearer : HasO P w K mg base CX0 6 "is_nowhere_dearer" ["book", "other"] (spNowhere C)) (c__law_roll : Has P w K mg base CX0 1 "_law_roll" ["dice", "upto"] (spRoll)) (c__law_pair_right : Has P w K mg base CX0 8 "_law_pair_right" ["one", "two", "plain", "other", "dearer"] (spPair C)) : FnG P w K mg base CX0 10 f fd ["dice"] (spRight 600) := by
  refine fn_g0 F sc__law_right (fun vs H Q E h => ?_) (fun cdv A outer s H vs Q E hg hr h => ?_)
  · obtain ⟨l, n, rfl, _⟩ := h
    rfl
  · have hu := hu_of hr
    obtain ⟨l, n, rfl, D, k⟩ := h
    refine ⟨_, (pss_cons (ps_set (i := 1) sc__law_right.nd rfl (Or.inr rfl) (pe_has c__law_some hg (hr.mono (by decide)) pass0 (pa_cons (pv 0) (pa_cons pe_str (pa_cons (pe_op op_add pe_int (pe_has c__law_roll hg (hr.mono (by decide)) pass0 (pa_cons (pv 0) (pa_cons pe_int pa_nil)))) pa_nil)))))
      (pss_cons (ps_set (i := 2) sc__law_right.nd rfl (Or.inl rfl) (pe_has c__law_three hg (hr.mono (by decide)) pass0 (pa_cons (pv 0) (pa_cons (pv 1) pa_nil))))
      (pss_cons (ps_setLc (i := 3) (own := [("prices", 11)]) rfl sc__law_right.nd rfl rfl (sw_true rfl rfl rfl (by decide +kernel)) (g_list K (pv 2)) (blkOk_by (own := [("prices", 11)]) (N := ["dice", "signs", "plain", "books", "texts", "tables", "grid", "at", "to", "dearer", "told", "prices", "text"]) (sc := defScope s__law_right) (by decide +kernel)) (fun _ _ _ _ _ => (pg_name (i := 11) sc__law_right.nd rfl (Or.inl rfl))) (fun _ _ _ _ _ => pts_nil) (fun _ _ _ _ _ => (C8.pe_mk c_Book hr (by decide) (by rfl) (pa_cons (pv 11) pa_nil))))
      (pss_cons (ps_set (i := 4) sc__law_right.nd rfl (Or.inr rfl) (pe_has c__law_texts hg (hr.mono (by decide)) pass0 (pa_cons (pv 0) (pa_cons (pv 1) (pa_cons (pv 2) pa_nil)))))
      (pss_cons (ps_set (i := 5) sc__law_right.nd rfl (Or.inr rfl) (pe_lc (own := [("prices", 11)]) rfl sc__law_right.nd (g_list K (pv 2)) (blkOk_by (own := [("prices", 11)]) (N := ["dice", "signs", "plain", "books", "texts", "tables", "grid", "at", "to", "dearer", "told", "prices", "text"]) (sc := defScope s__law_right) (by decide +kernel)) (fun _ _ _ _ _ => (pg_name (i := 11) sc__law_right.nd rfl (Or.inl rfl))) (fun _ _ _ _ _ => pts_nil) (fun _ _ _ _ _ => (pe_has c__law_costs hg (hr.mono (by decide)) pass0 (pa_cons (pv 11) (pa_cons (pv 1) (pa_cons (pv 4) pa_nil)))))))
      (pss_cons (ps_set (i := 6) sc__law_right.nd rfl (Or.inl rfl) (pe_lst pa_nil))
      (pss_cons (ps_for PassesOwn.never rfl (pi_range1 (by rfl) T.b_range (pa_cons pe_int pa_nil)) (pg_name (i := 7) sc__law_right.nd rfl (Or.inr rfl)) (pss_one (ps_for PassesOwn.never rfl (pi_range1 (by rfl) T.b_range (pa_cons pe_int pa_nil)) (pg_name (i := 8) sc__law_right.nd rfl (Or.inr rfl)) (pss_cons (ps_lock (by exact (ps_setLc (i := 9) (own := [("text", 12)]) rfl sc__law_right.nd rfl rfl (sw_true rfl rfl rfl (by decide +kernel)) (pi_keys (pe_ix (g_ix_list K) (pv 5) (pv 7) (fun _ _ => rfl))) (blkOk_by (own := [("text", 12)]) (N := ["dice", "signs", "plain", "books", "texts", "tables", "grid", "at", "to", "dearer", "told", "prices", "text"]) (sc := defScope s__law_right) (by decide +kernel)) (fun _ _ _ _ _ => (pg_name (i := 12) sc__law_right.nd rfl (Or.inl rfl))) (fun _ _ _ _ _ => (pts_one (pt_cmpR op_gt (pe_dget hu (pe_ix (g_ix_list K) (pv 5) (pv 7) (fun _ _ => rfl)) (pv 12) (fun _ _ => rfl)) (pe_dget hu (pe_ix (g_ix_list K) (pv 5) (pv 8) (fun _ _ => rfl)) (pv 12) (fun _ _ => rfl)) (nomark _)))) (fun _ _ _ _ _ => (pv 12)))))
      (pss_cons (ps_if (pt_not (pt_val (pe_has c__law_pair_right hg (hr.mono (by decide)) pass0 (pa_cons (pe_ix (g_ix_list K) (pv 3) (pv 7) (fun _ _ => rfl)) (pa_cons (pe_ix (g_ix_list K) (pv 3) (pv 8) (fun _ _ => rfl)) (pa_cons (pe_ix (g_ix_list K) (pv 2) (pv 7) (fun _ _ => rfl)) (pa_cons (pe_ix (g_ix_list K) (pv 2) (pv 8) (fun _ _ => rfl)) (pa_cons (pv 9) pa_nil)))))))) (pss_one (ps_ret pe_bl)) pss_nil)
      (pss_one (ps_expr (g_bm K PySem.F.plainAttrs_list PySem.F.slot_list_append PySem.F.type_list_append mt_append (pv 6) (pa_cons (pe_cmpR (g_eqD K hr.units) (pv 9) (pe_lst pa_nil) (nomark _)) pa_nil)))))))))
      (pss_cons (ps_set (i := 10) sc__law_right.nd rfl (Or.inl rfl) (pe_lst (pa_cons (pe_hasO c_are_as_cheap (hr.mono (by decide)) pass0 (pa_cons (pe_ix (g_ix_list K) (pv 3) pe_int (fun _ _ => rfl)) (pa_cons (pe_ix (g_ix_list K) (pv 3) pe_int (fun _ _ => rfl)) pa_nil))) (pa_cons (pe_hasO c_are_as_cheap (hr.mono (by decide)) pass0 (pa_cons (pe_ix (g_ix_list K) (pv 3) pe_int (fun _ _ => rfl)) (pa_cons (pe_ix (g_ix_list K) (pv 3) pe_int (fun _ _ => rfl)) pa_nil))) (pa_cons (pe_hasO c_are_as_cheap (hr.mono (by decide)) pass0 (pa_cons (pe_ix (g_ix_list K) (pv 3) pe_int (fun _ _ => rfl)) (pa_cons (pe_ix (g_ix_list K) (pv 3) pe_int (fun _ _ => rfl)) pa_nil))) pa_nil)))))
      (pss_cons (ps_if (pt_cmpR op_ne (pe_callB (g_repr K hg hr.units) (by rfl) T.b_repr (by decide +kernel) (pa_cons (pv 10) pa_nil)) (pe_callB (g_repr K hg hr.units) (by rfl) T.b_repr (by decide +kernel) (pa_cons (pe_lst (pa_cons (pe_and (pe_ix (g_ix_list K) (pv 6) pe_int (fun _ _ => rfl)) (pe_one (pe_ix (g_ix_list K) (pv 6) pe_int (fun _ _ => rfl)))) (pa_cons (pe_and (pe_ix (g_ix_list K) (pv 6) pe_int (fun _ _ => rfl)) (pe_one (pe_ix (g_ix_list K) (pv 6) pe_int (fun _ _ => rfl)))) (pa_cons pe_bl pa_nil)))) pa_nil)) (nomark _)) (pss_one (ps_ret pe_bl)) pss_nil)
      (pss_one (ps_ret (pe_or (pe_hasO c_is_nowhere_dearer (hr.mono (by decide)) pass0 (pa_cons (pe_ix (g_ix_list K) (pv 3) pe_int (fun _ _ => rfl)) (pa_cons (pe_ix (g_ix_list K) (pv 3) pe_int (fun _ _ => rfl)) pa_nil))) (pe_one (pe_not (pe_and (pe_ix (g_ix_list K) (pv 6) pe_int (fun _ _ => rfl)) (pe_one (pe_ix (g_ix_list K) (pv 6) pe_int (fun _ _ => rfl)))))))))))))))))), ?_⟩
    -- the signs
    refine ⟨_, rfl, _, rfl, l, 4, n + 595, rfl, by decide, by decide, D.le (by omega), fun r H1 r0 r1 kp1 D1 => ⟨_, _, rfl, rfl, ?_⟩⟩
    refine ⟨l, .str (Str.ofString "abcdefghijklmnopqrstuvwxyz"), signsV (Str.ofString "abcdefghijklmnopqrstuvwxyz"), (1 + r).toNat, n + 590, by rw [Int.toNat_of_nonneg (by omega)]; rfl, .str (by decide +kernel) rfl, by decide +kernel, by omega, D1.le (by omega), fun sa zs rest H2 hsa pm zl e2 kp2 D2 => ?_⟩
    have nsa : sa ≠ l := D1.ne hsa
    have kp02 : Kp l H H2 := kp1.trans kp2
    obtain ⟨sg, rfl, sgl⟩ : ∃ sg : List Nat, zs = sg.map chV ∧ ∀ c ∈ sg, lett c = true := by
      refine lift_map fun v hv => ?_
      obtain ⟨c, hc, rfl⟩ := List.mem_map.mp (pm.mem_iff.mp (List.mem_append_left rest hv))
      exact ⟨c, rfl, List.all_eq_true.mp (show (Str.ofString "abcdefghijklmnopqrstuvwxyz").cps.toList.all lett = true by decide +kernel) c hc⟩
    have l26 : (signsV (Str.ofString "abcdefghijklmnopqrstuvwxyz")).length = 26 := by decide +kernel
    rw [List.length_map, l26] at zl
    have n1 : 1 ≤ sg.length := by omega
    have n4 : sg.length ≤ 4 := by omega
    -- the dicts
    refine ⟨_, rfl, _, rfl, l, sa, sg, n + 490, rfl, nsa, SqL.of e2, n1, n4, sgl, D2, fun pa ps H3 hpa e3 pl pp kp3 D3 => ?_⟩
    have npa : pa ≠ l := D2.ne hpa
    have sa3 := kp3 _ _ e2 nsa
    have kp03 := kp02.trans kp3
    have pp3 : ∀ p ∈ ps, PlainAt sg H3 p.1 p.2 ∧ p.1 ≠ l := fun p hp => ⟨(pp p hp).2, D2.ne (pp p hp).1⟩
    -- the books
    refine ⟨_, rfl, pa, rfl, ⟨_, SqL.of e3⟩, fun bo hbo => ?_⟩
    have nbo : bo ≠ l := D3.ne hbo
    refine lc_it (walk_listF (K := K) (fun p : Addr × List (Key × V) => V.ref p.1) ps) (fun i H' => ∃ bs : List Addr, bs.length = i ∧ H' bo = some (.lst (bs.map V.ref)) ∧ (∀ (j : Nat) (b : Addr) (p : Addr × List (Key × V)), bs[j]? = some b → ps[j]? = some p → Book1 C H' b p.2) ∧ Same H3 H')
      ⟨[], rfl, upd_same, fun j b p h => by simp at h, same_new hbo⟩ (fun i H' _ q => by obtain ⟨_, _, _, _, q⟩ := q; exact SqL.of (q _ _ e3)) ?_ ?_
    · rintro i x H4 H5 hi ⟨bs, bl, e4, bb, s4⟩ ⟨rfl, p, hp, rfl⟩
      obtain ⟨⟨q1, q2, q3, q4⟩, _⟩ := pp3 p (List.mem_of_getElem? hp)
      refine ⟨wipe_set, _, rfl, ?_⟩
      intro x dx hx hdx hne
      refine made_book hx hdx (s4 _ _ q1) q2 q3 fun H6 s6 B6 => ⟨rfl, ?_⟩
      refine ⟨_, s6 _ _ e4, by rw [List.length_map]; exact small1000' (by omega), bs ++ [x], by rw [List.length_append, bl]; rfl, by rw [upd_same, List.map_append]; rfl, fun j b' p' hb' hp' => ?_, same_mut (s4.trans s6) hbo⟩
      rcases Nat.lt_or_ge j bs.length with h | h
      · rw [List.getElem?_append_left h] at hb'
        exact ((bb j b' p' hb' hp').same s6).updL (s6 _ _ e4)
      · rw [List.getElem?_append_right h] at hb'
        have e0 : j - bs.length = 0 := by
          rcases Nat.eq_zero_or_pos (j - bs.length) with h0 | h0
          · exact h0
          · rw [List.getElem?_eq_none (by simp; omega)] at hb'
            cases hb'
        rw [e0] at hb'
        cases hb'
        have ej : j = i := by omega
        subst ej
        rw [hp] at hp'
        cases hp'
        exact B6.updL (s6 _ _ e4)
    rintro H4 ⟨bs, bl, e4, bb, s4⟩
    have D4 := D3.same s4
    -- the texts
    refine ⟨_, rfl, _, rfl, _, rfl, l, sa, pa, sg, ps, n + 90, rfl, nsa, npa, SqL.of (s4 _ _ sa3), n1, n4, s4 _ _ e3, pl, fun p hp => ⟨⟨s4 _ _ (pp3 p hp).1.1, (pp3 p hp).1.2⟩, (pp3 p hp).2⟩, D4, fun ta ts H5 hta e5 tl tt tk kp5 D5 => ?_⟩
    have nta : ta ≠ l := D4.ne hta
    have e45 := kp5 _ _ e4 nbo
    have bb5 : ∀ (j : Nat) (b : Addr) (p : Addr × List (Key × V)), bs[j]? = some b → ps[j]? = some p → Book1 C H5 b p.2 := fun j b p h1 h2 => (bb j b p h1 h2).kp D4 kp5
    have sa5 := kp5 _ _ (s4 _ _ sa3) nsa
    have e35 := kp5 _ _ (s4 _ _ e3) npa
    have kp05 : Kp l H H5 := (kp03.trans (.of s4)).trans kp5
    have pp5 : ∀ p ∈ ps, PlainAt sg H5 p.1 p.2 := fun p hp => ⟨kp5 _ _ (s4 _ _ (pp3 p hp).1.1) (pp3 p hp).2, (pp3 p hp).1.2⟩
    -- the tables
    refine ⟨_, rfl, pa, rfl, ⟨_, SqL.of e35⟩, fun tt' htt => ?_⟩
    have ntt : tt' ≠ l := D5.ne htt
    refine lc_it (walk_listF (K := K) (fun p : Addr × List (Key × V) => V.ref p.1) ps) (fun i H' => ∃ tb : List (Addr × List (Key × V)), tb.length = i ∧ H' tt' = some (.lst (tb.map fun t => V.ref t.1)) ∧ (∀ (j : Nat) (t p : Addr × List (Key × V)), tb[j]? = some t → ps[j]? = some p → H' t.1 = some (.dK t.2) ∧ TblOk (tfD p.2) (fun z => InAll sg (sizeOf sg.length) z ∨ z ∈ ts) t.2 ∧ t.2.length ≤ 700000) ∧ Same H5 H')
      ⟨[], rfl, upd_same, fun j b p h => by simp at h, same_new htt⟩ (fun i H' _ q => by obtain ⟨_, _, _, _, q⟩ := q; exact SqL.of (q _ _ e35)) ?_ ?_
    · rintro i x H6 H7 hi ⟨tb, tbl, e6, ee, s6⟩ ⟨rfl, p, hp, rfl⟩
      obtain ⟨q1, q2, q3, q4⟩ := pp5 p (List.mem_of_getElem? hp)
      refine ⟨wipe_set, _, rfl, _, rfl, _, rfl, p.1, sa, ta, p.2, sg, ts, rfl, s6 _ _ q1, tar_of q2 q3, SqL.of (s6 _ _ sa5), n1, n4, q4, SqL.of (s6 _ _ e5), tl, tt, fun fo kf H8 hfo e8 t8 l8 s8 => ?_⟩
      refine ⟨_, s8 _ _ e6, by rw [List.length_map]; exact small1000' (by omega), tb ++ [(fo, kf)], by rw [List.length_append, tbl]; rfl, by rw [upd_same, List.map_append]; rfl, fun j t p' ht hp' => ?_, same_mut (s6.trans s8) htt⟩
      have away : ∀ {c kv}, H8 c = some (.dK kv) → c ≠ tt' := fun h e => by
        rw [e, s8 _ _ e6] at h
        cases h
      rcases Nat.lt_or_ge j tb.length with h | h
      · rw [List.getElem?_append_left h] at ht
        obtain ⟨w1, w2, w3⟩ := ee j t p' ht hp'
        exact ⟨by rw [upd_ne (away (s8 _ _ w1))]; exact s8 _ _ w1, w2, w3⟩
      · rw [List.getElem?_append_right h] at ht
        have e0 : j - tb.length = 0 := by
          rcases Nat.eq_zero_or_pos (j - tb.length) with h0 | h0
          · exact h0
          · rw [List.getElem?_eq_none (by simp; omega)] at ht
            cases ht
        rw [e0] at ht
        cases ht
        have ej : j = i := by omega
        subst ej
        rw [hp] at hp'
        cases hp'
        exact ⟨by rw [upd_ne (away e8)]; exact e8, t8, l8⟩
    rintro H6 ⟨tb, tbl, e6, ee, s6⟩
    have D6 := D5.same s6
    have kp06 := kp05.trans (.of s6)
    have e36 := s6 _ _ e35
    have e46 := s6 _ _ e45
    have bb6 : ∀ (j : Nat) (b : Addr) (p : Addr × List (Key × V)), bs[j]? = some b → ps[j]? = some p → Book1 C H6 b p.2 := fun j b p h1 h2 => (bb5 j b p h1 h2).same s6
    have pp6 : ∀ p ∈ ps, PlainAt sg H6 p.1 p.2 := fun p hp => ⟨s6 _ _ (pp5 p hp).1, (pp5 p hp).2⟩
    -- what holds of two of them
    obtain ⟨F, hF⟩ : ∃ F : Nat → List (Key × V), ∀ j p, ps[j]? = some p → F j = p.2 := ⟨fun j => ((ps[j]?).map (·.2)).getD [], fun j p h => by show ((ps[j]?).map (·.2)).getD [] = _; rw [h]; rfl⟩
    have row : ∀ j, j < 3 → ∃ p b t, ps[j]? = some p ∧ bs[j]? = some b ∧ tb[j]? = some t ∧ F j = p.2 ∧ PlainAt sg H6 p.1 p.2 ∧ Book1 C H6 b p.2 ∧ H6 t.1 = some (.dK t.2) ∧ TblOk (tfD p.2) (fun z => InAll sg (sizeOf sg.length) z ∨ z ∈ ts) t.2 ∧ t.2.length ≤ 700000 := by
      intro j hj
      obtain ⟨p, hp⟩ : ∃ p, ps[j]? = some p := ⟨_, List.getElem?_eq_getElem (by omega)⟩
      obtain ⟨b, hb⟩ : ∃ b, bs[j]? = some b := ⟨_, List.getElem?_eq_getElem (by omega)⟩
      obtain ⟨t, ht⟩ : ∃ t, tb[j]? = some t := ⟨_, List.getElem?_eq_getElem (by omega)⟩
      obtain ⟨w1, w2, w3⟩ := ee j t p ht hp
      exact ⟨p, b, t, hp, hb, ht, hF j p hp, pp6 p (List.mem_of_getElem? hp), bb6 j b p hb hp, w1, w2, w3⟩
    have tarF : ∀ j, j < 3 → Tar (F j) ∧ ∀ c, (∃ q, tfD (F j) (ch c) = some q) ↔ c ∈ sg := fun j hj => by
      obtain ⟨p, b, t, h1, h2, h3, h4, ⟨q1, q2, q3, q4⟩, _⟩ := row j hj
      rw [h4]
      exact ⟨tar_of q2 q3, q4⟩
    have ssF : ∀ i j, i < 3 → j < 3 → SameSigns (tfD (F i)) (tfD (F j)) := fun i j hi hj c => ((tarF i hi).2 c).trans ((tarF j hj).2 c).symm
    refine ⟨by show 0 ≤ sizeLine; decide, fun gr hgr => ?_⟩
    have ngr : gr ≠ l := D6.ne hgr
    have hgr0 : H gr = none := kp_free kp06 ngr hgr
    have gh : ∀ {c : Addr} {xs : List V}, H6 c = some (.lst xs) → ∀ (t : Addr) {kv : List (Key × V)}, H6 t = some (.dK kv) → c ≠ t := fun h t _ h2 e => by
      rw [e, h2] at h
      cases h
    have overS : ∀ i, i < 3 → ∀ z, (InAll sg (sizeOf sg.length) z ∨ z ∈ ts) → (∀ c ∈ cs z, c ∈ sg) := fun i hi z hz => by
      rcases hz with h | h
      · exact h.2
      · exact (tt z h).2
    refine ⟨3, rfl, by decide, by decide, for_range (lo := 0) (n := 3) (fun i σ H' => ∃ x7 x8 x9 x10 x11 x12, σ = [some (.ref l), some (.ref sa), some (.ref pa), some (.ref bo), some (.ref ta), some (.ref tt'), some (.ref gr), x7, x8, x9, x10, x11, x12] ∧ Same H6 H' ∧
      ∃ gs : List Bool, gs.length = 3 * i ∧ H' gr = some (.lst (gs.map V.bl)) ∧ ∀ (a t : Nat) (g : Bool), t < 3 → gs[3 * a + t]? = some g → (g = true ↔ NoDear (tfD (F a)) (tfD (F t)))) ⟨_, _, _, _, _, _, rfl, same_new hgr, [], rfl, upd_same, fun a t g _ h => by simp at h⟩ ?_ ?_⟩
    · rintro i σ H7 hi ⟨x7, x8, x9, x10, x11, x12, rfl, s7, gs, gl, g7, gg⟩
      refine ⟨3, rfl, by decide, by decide, for_range (lo := 0) (n := 3) (fun j σ H' => ∃ x8 x9 x10 x11 x12, σ = [some (.ref l), some (.ref sa), some (.ref pa), some (.ref bo), some (.ref ta), some (.ref tt'), some (.ref gr), some (.int (0 + (i : Int))), x8, x9, x10, x11, x12] ∧ Same H6 H' ∧
        ∃ gs : List Bool, gs.length = 3 * i + j ∧ H' gr = some (.lst (gs.map V.bl)) ∧ ∀ (a t : Nat) (g : Bool), t < 3 → gs[3 * a + t]? = some g → (g = true ↔ NoDear (tfD (F a)) (tfD (F t)))) ⟨_, _, _, _, _, rfl, s7, gs, gl, g7, gg⟩ ?_ ?_⟩
      · clear s7 gl g7 gg
        rintro j σ H8 hj ⟨x8, x9, x10, x11, x12, rfl, s8, gs, gl, g8, gg⟩
        obtain ⟨p, b, t, ep, eb, et, eF, pP, bB, tD, tT, tL⟩ := row i hi
        obtain ⟨p', b', t', ep', eb', et', eF', pP', bB', tD', tT', tL'⟩ := row j hj
        have tar := (tarF i hi).1
        have tar' := (tarF j hj).1
        rw [eF] at tar
        rw [eF'] at tar'
        have ss := ssF i j hi hj
        rw [eF, eF'] at ss
        have ov : ∀ z, (InAll sg (sizeOf sg.length) z ∨ z ∈ ts) → Over (tfD p.2) (cs z) := fun z hz c hc => (pP.2.2.2 c).mpr (overS i hi z hz c hc)
        have t8 := s8 _ _ tD
        have t8' := s8 _ _ tD'
        refine ⟨t.1, _, t8, trivial, fun od => ?_⟩
        have tl8 : (upd H8 t.1 (.frz od (.dK t.2))) tt' = some (.lst (tb.map fun t => V.ref t.1)) := by
          rw [upd_ne (gh e6 t.1 tD)]
          exact s8 _ _ e6
        have ati : atI (tb.map fun t => V.ref t.1) (0 + (i : Int)) = some (.ref t.1) := at_of (j := i) (by omega) (by rw [List.getElem?_map, et]; rfl)
        have atj : atI (tb.map fun t => V.ref t.1) (0 + (j : Int)) = some (.ref t'.1) := at_of (j := j) (by omega) (by rw [List.getElem?_map, et']; rfl)
        refine ⟨_, rfl, _, rfl, tt', _, _, _, rfl, rfl, SqL.of tl8, ati, t.1, od, rfl, .inl ⟨t.2, upd_same, fun Dd hD => ?_⟩⟩
        have nD := lock_ne hD
        refine lcs t.2 walk_keys (fun kv => (dearG (tfD p.2) (tfD p'.2) kv).map V.str) hD (by omega) (fun H' s => s _ _ upd_same) ?_ ?_
        · rintro q kv x H9 H10 hq s9 ⟨rfl, k', v', ek, rfl⟩ N M hN hM
          have ekv : kv = (k', v') := Option.some.inj (hq.symm.trans ek)
          subst ekv
          obtain ⟨z, ez, hz⟩ := tT.key _ (List.mem_of_getElem? hq)
          dsimp only at ez
          subst ez
          refine ⟨wipe_set, _, rfl, _, rfl, tt', _, _, _, rfl, rfl, SqL.of (s9 _ _ tl8), ati, _, rfl, t.1, .int (lp (tfD p.2) (cs z)), rfl, .inl ⟨t.2, Sum.inr z, .inr ⟨od, s9 _ _ upd_same⟩, rfl, (tT.val z hz).symm⟩, ?_⟩
          refine ⟨_, rfl, _, rfl, tt', _, _, _, rfl, rfl, SqL.of (s9 _ _ tl8), atj, _, rfl, t'.1, .int (lp (tfD p'.2) (cs z)), rfl, .inl ⟨t'.2, Sum.inr z, rd_same (rd_lock t8' t8) s9, rfl, (tT'.val z hz).symm⟩, _, _, rfl, rfl, _, rfl, ?_⟩
          refine itB (fun c1 => ?_) (fun c1 => ?_)
          · refine ⟨_, rfl, hN _ _ ?_ (Same.refl _)⟩
            show (if lp (tfD p'.2) (cs z) < lp (tfD p.2) (cs z) then some z else none).map V.str = _
            rw [if_pos (of_decide_eq_true c1)]
            rfl
          · refine hM _ ?_ (Same.refl _)
            show (if lp (tfD p'.2) (cs z) < lp (tfD p.2) (cs z) then some z else none).map V.str = _
            rw [if_neg (of_decide_eq_false c1)]
            rfl
        rintro H9 s9 e9
        rw [fm_str] at e9
        have xiff := dear_iff tT tar tar' ss ov fun z y hz => by
          have hk : z ∈ keyStrs p'.2 := (tf_key (ap_parts pP'.2.1).2.1).mpr ⟨y, hz⟩
          exact Or.inr (tk p' (List.mem_of_getElem? ep') z hk)
        have xl : ∀ z ∈ t.2.filterMap (dearG (tfD p.2) (tfD p'.2)), ∀ c ∈ cs z, lett c = true := by
          intro z hz c hc
          obtain ⟨kv, hkv, g⟩ := List.mem_filterMap.mp hz
          obtain ⟨y, ey, hy⟩ := tT.key kv hkv
          unfold dearG at g
          rw [ey] at g
          have g' : (if lp (tfD p'.2) (cs y) < lp (tfD p.2) (cs y) then some y else none) = some z := g
          split at g'
          · cases g'
            exact sgl c (overS i hi _ hy c hc)
          · cases g'
        generalize t.2.filterMap (dearG (tfD p.2) (tfD p'.2)) = xs at e9 xiff xl
        have S9 : Same H8 (upd H9 t.1 (.dK t.2)) := unlock t8 s9
        have d9 : (upd H9 t.1 (.dK t.2)) Dd = some (.lst (xs.map V.str)) := by
          rw [upd_ne nD]
          exact e9
        refine ⟨s9 _ _ upd_same, ?_⟩
        generalize (upd H9 t.1 (.dK t.2)) = Ha at S9 d9 ⊢
        have s6a := s8.trans S9
        have bl' : ∀ {m : Nat} {q : Addr}, bs[m]? = some q → atI (bs.map V.ref) (0 + (m : Int)) = some (.ref q) := fun {m q} h => at_of (j := m) (by omega) (by rw [List.getElem?_map, h]; rfl)
        have pl' : ∀ {m : Nat} {q : Addr × List (Key × V)}, ps[m]? = some q → atI (ps.map fun p => V.ref p.1) (0 + (m : Int)) = some (.ref q.1) := fun {m q} h => at_of (j := m) (by omega) (by rw [List.getElem?_map, h]; rfl)
        refine ⟨_, rfl, _, rfl, bo, _, _, _, rfl, rfl, SqL.of (s6a _ _ e46), bl' eb, _, rfl, _, rfl, bo, _, _, _, rfl, rfl, SqL.of (s6a _ _ e46), bl' eb', _, rfl, _, rfl, pa, _, _, _, rfl, rfl, SqL.of (s6a _ _ e36), pl' ep, _, rfl, _, rfl, pa, _, _, _, rfl, rfl, SqL.of (s6a _ _ e36), pl' ep', _, rfl, ?_⟩
        refine ⟨b, b', p.1, p'.1, Dd, p.2, p'.2, xs, rfl, bB.same s6a, bB'.same s6a, ss, s6a _ _ pP.1, s6a _ _ pP'.1, d9, xl, xiff, fun Hb sb => ⟨true, rfl, ?_⟩⟩
        have gB := sb _ _ (S9 _ _ g8)
        refine ⟨_, rfl, .inl ⟨rfl, _, SqL.of gB⟩, _, rfl, by show 0 ≤ sizeLine; decide, fun pn hpn => ?_⟩
        refine eq_nil (SqL.of (same_new hpn _ _ (sb _ _ d9))) upd_same xl ?_
        refine ⟨gr, _, _, rfl, rfl, same_new hpn _ _ gB, by rw [List.length_map]; exact small1000' (by omega), ?_⟩
        refine ⟨_, _, _, _, _, rfl, same_mut ((s6a.trans sb).trans (same_new hpn)) hgr, gs ++ [xs.isEmpty], by rw [List.length_append, gl]; rfl, by rw [upd_same, List.map_append]; rfl, fun a t0 g ht0 hg => ?_⟩
        rcases Nat.lt_or_ge (3 * a + t0) gs.length with h | h
        · rw [List.getElem?_append_left h] at hg
          exact gg a t0 g ht0 hg
        · rw [List.getElem?_append_right h] at hg
          have e0 : 3 * a + t0 - gs.length = 0 := by
            rcases Nat.eq_zero_or_pos (3 * a + t0 - gs.length) with h0 | h0
            · exact h0
            · rw [List.getElem?_eq_none (by simp; omega)] at hg
              cases hg
          rw [e0] at hg
          cases hg
          have ea : a = i := by omega
          have et0 : t0 = j := by omega
          subst ea et0
          rw [List.isEmpty_iff, xiff, eF, eF']
      · rintro σ H8 ⟨x8, x9, x10, x11, x12, rfl, s8, gs, gl, g8, gg⟩
        exact ⟨_, _, _, _, _, _, rfl, s8, gs, by omega, g8, gg⟩
    rintro σ H7 ⟨x7, x8, x9, x10, x11, x12, rfl, s7, gs, gl, gr7, gg⟩
    have glen : gs.length = 9 := gl
    obtain ⟨g1, h1⟩ : ∃ g, gs[1]? = some g := ⟨_, List.getElem?_eq_getElem (by omega)⟩
    obtain ⟨g3, h3⟩ : ∃ g, gs[3]? = some g := ⟨_, List.getElem?_eq_getElem (by omega)⟩
    obtain ⟨g5, h5⟩ : ∃ g, gs[5]? = some g := ⟨_, List.getElem?_eq_getElem (by omega)⟩
    obtain ⟨g7, h7⟩ : ∃ g, gs[7]? = some g := ⟨_, List.getElem?_eq_getElem (by omega)⟩
    have d01 := gg 0 1 g1 (by decide) h1
    have d10 := gg 1 0 g3 (by decide) h3
    have d12 := gg 1 2 g5 (by decide) h5
    have d21 := gg 2 1 g7 (by decide) h7
    obtain ⟨p0, b0, t0, _, eb0, _, eF0, _, bB0, _⟩ := row 0 (by decide)
    obtain ⟨p1, b1, t1, _, eb1, _, eF1, _, bB1, _⟩ := row 1 (by decide)
    obtain ⟨p2, b2, t2, _, eb2, _, eF2, _, bB2, _⟩ := row 2 (by decide)
    rw [← eF0] at bB0
    rw [← eF1] at bB1
    rw [← eF2] at bB2
    have a0 : atI (bs.map V.ref) 0 = some (.ref b0) := at_of (j := 0) rfl (by rw [List.getElem?_map, eb0]; rfl)
    have a1 : atI (bs.map V.ref) 1 = some (.ref b1) := at_of (j := 1) rfl (by rw [List.getElem?_map, eb1]; rfl)
    have a2 : atI (bs.map V.ref) 2 = some (.ref b2) := at_of (j := 2) rfl (by rw [List.getElem?_map, eb2]; rfl)
    have q1 : atI (gs.map V.bl) 1 = some (.bl g1) := at_of (j := 1) rfl (by rw [List.getElem?_map, h1]; rfl)
    have q3 : atI (gs.map V.bl) 3 = some (.bl g3) := at_of (j := 3) rfl (by rw [List.getElem?_map, h3]; rfl)
    have q5 : atI (gs.map V.bl) 5 = some (.bl g5) := at_of (j := 5) rfl (by rw [List.getElem?_map, h5]; rfl)
    have q7 : atI (gs.map V.bl) 7 = some (.bl g7) := at_of (j := 7) rfl (by rw [List.getElem?_map, h7]; rfl)
    have bo7 := s7 _ _ e46
    refine ⟨_, rfl, bo, _, _, _, rfl, rfl, SqL.of bo7, a0, _, rfl, bo, _, _, _, rfl, rfl, SqL.of bo7, a1, F 0, F 1, ⟨b0, b1, rfl, bB0.same s7, bB1.same s7, ssF 0 1 (by decide) (by decide)⟩, fun c1 Ha sa' hc1 => ?_⟩
    have z1 : c1 = (g1 && g3) := by rw [Bool.eq_iff_iff, hc1, Bool.and_eq_true, d01, d10]
    subst z1
    have sA := s7.trans sa'
    refine ⟨_, rfl, bo, _, _, _, rfl, rfl, SqL.of (sa' _ _ bo7), a1, _, rfl, bo, _, _, _, rfl, rfl, SqL.of (sa' _ _ bo7), a2, F 1, F 2, ⟨b1, b2, rfl, bB1.same sA, bB2.same sA, ssF 1 2 (by decide) (by decide)⟩, fun c2 Hb sb' hc2 => ?_⟩
    have z2 : c2 = (g5 && g7) := by rw [Bool.eq_iff_iff, hc2, Bool.and_eq_true, d12, d21]
    subst z2
    have sB := sA.trans sb'
    have bo9 := sb' _ _ (sa' _ _ bo7)
    refine ⟨_, rfl, bo, _, _, _, rfl, rfl, SqL.of bo9, a2, _, rfl, bo, _, _, _, rfl, rfl, SqL.of bo9, a2, F 2, F 2, ⟨b2, b2, rfl, bB2.same sB, bB2.same sB, ssF 2 2 (by decide) (by decide)⟩, fun c3 Hc sc' hc3 => ?_⟩
    have z3 : c3 = true := hc3.mpr ⟨nodear_self (tarF 2 (by decide)).1, nodear_self (tarF 2 (by decide)).1⟩
    subst z3
    have sC := sB.trans sc'
    have grC := sc' _ _ (sb' _ _ (sa' _ _ gr7))
    refine ⟨by show 3 ≤ sizeLine; decide, fun tl' htl => ?_⟩
    refine ⟨_, rfl, ?_⟩
    dsimp only [tNil]
    refine repr_bools (bs := [g1 && g3, g5 && g7, true]) upd_same (by show 3 ≤ 1000; decide) ?_
    have sD := sC.trans (same_new htl (o := .lst [.bl (g1 && g3), .bl (g5 && g7), .bl true]))
    have grD := same_new htl (o := .lst [.bl (g1 && g3), .bl (g5 && g7), .bl true]) _ _ grC
    refine tandv (a := g1) (b := g3) (fun N hN => ⟨_, rfl, gr, _, _, _, rfl, rfl, SqL.of grD, q1, hN⟩) (fun N hN => ⟨_, rfl, gr, _, _, _, rfl, rfl, SqL.of grD, q3, hN⟩) ?_
    refine tandv (a := g5) (b := g7) (fun N hN => ⟨_, rfl, gr, _, _, _, rfl, rfl, SqL.of grD, q5, hN⟩) (fun N hN => ⟨_, rfl, gr, _, _, _, rfl, rfl, SqL.of grD, q7, hN⟩) ?_
    refine ⟨by show 3 ≤ sizeLine; decide, fun tm htm => ?_⟩
    dsimp only [tNil]
    refine repr_bools (bs := [g1 && g3, g5 && g7, true]) upd_same (by show 3 ≤ 1000; decide) ?_
    refine ⟨rfl, false, ne_self, ?_⟩
    refine itF rfl ?_
    have sE := sD.trans (same_new htm (o := .lst [.bl (g1 && g3), .bl (g5 && g7), .bl true]))
    have grE := same_new htm (o := .lst [.bl (g1 && g3), .bl (g5 && g7), .bl true]) _ _ grD
    have boE := sE _ _ e46
    generalize (upd (upd Hc tl' (.lst [.bl (g1 && g3), .bl (g5 && g7), .bl true])) tm (.lst [.bl (g1 && g3), .bl (g5 && g7), .bl true])) = He at sE grE boE ⊢
    refine ⟨_, rfl, bo, _, _, _, rfl, rfl, SqL.of boE, a0, _, rfl, bo, _, _, _, rfl, rfl, SqL.of boE, a2, F 0, F 2, ⟨b0, b2, rfl, bB0.same sE, bB2.same sE, ssF 0 2 (by decide) (by decide)⟩, fun c4 Hf sf hc4 => ⟨c4, rfl, ?_⟩⟩
    have fin := k Hf (kp06.trans (.of (sE.trans sf))) ((D6.same (sE.trans sf)).le (by omega))
    refine itB (fun _ => fin) (fun e4 => ?_)
    refine tandv (a := g1) (b := g5) (fun N hN => ⟨_, rfl, gr, _, _, _, rfl, rfl, SqL.of (sf _ _ grE), q1, hN⟩) (fun N hN => ⟨_, rfl, gr, _, _, _, rfl, rfl, SqL.of (sf _ _ grE), q5, hN⟩) ?_
    have no : (g1 && g5) = false := by
      cases h : (g1 && g5) with
      | false => rfl
      | true =>
        rw [Bool.and_eq_true] at h
        have := hc4.mpr (nodear_trans (tarF 0 (by decide)).1 (tarF 1 (by decide)).1 (tarF 2 (by decide)).1 (ssF 0 1 (by decide) (by decide)) (ssF 1 2 (by decide) (by decide)) (d01.mp h.1) (d12.mp h.2))
        rw [e4] at this
        cases this
    rw [no]
    exact ⟨false, rfl, fin⟩
theorem sc_law : FnScope ["script", "spot"] ["script"] (defScope s_law) := ⟨rfl, rfl, rfl, by decide +kernel, rfl, by decide +kernel, by decide +kernel⟩
theorem ok_law {f : Addr} {fd : FuncData} (F : Fun K "law" "law" s_law f fd) (T : Txt K mg C) (c__law_right : Has P w K mg base CX0 10 "_law_right" ["dice"] (spRight 600)) (c__law_dice : Has P w K mg base CX0 1 "_law_dice" ["script", "spot"] (spDice K)) : FnG P w K mg base CX0 12 f fd ["script"] (spLaw K) := by
  refine fn_g0 F sc_law (fun vs H Q E h => ?_) (fun cdv A outer s H vs Q E hg hr h => ?_)
  · obtain ⟨a, ns, rfl, _⟩ := h
    rfl
  · have hu := hu_of hr
    obtain ⟨a, ns, rfl, hS, hn, k⟩ := h
    refine ⟨_, (pss_cons (ps_for PassesOwn.never rfl (pi_range1 (by rfl) T.b_range (pa_cons (pe_callB (call_max2 rfl) (by rfl) T.b_max (by decide +kernel) (pa_cons pe_int (pa_cons (pe_callB (call_min2 rfl) (by rfl) T.b_min (by decide +kernel) (pa_cons pe_int (pa_cons (pe_callB (g_len_seq K) (by rfl) T.b_len (by decide +kernel) (pa_cons (pv 0) pa_nil)) pa_nil))) pa_nil))) pa_nil)) (pg_name (i := 1) sc_law.nd rfl (Or.inl rfl)) (pss_one (ps_if (pt_not (pt_val (pe_has c__law_right hg (hr.mono (by decide)) pass0 (pa_cons (pe_has c__law_dice hg (hr.mono (by decide)) pass0 (pa_cons (pv 0) (pa_cons (pv 1) pa_nil))) pa_nil)))) (pss_one (ps_ret pe_bl)) pss_nil)))
      (pss_one (ps_ret pe_bl))), ?_⟩
    obtain ⟨J, hJ, j1, j8⟩ : ∃ J : Int, (if (if ((ns.map V.int).length : Int) < 6 then ((ns.map V.int).length : Int) else 6) > 1 then (if ((ns.map V.int).length : Int) < 6 then ((ns.map V.int).length : Int) else 6) else 1) = J ∧ 1 ≤ J ∧ J ≤ 6 := ⟨_, rfl, cells_bound (n := (ns.map V.int).length) (m := 6) (by decide)⟩
    refine ⟨_, rfl, _, _, rfl, .inl hS, _, _, rfl, _, _, rfl, J, congrArg (fun i => [V.int i]) hJ, by omega, by omega, for_range (lo := 0) (n := J.toNat) (fun i σ H' => ∃ v, σ = [some (.ref a), v] ∧ Same H H') ⟨_, rfl, Same.refl H⟩ ?_ ?_⟩
    · rintro i σ H1 hi ⟨v, rfl, s1⟩
      refine ⟨_, rfl, _, rfl, a, ns, _, rfl, s1.seq hS, hn, by omega, by omega, fun l H2 hl s2 D2 => ?_⟩
      have fl : H l = none := s1.free hl
      refine ⟨l, 2 ^ 60 - 600, rfl, D2.le (by omega), fun H4 kp4 D4 => ⟨true, rfl, ?_⟩⟩
      exact ⟨_, rfl, kp4.sameOf (s1.trans s2) fl⟩
    · rintro σ H1 ⟨v, rfl, s1⟩
      exact k _
end
theorem all_mk {l : PySem.W.OpenLaw} {w : World} {K : PySem.W.Frag} {h : Heap} {mg : Str → Option Value} {fa : Addr} {C : Addr} (X : K.In h) (G0 : h.Ns mainGlobals mg) (hfa : mg "law" = some (.ref fa))
    {f0 f1 f2 f3 f4 f5 f6 f7 f8 f9 f10 f11 f12 f13 f14 f15 f16 f17 f18 f19 f20 f21 f22 f23 f24 f25 f26 : Addr}
    {od0 an0 : Option Addr} {sl0 : Array (Option Value)} {oc0 kV0 dc0 pm0 cd0 ct0 : Value}
    {od1 an1 : Option Addr} {sl1 : Array (Option Value)} {oc1 kV1 dc1 pm1 cd1 ct1 : Value}
    {od2 an2 : Option Addr} {sl2 : Array (Option Value)} {oc2 kV2 dc2 pm2 cd2 ct2 : Value}
    {od3 an3 : Option Addr} {sl3 : Array (Option Value)} {oc3 kV3 dc3 pm3 cd3 ct3 : Value}
    {od4 an4 : Option Addr} {sl4 : Array (Option Value)} {oc4 kV4 dc4 pm4 cd4 ct4 : Value}
    {od5 an5 : Option Addr} {sl5 : Array (Option Value)} {oc5 kV5 dc5 pm5 cd5 ct5 : Value}
    {od6 an6 : Option Addr} {sl6 : Array (Option Value)} {oc6 kV6 dc6 pm6 cd6 ct6 : Value}
    {od7 an7 : Option Addr} {sl7 : Array (Option Value)} {oc7 kV7 dc7 pm7 cd7 ct7 : Value}
    {od8 an8 : Option Addr} {sl8 : Array (Option Value)} {oc8 kV8 dc8 pm8 cd8 ct8 : Value}
    {od9 an9 : Option Addr} {sl9 : Array (Option Value)} {oc9 kV9 dc9 pm9 cd9 ct9 : Value}
    {od10 an10 : Option Addr} {sl10 : Array (Option Value)} {oc10 kV10 dc10 pm10 cd10 ct10 : Value}
    {od11 an11 : Option Addr} {sl11 : Array (Option Value)} {oc11 kV11 dc11 pm11 cd11 ct11 : Value}
    {od12 an12 : Option Addr} {sl12 : Array (Option Value)} {oc12 kV12 dc12 pm12 cd12 ct12 : Value}
    {od13 an13 : Option Addr} {sl13 : Array (Option Value)} {oc13 kV13 dc13 pm13 cd13 ct13 : Value}
    {od14 an14 : Option Addr} {sl14 : Array (Option Value)} {oc14 kV14 dc14 pm14 cd14 ct14 : Value}
    {od15 an15 : Option Addr} {sl15 : Array (Option Value)} {oc15 kV15 dc15 pm15 cd15 ct15 : Value}
    {od16 an16 : Option Addr} {sl16 : Array (Option Value)} {oc16 kV16 dc16 pm16 cd16 ct16 : Value}
    {od17 an17 : Option Addr} {sl17 : Array (Option Value)} {oc17 kV17 dc17 pm17 cd17 ct17 : Value}
    {od18 an18 : Option Addr} {sl18 : Array (Option Value)} {oc18 kV18 dc18 pm18 cd18 ct18 : Value}
    {od19 an19 : Option Addr} {sl19 : Array (Option Value)} {oc19 kV19 dc19 pm19 cd19 ct19 : Value}
    {od20 an20 : Option Addr} {sl20 : Array (Option Value)} {oc20 kV20 dc20 pm20 cd20 ct20 : Value}
    {od21 an21 : Option Addr} {sl21 : Array (Option Value)} {oc21 kV21 dc21 pm21 cd21 ct21 : Value}
    {od22 an22 : Option Addr} {sl22 : Array (Option Value)} {oc22 kV22 dc22 pm22 cd22 ct22 : Value}
    {od23 an23 : Option Addr} {sl23 : Array (Option Value)} {oc23 kV23 dc23 pm23 cd23 ct23 : Value}
    {od24 an24 : Option Addr} {sl24 : Array (Option Value)} {oc24 kV24 dc24 pm24 cd24 ct24 : Value}
    {od25 an25 : Option Addr} {sl25 : Array (Option Value)} {oc25 kV25 dc25 pm25 cd25 ct25 : Value}
    {od26 an26 : Option Addr} {sl26 : Array (Option Value)} {oc26 kV26 dc26 pm26 cd26 ct26 : Value}
    (aC : PySem.W.nsIn K mainGlobals "Book" = some (some (.ref C))) (pg : PySem.W.plainGet K C Str.empty = true) (hd : PySem.W.hasDictIn K C = true) (po : PySem.W.plainOver K C = true) (sa : PySem.W.findIn K (.ref C) "__setattr__" = some (some (.builtin "object.__setattr__"))) (mk : PySem.W.makesIn K C = true) (kc : PySem.W.keepIn K (.ref C) = true)
    (iha : PySem.W.findIn K (.ref C) "__class__" = some (some (.builtin "object.__class__"))) (ihn : PySem.W.specialIn K (.builtin "object.__class__") "__get__" = some (some (.builtin "getset_descriptor.__get__"))) (iht : PySem.W.takesIn K (.builtin "object.__class__") = some true) (ihm : PySem.W.mroIn K C (.type "object") = some true)
    (n_own_prices : PySem.W.findIn K (.ref C) "own_prices" = some none)
    (n_own_pieces : PySem.W.findIn K (.ref C) "own_pieces" = some none)
    (n_own_alphabet : PySem.W.findIn K (.ref C) "own_alphabet" = some none)
    (n_own_longest : PySem.W.findIn K (.ref C) "own_longest" = some none)
    (n_own_dearest : PySem.W.findIn K (.ref C) "own_dearest" = some none)
    (a0 : PySem.W.nsIn K mainGlobals "is_integer" = some (some (.ref f0)))
    (l0 : K.lookup f0 = some ⟨oc0, od0, .func (PySem.W.fnOf "is_integer" "is_integer" (defArgs s_is_integer) (defBody s_is_integer) (defScope s_is_integer) .none kV0 dc0 pm0 an0 cd0 ct0), sl0⟩) (c0 : PySem.W.codeIn K cd0 "is_integer" = true) (k0 : PySem.W.keepIn K (.ref f0) = true)
    (a1 : PySem.W.nsIn K mainGlobals "is_word" = some (some (.ref f1)))
    (l1 : K.lookup f1 = some ⟨oc1, od1, .func (PySem.W.fnOf "is_word" "is_word" (defArgs s_is_word) (defBody s_is_word) (defScope s_is_word) .none kV1 dc1 pm1 an1 cd1 ct1), sl1⟩) (c1 : PySem.W.codeIn K cd1 "is_word" = true) (k1 : PySem.W.keepIn K (.ref f1) = true)
    (a2 : PySem.W.nsIn K mainGlobals "is_piece" = some (some (.ref f2)))
    (l2 : K.lookup f2 = some ⟨oc2, od2, .func (PySem.W.fnOf "is_piece" "is_piece" (defArgs s_is_piece) (defBody s_is_piece) (defScope s_is_piece) .none kV2 dc2 pm2 an2 cd2 ct2), sl2⟩) (c2 : PySem.W.codeIn K cd2 "is_piece" = true) (k2 : PySem.W.keepIn K (.ref f2) = true)
    (a3 : PySem.W.nsIn K mainGlobals "is_integer_within" = some (some (.ref f3)))
    (l3 : K.lookup f3 = some ⟨oc3, od3, .func (PySem.W.fnOf "is_integer_within" "is_integer_within" (defArgs s_is_integer_within) (defBody s_is_integer_within) (defScope s_is_integer_within) .none kV3 dc3 pm3 an3 cd3 ct3), sl3⟩) (c3 : PySem.W.codeIn K cd3 "is_integer_within" = true) (k3 : PySem.W.keepIn K (.ref f3) = true)
    (a4 : PySem.W.nsIn K mainGlobals "is_price" = some (some (.ref f4)))
    (l4 : K.lookup f4 = some ⟨oc4, od4, .func (PySem.W.fnOf "is_price" "is_price" (defArgs s_is_price) (defBody s_is_price) (defScope s_is_price) .none kV4 dc4 pm4 an4 cd4 ct4), sl4⟩) (c4 : PySem.W.codeIn K cd4 "is_price" = true) (k4 : PySem.W.keepIn K (.ref f4) = true)
    (a5 : PySem.W.nsIn K mainGlobals "are_prices" = some (some (.ref f5)))
    (l5 : K.lookup f5 = some ⟨oc5, od5, .func (PySem.W.fnOf "are_prices" "are_prices" (defArgs s_are_prices) (defBody s_are_prices) (defScope s_are_prices) .none kV5 dc5 pm5 an5 cd5 ct5), sl5⟩) (c5 : PySem.W.codeIn K cd5 "are_prices" = true) (k5 : PySem.W.keepIn K (.ref f5) = true)
    (a6 : PySem.W.findIn K (.ref C) "__init__" = some (some (.ref f6))) (i6 : PySem.W.isFn K (.ref f6) = true)
    (l6 : K.lookup f6 = some ⟨oc6, od6, .func (PySem.W.fnOf "__init__" "Book.__init__" (defArgs s_Book___init__) (defBody s_Book___init__) (defScope s_Book___init__) .none kV6 dc6 pm6 an6 cd6 ct6), sl6⟩) (c6 : PySem.W.codeIn K cd6 "Book.__init__" = true) (k6 : PySem.W.keepIn K (.ref f6) = true)
    (a7 : PySem.W.nsIn K mainGlobals "least_price" = some (some (.ref f7)))
    (l7 : K.lookup f7 = some ⟨oc7, od7, .func (PySem.W.fnOf "least_price" "least_price" (defArgs s_least_price) (defBody s_least_price) (defScope s_least_price) .none kV7 dc7 pm7 an7 cd7 ct7), sl7⟩) (c7 : PySem.W.codeIn K cd7 "least_price" = true) (k7 : PySem.W.keepIn K (.ref f7) = true)
    (a8 : PySem.W.nsIn K mainGlobals "require_book" = some (some (.ref f8)))
    (l8 : K.lookup f8 = some ⟨oc8, od8, .func (PySem.W.fnOf "require_book" "require_book" (defArgs s_require_book) (defBody s_require_book) (defScope s_require_book) .none kV8 dc8 pm8 an8 cd8 ct8), sl8⟩) (c8 : PySem.W.codeIn K cd8 "require_book" = true) (k8 : PySem.W.keepIn K (.ref f8) = true)
    (a9 : PySem.W.nsIn K mainGlobals "require_comparable" = some (some (.ref f9)))
    (l9 : K.lookup f9 = some ⟨oc9, od9, .func (PySem.W.fnOf "require_comparable" "require_comparable" (defArgs s_require_comparable) (defBody s_require_comparable) (defScope s_require_comparable) .none kV9 dc9 pm9 an9 cd9 ct9), sl9⟩) (c9 : PySem.W.codeIn K cd9 "require_comparable" = true) (k9 : PySem.W.keepIn K (.ref f9) = true)
    (a10 : PySem.W.nsIn K mainGlobals "dearer_in" = some (some (.ref f10)))
    (l10 : K.lookup f10 = some ⟨oc10, od10, .func (PySem.W.fnOf "dearer_in" "dearer_in" (defArgs s_dearer_in) (defBody s_dearer_in) (defScope s_dearer_in) .none kV10 dc10 pm10 an10 cd10 ct10), sl10⟩) (c10 : PySem.W.codeIn K cd10 "dearer_in" = true) (k10 : PySem.W.keepIn K (.ref f10) = true)
    (a11 : PySem.W.nsIn K mainGlobals "is_nowhere_dearer" = some (some (.ref f11)))
    (l11 : K.lookup f11 = some ⟨oc11, od11, .func (PySem.W.fnOf "is_nowhere_dearer" "is_nowhere_dearer" (defArgs s_is_nowhere_dearer) (defBody s_is_nowhere_dearer) (defScope s_is_nowhere_dearer) .none kV11 dc11 pm11 an11 cd11 ct11), sl11⟩) (c11 : PySem.W.codeIn K cd11 "is_nowhere_dearer" = true) (k11 : PySem.W.keepIn K (.ref f11) = true)
    (a12 : PySem.W.nsIn K mainGlobals "dearer_piece" = some (some (.ref f12)))
    (l12 : K.lookup f12 = some ⟨oc12, od12, .func (PySem.W.fnOf "dearer_piece" "dearer_piece" (defArgs s_dearer_piece) (defBody s_dearer_piece) (defScope s_dearer_piece) .none kV12 dc12 pm12 an12 cd12 ct12), sl12⟩) (c12 : PySem.W.codeIn K cd12 "dearer_piece" = true) (k12 : PySem.W.keepIn K (.ref f12) = true)
    (a13 : PySem.W.nsIn K mainGlobals "are_as_cheap" = some (some (.ref f13)))
    (l13 : K.lookup f13 = some ⟨oc13, od13, .func (PySem.W.fnOf "are_as_cheap" "are_as_cheap" (defArgs s_are_as_cheap) (defBody s_are_as_cheap) (defScope s_are_as_cheap) .none kV13 dc13 pm13 an13 cd13 ct13), sl13⟩) (c13 : PySem.W.codeIn K cd13 "are_as_cheap" = true) (k13 : PySem.W.keepIn K (.ref f13) = true)
    (a14 : PySem.W.nsIn K mainGlobals "_law_dice" = some (some (.ref f14)))
    (l14 : K.lookup f14 = some ⟨oc14, od14, .func (PySem.W.fnOf "_law_dice" "_law_dice" (defArgs s__law_dice) (defBody s__law_dice) (defScope s__law_dice) .none kV14 dc14 pm14 an14 cd14 ct14), sl14⟩) (c14 : PySem.W.codeIn K cd14 "_law_dice" = true) (k14 : PySem.W.keepIn K (.ref f14) = true)
    (a15 : PySem.W.nsIn K mainGlobals "_law_roll" = some (some (.ref f15)))
    (l15 : K.lookup f15 = some ⟨oc15, od15, .func (PySem.W.fnOf "_law_roll" "_law_roll" (defArgs s__law_roll) (defBody s__law_roll) (defScope s__law_roll) .none kV15 dc15 pm15 an15 cd15 ct15), sl15⟩) (c15 : PySem.W.codeIn K cd15 "_law_roll" = true) (k15 : PySem.W.keepIn K (.ref f15) = true)
    (a16 : PySem.W.nsIn K mainGlobals "_law_pick" = some (some (.ref f16)))
    (l16 : K.lookup f16 = some ⟨oc16, od16, .func (PySem.W.fnOf "_law_pick" "_law_pick" (defArgs s__law_pick) (defBody s__law_pick) (defScope s__law_pick) .none kV16 dc16 pm16 an16 cd16 ct16), sl16⟩) (c16 : PySem.W.codeIn K cd16 "_law_pick" = true) (k16 : PySem.W.keepIn K (.ref f16) = true)
    (a17 : PySem.W.nsIn K mainGlobals "_law_letters" = some (some (.ref f17)))
    (l17 : K.lookup f17 = some ⟨oc17, od17, .func (PySem.W.fnOf "_law_letters" "_law_letters" (defArgs s__law_letters) (defBody s__law_letters) (defScope s__law_letters) .none kV17 dc17 pm17 an17 cd17 ct17), sl17⟩) (c17 : PySem.W.codeIn K cd17 "_law_letters" = true) (k17 : PySem.W.keepIn K (.ref f17) = true)
    (a18 : PySem.W.nsIn K mainGlobals "_law_some" = some (some (.ref f18)))
    (l18 : K.lookup f18 = some ⟨oc18, od18, .func (PySem.W.fnOf "_law_some" "_law_some" (defArgs s__law_some) (defBody s__law_some) (defScope s__law_some) .none kV18 dc18 pm18 an18 cd18 ct18), sl18⟩) (c18 : PySem.W.codeIn K cd18 "_law_some" = true) (k18 : PySem.W.keepIn K (.ref f18) = true)
    (a19 : PySem.W.nsIn K mainGlobals "_law_least" = some (some (.ref f19)))
    (l19 : K.lookup f19 = some ⟨oc19, od19, .func (PySem.W.fnOf "_law_least" "_law_least" (defArgs s__law_least) (defBody s__law_least) (defScope s__law_least) .none kV19 dc19 pm19 an19 cd19 ct19), sl19⟩) (c19 : PySem.W.codeIn K cd19 "_law_least" = true) (k19 : PySem.W.keepIn K (.ref f19) = true)
    (a20 : PySem.W.nsIn K mainGlobals "_law_all" = some (some (.ref f20)))
    (l20 : K.lookup f20 = some ⟨oc20, od20, .func (PySem.W.fnOf "_law_all" "_law_all" (defArgs s__law_all) (defBody s__law_all) (defScope s__law_all) .none kV20 dc20 pm20 an20 cd20 ct20), sl20⟩) (c20 : PySem.W.codeIn K cd20 "_law_all" = true) (k20 : PySem.W.keepIn K (.ref f20) = true)
    (a21 : PySem.W.nsIn K mainGlobals "_law_three" = some (some (.ref f21)))
    (l21 : K.lookup f21 = some ⟨oc21, od21, .func (PySem.W.fnOf "_law_three" "_law_three" (defArgs s__law_three) (defBody s__law_three) (defScope s__law_three) .none kV21 dc21 pm21 an21 cd21 ct21), sl21⟩) (c21 : PySem.W.codeIn K cd21 "_law_three" = true) (k21 : PySem.W.keepIn K (.ref f21) = true)
    (a22 : PySem.W.nsIn K mainGlobals "_law_texts" = some (some (.ref f22)))
    (l22 : K.lookup f22 = some ⟨oc22, od22, .func (PySem.W.fnOf "_law_texts" "_law_texts" (defArgs s__law_texts) (defBody s__law_texts) (defScope s__law_texts) .none kV22 dc22 pm22 an22 cd22 ct22), sl22⟩) (c22 : PySem.W.codeIn K cd22 "_law_texts" = true) (k22 : PySem.W.keepIn K (.ref f22) = true)
    (a23 : PySem.W.nsIn K mainGlobals "_law_costs" = some (some (.ref f23)))
    (l23 : K.lookup f23 = some ⟨oc23, od23, .func (PySem.W.fnOf "_law_costs" "_law_costs" (defArgs s__law_costs) (defBody s__law_costs) (defScope s__law_costs) .none kV23 dc23 pm23 an23 cd23 ct23), sl23⟩) (c23 : PySem.W.codeIn K cd23 "_law_costs" = true) (k23 : PySem.W.keepIn K (.ref f23) = true)
    (a24 : PySem.W.nsIn K mainGlobals "_law_pair_right" = some (some (.ref f24)))
    (l24 : K.lookup f24 = some ⟨oc24, od24, .func (PySem.W.fnOf "_law_pair_right" "_law_pair_right" (defArgs s__law_pair_right) (defBody s__law_pair_right) (defScope s__law_pair_right) .none kV24 dc24 pm24 an24 cd24 ct24), sl24⟩) (c24 : PySem.W.codeIn K cd24 "_law_pair_right" = true) (k24 : PySem.W.keepIn K (.ref f24) = true)
    (a25 : PySem.W.nsIn K mainGlobals "_law_right" = some (some (.ref f25)))
    (l25 : K.lookup f25 = some ⟨oc25, od25, .func (PySem.W.fnOf "_law_right" "_law_right" (defArgs s__law_right) (defBody s__law_right) (defScope s__law_right) .none kV25 dc25 pm25 an25 cd25 ct25), sl25⟩) (c25 : PySem.W.codeIn K cd25 "_law_right" = true) (k25 : PySem.W.keepIn K (.ref f25) = true)
    (a26 : PySem.W.nsIn K mainGlobals "law" = some (some (.ref f26)))
    (l26 : K.lookup f26 = some ⟨oc26, od26, .func (PySem.W.fnOf "law" "law" (defArgs s_law) (defBody s_law) (defScope s_law) .none kV26 dc26 pm26 an26 cd26 ct26), sl26⟩) (c26 : PySem.W.codeIn K cd26 "law" = true) (k26 : PySem.W.keepIn K (.ref f26) = true)
    (z_abs : PySem.W.nsIn K mainGlobals "abs" = some none)
    (z_all : PySem.W.nsIn K mainGlobals "all" = some none)
    (z_bool : PySem.W.nsIn K mainGlobals "bool" = some none)
    (z_dict : PySem.W.nsIn K mainGlobals "dict" = some none)
    (z_int : PySem.W.nsIn K mainGlobals "int" = some none)
    (z_isinstance : PySem.W.nsIn K mainGlobals "isinstance" = some none)
    (z_len : PySem.W.nsIn K mainGlobals "len" = some none)
    (z_list : PySem.W.nsIn K mainGlobals "list" = some none)
    (z_max : PySem.W.nsIn K mainGlobals "max" = some none)
    (z_min : PySem.W.nsIn K mainGlobals "min" = some none)
    (z_range : PySem.W.nsIn K mainGlobals "range" = some none)
    (z_repr : PySem.W.nsIn K mainGlobals "repr" = some none)
    (z_sorted : PySem.W.nsIn K mainGlobals "sorted" = some none)
    (z_str : PySem.W.nsIn K mainGlobals "str" = some none)
    (z_tuple : PySem.W.nsIn K mainGlobals "tuple" = some none)
    (z_zip : PySem.W.nsIn K mainGlobals "zip" = some none)
    {t_MAX_ALPHABET : Tok} (y_MAX_ALPHABET : PySem.W.nsIn K mainGlobals "MAX_ALPHABET" = some (some (.int 4 t_MAX_ALPHABET)))
    {t_MAX_PIECES : Tok} (y_MAX_PIECES : PySem.W.nsIn K mainGlobals "MAX_PIECES" = some (some (.int 12 t_MAX_PIECES)))
    {t_MAX_PRICE : Tok} (y_MAX_PRICE : PySem.W.nsIn K mainGlobals "MAX_PRICE" = some (some (.int 99 t_MAX_PRICE)))
    {t_PIECE_SIGNS : Tok} (y_PIECE_SIGNS : PySem.W.nsIn K mainGlobals "PIECE_SIGNS" = some (some (.int 5 t_PIECE_SIGNS)))
    : ∃ fd : FuncData, (∀ (s : Shared) (v : Value), BindsTo s fd ⟨[v], []⟩ [("script", v)]) ∧ ∀ base : Heap, K.In base → base.Ns mainGlobals mg → FnG l.prog w K mg base CX0 12 fa fd ["script"] (spLaw K) := by
  have e := hfa.symm.trans (PySem.W.mg_of X G0 a26)
  cases e
  have T : Txt K mg C := ⟨⟨pg, hd, po, sa⟩, ⟨⟨pg, hd, po, sa⟩, iha, ihn, iht, ihm, if_pos (beq_self_eq_true _)⟩, n_own_prices, n_own_pieces, n_own_alphabet, n_own_longest, n_own_dearest, PySem.W.mg_of X G0 aC, PySem.W.mg_none_of X G0 z_abs, PySem.W.mg_none_of X G0 z_all, PySem.W.mg_none_of X G0 z_bool, PySem.W.mg_none_of X G0 z_dict, PySem.W.mg_none_of X G0 z_int, PySem.W.mg_none_of X G0 z_isinstance, PySem.W.mg_none_of X G0 z_len, PySem.W.mg_none_of X G0 z_list, PySem.W.mg_none_of X G0 z_max, PySem.W.mg_none_of X G0 z_min, PySem.W.mg_none_of X G0 z_range, PySem.W.mg_none_of X G0 z_repr, PySem.W.mg_none_of X G0 z_sorted, PySem.W.mg_none_of X G0 z_str, PySem.W.mg_none_of X G0 z_tuple, PySem.W.mg_none_of X G0 z_zip, ⟨_, PySem.W.mg_of X G0 y_MAX_ALPHABET⟩, ⟨_, PySem.W.mg_of X G0 y_MAX_PIECES⟩, ⟨_, PySem.W.mg_of X G0 y_MAX_PRICE⟩, ⟨_, PySem.W.mg_of X G0 y_PIECE_SIGNS⟩⟩
  have F0 := fun_mk (st := s_is_integer) l0 c0 k0
  have b0 := F0.binds (ps := ["value"]) fun _ _ _ _ _ _ us hl => match us, hl with | [_], _ => rfl
  have F1 := fun_mk (st := s_is_word) l1 c1 k1
  have b1 := F1.binds (ps := ["value"]) fun _ _ _ _ _ _ us hl => match us, hl with | [_], _ => rfl
  have F2 := fun_mk (st := s_is_piece) l2 c2 k2
  have b2 := F2.binds (ps := ["value"]) fun _ _ _ _ _ _ us hl => match us, hl with | [_], _ => rfl
  have F3 := fun_mk (st := s_is_integer_within) l3 c3 k3
  have b3 := F3.binds (ps := ["value", "least", "most"]) fun _ _ _ _ _ _ us hl => match us, hl with | [_, _, _], _ => rfl
  have F4 := fun_mk (st := s_is_price) l4 c4 k4
  have b4 := F4.binds (ps := ["value"]) fun _ _ _ _ _ _ us hl => match us, hl with | [_], _ => rfl
  have F5 := fun_mk (st := s_are_prices) l5 c5 k5
  have b5 := F5.binds (ps := ["value"]) fun _ _ _ _ _ _ us hl => match us, hl with | [_], _ => rfl
  have F6 := fun_mk (st := s_Book___init__) l6 c6 k6
  have b6 := F6.binds (ps := ["self", "prices"]) fun _ _ _ _ _ _ us hl => match us, hl with | [_, _], _ => rfl
  have F7 := fun_mk (st := s_least_price) l7 c7 k7
  have b7 := F7.binds (ps := ["prices", "text"]) fun _ _ _ _ _ _ us hl => match us, hl with | [_, _], _ => rfl
  have F8 := fun_mk (st := s_require_book) l8 c8 k8
  have b8 := F8.binds (ps := ["value"]) fun _ _ _ _ _ _ us hl => match us, hl with | [_], _ => rfl
  have F9 := fun_mk (st := s_require_comparable) l9 c9 k9
  have b9 := F9.binds (ps := ["book", "other"]) fun _ _ _ _ _ _ us hl => match us, hl with | [_, _], _ => rfl
  have F10 := fun_mk (st := s_dearer_in) l10 c10 k10
  have b10 := F10.binds (ps := ["book", "other"]) fun _ _ _ _ _ _ us hl => match us, hl with | [_, _], _ => rfl
  have F11 := fun_mk (st := s_is_nowhere_dearer) l11 c11 k11
  have b11 := F11.binds (ps := ["book", "other"]) fun _ _ _ _ _ _ us hl => match us, hl with | [_, _], _ => rfl
  have F12 := fun_mk (st := s_dearer_piece) l12 c12 k12
  have b12 := F12.binds (ps := ["book", "other"]) fun _ _ _ _ _ _ us hl => match us, hl with | [_, _], _ => rfl
  have F13 := fun_mk (st := s_are_as_cheap) l13 c13 k13
  have b13 := F13.binds (ps := ["book", "other"]) fun _ _ _ _ _ _ us hl => match us, hl with | [_, _], _ => rfl
  have F14 := fun_mk (st := s__law_dice) l14 c14 k14
  have b14 := F14.binds (ps := ["script", "spot"]) fun _ _ _ _ _ _ us hl => match us, hl with | [_, _], _ => rfl
  have F15 := fun_mk (st := s__law_roll) l15 c15 k15
  have b15 := F15.binds (ps := ["dice", "upto"]) fun _ _ _ _ _ _ us hl => match us, hl with | [_, _], _ => rfl
  have F16 := fun_mk (st := s__law_pick) l16 c16 k16
  have b16 := F16.binds (ps := ["dice", "items"]) fun _ _ _ _ _ _ us hl => match us, hl with | [_, _], _ => rfl
  have F17 := fun_mk (st := s__law_letters) l17 c17 k17
  have b17 := F17.binds (ps := ["dice", "signs", "many"]) fun _ _ _ _ _ _ us hl => match us, hl with | [_, _, _], _ => rfl
  have F18 := fun_mk (st := s__law_some) l18 c18 k18
  have b18 := F18.binds (ps := ["dice", "items", "many"]) fun _ _ _ _ _ _ us hl => match us, hl with | [_, _, _], _ => rfl
  have F19 := fun_mk (st := s__law_least) l19 c19 k19
  have b19 := F19.binds (ps := ["prices", "text"]) fun _ _ _ _ _ _ us hl => match us, hl with | [_, _], _ => rfl
  have F20 := fun_mk (st := s__law_all) l20 c20 k20
  have b20 := F20.binds (ps := ["prices", "signs", "size"]) fun _ _ _ _ _ _ us hl => match us, hl with | [_, _, _], _ => rfl
  have F21 := fun_mk (st := s__law_three) l21 c21 k21
  have b21 := F21.binds (ps := ["dice", "signs"]) fun _ _ _ _ _ _ us hl => match us, hl with | [_, _], _ => rfl
  have F22 := fun_mk (st := s__law_texts) l22 c22 k22
  have b22 := F22.binds (ps := ["dice", "signs", "plain"]) fun _ _ _ _ _ _ us hl => match us, hl with | [_, _, _], _ => rfl
  have F23 := fun_mk (st := s__law_costs) l23 c23 k23
  have b23 := F23.binds (ps := ["prices", "signs", "texts"]) fun _ _ _ _ _ _ us hl => match us, hl with | [_, _, _], _ => rfl
  have F24 := fun_mk (st := s__law_pair_right) l24 c24 k24
  have b24 := F24.binds (ps := ["one", "two", "plain", "other", "dearer"]) fun _ _ _ _ _ _ us hl => match us, hl with | [_, _, _, _, _], _ => rfl
  have F25 := fun_mk (st := s__law_right) l25 c25 k25
  have b25 := F25.binds (ps := ["dice"]) fun _ _ _ _ _ _ us hl => match us, hl with | [_], _ => rfl
  have F26 := fun_mk (st := s_law) l26 c26 k26
  refine ⟨PySem.W.fnOf "law" "law" (defArgs s_law) (defBody s_law) (defScope s_law) .none kV26 dc26 pm26 an26 cd26 ct26, fun s v => .of_eq rfl, fun base _ _ => ?_⟩
  have h_is_integer : HasO l.prog w K mg base CX0 1 "is_integer" ["value"] (spIsI K isInteger) := .mk' F0 (PySem.W.mg_of X G0 a0) b0 (ok_is_integer F0 T)
  have h_is_word : HasO l.prog w K mg base CX0 1 "is_word" ["value"] (spIs K isWord) := .mk' F1 (PySem.W.mg_of X G0 a1) b1 (ok_is_word F1 T)
  have h_is_piece : HasO l.prog w K mg base CX0 2 "is_piece" ["value"] (spIs K isPiece) := .mk' F2 (PySem.W.mg_of X G0 a2) b2 (ok_is_piece F2 T h_is_word)
  have h_is_integer_within : HasO l.prog w K mg base CX0 2 "is_integer_within" ["value", "least", "most"] (spWithin K) := .mk' F3 (PySem.W.mg_of X G0 a3) b3 (ok_is_integer_within F3 T h_is_integer)
  have h_is_price : HasO l.prog w K mg base CX0 3 "is_price" ["value"] (spIsI K isPrice) := .mk' F4 (PySem.W.mg_of X G0 a4) b4 (ok_is_price F4 T h_is_integer_within)
  have h_are_prices : HasO l.prog w K mg base CX0 4 "are_prices" ["value"] (spArePrices K) := .mk' F5 (PySem.W.mg_of X G0 a5) b5 (ok_are_prices F5 T h_is_piece h_is_price)
  have h_Book : C8.Mak l.prog w K mg base 5 "Book" C (spBook C K) [] := ⟨_, _, ["self", "prices"], [], ⟨mk, a6, i6, kc⟩, ok_Book___init__ F6 T h_are_prices, PySem.W.mg_of X G0 aC, b6, .nil⟩
  have h_least_price : HasO l.prog w K mg base CX0 4 "least_price" ["prices", "text"] (spLeastPrice) := .mk' F7 (PySem.W.mg_of X G0 a7) b7 (ok_least_price F7 T)
  have h_require_book : HasO l.prog w K mg base CX0 1 "require_book" ["value"] (spReqBook C) := .mk' F8 (PySem.W.mg_of X G0 a8) b8 (ok_require_book F8 T)
  have h_require_comparable : HasO l.prog w K mg base CX0 2 "require_comparable" ["book", "other"] (spReqCmp C) := .mk' F9 (PySem.W.mg_of X G0 a9) b9 (ok_require_comparable F9 T h_require_book)
  have h_dearer_in : HasO l.prog w K mg base CX0 5 "dearer_in" ["book", "other"] (spDearer C) := .mk' F10 (PySem.W.mg_of X G0 a10) b10 (ok_dearer_in F10 T h_least_price)
  have h_is_nowhere_dearer : HasO l.prog w K mg base CX0 6 "is_nowhere_dearer" ["book", "other"] (spNowhere C) := .mk' F11 (PySem.W.mg_of X G0 a11) b11 (ok_is_nowhere_dearer F11 T h_require_comparable h_dearer_in)
  have h_dearer_piece : HasO l.prog w K mg base CX0 6 "dearer_piece" ["book", "other"] (spDearer C) := .mk' F12 (PySem.W.mg_of X G0 a12) b12 (ok_dearer_piece F12 T h_require_comparable h_dearer_in)
  have h_are_as_cheap : HasO l.prog w K mg base CX0 6 "are_as_cheap" ["book", "other"] (spAsCheap C) := .mk' F13 (PySem.W.mg_of X G0 a13) b13 (ok_are_as_cheap F13 T h_require_comparable h_dearer_in)
  have h__law_dice : Has l.prog w K mg base CX0 1 "_law_dice" ["script", "spot"] (spDice K) := .mk' F14 (PySem.W.mg_of X G0 a14) b14 (ok__law_dice F14 T)
  have h__law_roll : Has l.prog w K mg base CX0 1 "_law_roll" ["dice", "upto"] (spRoll) := .mk' F15 (PySem.W.mg_of X G0 a15) b15 (ok__law_roll F15 T)
  have h__law_pick : Has l.prog w K mg base CX0 2 "_law_pick" ["dice", "items"] (spPick K) := .mk' F16 (PySem.W.mg_of X G0 a16) b16 (ok__law_pick F16 T h__law_roll)
  have h__law_letters : Has l.prog w K mg base CX0 3 "_law_letters" ["dice", "signs", "many"] (spLetters K) := .mk' F17 (PySem.W.mg_of X G0 a17) b17 (ok__law_letters F17 T h__law_pick)
  have h__law_some : Has l.prog w K mg base CX0 2 "_law_some" ["dice", "items", "many"] (spSome K) := .mk' F18 (PySem.W.mg_of X G0 a18) b18 (ok__law_some F18 T h__law_roll)
  have h__law_least : Has l.prog w K mg base CX0 2 "_law_least" ["prices", "text"] (spLawLeast) := .mk' F19 (PySem.W.mg_of X G0 a19) b19 (ok__law_least F19 T)
  have h__law_all : Has l.prog w K mg base CX0 2 "_law_all" ["prices", "signs", "size"] (spAll K) := .mk' F20 (PySem.W.mg_of X G0 a20) b20 (ok__law_all F20 T)
  have h__law_three : Has l.prog w K mg base CX0 4 "_law_three" ["dice", "signs"] (spThree K) := .mk' F21 (PySem.W.mg_of X G0 a21) b21 (ok__law_three F21 T h__law_pick h__law_some h__law_letters h__law_roll)
  have h__law_texts : Has l.prog w K mg base CX0 4 "_law_texts" ["dice", "signs", "plain"] (spTexts K) := .mk' F22 (PySem.W.mg_of X G0 a22) b22 (ok__law_texts F22 T h__law_letters h__law_roll)
  have h__law_costs : Has l.prog w K mg base CX0 3 "_law_costs" ["prices", "signs", "texts"] (spCosts K) := .mk' F23 (PySem.W.mg_of X G0 a23) b23 (ok__law_costs F23 T h__law_all h__law_least)
  have h__law_pair_right : Has l.prog w K mg base CX0 8 "_law_pair_right" ["one", "two", "plain", "other", "dearer"] (spPair C) := .mk' F24 (PySem.W.mg_of X G0 a24) b24 (ok__law_pair_right F24 T h_dearer_piece h__law_least h_is_nowhere_dearer)
  have h__law_right : Has l.prog w K mg base CX0 10 "_law_right" ["dice"] (spRight 600) := .mk' F25 (PySem.W.mg_of X G0 a25) b25 (ok__law_right F25 T h_Book h__law_some h__law_three h__law_texts h__law_costs h_are_as_cheap h_is_nowhere_dearer h__law_roll h__law_pair_right)
  exact ok_law F26 T h__law_right h__law_dice
end K08
open PySem PySem.W PyProof.Rows
set_option maxRecDepth 100000 in
set_option maxHeartbeats 0 in
theorem PySem.Challenge.cw_cutbehind_k08_whole_nowhere_dearer_for_a_holds : PySem.Challenge.rw_cutbehind_k08_whole_nowhere_dearer_for_a.Holds := by
  w_on; o_law; k_head; (case hw => w_witness2)
  k_fill
  refine G.walk_g (l := PySem.Challenge.rw_cutbehind_k08_whole_nowhere_dearer_for_a) (n := 63) (k := 12) (x := "script") (sp := fun K => G.spLaw K) rfl (by decide) rfl ⟨rfl, by decide, by decide⟩ (fun w h Y => PySem.W.kIn_of Y) ?F (fun K H a ns hl _ hS => ⟨a, ns, rfl, hS, hl, fun _ => rfl⟩)
  case F =>
    intro w mg fa h KX G0 hmg
    refine' K08.all_mk (l := PySem.Challenge.rw_cutbehind_k08_whole_nowhere_dearer_for_a) KX G0 hmg ?aC ?pg ?hd ?po ?sa ?mk ?kc ?iha ?ihn ?iht ?ihm ?n_own_prices ?n_own_pieces ?n_own_alphabet ?n_own_longest ?n_own_dearest ?a0 ?l0 ?c0 ?k0 ?a1 ?l1 ?c1 ?k1 ?a2 ?l2 ?c2 ?k2 ?a3 ?l3 ?c3 ?k3 ?a4 ?l4 ?c4 ?k4 ?a5 ?l5 ?c5 ?k5 ?a6 ?i6 ?l6 ?c6 ?k6 ?a7 ?l7 ?c7 ?k7 ?a8 ?l8 ?c8 ?k8 ?a9 ?l9 ?c9 ?k9 ?a10 ?l10 ?c10 ?k10 ?a11 ?l11 ?c11 ?k11 ?a12 ?l12 ?c12 ?k12 ?a13 ?l13 ?c13 ?k13 ?a14 ?l14 ?c14 ?k14 ?a15 ?l15 ?c15 ?k15 ?a16 ?l16 ?c16 ?k16 ?a17 ?l17 ?c17 ?k17 ?a18 ?l18 ?c18 ?k18 ?a19 ?l19 ?c19 ?k19 ?a20 ?l20 ?c20 ?k20 ?a21 ?l21 ?c21 ?k21 ?a22 ?l22 ?c22 ?k22 ?a23 ?l23 ?c23 ?k23 ?a24 ?l24 ?c24 ?k24 ?a25 ?l25 ?c25 ?k25 ?a26 ?l26 ?c26 ?k26 ?z_abs ?z_all ?z_bool ?z_dict ?z_int ?z_isinstance ?z_len ?z_list ?z_max ?z_min ?z_range ?z_repr ?z_sorted ?z_str ?z_tuple ?z_zip ?y_MAX_ALPHABET ?y_MAX_PIECES ?y_MAX_PRICE ?y_PIECE_SIGNS
    (case aC => k_is)
    (case pg => k_is)
    (case hd => k_is)
    (case po => k_is)
    (case sa => k_is)
    (case mk => k_is)
    (case kc => k_is)
    (case iha => k_is)
    (case ihn => k_is)
    (case iht => k_is)
    (case ihm => k_is)
    (case n_own_prices => k_is)
    (case n_own_pieces => k_is)
    (case n_own_alphabet => k_is)
    (case n_own_longest => k_is)
    (case n_own_dearest => k_is)
    (case a0 => k_is)
    (case l0 => k_is)
    (case c0 => k_is)
    (case k0 => k_is)
    (case a1 => k_is)
    (case l1 => k_is)
    (case c1 => k_is)
    (case k1 => k_is)
    (case a2 => k_is)
    (case l2 => k_is)
    (case c2 => k_is)
    (case k2 => k_is)
    (case a3 => k_is)
    (case l3 => k_is)
    (case c3 => k_is)
    (case k3 => k_is)
    (case a4 => k_is)
    (case l4 => k_is)
    (case c4 => k_is)
    (case k4 => k_is)
    (case a5 => k_is)
    (case l5 => k_is)
    (case c5 => k_is)
    (case k5 => k_is)
    (case a6 => k_is)
    (case i6 => k_is)
    (case l6 => k_is)
    (case c6 => k_is)
    (case k6 => k_is)
    (case a7 => k_is)
    (case l7 => k_is)
    (case c7 => k_is)
    (case k7 => k_is)
    (case a8 => k_is)
    (case l8 => k_is)
    (case c8 => k_is)
    (case k8 => k_is)
    (case a9 => k_is)
    (case l9 => k_is)
    (case c9 => k_is)
    (case k9 => k_is)
    (case a10 => k_is)
    (case l10 => k_is)
    (case c10 => k_is)
    (case k10 => k_is)
    (case a11 => k_is)
    (case l11 => k_is)
    (case c11 => k_is)
    (case k11 => k_is)
    (case a12 => k_is)
    (case l12 => k_is)
    (case c12 => k_is)
    (case k12 => k_is)
    (case a13 => k_is)
    (case l13 => k_is)
    (case c13 => k_is)
    (case k13 => k_is)
    (case a14 => k_is)
    (case l14 => k_is)
    (case c14 => k_is)
    (case k14 => k_is)
    (case a15 => k_is)
    (case l15 => k_is)
    (case c15 => k_is)
    (case k15 => k_is)
    (case a16 => k_is)
    (case l16 => k_is)
    (case c16 => k_is)
    (case k16 => k_is)
    (case a17 => k_is)
    (case l17 => k_is)
    (case c17 => k_is)
    (case k17 => k_is)
    (case a18 => k_is)
    (case l18 => k_is)
    (case c18 => k_is)
    (case k18 => k_is)
    (case a19 => k_is)
    (case l19 => k_is)
    (case c19 => k_is)
    (case k19 => k_is)
    (case a20 => k_is)
    (case l20 => k_is)
    (case c20 => k_is)
    (case k20 => k_is)
    (case a21 => k_is)
    (case l21 => k_is)
    (case c21 => k_is)
    (case k21 => k_is)
    (case a22 => k_is)
    (case l22 => k_is)
    (case c22 => k_is)
    (case k22 => k_is)
    (case a23 => k_is)
    (case l23 => k_is)
    (case c23 => k_is)
    (case k23 => k_is)
    (case a24 => k_is)
    (case l24 => k_is)
    (case c24 => k_is)
    (case k24 => k_is)
    (case a25 => k_is)
    (case l25 => k_is)
    (case c25 => k_is)
    (case k25 => k_is)
    (case a26 => k_is)
    (case l26 => k_is)
    (case c26 => k_is)
    (case k26 => k_is)
    (case z_abs => k_is)
    (case z_all => k_is)
    (case z_bool => k_is)
    (case z_dict => k_is)
    (case z_int => k_is)
    (case z_isinstance => k_is)
    (case z_len => k_is)
    (case z_list => k_is)
    (case z_max => k_is)
    (case z_min => k_is)
    (case z_range => k_is)
    (case z_repr => k_is)
    (case z_sorted => k_is)
    (case z_str => k_is)
    (case z_tuple => k_is)
    (case z_zip => k_is)
    (case y_MAX_ALPHABET => k_is)
    (case y_MAX_PIECES => k_is)
    (case y_MAX_PRICE => k_is)
    (case y_PIECE_SIGNS => k_is)
#print axioms PySem.Challenge.cw_cutbehind_k08_whole_nowhere_dearer_for_a_holds
