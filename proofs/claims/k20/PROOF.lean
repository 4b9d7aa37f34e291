import PyProof.Rows.All
import Wide.All
import OpenK.AllK
import Wide.FinOn
import PyProof.EqAt
import PyProof.EqKinds
import PyProof.TupleCall
import HandS.ForMost
import HandS.Wide
import HandS.IsInst
import HandS.Walk
import HandS.Style
import HandS.More
import HandS.TupAny
import HandS.TupMul
import HandS.DictComp
import HandS.ListItems
import HandS.Property
import KE.KDictCopyH
import HandS.Codes
import HandS.DictTup
import KE.KSortTup
import PyProof.Rows.SortKeyStr
import HandS.Small
import HandS.Star
import PySem.Challenge.RW_cutbehind_k20_fronts_of_texts
set_option Elab.async false
set_option linter.all false
set_option maxRecDepth 100000
set_option maxHeartbeats 4000000
/-! The part that every claim shares: defs that are run where no repr is under way (FnG), and rules for what the hand layer lacks. -/
namespace G
open PySem PySem.Spec PyProof.Rows L2
/-! ### a def's promise where no guarded builtin is running -/
structure FnG (P : Program) (w : World) (K : PySem.W.Frag) (mg : Str → Option Value) (base : Heap) (CX : CXT) (k : Nat) (f : Addr) (fd : FuncData) (ps : List Str) (sp : Sp) : Prop where
  cnt : ∀ {vs H Q E}, sp vs H Q E → vs.length = ps.length
  go : ∀ {A : Around} {outer : List Env} {s : Shared} {H : Hp} {args : Args} {us : List Value} {vs : List V} {Q : VK} {E : XK}, A.guards = some [] → Room k A → Env0 P w K mg base A outer s H →
    BindsTo s fd args (ps.zip us) → Vals vs us → sp vs H Q E → codeAny (model P w) A (.call (.ref f) args) (CR CX outer P w H s Q E) s
section
variable {P : Program} {w : World} {K : PySem.W.Frag} {mg : Str → Option Value} {base : Heap} {CX : CXT} {k : Nat} {f : Addr} {fd : FuncData} {ps : List Str} {sp : Sp}
theorem FnG.of (F : FnOk P w K mg base CX k f fd ps sp) : FnG P w K mg base CX k f fd ps sp :=
  ⟨fun h => F.len _ _ _ _ h, fun {A outer s H args us vs Q E} _ hr e0 hb hv hs => F.run A outer s H args us vs Q E hr e0 hb hv hs⟩
theorem FnG.mono {j : Nat} (F : FnG P w K mg base CX j f fd ps sp) (h : j ≤ k) : FnG P w K mg base CX k f fd ps sp :=
  ⟨F.cnt, fun hg hr => F.go hg (hr.mono h)⟩
end
/-- the rule for a def of the text, by its body; the body's reader is told that nothing guarded runs -/
theorem fn_g {CX : CXT} {P : Program} {w : World} {K : PySem.W.Frag} {mg : Str → Option Value} {base : Heap} {k : Nat} {f : Addr} {x qual : Str} {st : Stmt} {fd : FuncData} {N ps : List Str} {sp : Sp}
    (F : Fun K x qual st f fd) (S : FnScope N ps (defScope st)) (cnt : ∀ vs H Q E, sp vs H Q E → vs.length = ps.length)
    (body : ∀ (cdv : Value) (A : Around) (outer : List Env) (s : Shared) (H : Hp) (vs : List V) (Q : VK) (E : XK), (A.deeper (envOfC qual (defScope st) s.heap.objs.size f cdv)).guards = some [] →
      Room k (A.deeper (envOfC qual (defScope st) s.heap.objs.size f cdv)) → sp vs H Q E →
      ∃ t, PSs (cxOf CX P w K mg base N qual (defScope st) f cdv A outer s H E) (defBody st) t ∧ t { nx := fun _ H' => Q .non H', rt := Q } (start N vs) H) :
    FnG P w K mg base CX (k + 1) f fd ps sp := by
  obtain ⟨oc, od, kV, doc, pm, an, cdv, ct, osl, hfd, look, code⟩ := F.ex
  subst hfd
  refine ⟨fun h => cnt _ _ _ _ h, ?_⟩
  intro A outer s H args us vs Q E hg room env0 hbind hvals want
  have kin : K.In s.heap := env0.mod.kin.keeps fun b o q => (env0.bs b o q).1
  have nolim : s.heap.NoLimit := env0.mod.nolimit.keeps fun b o q => (env0.bs b o q).1
  have kinds : ∀ y ∈ ps.zip us, (defScope st).names.lookup y.1 = some .local ∨ ((defScope st).names.lookup y.1 = some .cell ∧ ((cellsFrom (s.heap.objs.size + 1) (defScope st).names []).lookup y.1).isSome = true) := by
    rintro ⟨n, v⟩ hy
    cases S.par n (List.of_mem_zip hy).1 with
    | inl q => exact Or.inl q
    | inr q => exact Or.inr ⟨q, PySem.W.cellsFrom_some _ _ _ (Or.inl q)⟩
  refine codeAny_call_function room.depth (kin _ _ look) rfl S.co S.gen rfl (PySem.W.codeRec_of kin code) (hbind _ _ _ _ ?_)
  refine wpAny_newFunctionEnv_cells S.kind kinds ?_
  intro env he s1 z
  subst he
  refine ⟨nolim.keeps z.toInCall.keep, codeAny_func ?_⟩
  obtain ⟨t, ht, hq⟩ := body cdv A outer s H vs Q E hg (room.deeper _) want
  have I0 := inv_start (CX := CX) (P := P) (w := w) (mg := mg) (base := base) (qual := qual) (E := E) S room.hd env0 (cnt _ _ _ _ want) hvals z
  refine wpAny_mono (ht.run [] s1 (start N vs) H _ I0 hq) ?_ (fun _ _ q => q)
  intro fl s' hs
  cases fl with
  | ret u =>
    obtain ⟨v, σ', H', J, rv, q⟩ := hs
    exact ⟨v, H', J.os, J.bare, J.base, J.hok, rv, q⟩
  | next =>
    obtain ⟨σ', H', J, q⟩ := hs
    exact ⟨V.non, H', J.os, J.bare, J.base, J.hok, rfl, q⟩
  | brk => exact hs.elim fun _ z => z.elim fun _ z => False.elim z.2
  | cont => exact hs.elim fun _ z => z.elim fun _ z => False.elim z.2
/-- a def that lets nothing out -/
theorem fn_g0 {P : Program} {w : World} {K : PySem.W.Frag} {mg : Str → Option Value} {base : Heap} {k : Nat} {f : Addr} {x qual : Str} {st : Stmt} {fd : FuncData} {N ps : List Str} {sp : Sp}
    (F : Fun K x qual st f fd) (S : FnScope N ps (defScope st)) (cnt : ∀ vs H Q E, sp vs H Q E → vs.length = ps.length)
    (body : ∀ (cdv : Value) (A : Around) (outer : List Env) (s : Shared) (H : Hp) (vs : List V) (Q : VK) (E : XK), (A.deeper (envOfC qual (defScope st) s.heap.objs.size f cdv)).guards = some [] →
      Room k (A.deeper (envOfC qual (defScope st) s.heap.objs.size f cdv)) → sp vs H Q E →
      ∃ t, PSs (cxOf CX0 P w K mg base N qual (defScope st) f cdv A outer s H E).nox (defBody st) t ∧ t { nx := fun _ H' => Q .non H', rt := Q } (start N vs) H) :
    FnG P w K mg base CX0 (k + 1) f fd ps sp := fn_g F S cnt fun cdv A outer s H vs Q E hg hr h => by
  obtain ⟨t, ht, hq⟩ := body cdv A outer s H vs Q E hg hr h
  exact ⟨t, ht.nox, hq⟩

/-! ### a def as its callers use it -/
structure Has (P : Program) (w : World) (K : PySem.W.Frag) (mg : Str → Option Value) (base : Heap) (CX : CXT) (k : Nat) (x : Str) (ps : List Str) (sp : Sp) : Prop where
  ex : ∃ f fd, FnG P w K mg base CX k f fd ps sp ∧ mg x = some (.ref f) ∧ PySem.W.keepIn K (.ref f) = true ∧ Binds K fd ps []
theorem Has.mono {P : Program} {w : World} {K : PySem.W.Frag} {mg : Str → Option Value} {base : Heap} {CX : CXT} {j k : Nat} {x : Str} {ps : List Str} {sp : Sp} (F : Has P w K mg base CX j x ps sp) (h : j ≤ k) : Has P w K mg base CX k x ps sp := by
  obtain ⟨f, fd, G, r⟩ := F.ex
  exact ⟨f, fd, G.mono h, r⟩
theorem Has.mk' {P : Program} {w : World} {K : PySem.W.Frag} {mg : Str → Option Value} {base : Heap} {CX : CXT} {k : Nat} {x qual : Str} {ps : List Str} {sp : Sp} {f : Addr} {fd : FuncData} {st : Stmt} (F : Fun K x qual st f fd) (hm : mg x = some (.ref f)) (hb : Binds K fd ps [])
    (G : FnG P w K mg base CX k f fd ps sp) : Has P w K mg base CX k x ps sp := ⟨f, fd, G, hm, F.kp, hb⟩
section
variable {X : Cx} {CX : CXT} {k : Nat} {x : Str} {ps : List Str} {sp : Sp} {E : XK} {p pos : Pos} {e : Expr} {es : List Expr} {t : TA}
theorem run_g {f : Addr} {fd : FuncData} {pins : List (Addr × Obj)} {σ : L2.St} {H : Hp} {s : Shared} {Q : VK} {us : List Value} {vs : List V} (F : FnG X.prog X.w X.K X.mg X.base CX k f fd ps sp) (hg : X.A.guards = some []) (hr : Room k X.A) (hb : Binds X.K fd ps []) (hx : Passes CX X E)
    (I : Inv X pins σ H s) (r : Vals vs us) (h : sp vs H Q E) : wpAny (model X.prog X.w) X.A (call (.ref f) us) (EP X pins σ Q) X.xe s := by
  have hl : (us ++ []).length = ps.length := by
    rw [List.append_nil, ← r.length]
    exact F.cnt h
  have hb' := hb s us I.kIn hl
  rw [List.append_nil] at hb'
  refine wpAny_call (codeAny_mono (F.go hg hr I.env0 hb' r h) ?_)
  intro res s' q
  cases res with
  | error err => exact hx pins σ H s err s' I q
  | ok fl =>
    cases fl with
    | ret u => exact I.after q
    | next => exact q.elim
    | brk => exact q.elim
    | cont => exact q.elim
theorem pe_has (F : Has X.prog X.w X.K X.mg X.base CX k x ps sp) (hg : X.A.guards = some []) (hr : Room k X.A) (hx : Passes CX X E) (ha : PA X (e :: es) t) (hl : Gl X x := by rfl)
    (hdb : (x == ("__debug__" : Str)) = false := by decide) (he : starEach (e :: es) X.env = (false, eval e X.env) :: starEach es X.env := by rfl) (hpl : (backTo pos (starEach es X.env)).any (·.1) = false := by rfl) :
    PE X (.Call (.Name x p) (e :: es) [] pos) (tCall sp [] E t) := by
  obtain ⟨f, fd, G, hm, hk, hb⟩ := F.ex
  constructor
  intro pins s σ H Q I h
  refine wpAny_Call_Name_kw (ld_glob I hl hm ?_ hdb)
  refine PySem.W.callWith_K (h₀ := X.base) I.ok.mod.kin hk (thn (ha.run pos pins s σ H _ I h) ?_) he hpl
  rintro us s1 ⟨vs, H1, I1, r, q⟩
  refine ⟨I1.kIn, run_g G hg hr hb hx I1 r ?_⟩
  have q' : sp (vs ++ []) H1 Q E := q
  rw [List.append_nil] at q'
  exact q'
theorem pe_has0 (F : Has X.prog X.w X.K X.mg X.base CX k x ps sp) (hg : X.A.guards = some []) (hr : Room k X.A) (hx : Passes CX X E) (hl : Gl X x := by rfl) (hdb : (x == ("__debug__" : Str)) = false := by decide) :
    PE X (.Call (.Name x p) [] [] pos) (tCall sp [] E tNil) := by
  obtain ⟨f, fd, G, hm, hk, hb⟩ := F.ex
  constructor
  intro pins s σ H Q I h
  refine wpAny_Call_Name_kw (ld_glob I hl hm ?_ hdb)
  exact PySem.W.callWith_K0 I.kIn hk (run_g (us := []) (vs := []) G hg hr hb hx I .nil h)
end

/-! ### rules for ints of any size, texts, lists, repr -/
section
variable {X : Cx}
def CPowW (i j : Int) : Prop := 0 ≤ j ∧ (Builtin.Int.intBits i : Int) * j ≤ 2 ^ 27
theorem op_powW : OpR X (binaryOp .Pow) (rI CPowW fun i j => .int (i ^ j.toNat)) := by
  intro pins s σ H x y v u Q I rx ry h
  obtain ⟨i, j, rfl, rfl, ⟨h1, h2⟩, q⟩ := h
  obtain ⟨t1, rfl⟩ := rx
  obtain ⟨t2, rfl⟩ := ry
  exact pow_int h1 h2 ⟨V.int _, H, I.tok _, ⟨_, rfl⟩, q⟩
/-- a text said n times, n at least 2 -/
def sRep (z : Str) (n : Nat) : Str := ⟨(List.replicate n z.cps).foldl (· ++ ·) #[]⟩
def rMulS : R2 := fun x y H Q => ∃ (z : Str) (n : Int), x = .str z ∧ y = .int n ∧ 1 < n ∧ n < 2 ^ 40 ∧ 0 < z.length ∧ z.length * n.toNat ≤ sizeLine ∧ Q (.str (sRep z n.toNat)) H
theorem op_mulS : OpR X (binaryOp .Mult) rMulS := by
  intro pins s σ H x y v u Q I rx ry h
  obtain ⟨z, n, rfl, rfl, h1, h2, h3, h4, q⟩ := h
  obtain ⟨t1, rfl⟩ := rx
  obtain ⟨t2, rfl⟩ := ry
  have hz : sizeLine = 16777216 := sizeLine_eq
  have c0 : ¬ n < 1 := by omega
  have c1 : (n == 1 || z.length == 0) = false := by
    have a : (n == 1) = false := beq_eq_false_iff_ne.mpr (by omega)
    have b : (z.length == 0) = false := beq_eq_false_iff_ne.mpr (by omega)
    rw [a, b]
    rfl
  have h5 : (z.length * n.toNat : Nat) ≤ 16777216 := by rw [← hz]; exact h4
  refine PySem.P.mul_str ?_ ?_ ?_ ?_
  · have a : ¬ n < -(2 ^ 63 : Int) := by omega
    have b : ¬ n ≥ 2 ^ 63 := by omega
    rw [decide_eq_false a, decide_eq_false b]
    rfl
  · intro _ _ hgt
    have hn0 : (0 : Int) < n := by omega
    have e1 : (z.length : Int) ≤ 16777216 := by
      have : z.length * 1 ≤ z.length * n.toNat := Nat.mul_le_mul_left _ (by omega)
      omega
    have e2 : (8388608 : Int) ≤ (2 ^ 63 - 1) / n := by
      rw [Int.le_ediv_iff_mul_le hn0]
      have : 8388608 * n < 8388608 * 2 ^ 40 := by omega
      have e3 : (8388608 : Int) * 2 ^ 40 = 2 ^ 63 := by decide
      omega
    have e4 : (z.length : Int) ≤ 8388608 := by
      have : z.length * 2 ≤ z.length * n.toNat := Nat.mul_le_mul_left _ (by omega)
      omega
    omega
  · intro _ _
    unfold Builtin.Str.tooLong
    have : ¬ (z.length * n.toNat) > sizeLine := by omega
    simpa using this
  · rw [if_neg c0, c1]
    exact ⟨by
      show (sRep z n.toNat).length ≤ sizeLine
      exact fits_reps (by unfold Builtin.Str.tooLong; simpa using (show ¬ (z.length * n.toNat) > sizeLine by omega)), ⟨V.str _, H, I.tok _, ⟨_, rfl⟩, q⟩⟩

/-- the signs of a text, each a text -/
def signsV (z : Str) : List V := z.cps.toList.map fun c => V.str ⟨#[c]⟩
def rListS : List V → Hp → VK → Prop := fun xs H Q => ∃ z : Str, xs = [.str z] ∧ z.length ≤ sizeLine ∧ ∀ p, H p = none → Q (.ref p) (upd H p (.lst (signsV z)))
theorem vals_at : ∀ (xs : List V) (us : List Value), us.length = xs.length → (∀ (j : Nat) (u : Value), us[j]? = some u → ∃ x, xs[j]? = some x ∧ RelV x u) → Vals xs us
  | [], [], _, _ => .nil
  | [], _ :: _, n, _ => by cases n
  | _ :: _, [], n, _ => by cases n
  | x :: xs, u :: us, n, at' => by
    obtain ⟨y, ey, ry⟩ := at' 0 u rfl
    cases ey
    refine .cons ry (vals_at xs us (Nat.succ.inj n) ?_)
    intro j v hv
    exact at' (j + 1) v hv
theorem call_list_str (hc : X.calm = true) : CallR X (.type "list") rListS := by
  intro pins s σ H xs us Q I r h
  obtain ⟨z, rfl, hz, q⟩ := h
  obtain ⟨u, rfl, t, rfl⟩ := vals1 r
  refine PySem.call_list_str (I.ok.hd hc) z t ?_ hz
  intro h' tk acc c' keeps at' items
  have lenA : acc.toList.length = (signsV z).length := by
    unfold signsV
    rw [List.length_map, Array.length_toList, Array.length_toList]
    exact items.1
  have va : Vals (signsV z) acc.toList := vals_at _ _ lenA fun j u hu => by
    have hj : acc[j]? = some u := by simpa using hu
    obtain ⟨c, tk2, e1, rfl⟩ := items.2 j u hj
    refine ⟨V.str ⟨#[c]⟩, ?_, ⟨tk2, rfl⟩⟩
    unfold signsV
    have e2 : z.cps.toList[j]? = some c := by simpa using e1
    rw [List.getElem?_map, e2]
    rfl
  have lz : (signsV z).length ≤ sizeLine := by
    unfold signsV
    rw [List.length_map, Array.length_toList]
    exact hz
  refine ⟨.ref s.heap.objs.size, _, I.laid (t' := tk) (o := .lst (signsV z)) keeps (Nat.le_refl _) ?_, rfl, q _ (I.hok.fresh (Nat.le_refl _))⟩
  exact ⟨lz, acc.toList, c', va, by simpa using at'⟩

/-- repr of data of any depth (no dict within) -/
def rRepr (K : PySem.W.Frag) : List V → Hp → VK → Prop := fun xs H Q => ∃ x d, xs = [x] ∧ Dp K H x d ∧ d.showable = true ∧ d.hasDict = false ∧ d.depth ≤ 60 ∧ d.shown.length ≤ sizeLine ∧ Q (.str d.shown) H
theorem call_repr (hg : X.A.guards = some []) (hu : X.A.units + 64 < cLine) : CallR X (.builtin "repr") (rRepr X.K) := by
  intro pins s σ H xs us Q I r h
  obtain ⟨x, d, rfl, hd, hs, hD, hdep, hz, q⟩ := h
  obtain ⟨u, rfl, rx⟩ := vals1 r
  obtain ⟨as, rd⟩ := Dp.reads I d x u hd rx
  have fin : ∀ h' t tk, (∀ b o, s.heap.get? b = some o → h'.get? b = some o) → EP X pins σ Q (.str d.shown t) { s with heap := h', toks := tk } := fun h' t tk keeps =>
    ⟨V.str d.shown, H, I.kept keeps, ⟨t, rfl⟩, q⟩
  cases rd with
  | none =>
    simp only [PyData.shown] at fin
    exact PySem.P.repr_of_none (fin _ _ _ fun _ _ e => e)
  | bool b =>
    simp only [PyData.shown] at fin
    exact PySem.P.repr_of_bool (fin _ _ _ fun _ _ e => e)
  | int i t =>
    simp only [PyData.shown] at fin
    exact PySem.P.repr_of_int (by simpa [PyData.showable] using hs) (fin _ _ _ fun _ _ e => e)
  | str z t =>
    simp only [PyData.shown] at fin hz
    exact PySem.P.repr_of_str (fin _ _ _ fun _ _ e => e) hz
  | list a b c e => exact repr_of_reads' (.list a b c e) hs (PyData.noDict_hsm hD) hg (by omega) (fun _ _ e => e) fin hz
  | tuple a b c e => exact repr_of_reads' (.tuple a b c e) hs (PyData.noDict_hsm hD) hg (by omega) (fun _ _ e => e) fin hz
  | dict a b c e f => cases hD
end

/-! ### the end of a law row, for a law that is run where nothing guarded runs -/
theorem end_g {P : Program} {w : World} {K : PySem.W.Frag} {mg mb : Str → Option Value} {k : Nat} {fa a : Addr} {fd : FuncData} {x : Str} {sp : Sp} {s₁ : Shared} {vs : List Value} {ns : List Int}
    (kin : K.In s₁.heap) (nsM : s₁.heap.Ns mainGlobals mg) (nsB : s₁.heap.Ns builtinsNs mb) (plainB : ∀ x : Str, x ≠ "__name__" → mb x = bootBuiltins x) (nolim : s₁.heap.NoLimit) (gens : s₁.gens = #[])
    (at' : s₁.heap.get? a = some { cls := .type "list", data := .seq vs.toArray }) (areI : IntsAre vs ns) (short : ns.length ≤ sizeLine) (room : Room k callerA)
    (F : ∀ base : Heap, K.In base → base.Ns mainGlobals mg → FnG P w K mg base CX0 k fa fd [x] sp) (bind : ∀ (s : Shared) (u : Value), BindsTo s fd ⟨[u], []⟩ [(x, u)])
    (prom : ∀ H : Hp, Only H → SqL K H a (ns.map V.int) → sp [.ref a] H (fun v _ => v = .bl true) fun _ _ _ => False) :
    codeAny (model P w) callerA (.call (.ref fa) ⟨[.ref a], []⟩) (fun r s' => r = .ok (.ret (.bool true)) ∧ OldK s₁.heap s'.heap ∧ s'.os = s₁.os ∧ AllBare s'.gens) s₁ := by
  have hv := vals_ints areI
  have hlen := areI.length
  have go : ∀ H : Hp, Only H → SqL K H a (ns.map V.int) → HOk P w H s₁.heap → (∀ b, H b ≠ none → b = a) → (H a ≠ none → K.lookup a = none) →
      codeAny (model P w) callerA (.call (.ref fa) ⟨[.ref a], []⟩) (fun r s' => r = .ok (.ret (.bool true)) ∧ OldK s₁.heap s'.heap ∧ s'.os = s₁.os ∧ AllBare s'.gens) s₁ := by
    intro H only sq hok one notK
    have dictFree : ∀ {b : Addr} {o : Obj} {es : Array DictEntry} {ep : Nat}, s₁.heap.get? b = some o → o.data = .dict es ep → H b = none := by
      intro b o es ep e d
      match hb : H b with
      | none => rfl
      | some u =>
        have eb := one b (by rw [hb]; exact fun z => by cases z)
        rw [eb, at'] at e
        cases e
        exact absurd d (fun z => by cases z)
    have nsT : ∀ {b : Addr} {m : Str → Option Value}, s₁.heap.Ns b m → (hidT s₁.heap H).Ns b m := by
      rintro b m ⟨o, es, ep, e, d, rest⟩
      exact ⟨o, es, ep, hidT_get e (dictFree e d), d, rest⟩
    have kinT : K.In (hidT s₁.heap H) := by
      intro b o e
      refine hidT_get (kin b o e) ?_
      match hb : H b with
      | none => rfl
      | some u =>
        have nz : H b ≠ none := by rw [hb]; exact fun z => by cases z
        have eb := one b nz
        rw [eb] at nz e
        rw [notK nz] at e
        cases e
    have modT : Mod K mg (hidT s₁.heap H) := by
      refine ⟨kinT, nsT nsM, ⟨mb, nsT nsB, plainB⟩, ?_⟩
      obtain ⟨mc, l1, l2⟩ := nolim
      exact ⟨mc, nsT l1, l2⟩
    have start0 : Env0 P w K mg (hidT s₁.heap H) callerA [] s₁ H :=
      ⟨rfl, modT, fun _ _ e => of_hidT e, Nat.le_of_eq (hidT_size _ _), trivial, fun _ z => (List.not_mem_nil z).elim, hok, .of_eq gens⟩
    have ran := (F _ kinT (nsT nsM)).go (args := ⟨[.ref a], []⟩) (us := [.ref a]) (vs := [.ref a]) rfl room start0 (bind s₁ (.ref a)) (.cons rfl .nil) (prom H only sq)
    refine codeAny_mono ran ?_
    intro r s' h
    match r, h with
    | .ok (.ret u), ⟨v, H', os, bare, un, hok', rel, val⟩ =>
      have val' : v = .bl true := val
      subst val'
      have eu : u = Value.bool true := rel
      subst eu
      refine ⟨rfl, OldK.of_keep ?_, os, bare⟩
      intro b o e
      match hb : H b with
      | none => exact un.keep b o e hb (fun z => (List.not_mem_nil z).elim) (fun z => (List.not_mem_nil z).elim)
      | some _ =>
        rcases only b with z | ⟨ob, xs, z⟩
        · rw [hb] at z
          cases z
        · have old := (hok b _ z).1
          have new := (hok' b _ (un.frzs b ob _ z)).1
          rw [e] at old
          cases old
          exact new
    | .ok .next, z => exact False.elim z
    | .ok .brk, z => exact False.elim z
    | .ok .cont, z => exact False.elim z
    | .error _, z => exact False.elim z
  match hk : K.lookup a with
  | some o =>
    have e := kin a o hk
    rw [at'] at e
    cases e
    refine go (fun _ => none) (fun _ => Or.inl rfl) (Or.inr ⟨_, vs.toArray, _, hk, rfl, rfl, rfl, ?_, by simpa using hv⟩) (fun _ _ z => by cases z) (fun _ z => absurd rfl z) fun z => absurd rfl z
    rw [List.size_toArray, hlen]
    exact short
  | none =>
    let H1 : Hp := fun b => if b = a then some (.frz { cls := .type "list", data := .seq vs.toArray } (.lst (ns.map V.int))) else none
    have here : H1 a = some (.frz { cls := .type "list", data := .seq vs.toArray } (.lst (ns.map V.int))) := if_pos rfl
    have away : ∀ {b}, b ≠ a → H1 b = none := fun hb => if_neg hb
    refine go H1 (fun b => ?_) (Or.inl (Or.inr ⟨_, here⟩)) (fun b u z => ?_) (fun b z => ?_) fun _ => hk
    · by_cases hb : b = a
      · rw [hb]
        exact Or.inr ⟨_, _, here⟩
      · exact Or.inl (away hb)
    · by_cases hb : b = a
      · rw [hb] at z ⊢
        rw [here] at z
        cases z
        exact ⟨at', by rw [List.length_map]; exact short, vs, _, hv, at'⟩
      · rw [away hb] at z
        cases z
    · by_cases hb : b = a
      · exact hb
      · exact absurd (away hb) z
theorem walk_g {l : PySem.W.OpenLaw} {n k : Nat} {q : Program} {loose : List Str} {XP : (Str → Option Value) → Heap → Prop} {YP : World → Heap → Prop} {d : DefRec} {K : Params → PySem.W.Frag} {sp : PySem.W.Frag → Sp} {x : Str}
    (many : l.most = some n) (fits : n ≤ sizeLine) (plain : d.params.defaults = []) (room : Room k callerA) (hY : ∀ (w : World) (h : Heap), YP w h → (K w.params).In h)
    (F : ∀ (w : World) (mg : Str → Option Value) (fa : Addr) (h : Heap), (K w.params).In h → h.Ns mainGlobals mg → mg d.name = some (.ref fa) →
      ∃ fd : FuncData, (∀ (s : Shared) (u : Value), BindsTo s fd ⟨[u], []⟩ [(x, u)]) ∧ ∀ base : Heap, (K w.params).In base → base.Ns mainGlobals mg → FnG l.prog w (K w.params) mg base CX0 k fa fd [x] (sp (K w.params)))
    (prom : ∀ (K : PySem.W.Frag) (H : Hp) (a : Addr) (ns : List Int), ns.length ≤ n → Only H → SqL K H a (ns.map V.int) → sp K [.ref a] H (fun v _ => v = .bl true) fun _ _ _ => False) :
    PySem.W.WalkO q loose XP YP l.row.toRowW d [] (fun f vs => PySem.call f vs) := by
  refine Att.attach_call many plain ?_
  intro w s₀ s₁ mg mb fa o pm cd doc a vs ns G Y ho hd hcd hmg hobj hints hlen hgens
  obtain ⟨fd, bind, hF⟩ := F w mg fa _ (hY w _ Y) G.T.g hmg
  exact end_g (hY w _ Y) G.T.g G.T.b G.T.builtins G.T.nolimit hgens hobj hints (Nat.le_trans hlen fits) room hF bind fun H only sq => prom _ H a ns hlen only sq
end G
/-! The layer's rules with the written part K named, so that they serve within a comprehension. -/
namespace G
open PySem PySem.Spec PyProof.Rows L2
section
variable {X : Cx} (K : PySem.W.Frag)
theorem g_ix_list (e : X.K = K := by rfl) : IxR X (rIxL K) := by
  subst e
  exact ix_list
theorem g_ix_tup (e : X.K = K := by rfl) : IxR X (rIxT K) := by
  subst e
  exact ix_tup
theorem g_ix_seq (e : X.K = K := by rfl) : IxR X (rIx K) := by
  subst e
  exact ix_seq
def rLenQ : List V → Hp → VK → Prop := fun xs H Q => ∃ p ys, xs = [.ref p] ∧ (SqL K H p ys ∨ SqT K H p ys) ∧ Q (.int (ys.length : Int)) H
theorem g_len_seq (e : X.K = K := by rfl) : CallR X (.builtin "len") (rLenQ K) := by
  subst e
  exact call_len_seq
def rLenG : List V → Hp → VK → Prop := fun xs H Q => ∃ x n, xs = [x] ∧ LenV K x H n ∧ Q (.int (n : Int)) H
theorem g_len (e : X.K = K := by rfl) : CallR X (.builtin "len") (rLenG K) := by
  subst e
  exact call_len
def rListQ : List V → Hp → VK → Prop := fun xs H Q => ∃ p ys, xs = [.ref p] ∧ (SqL K H p ys ∨ SqT K H p ys) ∧ ∀ l, H l = none → Q (.ref l) (upd H l (.lst ys))
theorem g_list_of (e : X.K = K := by rfl) : CallR X (.type "list") (rListQ K) := by
  subst e
  exact call_list_of
def rListAny : List V → Hp → VK → Prop := fun xs H Q => rListS xs H Q ∨ rListQ K xs H Q
theorem g_list_any (hc : X.calm = true) (e : X.K = K := by rfl) : CallR X (.type "list") (rListAny K) := fun pins s σ H xs us Q I r h => by
  rcases h with h | h
  · exact call_list_str hc pins s σ H xs us Q I r h
  · exact g_list_of K e pins s σ H xs us Q I r h
def rDictP : List V → Hp → VK → Prop := fun xs H Q => ∃ (a : Addr) (ps : List Addr) (kvs : List (Key × V)), xs = [.ref a] ∧ SqL K H a (ps.map V.ref) ∧ Paired (fun p kv => SqT K H p [kV kv.1, kv.2]) ps kvs ∧ ∀ p, H p = none → Q (.ref p) (upd H p (.dK (mergeK [] kvs)))
theorem g_dictP (hc : X.calm = true) (e : X.K = K := by rfl) : CallR X (.type "dict") (rDictP K) := by
  subst e
  exact call_dictP hc
def rTupQ : List V → Hp → VK → Prop := fun xs H Q => ∃ p ys, xs = [.ref p] ∧ ((SqL K H p ys ∧ ∀ l, H l = none → Q (.ref l) (upd H l (.tup ys))) ∨ (SqT K H p ys ∧ Q (.ref p) H))
theorem g_tuple_of (e : X.K = K := by rfl) : CallR X (.type "tuple") (rTupQ K) := by
  subst e
  exact call_tuple_of
theorem g_isi (e : X.K = K := by rfl) : CallR X (.builtin "isinstance") (rIsi K) := by
  subst e
  exact call_isi
theorem g_isiT (e : X.K = K := by rfl) : CallR X (.builtin "isinstance") (rIsiT K) := by
  subst e
  exact call_isiT
theorem g_all (hc : X.calm = true) (e : X.K = K := by rfl) : CallR X (.builtin "all") (rAll K) := by
  subst e
  exact cr_all hc
theorem g_any (hc : X.calm = true) (e : X.K = K := by rfl) : CallR X (.builtin "any") (rAny K) := by
  subst e
  exact cr_any hc
theorem g_sum (hc : X.calm = true) (e : X.K = K := by rfl) : CallR X (.builtin "sum") (rSum K) := by
  subst e
  exact cr_sum hc
theorem g_max (hc : X.calm = true) (e : X.K = K := by rfl) : CallR X (.builtin "max") (rMax K) := by
  subst e
  exact cr_max hc
theorem g_min (hc : X.calm = true) (e : X.K = K := by rfl) : CallR X (.builtin "min") (rMin K) := by
  subst e
  exact cr_min hc
theorem g_sortedS (e : X.K = K := by rfl) : CallR X (.builtin "sorted") (rSortedS K) := by
  subst e
  exact cr_sortedS
theorem g_in_seq (e : X.K = K := by rfl) : OpR X (compareOp .In) (rIn K false) := by
  subst e
  exact op_in_seq
theorem g_notIn_seq (e : X.K = K := by rfl) : OpR X (compareOp .NotIn) (rIn K true) := by
  subst e
  exact op_notIn_seq
theorem g_eqD (hu : X.A.units + 64 < cLine) (e : X.K = K := by rfl) : OpR X (compareOp .Eq) (rEqD K) := by
  subst e
  exact op_eqD hu
theorem g_neD (hu : X.A.units + 64 < cLine) (e : X.K = K := by rfl) : OpR X (compareOp .NotEq) (rNeD K) := by
  subst e
  exact op_neD hu
theorem g_sl_list (e : X.K = K := by rfl) : SlR X (rSlL K) := by
  subst e
  exact sl_list
theorem g_sl_tup (e : X.K = K := by rfl) : SlR X (rSlA K) := by
  subst e
  exact sl_tupA
theorem g_repr (hg : X.A.guards = some []) (hu : X.A.units + 64 < cLine) (e : X.K = K := by rfl) : CallR X (.builtin "repr") (rRepr K) := by
  subst e
  exact call_repr hg hu
theorem g_fld {x : Expr} {f : Str} {pos : Pos} {ta : TE} (he : PE X x ta) (hb : attributeBase x f X.env (eval x X.env) = eval x X.env := by rfl) (e : X.K = K := by rfl) : PE X (.Attribute x f pos) (tFld K ta f) := by
  subst e
  exact pe_fld he hb
theorem g_list {tg l : Expr} {tl : TE} (hl : PE X l tl) (e : X.K = K := by rfl) : PI X tg l (iList K tl) := by
  subst e
  exact pi_list hl
theorem g_tuple {tg l : Expr} {tl : TE} (hl : PE X l tl) (e : X.K = K := by rfl) : PI X tg l (iTup K tl) := by
  subst e
  exact pi_tup hl
theorem g_tup {es : List Expr} {k : Nat} {t : TGs} {n : Nat} {pos : Pos} (hc : X.calm = true) (h : PGs X es t) (hn : (assignEach es X.env).length = n := by rfl) (hst : (assignEach es X.env).findIdx? (·.1) = none := by rfl) (e : X.K = K := by rfl) :
    PG X (.Tuple es k pos) (gTup K n t) := by
  subst e
  exact pg_tup hc h hn hst
/-- sep.join(a list or a tuple of texts) -/
def rJoin : V → List V → Hp → VK → Prop := fun x xs H Q => ∃ a p, ∃ ys : List Str, x = .str a ∧ xs = [.ref p] ∧ (SqL K H p (ys.map V.str) ∨ SqT K H p (ys.map V.str)) ∧ (ys.map (·.length)).sum + ys.length * a.length ≤ 16777216 ∧ Q (.str (Txt.join a ys)) H
theorem g_join {o x : Expr} {to te : TE} {apos pos : Pos} (ho : PE X o to) (he : PE X x te) (hs : starEach [x] X.env = [(false, eval x X.env)] := by rfl) (hbase : attributeBase o "join" X.env (eval o X.env) = eval o X.env := by rfl) (hline : (apos.endLine == pos.line) = true := by rfl) (e : X.K = K := by rfl) :
    PE X (.Call (.Attribute o "join" apos) [x] [] pos) (tM1 (rJoin K) to te) := by
  subst e
  exact pe_join ho he hs hbase hline
theorem g_bm0 {T name id : String} {o : Expr} {to : TE} {r : V → List V → Hp → VK → Prop} {apos cpos : Pos} (pa : PlainAttrs T) (slot : Slot T name id) (hty : typeOf (.builtin id) = pure (.type "method_descriptor")) (hm : MtR X id r) (ho : PE X o to)
    (hb : attributeBase o name X.env (eval o X.env) = eval o X.env := by rfl) (hl : (apos.endLine == cpos.line) = true := by rfl) (e : X.K = K := by rfl) : PE X (.Call (.Attribute o name apos) [] [] cpos) (tBM0 K T r to) := by
  subst e
  exact pe_bm0 pa slot hty hm ho hb hl
theorem g_bm {T name id : String} {o x : Expr} {xs : List Expr} {to : TE} {t : TA} {r : V → List V → Hp → VK → Prop} {apos cpos : Pos} (pa : PlainAttrs T) (slot : Slot T name id) (hty : typeOf (.builtin id) = pure (.type "method_descriptor")) (hm : MtR X id r) (ho : PE X o to) (ha : PA X (x :: xs) t)
    (hb : attributeBase o name X.env (eval o X.env) = eval o X.env := by rfl) (hf : ((backTo cpos (starEach (x :: xs) X.env)).all (fun y => !y.1) && (backToKw cpos (keywordEach [] X.env)).all (fun y => y.1.isSome) &&
      decide ((x :: xs).length + ([] : List Keyword).length + (if ([] : List Keyword).isEmpty then 0 else 1) < 30)) = true := by rfl)
    (hl : (apos.endLine == cpos.line) = true := by rfl) (hs : starEach (x :: xs) X.env = (false, eval x X.env) :: starEach xs X.env := by rfl) (hp : (backTo cpos (starEach xs X.env)).any (·.1) = false := by rfl) (e : X.K = K := by rfl) :
    PE X (.Call (.Attribute o name apos) (x :: xs) [] cpos) (tBM K T r to t) := by
  subst e
  exact pe_bm pa slot hty hm ho ha hb hf hl hs hp
end
end G
namespace G
open PySem PySem.Spec PyProof.Rows L2
theorem itT {c : Bool} {A B : Prop} (hc : c = true) (h : A) : if c = true then A else B := by
  rw [if_pos hc]
  exact h
theorem itF {c : Bool} {A B : Prop} (hc : c = false) (h : B) : if c = true then A else B := by
  rw [hc, if_neg Bool.false_ne_true]
  exact h
/-- an if on a Bool that is not known -/
theorem itB {c : Bool} {A B : Prop} (h1 : c = true → A) (h2 : c = false → B) : if c = true then A else B := by
  cases c
  · exact itF rfl (h2 rfl)
  · exact itT rfl (h1 rfl)
/-! ### kinds of values -/
def isStr : V → Bool | .str _ => true | _ => false
def isBl : V → Bool | .bl _ => true | _ => false
def isIntB : V → Bool | .int _ => true | .bl _ => true | _ => false
def Tyd (K : PySem.W.Frag) (H : Hp) (x : V) : Prop := ∃ t, TyX K H x t ∧ PySem.W.kitOne K t (.type "str") = some (isStr x) ∧ PySem.W.kitOne K t (.type "int") = some (isIntB x) ∧ PySem.W.kitOne K t (.type "bool") = some (isBl x)
section
variable {K : PySem.W.Frag} {H : Hp} {x : V}
theorem tyd_of {T : String} {a b c : Bool} (h : TyX K H x (.type T)) (ha : kitB T "str" = some a) (hb : kitB T "int" = some b) (hc : kitB T "bool" = some c) (ea : isStr x = a) (eb : isIntB x = b) (ec : isBl x = c) : Tyd K H x :=
  ⟨_, h, by rw [ea]; exact kit_ty ha, by rw [eb]; exact kit_ty hb, by rw [ec]; exact kit_ty hc⟩
theorem tyd_non  : Tyd K H .non := tyd_of (a := false) (b := false) (c := false) (.base .non) (by decide +kernel) (by decide +kernel) (by decide +kernel) rfl rfl rfl
theorem tyd_bl (b : Bool) : Tyd K H (.bl b) := tyd_of (a := false) (b := true) (c := true) (.base (.bl b)) (by decide +kernel) (by decide +kernel) (by decide +kernel) rfl rfl rfl
theorem tyd_int (i : Int) : Tyd K H (.int i) := tyd_of (a := false) (b := true) (c := false) (.base (.int i)) (by decide +kernel) (by decide +kernel) (by decide +kernel) rfl rfl rfl
theorem tyd_str (z : Str) : Tyd K H (.str z) := tyd_of (a := true) (b := false) (c := false) (.base (.str z)) (by decide +kernel) (by decide +kernel) (by decide +kernel) rfl rfl rfl
theorem tyd_lst {a : Addr} {xs : List V} (h : H a = some (.lst xs)) : Tyd K H (.ref a) := tyd_of (a := false) (b := false) (c := false) (.base (.lst h)) (by decide +kernel) (by decide +kernel) (by decide +kernel) rfl rfl rfl
theorem tyd_tup {a : Addr} {xs : List V} (h : H a = some (.tup xs)) : Tyd K H (.ref a) := tyd_of (a := false) (b := false) (c := false) (.base (.tup h)) (by decide +kernel) (by decide +kernel) (by decide +kernel) rfl rfl rfl
theorem tyd_dK {a : Addr} {kvs : List (Key × V)} (h : H a = some (.dK kvs)) : Tyd K H (.ref a) := tyd_of (a := false) (b := false) (c := false) (.base (.dK h)) (by decide +kernel) (by decide +kernel) (by decide +kernel) rfl rfl rfl
end
/-! ### texts as lists of codes -/
abbrev cs (z : Str) : List Nat := z.cps.toList
theorem cs_len (z : Str) : (cs z).length = z.length := by
  show z.cps.toList.length = z.cps.size
  simp
theorem str_ext {x y : Str} (h : cs x = cs y) : x = y := by
  obtain ⟨a⟩ := x
  obtain ⟨b⟩ := y
  have : a = b := Array.toList_inj.mp h
  rw [this]
theorem cs_app (x y : Str) : cs (x ++ y) = cs x ++ cs y := by
  show (x.cps ++ y.cps).toList = _
  simp
def lett (c : Nat) : Bool := decide (97 ≤ c) && decide (c ≤ 122)
def isWord : V → Bool | .str z => !(cs z).isEmpty && (cs z).all lett | _ => false
def isSign : V → Bool | .str z => decide ((cs z).length = 1) && (cs z).all lett | _ => false
def isText : V → Bool | .str z => decide ((cs z).length ≤ 8000) && (cs z).all lett | _ => false
def isPiece : V → Bool | .str z => decide (1 ≤ (cs z).length) && decide ((cs z).length ≤ 5) && (cs z).all lett | _ => false
def isInteger : V → Bool | .int i => decide (i.natAbs < 10 ^ 60) | _ => false
theorem lt_one {a b : Nat} : decide (([a] : List Nat) < [b]) = decide (a < b) := by
  by_cases h : a < b
  · rw [decide_eq_true h, decide_eq_true (List.cons_lt_cons_iff.mpr (Or.inl h))]
  · rw [decide_eq_false h, decide_eq_false (fun z => ?_)]
    rcases List.cons_lt_cons_iff.mp z with z | ⟨_, z⟩
    · exact h z
    · cases z
theorem lett_eq (c : Nat) : (!decide (([c] : List Nat) < [97])) = decide (97 ≤ c) ∧ (!decide (([122] : List Nat) < [c])) = decide (c ≤ 122) := by
  rw [lt_one, lt_one]
  constructor
  · by_cases h : c < 97
    · rw [decide_eq_true h, decide_eq_false (by omega)]
      rfl
    · rw [decide_eq_false h, decide_eq_true (by omega)]
      rfl
  · by_cases h : 122 < c
    · rw [decide_eq_true h, decide_eq_false (by omega)]
      rfl
    · rw [decide_eq_false h, decide_eq_true (by omega)]
      rfl
theorem abs_lt (i : Int) : decide ((if i < 0 then -i else i) < (10 : Int) ^ (60 : Int).toNat) = isInteger (.int i) := by
  show _ = decide (i.natAbs < 10 ^ 60)
  have e : (10 : Int) ^ (60 : Int).toNat = ((10 ^ 60 : Nat) : Int) := by decide +kernel
  rw [e]
  generalize (10 ^ 60 : Nat) = m
  by_cases h : i.natAbs < m
  · rw [decide_eq_true h, decide_eq_true]
    split <;> omega
  · rw [decide_eq_false h, decide_eq_false]
    split <;> omega
def szV : V → Prop | .str z => z.length ≤ 100000 | _ => True
theorem fits_sz {n : Nat} (h : n ≤ 100000) : n ≤ sizeLine := Nat.le_trans h (by decide)
theorem same_new {H : Hp} {p : Addr} {o : HO} (h : H p = none) : Same H (upd H p o) := fun b u e => by
  rw [upd_ne (ne_of_none e h)]
  exact e
/-- is_integer, is_word and the like: any value, told by a function on values -/
def spIs (K : PySem.W.Frag) (p : V → Bool) : Sp := fun vs H Q _ => ∃ x, vs = [x] ∧ Tyd K H x ∧ szV x ∧ ∀ H', Same H H' → Q (.bl (p x)) H'
theorem v_str_ne {z : Str} : (!decide (V.str z = V.str "")) = !(cs z).isEmpty := by
  by_cases h : cs z = []
  · have e : z = "" := str_ext (by rw [h]; rfl)
    rw [e]
    rfl
  · have e : V.str z ≠ V.str "" := fun q => h (by rw [V.str.inj q]; rfl)
    rw [decide_eq_false e]
    cases hz : cs z with
    | nil => exact absurd hz h
    | cons a l => rfl
theorem v_str_eq {z : Str} : decide (V.str z = V.str "") = (cs z).isEmpty := by
  have := v_str_ne (z := z)
  cases h1 : decide (V.str z = V.str "") <;> cases h2 : (cs z).isEmpty <;> rw [h1, h2] at this <;> first | rfl | cases this
theorem lett_of {c : Nat} (h : decide (97 ≤ c) = true) : lett c = decide (c ≤ 122) := by
  unfold lett
  rw [h]
  rfl
theorem lett_no {c : Nat} (h : decide (97 ≤ c) = false) : lett c = false := by
  unfold lett
  rw [h]
  rfl
theorem one_sign {z : Str} (h : (cs z).length = 1) : ∃ c, z = ⟨#[c]⟩ := by
  match hz : cs z, h with
  | [c], _ => exact ⟨c, str_ext (by rw [hz])⟩
theorem v_len_eq {z : Str} {n : Nat} : decide (V.int (z.length : Int) = V.int (n : Int)) = decide ((cs z).length = n) := by
  rw [cs_len]
  by_cases h : z.length = n
  · rw [decide_eq_true h, decide_eq_true (by rw [h])]
  · rw [decide_eq_false h, decide_eq_false (fun q => h (by have := V.int.inj q; omega))]
theorem v_len_eq1 {z : Str} : decide (V.int (z.length : Int) = V.int 1) = decide ((cs z).length = 1) := v_len_eq (n := 1)
theorem sign_one (c : Nat) : isSign (.str ⟨#[c]⟩) = lett c := by
  show (decide (([c] : List Nat).length = 1) && ([c] : List Nat).all lett) = lett c
  simp
/-! ### a comprehension whose element changes nothing -/
theorem wipe_set {σ : L2.St} {j : Nat} {v : V} : wipe ((wipe σ [j]).set j (some v)) [j] = wipe σ [j] := by
  show ((σ.set j none).set j (some v)).set j none = σ.set j none
  rw [List.set_set, List.set_set]
theorem lcp_str {z : Str} {te : TE} {j : Nat} {σ : L2.St} {H1 : Hp} {D : Addr} {Qd : Hp → Prop} (f : Nat → V) (hz : z.length ≤ sizeLine)
    (hs : ∀ (c : Nat) (acc : List V) (N : VK), c ∈ cs z → N (f c) (upd H1 D (.lst acc)) → te ((wipe σ [j]).set j (some (.str ⟨#[c]⟩))) (upd H1 D (.lst acc)) N) (hd : Qd (upd H1 D (.lst ((cs z).map f)))) :
    ∃ W : Nat → Nat → Hp → Prop, (∃ m, W 0 m (upd H1 D (.lst []))) ∧ ∀ i m H, W i m H →
      ((Its z).stop i H ∧ Qd H) ∨ ((Its z).go i H ∧ ∃ Nx : Hp → Prop, (∀ H', Nx H' → ∃ m', m' < m ∧ W (i + 1) m' H') ∧ ∀ x H', (Its z).yld i H x H' → gName j x (wipe σ [j]) H' fun σ2 H2 => wipe σ2 [j] = wipe σ [j] ∧ tYes σ2 H2 fun b H3 =>
        if b = true then te σ2 H3 fun y H4 => ∃ acc, H4 D = some (.lst acc) ∧ acc.length < sizeLine ∧ Nx (upd H4 D (.lst (acc ++ [y]))) else Nx H3) := by
  have hl := cs_len z
  refine ⟨fun i m H => m = (cs z).length - i ∧ i ≤ (cs z).length ∧ H = upd H1 D (.lst (((cs z).take i).map f)), ⟨_, rfl, Nat.zero_le _, rfl⟩, ?_⟩
  rintro i m H ⟨rfl, hi, rfl⟩
  by_cases hlt : i < (cs z).length
  · have hlt' : i < z.cps.size := by rw [hl] at hlt; exact hlt
    refine .inr ⟨hlt', fun H' => H' = upd H1 D (.lst (((cs z).take (i + 1)).map f)), fun H' e => ⟨(cs z).length - (i + 1), by omega, rfl, hlt, e⟩, ?_⟩
    rintro x H' ⟨rfl, c, hc, rfl⟩
    have hc' : (cs z)[i]? = some c := by simpa [cs] using hc
    refine ⟨wipe_set, hs c _ _ (List.mem_of_getElem? hc') ⟨_, upd_same, ?_, ?_⟩⟩
    · rw [List.length_map, List.length_take]
      omega
    · rw [upd_upd]
      have : (cs z).take (i + 1) = (cs z).take i ++ [c] := by
        rw [List.take_add_one, hc']
        rfl
      rw [this, List.map_append]
      rfl
  · have e : i = (cs z).length := by omega
    refine .inl ⟨by show z.cps.size ≤ i; rw [e, hl]; exact Nat.le_refl _, ?_⟩
    rw [e, List.take_length]
    exact hd

/-! ### the dice of the laws: a list of three ints -/
def Big (i : Int) : Prop := 0 ≤ i ∧ i.natAbs < 2 ^ 2200
/-- dice at l, good for n further rolls -/
def Dice (H : Hp) (l : Addr) (n : Nat) : Prop := ∃ d0 d1 d2 : Int, H l = some (.lst [.int d0, .int d1, .int d2]) ∧ Big d0 ∧ Big d1 ∧ 0 ≤ d2 ∧ d2 + n ≤ 2 ^ 62
/-- all but l is as it was -/
def Kp (l : Addr) (H H' : Hp) : Prop := ∀ b o, H b = some o → b ≠ l → H' b = some o
theorem Kp.refl (l : Addr) (H : Hp) : Kp l H H := fun _ _ e _ => e
theorem Kp.trans {l : Addr} {H H1 H2 : Hp} (a : Kp l H H1) (b : Kp l H1 H2) : Kp l H H2 := fun c o e n => b c o (a c o e n) n
theorem Kp.of {l : Addr} {H H' : Hp} (a : Same H H') : Kp l H H' := fun c o e _ => a c o e
theorem Kp.upd {l : Addr} {H : Hp} {o : HO} : Kp l H (upd H l o) := fun b u e n => by
  rw [upd_ne n]
  exact e
theorem Kp.new {l p : Addr} {H H' : Hp} {o : HO} (a : Kp l H H') (h : H' p = none) : Kp l H (L2.upd H' p o) := a.trans (.of (same_new h))
/-- what was not there ahead may change -/
theorem Kp.mut {l p : Addr} {H H' : Hp} {o : HO} (a : Kp l H H') (h : H p = none) : Kp l H (L2.upd H' p o) := fun b u e n => by
  rw [upd_ne (ne_of_none e h)]
  exact a b u e n
theorem Kp.seq {K : PySem.W.Frag} {l a : Addr} {H H' : Hp} {xs : List V} (k : Kp l H H') (n : a ≠ l) (h : SqL K H a xs) : SqL K H' a xs := by
  rcases h with (h | ⟨o, h⟩) | h
  · exact Or.inl (Or.inl (k _ _ h n))
  · exact Or.inl (Or.inr ⟨o, k _ _ h n⟩)
  · exact Or.inr h
theorem Kp.tup {K : PySem.W.Frag} {l a : Addr} {H H' : Hp} {xs : List V} (k : Kp l H H') (n : a ≠ l) (h : SqT K H a xs) : SqT K H' a xs := by
  rcases h with (h | ⟨o, h⟩) | h
  · exact Or.inl (Or.inl (k _ _ h n))
  · exact Or.inl (Or.inr ⟨o, k _ _ h n⟩)
  · exact Or.inr h
theorem Dice.ne {H : Hp} {l p : Addr} {n : Nat} (d : Dice H l n) (h : H p = none) : p ≠ l := by
  obtain ⟨_, _, _, e, _⟩ := d
  exact (ne_of_none e h).symm
theorem Dice.le {H : Hp} {l : Addr} {n m : Nat} (d : Dice H l n) (h : m ≤ n) : Dice H l m := by
  obtain ⟨d0, d1, d2, e, h0, h1, h2, h3⟩ := d
  exact ⟨d0, d1, d2, e, h0, h1, h2, by omega⟩
theorem Dice.same {H H' : Hp} {l : Addr} {n : Nat} (d : Dice H l n) (s : Same H H') : Dice H' l n := by
  obtain ⟨d0, d1, d2, e, r⟩ := d
  exact ⟨d0, d1, d2, s _ _ e, r⟩
theorem Dice.upd {H : Hp} {l p : Addr} {o : HO} {n : Nat} (d : Dice H l n) (h : p ≠ l) : Dice (L2.upd H p o) l n := by
  obtain ⟨d0, d1, d2, e, r⟩ := d
  exact ⟨d0, d1, d2, by rw [upd_ne h.symm]; exact e, r⟩
theorem big_mod {x : Int} {m : Int} (h : 0 < m) (hm : m.natAbs ≤ 2 ^ 2100) : 0 ≤ x % m ∧ (x % m).natAbs < 2 ^ 2100 := by
  have h1 := Int.emod_nonneg x (by omega : m ≠ 0)
  have h2 := Int.emod_lt_of_pos x h
  refine ⟨h1, ?_⟩
  generalize (2 ^ 2100 : Nat) = M at hm
  omega
theorem pow_mono2 : (2 : Nat) ^ 2100 * 4 + 2 ^ 2100 ≤ 2 ^ 2200 := by decide +kernel
theorem big_of {x : Int} (h0 : 0 ≤ x) (h : x.natAbs < 2 ^ 2100) : Big x := ⟨h0, by
  have := pow_mono2
  generalize (2 ^ 2100 : Nat) = M at *
  generalize (2 ^ 2200 : Nat) = N at *
  omega⟩
theorem big_zero : Big 0 := ⟨Int.le_refl _, by decide +kernel⟩
theorem one_small : (131071 * 64 + 5 : Nat) ≤ 2 ^ 2100 := by decide +kernel
theorem big_seed {x b s : Int} (h0 : 0 ≤ x) (h : x.natAbs < 2 ^ 2100) (hb : 0 ≤ b ∧ b ≤ 1) (hs : 0 ≤ s ∧ s ≤ 64) : Big (2 * x + b + 131071 * s + 3) := by
  have h1 := pow_mono2
  have h2 := one_small
  refine ⟨by omega, ?_⟩
  generalize (2 ^ 2100 : Nat) = M at *
  generalize (2 ^ 2200 : Nat) = N at *
  omega
theorem big_div {x u : Int} (h : Big x) (hu : 1 ≤ u) : Big (x / u) := by
  obtain ⟨h0, h1⟩ := h
  have a := Int.ediv_nonneg h0 (by omega : (0 : Int) ≤ u)
  have b : x / u ≤ x := Int.ediv_le_self u h0
  refine ⟨a, ?_⟩
  generalize (2 ^ 2200 : Nat) = N at *
  omega
/-- an expression with two ways, joined: an int under p on both -/
theorem tif_int {t : TT} {ta tb : TE} {σ : L2.St} {H : Hp} {Q : VK} {c : Bool} (p : Int → Prop) (ht : ∀ N : Bool → Hp → Prop, N c H → t σ H N)
    (ha : c = true → ∀ N : VK, (∀ i, p i → N (.int i) H) → ta σ H N) (hb : c = false → ∀ N : VK, (∀ i, p i → N (.int i) H) → tb σ H N) (hq : ∀ i, p i → Q (.int i) H) : tIf t ta tb σ H Q := by
  refine ht _ ?_
  exact itB (fun e => ha e _ hq) (fun e => hb e _ hq)
/-- _law_dice -/
def spDice (K : PySem.W.Frag) : Sp := fun vs H Q _ => ∃ (a : Addr) (ns : List Int) (s : Int), vs = [.ref a, .int s] ∧ SqL K H a (ns.map V.int) ∧ ns.length ≤ 63 ∧ 0 ≤ s ∧ s ≤ 64 ∧ ∀ l H', H l = none → Same H H' → Dice H' l (2 ^ 60) → Q (.ref l) H'
/-- _law_roll -/
def spRoll : Sp := fun vs H Q _ => ∃ (l : Addr) (u : Int) (n : Nat), vs = [.ref l, .int u] ∧ 1 ≤ u ∧ u ≤ 2 ^ 40 ∧ Dice H l (n + 1) ∧ ∀ r H', 0 ≤ r → r < u → Kp l H H' → Dice H' l n → Q (.int r) H'
/-- what the laws pick from: a list, a tuple, a text -/
inductive Seq (K : PySem.W.Frag) (H : Hp) (l : Addr) : V → List V → Prop
  | lst {a : Addr} {ys : List V} (n : a ≠ l) (h : SqL K H a ys) : Seq K H l (.ref a) ys
  | tup {a : Addr} {ys : List V} (n : a ≠ l) (h : SqT K H a ys) : Seq K H l (.ref a) ys
  | str {z : Str} {ys : List V} (h : z.length ≤ 1000) (e : ys = signsV z) : Seq K H l (.str z) ys
theorem Seq.kp {K : PySem.W.Frag} {H H' : Hp} {l : Addr} {x : V} {ys : List V} (s : Seq K H l x ys) (k : Kp l H H') : Seq K H' l x ys := by
  cases s with
  | lst n h => exact .lst n (k.seq n h)
  | tup n h => exact .tup n (k.tup n h)
  | str h e => exact .str h e
/-- _law_pick -/
def spPick (K : PySem.W.Frag) : Sp := fun vs H Q _ => ∃ (l : Addr) (x : V) (ys : List V) (n : Nat), vs = [.ref l, x] ∧ Seq K H l x ys ∧ ys ≠ [] ∧ ys.length ≤ 1000 ∧ Dice H l (n + 1) ∧ ∀ y H', y ∈ ys → Kp l H H' → Dice H' l n → Q y H'
theorem signsV_len (z : Str) : (signsV z).length = z.length := by
  unfold signsV
  rw [List.length_map, cs_len]

abbrev ch (c : Nat) : Str := ⟨#[c]⟩
abbrev chV (c : Nat) : V := .str (ch c)
def sOf (l : List Nat) : Str := ⟨l.toArray⟩
theorem cs_sOf (l : List Nat) : cs (sOf l) = l := by simp [sOf]
theorem sOf_cs (z : Str) : sOf (cs z) = z := str_ext (cs_sOf _)
theorem sOf_len (l : List Nat) : (sOf l).length = l.length := by rw [← cs_len, cs_sOf]
theorem signsV_eq (z : Str) : signsV z = (cs z).map chV := rfl
theorem joinL_one : ∀ l : List Nat, TL.joinL [] (l.map fun c => [c]) = l
  | [] => rfl
  | [a] => rfl
  | a :: b :: r => by
    show [a] ++ ([] ++ TL.joinL [] ((b :: r).map fun c => [c])) = a :: b :: r
    rw [joinL_one (b :: r)]
    rfl
theorem join_ch (l : List Nat) : Txt.join "" (l.map ch) = sOf l := by
  refine str_ext ?_
  rw [cs_sOf, TL.join_eq]
  have h := TL.tl_join "" (l.map ch)
  rw [List.map_map] at h
  exact h.trans (joinL_one l)
theorem sum_ch (l : List Nat) : ((l.map ch).map (·.length)).sum = l.length := by
  induction l with
  | nil => rfl
  | cons a r ih =>
    rw [List.map_cons, List.map_cons, List.sum_cons, ih]
    show 1 + r.length = r.length + 1
    omega
/-- _law_letters -/
def spLetters (K : PySem.W.Frag) : Sp := fun vs H Q _ => ∃ (l : Addr) (x : V) (cl : List Nat) (m n : Nat), vs = [.ref l, x, .int (m : Int)] ∧ Seq K H l x (cl.map chV) ∧ cl ≠ [] ∧ cl.length ≤ 1000 ∧ m ≤ 10000 ∧ Dice H l (n + m) ∧
  ∀ (zs : List Nat) H', zs.length = m → (∀ c ∈ zs, c ∈ cl) → Kp l H H' → Dice H' l n → Q (.str (sOf zs)) H'

/-! ### what repr shows -/
structure Shw (d : PyData) (k n : Nat) : Prop where
  s : d.showable = true
  h : d.hasDict = false
  dp : d.depth ≤ k
  len : d.shown.length ≤ n
theorem shw_bool (b : Bool) : Shw (.bool b) 0 5 := ⟨by simp [PyData.showable], by simp [PyData.hasDict], by simp [PyData.depth], by cases b <;> simp only [PyData.shown] <;> decide +kernel⟩
theorem shw_none : Shw .none 0 4 := ⟨by simp [PyData.showable], by simp [PyData.hasDict], by simp [PyData.depth], by simp only [PyData.shown]; decide +kernel⟩
theorem shw_int {i : Int} (h : i.natAbs.log2 < 1920) : Shw (.int i) 0 1921 := ⟨by simpa [PyData.showable] using h, by simp [PyData.hasDict], by simp [PyData.depth], by simp only [PyData.shown]; exact int_text_len_1921 h⟩
theorem Shw.le {d : PyData} {k n k' n' : Nat} (a : Shw d k n) (hk : k ≤ k') (hn : n ≤ n') : Shw d k' n' := ⟨a.s, a.h, Nat.le_trans a.dp hk, Nat.le_trans a.len hn⟩
theorem shownAll_map : ∀ ds : List PyData, PyData.shownAll ds = ds.map PyData.shown
  | [] => by simp [PyData.shownAll]
  | d :: r => by simp [PyData.shownAll, shownAll_map r]
theorem textFrom_le : ∀ (ts : List Str) (k : Nat) (acc : Str) (n : Nat), (∀ t ∈ ts, t.length ≤ n) → (textFrom k acc ts).length ≤ acc.length + ts.length * (n + 2)
  | [], k, acc, n, _ => by
    show acc.length ≤ acc.length + 0 * (n + 2)
    omega
  | t :: r, k, acc, n, h => by
    have h1 := textFrom_le r (k + 1) (acc ++ (if k > 0 then ", " else "" : String) ++ t) n fun x hx => h x (List.mem_cons_of_mem _ hx)
    have h2 := h t List.mem_cons_self
    rw [strLen_append, strLen_append] at h1
    have h3 : ((if k > 0 then ", " else "" : String) : Str).length ≤ 2 := by split <;> decide +kernel
    show (textFrom (k + 1) _ r).length ≤ acc.length + (r.length + 1) * (n + 2)
    rw [Nat.add_mul]
    omega
theorem shwAll {ds : List PyData} {k n : Nat} (h : ∀ d ∈ ds, Shw d k n) : PyData.showableAll ds = true ∧ PyData.hasDictAll ds = false ∧ PyData.depthAll ds ≤ k ∧ ∀ t ∈ PyData.shownAll ds, t.length ≤ n := by
  induction ds with
  | nil => exact ⟨by simp [PyData.showableAll], by simp [PyData.hasDictAll], by simp [PyData.depthAll], by simp [PyData.shownAll]⟩
  | cons d r ih =>
    obtain ⟨a1, a2, a3, a4⟩ := h d List.mem_cons_self
    obtain ⟨b1, b2, b3, b4⟩ := ih fun x hx => h x (List.mem_cons_of_mem _ hx)
    refine ⟨by simp [PyData.showableAll, a1, b1], by simp [PyData.hasDictAll, a2, b2], ?_, ?_⟩
    · simp only [PyData.depthAll]
      omega
    · intro t ht
      simp only [PyData.shownAll] at ht
      rcases List.mem_cons.mp ht with rfl | ht
      · exact a4
      · exact b4 t ht
theorem shw_list {ds : List PyData} {k n : Nat} (h : ∀ d ∈ ds, Shw d k n) : Shw (.list ds) (k + 1) (ds.length * (n + 2) + 2) := by
  obtain ⟨b1, b2, b3, b4⟩ := shwAll h
  refine ⟨by simpa [PyData.showable] using b1, by simpa [PyData.hasDict] using b2, by simp only [PyData.depth]; omega, ?_⟩
  simp only [PyData.shown]
  unfold listText
  rw [strLen_append]
  have h1 := textFrom_le _ 0 "[" n b4
  rw [shownAll_map, List.length_map] at h1
  rw [shownAll_map]
  have h2 : ((("[" : String) : Str)).length = 1 := by decide +kernel
  have h3 : ((("]" : String) : Str)).length = 1 := by decide +kernel
  omega
/-- a list of truths as data -/
def dBools (bs : List Bool) : PyData := .list (bs.map PyData.bool)
theorem shw_bools (bs : List Bool) : Shw (dBools bs) 1 (bs.length * 7 + 2) := by
  have h := shw_list (ds := bs.map PyData.bool) (k := 0) (n := 5) fun d hd => by
    obtain ⟨b, _, rfl⟩ := List.mem_map.mp hd
    exact shw_bool b
  rw [List.length_map] at h
  exact h
theorem dpAll_bools {K : PySem.W.Frag} {H : Hp} : ∀ bs : List Bool, DpAll K H (bs.map V.bl) (bs.map PyData.bool)
  | [] => .nil
  | b :: r => .cons (.bl b) (dpAll_bools r)
theorem dp_bools {K : PySem.W.Frag} {H : Hp} {a : Addr} {bs : List Bool} (h : SqL K H a (bs.map V.bl)) : Dp K H (.ref a) (dBools bs) := .lst h (dpAll_bools bs)
/-- repr(a list of truths), as rRepr asks -/
theorem repr_bools {K : PySem.W.Frag} {H : Hp} {a : Addr} {bs : List Bool} {Q : VK} (h : H a = some (.lst (bs.map V.bl))) (hn : bs.length ≤ 1000) (q : Q (.str (dBools bs).shown) H) : rRepr K [.ref a] H Q := by
  obtain ⟨s, hd, dp, len⟩ := shw_bools bs
  exact ⟨_, dBools bs, rfl, dp_bools (SqL.of h), s, hd, by omega, Nat.le_trans len (fits_sz (by omega)), q⟩
theorem mem_all {p : V → Bool} {ys : List V} {y : V} (h : ys.all p = true) (hy : y ∈ ys) : p y = true := List.all_eq_true.mp h y hy
def vIn (lo hi : Int) : V → Bool | .int i => decide (lo ≤ i) && decide (i ≤ hi) | _ => false
theorem vIn_of {lo hi : Int} {y : V} (h : vIn lo hi y = true) : ∃ i, y = .int i ∧ lo ≤ i ∧ i ≤ hi := by
  cases y with
  | int i =>
    have h' : (decide (lo ≤ i) && decide (i ≤ hi)) = true := h
    rw [Bool.and_eq_true] at h'
    exact ⟨i, rfl, of_decide_eq_true h'.1, of_decide_eq_true h'.2⟩
  | _ => cases h
theorem pick_int {lo hi : Int} {ys : List V} {y : V} (h : ys.all (vIn lo hi) = true) (hy : y ∈ ys) : ∃ i, y = .int i ∧ lo ≤ i ∧ i ≤ hi := vIn_of (mem_all h hy)
/-- a promise of a part of a law: it is right, c rolls are made -/
def spRight (c : Nat) : Sp := fun vs H Q _ => ∃ (l : Addr) (n : Nat), vs = [.ref l] ∧ Dice H l (n + c) ∧ ∀ H', Kp l H H' → Dice H' l n → Q (.bl true) H'
/-- is_integer: of any value, no size asked -/
def spIsI (K : PySem.W.Frag) (p : V → Bool) : Sp := fun vs H Q _ => ∃ x, vs = [x] ∧ Tyd K H x ∧ ∀ H', Same H H' → Q (.bl (p x)) H'
theorem Dice.new {H : Hp} {l p : Addr} {o : HO} {n : Nat} (d : Dice H l n) (h : H p = none) : Dice (L2.upd H p o) l n := d.upd (d.ne h)
/-- what a drawn odd value is: of a known kind, as long as it stands, and no integer -/
def OddI (K : PySem.W.Frag) (l : Addr) (H : Hp) (y : V) : Prop := (∀ H', Kp l H H' → Tyd K H' y) ∧ isInteger y = false
theorem isI_near {near r : Int} (h0 : 0 ≤ near + r) (s : Int) (hs : s = 1 ∨ s = -1) : isInteger (.int ((near + r) * s)) = decide (near + r < (10 : Int) ^ (60 : Int).toNat) := by
  show decide (((near + r) * s).natAbs < 10 ^ 60) = _
  have e : (10 : Int) ^ (60 : Int).toNat = ((10 ^ 60 : Nat) : Int) := by decide +kernel
  have e2 : ((near + r) * s).natAbs = (near + r).natAbs := by
    rcases hs with rfl | rfl
    · rw [Int.mul_one]
    · rw [Int.mul_neg, Int.mul_one, Int.natAbs_neg]
  rw [e, e2]
  generalize (10 ^ 60 : Nat) = m
  by_cases h : near + r < (m : Int)
  · rw [decide_eq_true h, decide_eq_true (by omega)]
  · rw [decide_eq_false h, decide_eq_false (by omega)]
theorem log_of {i : Int} (h : i.natAbs < 2 ^ 300) : i.natAbs.log2 < 1920 := Nat.lt_of_lt_of_le (PySem.Flt.log2_lt_of (by decide) h) (by decide)
theorem reprB (bs : List Bool) (hn : bs.length ≤ 1000) : (dBools bs).showable = true ∧ (dBools bs).hasDict = false ∧ (dBools bs).depth ≤ 60 ∧ (dBools bs).shown.length ≤ sizeLine := by
  obtain ⟨s, hd, dp, len⟩ := shw_bools bs
  exact ⟨s, hd, by omega, Nat.le_trans len (fits_sz (by omega))⟩
/-! ### texts made of pieces of texts -/
theorem isText_of {z : Str} (h1 : (cs z).length ≤ 8000) (h2 : ∀ c ∈ cs z, lett c = true) : isText (.str z) = true := by
  show (decide ((cs z).length ≤ 8000) && (cs z).all lett) = true
  rw [decide_eq_true h1, List.all_eq_true.mpr h2]
  rfl
theorem isPiece_of {z : Str} (h2 : ∀ c ∈ cs z, lett c = true) : isPiece (.str z) = (decide (1 ≤ (cs z).length) && decide ((cs z).length ≤ 5)) := by
  show (decide (1 ≤ (cs z).length) && decide ((cs z).length ≤ 5) && (cs z).all lett) = _
  rw [List.all_eq_true.mpr h2, Bool.and_true]
theorem isSign_of {z : Str} (h2 : ∀ c ∈ cs z, lett c = true) : isSign (.str z) = decide ((cs z).length = 1) := by
  show (decide ((cs z).length = 1) && (cs z).all lett) = _
  rw [List.all_eq_true.mpr h2, Bool.and_true]
theorem spoilt {z : Str} {c : Nat} (hc : c ∈ cs z) (h : lett c = false) : isText (.str z) = false ∧ isPiece (.str z) = false ∧ isSign (.str z) = false ∧ isWord (.str z) = false := by
  have e : (cs z).all lett = false := by
    cases q : (cs z).all lett with
    | false => rfl
    | true =>
      rw [List.all_eq_true.mp q c hc] at h
      cases h
  refine ⟨?_, ?_, ?_, ?_⟩
  · show (_ && (cs z).all lett) = false
    rw [e, Bool.and_false]
  · show (_ && (cs z).all lett) = false
    rw [e, Bool.and_false]
  · show (_ && (cs z).all lett) = false
    rw [e, Bool.and_false]
  · show (_ && (cs z).all lett) = false
    rw [e, Bool.and_false]
theorem cs_cut (z : Str) (lo hi : Option Int) : cs (cutS z lo hi) = ((cs z).drop (HT.sIx z.length 0 lo)).take (HT.sIx z.length z.length hi - HT.sIx z.length 0 lo) := by
  unfold cutS
  simp
theorem cut_sub {z : Str} {lo hi : Option Int} {c : Nat} (h : c ∈ cs (cutS z lo hi)) : c ∈ cs z := by
  rw [cs_cut] at h
  exact List.mem_of_mem_drop (List.mem_of_mem_take h)
theorem sIx_pos {n d : Nat} {i : Int} (h : 0 ≤ i) : HT.sIx n d (some i) = min i.toNat n := by
  show (if i < 0 then _ else _) = _
  rw [if_neg (by omega)]
theorem cut_len {z : Str} {a b : Int} (ha : 0 ≤ a) (hab : a ≤ b) (hb : b ≤ z.length) : (cs (cutS z (some a) (some b))).length = (b - a).toNat := by
  rw [cs_cut, sIx_pos ha, sIx_pos (by omega), List.length_take, List.length_drop, cs_len]
  omega
theorem cut_lenFrom {z : Str} {a : Int} (ha : 0 ≤ a) (hb : a ≤ z.length) : (cs (cutS z (some a) none)).length = z.length - a.toNat := by
  rw [cs_cut, sIx_pos ha, List.length_take, List.length_drop, cs_len]
  show min (z.length - _) _ = _
  omega
theorem cut_lenTo {z : Str} {b : Int} (h0 : 0 ≤ b) (hb : b ≤ z.length) : (cs (cutS z none (some b))).length = b.toNat := by
  rw [cs_cut, sIx_pos h0, List.length_take, List.length_drop, cs_len]
  show min (min b.toNat z.length - 0) (z.length - 0) = _
  omega
theorem str_app_len (x y : Str) : (x ++ y).length = x.length + y.length := strLen_append x y
/-- two ways joined, whatever the test and the ways do -/
theorem tif_join {t : TT} {ta tb : TE} {σ : L2.St} {H : Hp} {Q : VK} (P : Hp → Prop) (R : V → Hp → Prop) (ht : ∀ N : Bool → Hp → Prop, (∀ c H1, P H1 → N c H1) → t σ H N)
    (ha : ∀ H1, P H1 → ∀ N : VK, (∀ v H2, R v H2 → N v H2) → ta σ H1 N) (hb : ∀ H1, P H1 → ∀ N : VK, (∀ v H2, R v H2 → N v H2) → tb σ H1 N) (hq : ∀ v H2, R v H2 → Q v H2) : tIf t ta tb σ H Q :=
  ht _ fun c H1 p => itB (fun _ => ha H1 p _ hq) (fun _ => hb H1 p _ hq)
/-- a <= b <= c of known ints, as a value -/
theorem chain_le {ta tb tc : TE} {σ : L2.St} {H : Hp} {Q : VK} {a b c : Int} (ha : ∀ N : VK, N (.int a) H → ta σ H N) (hb : ∀ N : VK, N (.int b) H → tb σ H N) (hc : ∀ N : VK, N (.int c) H → tc σ H N)
    (q : Q (.bl (decide (a ≤ b) && decide (b ≤ c))) H) : tChain (rI0 fun i j => .bl (decide (i ≤ j))) (rI0 fun i j => .bl (decide (i ≤ j))) ta tb tc σ H Q := by
  refine ha _ (hb _ ⟨a, b, rfl, rfl, _, rfl, ?_⟩)
  refine itB (fun e => ?_) (fun e => ?_)
  · refine hc _ ⟨b, c, rfl, rfl, ?_⟩
    rw [e] at q
    exact q
  · rw [e] at q
    exact q
theorem odd_of {z : Str} {o : Nat} (h : (cs z).all (fun c => !lett c) = true) (ho : o ∈ z.cps.toList) : lett o = false := by
  have := List.all_eq_true.mp h o ho
  simpa using this
theorem v_int_eq {a b : Int} : decide (V.int a = V.int b) = decide (a = b) := by
  by_cases h : a = b
  · rw [decide_eq_true h, decide_eq_true (by rw [h])]
  · rw [decide_eq_false h, decide_eq_false (fun q => h (V.int.inj q))]
theorem sz_of' {z : Str} (h : z.length ≤ 100000) : szV (.str z) := h
theorem sign_no {z : Str} (h : (cs z).length ≠ 1) : isSign (.str z) = false := by
  show (decide ((cs z).length = 1) && (cs z).all lett) = false
  rw [decide_eq_false h]
  rfl
theorem piece_no {z : Str} (h : 5 < (cs z).length) : isPiece (.str z) = false := by
  show (decide (1 ≤ (cs z).length) && decide ((cs z).length ≤ 5) && (cs z).all lett) = false
  rw [decide_eq_false (by omega : ¬ (cs z).length ≤ 5), Bool.and_false]
  rfl
theorem ne_self {z : Str} : V.bl (!decide (V.str z = V.str z)) = V.bl false := by
  rw [decide_eq_true rfl]
  rfl
theorem is_self {z : Str} : V.bl (decide (V.str z = V.str z)) = V.bl true := by rw [decide_eq_true rfl]
theorem foldl_cat : ∀ (n : Nat) (a acc : Array Nat), ((List.replicate n a).foldl (· ++ ·) acc).toList = acc.toList ++ (List.replicate n a.toList).flatten
  | 0, a, acc => by simp
  | n + 1, a, acc => by
    rw [List.replicate_succ, List.foldl_cons, foldl_cat n a (acc ++ a), List.replicate_succ, List.flatten_cons]
    simp
theorem cs_rep (z : Str) (n : Nat) : cs (sRep z n) = (List.replicate n (cs z)).flatten := by
  have h := foldl_cat n z.cps #[]
  rw [show (#[] : Array Nat).toList = [] from rfl, List.nil_append] at h
  exact h
theorem rep_mem {z : Str} {n c : Nat} (h : c ∈ cs (sRep z n)) : c ∈ cs z := by
  rw [cs_rep] at h
  obtain ⟨l, hl, hc⟩ := List.mem_flatten.mp h
  rw [List.eq_of_mem_replicate hl] at hc
  exact hc
theorem sum_rep : ∀ n k : Nat, (List.replicate n k).sum = n * k
  | 0, k => by simp
  | n + 1, k => by
    rw [List.replicate_succ, List.sum_cons, sum_rep n k, Nat.add_mul]
    omega
theorem rep_len (z : Str) (n : Nat) : (sRep z n).length = n * z.length := by
  rw [← cs_len, cs_rep, List.length_flatten, List.map_replicate, sum_rep, cs_len]
theorem Kp.sameOf {l : Addr} {H H1 H2 : Hp} (s : Same H H1) (k : Kp l H1 H2) (h : H l = none) : Same H H2 := fun b o e => k b o (s b o e) (ne_of_none e h)
def spLaw (K : PySem.W.Frag) : Sp := fun vs H Q _ => ∃ (a : Addr) (ns : List Int), vs = [.ref a] ∧ SqL K H a (ns.map V.int) ∧ ns.length ≤ 63 ∧ ∀ H', Q (.bl true) H'
/-- how many cells are looked at -/
theorem cells_bound {n : Nat} {m : Int} (hm : 1 ≤ m) : 1 ≤ (if (if (n : Int) < m then (n : Int) else m) > 1 then (if (n : Int) < m then (n : Int) else m) else 1) ∧ (if (if (n : Int) < m then (n : Int) else m) > 1 then (if (n : Int) < m then (n : Int) else m) else 1) ≤ m := by
  split <;> split <;> omega
theorem small1000' {n : Nat} (h : n ≤ 100000) : n < sizeLine := Nat.lt_of_le_of_lt h (by decide)
/-- _law_some: drawn items of a row, each at most once -/
def spSome (K : PySem.W.Frag) : Sp := fun vs H Q _ => ∃ (l : Addr) (x : V) (ys : List V) (m n : Nat), vs = [.ref l, x, .int (m : Int)] ∧ Seq K H l x ys ∧ ys.length ≤ 1000 ∧ m ≤ 1000 ∧ Dice H l (n + m) ∧
  ∀ p zs rest H', H p = none → (zs ++ rest).Perm ys → zs.length = min m ys.length → H' p = some (.lst zs) → Kp l H H' → Dice H' l n → Q (.ref p) H'
theorem ix_pos {n : Nat} {r : Int} (h0 : 0 ≤ r) (h1 : r < n) : seqIndex? r n = some r.toNat := (ixN_seq (n := n) (i := r) (j := r.toNat) (by unfold ixN; rw [if_pos h0, if_pos h1])).1
theorem erase_perm {α : Type} : ∀ {l : List α} {k : Nat} {y : α}, l[k]? = some y → (y :: l.eraseIdx k).Perm l
  | [], k, y, h => by simp at h
  | a :: r, 0, y, h => by
    have e : a = y := by simpa using h
    subst e
    exact List.Perm.refl _
  | a :: r, k + 1, y, h => by
    have ih := erase_perm (l := r) (k := k) (y := y) (by simpa using h)
    show (y :: a :: r.eraseIdx k).Perm (a :: r)
    exact (List.Perm.swap a y _).trans (ih.cons a)
theorem big_cut {x c : Int} (h0 : 0 ≤ x) (h : x.natAbs < 2 ^ 2100) (hc : 0 ≤ c) : Big (if x - c > 0 then x - c else 0) := by
  split
  · refine big_of (by omega) ?_
    generalize (2 ^ 2100 : Nat) = M at h ⊢
    omega
  · exact big_zero
end G
namespace G
open PySem PySem.Spec PyProof.Rows L2
/-! ### comprehensions over anything that is walked, whose parts leave all that was tracked -/
section
variable {α : Type} {J : It} {G : Hp → Prop} {Y : Nat → Hp → V → Hp → Prop}
theorem take_fm {its : List α} {i : Nat} {a : α} {β : Type} (h : α → Option β) (e : its[i]? = some a) : (its.take (i + 1)).filterMap h = (its.take i).filterMap h ++ (h a).toList := by
  rw [List.take_add_one, e, List.filterMap_append]
  cases hh : h a <;> simp [hh]
theorem lcs (its : List α) (w : Walk J its.length G Y) (h : α → Option V) {g : TG} {tt : TT} {te : TE} {vs : List Nat} {σ : L2.St} {H1 : Hp} {D : Addr} {Qd : Hp → Prop} (hD : H1 D = none) (hz : its.length ≤ 1000000) (hG : ∀ H, Same H1 H → G H)
    (hs : ∀ i a x H H', its[i]? = some a → Same H1 H → Y i H x H' → ∀ (N : VK) (M : Hp → Prop), (∀ v H3, h a = some v → Same H H3 → N v H3) → (∀ H3, h a = none → Same H H3 → M H3) →
      g x (wipe σ vs) H' fun σ2 H2 => wipe σ2 vs = wipe σ vs ∧ tt σ2 H2 fun b H3 => if b = true then te σ2 H3 N else M H3)
    (hd : ∀ H, Same H1 H → H D = some (.lst (its.filterMap h)) → Qd H) :
    ∃ W : Nat → Nat → Hp → Prop, (∃ m, W 0 m (upd H1 D (.lst []))) ∧ ∀ i m H, W i m H →
      (J.stop i H ∧ Qd H) ∨ (J.go i H ∧ ∃ Nx : Hp → Prop, (∀ H', Nx H' → ∃ m', m' < m ∧ W (i + 1) m' H') ∧ ∀ x H', J.yld i H x H' → g x (wipe σ vs) H' fun σ2 H2 => wipe σ2 vs = wipe σ vs ∧ tt σ2 H2 fun b H3 =>
        if b = true then te σ2 H3 fun y H4 => ∃ acc, H4 D = some (.lst acc) ∧ acc.length < sizeLine ∧ Nx (upd H4 D (.lst (acc ++ [y]))) else Nx H3) := by
  refine lc_it w (fun i H => Same H1 H ∧ H D = some (.lst ((its.take i).filterMap h))) ⟨same_new hD, upd_same⟩ (fun i H _ p => hG H p.1) ?_ (fun H p => hd H p.1 (by rw [p.2, List.take_length]))
  rintro i x H H' hi ⟨s, e⟩ y
  obtain ⟨a, ha⟩ : ∃ a, its[i]? = some a := ⟨_, List.getElem?_eq_getElem hi⟩
  have short : ((its.take i).filterMap h).length < sizeLine := by
    have h1 := List.length_filterMap_le h (its.take i)
    rw [List.length_take] at h1
    exact Nat.lt_of_le_of_lt (by omega : _ ≤ 1000000) (by decide)
  refine hs i a x H H' ha s y _ _ (fun v H3 hv s3 => ⟨_, s3 _ _ e, short, fun b o q => ?_, ?_⟩) (fun H3 hv s3 => ⟨s.trans s3, ?_⟩)
  · rw [upd_ne (ne_of_none q hD)]
    exact s3 _ _ (s _ _ q)
  · rw [upd_same, take_fm h ha, hv]
    rfl
  · rw [s3 _ _ e, take_fm h ha, hv]
    show _ = some (HO.lst (_ ++ []))
    rw [List.append_nil]
end
/-- the pairs of a dict, each a new tuple -/
def YKV (kvs : List (Key × V)) : Nat → Hp → V → Hp → Prop := fun i H x H' => ∃ T k v, kvs[i]? = some (k, v) ∧ x = .ref T ∧ H T = none ∧ H' = upd H T (.tup [kV k, v])
theorem walk_kv {d : Addr} {o : Obj} {kvs : List (Key × V)} : Walk (Iti d o kvs) kvs.length (fun H => H d = some (.frz o (.dK kvs))) (YKV kvs) :=
  ⟨fun _ _ hi q => ⟨q, hi⟩, fun _ q => ⟨q, Nat.le_refl _⟩, fun _ _ _ _ _ _ y => y⟩
/-- the end of a body: an object that is not changed any more -/
def tFrz (t : TS) : TS := fun D σ H => t { D with nx := fun σ' H' => ∃ d u, H' d = some u ∧ Mut (some u) ∧ ∀ od, D.nx σ' (upd H' d (.frz od u)) } σ H
theorem pss_frz {X : Cx} {body : List Stmt} {t : TS} (h : PSs X body t) : PSs X body (tFrz t) := by
  refine ⟨fun pins s σ H D I hw => thn (h.run pins s σ H _ I hw) fun f s1 q => ?_⟩
  cases f with
  | next =>
    obtain ⟨σ', H', I1, d, u, hd, mu, k⟩ := q
    obtain ⟨od, I2⟩ := I1.lock hd mu
    exact ⟨σ', _, I2, k od⟩
  | brk => exact q
  | cont => exact q
  | ret v => exact q
/-! ### attributes by name -/
theorem lk_at {k : Str} {v : V} {r : List (Str × V)} : List.lookup k ((k, v) :: r) = some v := by
  have e : (k == k) = true := beq_self_eq_true k
  simp only [List.lookup, e]
theorem lk_by {k g : Str} {v : V} {r : List (Str × V)} (h : (k == g) = false) : List.lookup k ((g, v) :: r) = List.lookup k r := by
  simp only [List.lookup, h]
theorem pf_by {f g : Str} {v x : V} {r : List (Str × V)} (h : ¬ g = f) : putF f v ((g, x) :: r) = (g, x) :: putF f v r := if_neg h
/-! ### books -/
abbrev Ps := List (Str × Int)
def kvOf (ps : Ps) : List (Key × V) := ps.map fun p => (Sum.inr p.1, V.int p.2)
def lens (ps : Ps) : List Int := ps.map fun p => (p.1.length : Int)
def fees (ps : Ps) : List Int := ps.map (·.2)
def sgn (ps : Ps) : List Str := (ps.map (·.1)).filter fun z => decide (z.length = 1)
def IsMax (m : Int) (l : List Int) : Prop := m ∈ l ∧ ∀ y ∈ l, y ≤ m
def bookF (d tp ta : Addr) (L M : Int) : List (Str × V) := [("own_prices", .ref d), ("own_pieces", .ref tp), ("own_alphabet", .ref ta), ("own_longest", .int L), ("own_dearest", .int M)]
structure BookAt (C : Addr) (H : Hp) (b : Addr) (ps : Ps) (L M : Int) (dx d tp ta : Addr) (od : Obj) : Prop where
  ob : H b = some (.ins C dx (bookF d tp ta L M))
  dc : H d = some (.frz od (.dK (kvOf ps)))
  pi : H tp = some (.tup (ps.map fun p => V.str p.1))
  al : H ta = some (.tup ((sgn ps).map V.str))
  lo : IsMax L (lens ps)
  de : IsMax M (fees ps)
theorem BookAt.same {C : Addr} {H H' : Hp} {b : Addr} {ps : Ps} {L M : Int} {dx d tp ta : Addr} {od : Obj} (B : BookAt C H b ps L M dx d tp ta od) (s : Same H H') : BookAt C H' b ps L M dx d tp ta od :=
  ⟨s _ _ B.ob, s _ _ B.dc, s _ _ B.pi, s _ _ B.al, B.lo, B.de⟩
section
variable {d tp ta : Addr} {L M : Int}
theorem bf_prices : (bookF d tp ta L M).lookup ("own_prices" : Str) = some (.ref d) := lk_at
theorem bf_pieces : (bookF d tp ta L M).lookup ("own_pieces" : Str) = some (.ref tp) := (lk_by (by decide +kernel)).trans lk_at
theorem bf_alphabet : (bookF d tp ta L M).lookup ("own_alphabet" : Str) = some (.ref ta) := (lk_by (by decide +kernel)).trans ((lk_by (by decide +kernel)).trans lk_at)
theorem bf_longest : (bookF d tp ta L M).lookup ("own_longest" : Str) = some (.int L) := (lk_by (by decide +kernel)).trans ((lk_by (by decide +kernel)).trans ((lk_by (by decide +kernel)).trans lk_at))
theorem bf_dearest : (bookF d tp ta L M).lookup ("own_dearest" : Str) = some (.int M) := (lk_by (by decide +kernel)).trans ((lk_by (by decide +kernel)).trans ((lk_by (by decide +kernel)).trans ((lk_by (by decide +kernel)).trans lk_at)))
theorem bf_no {m : Str} (h1 : (m == ("own_prices" : Str)) = false) (h2 : (m == ("own_pieces" : Str)) = false) (h3 : (m == ("own_alphabet" : Str)) = false) (h4 : (m == ("own_longest" : Str)) = false) (h5 : (m == ("own_dearest" : Str)) = false) :
    (bookF d tp ta L M).lookup m = none := (lk_by h1).trans ((lk_by h2).trans ((lk_by h3).trans ((lk_by h4).trans ((lk_by h5).trans rfl))))
theorem bf_made : putF "own_dearest" (.int M) (putF "own_longest" (.int L) (putF "own_alphabet" (.ref ta) (putF "own_pieces" (.ref tp) (putF "own_prices" (.ref d) [])))) = bookF d tp ta L M := by
  show putF "own_dearest" (.int M) (putF "own_longest" (.int L) (putF "own_alphabet" (.ref ta) (putF "own_pieces" (.ref tp) [(("own_prices" : Str), .ref d)]))) = _
  rw [pf_by (by decide +kernel)]
  show putF "own_dearest" (.int M) (putF "own_longest" (.int L) (putF "own_alphabet" (.ref ta) [(("own_prices" : Str), .ref d), (("own_pieces" : Str), .ref tp)])) = _
  rw [pf_by (by decide +kernel), pf_by (by decide +kernel)]
  show putF "own_dearest" (.int M) (putF "own_longest" (.int L) [(("own_prices" : Str), .ref d), (("own_pieces" : Str), .ref tp), (("own_alphabet" : Str), .ref ta)]) = _
  rw [pf_by (by decide +kernel), pf_by (by decide +kernel), pf_by (by decide +kernel)]
  show putF "own_dearest" (.int M) [(("own_prices" : Str), .ref d), (("own_pieces" : Str), .ref tp), (("own_alphabet" : Str), .ref ta), (("own_longest" : Str), .int L)] = _
  rw [pf_by (by decide +kernel), pf_by (by decide +kernel), pf_by (by decide +kernel), pf_by (by decide +kernel)]
  rfl
end
/-! ### a def of the program as its callers use it (no word of guards) -/
structure HasO (P : Program) (w : World) (K : PySem.W.Frag) (mg : Str → Option Value) (base : Heap) (CX : CXT) (k : Nat) (x : Str) (ps : List Str) (sp : Sp) : Prop where
  ex : ∃ f fd, FnOk P w K mg base CX k f fd ps sp ∧ mg x = some (.ref f) ∧ PySem.W.keepIn K (.ref f) = true ∧ Binds K fd ps []
section
variable {P : Program} {w : World} {K : PySem.W.Frag} {mg : Str → Option Value} {base : Heap} {CX : CXT} {k : Nat} {x qual : Str} {ps : List Str} {sp : Sp}
theorem HasO.toG (F : HasO P w K mg base CX k x ps sp) : Has P w K mg base CX k x ps sp := by
  obtain ⟨f, fd, G, r⟩ := F.ex
  exact ⟨f, fd, .of G, r⟩
theorem HasO.mk' {f : Addr} {fd : FuncData} {st : Stmt} (F : Fun K x qual st f fd) (hm : mg x = some (.ref f)) (hb : Binds K fd ps []) (G : FnOk P w K mg base CX k f fd ps sp) : HasO P w K mg base CX k x ps sp := ⟨f, fd, G, hm, F.kp, hb⟩
end
section
variable {X : Cx} {CX : CXT} {k : Nat} {x : Str} {ps : List Str} {sp : Sp} {E : XK} {p pos : Pos} {e : Expr} {es : List Expr} {t : TA}
theorem pe_hasO (F : HasO X.prog X.w X.K X.mg X.base CX k x ps sp) (hr : Room k X.A) (hx : Passes CX X E) (ha : PA X (e :: es) t) (hl : Gl X x := by rfl)
    (hdb : (x == ("__debug__" : Str)) = false := by decide) (he : starEach (e :: es) X.env = (false, eval e X.env) :: starEach es X.env := by rfl) (hpl : (backTo pos (starEach es X.env)).any (·.1) = false := by rfl) :
    PE X (.Call (.Name x p) (e :: es) [] pos) (tCall sp [] E t) := by
  obtain ⟨f, fd, G, hm, hk, hb⟩ := F.ex
  exact pe_call G hr hl hm hk hb .nil hx ha hdb he hpl
end
/-! ### a dict that a walk locks -/
theorem unlock {H H' : Hp} {a : Addr} {u : HO} {od : Obj} (h : H a = some u) (s : Same (upd H a (.frz od u)) H') : Same H (upd H' a u) := fun b o e => by
  by_cases hb : b = a
  · rw [hb] at e ⊢
    rw [h] at e
    cases e
    exact upd_same
  · rw [upd_ne hb]
    exact s _ _ (by rw [upd_ne hb]; exact e)
theorem lock_ne {H : Hp} {a D : Addr} {o : HO} (h : upd H a o D = none) : D ≠ a := fun e => by
  rw [e, upd_same] at h
  cases h
theorem lock_free {H : Hp} {a D : Addr} {o : HO} (h : upd H a o D = none) : H D = none := by
  rw [upd_ne (lock_ne h)] at h
  exact h
/-- [elt for piece in a dict of texts for sign in piece], elt a value of the sign alone -/
theorem lc2_ks {kvs : List (Key × V)} {zs : List Str} {te : TE} {j1 j2 : Nat} {σ : L2.St} {H1 : Hp} {D d : Addr} {od : Obj} {Qd : Hp → Prop} (hk : kvs.map (·.1) = zs.map Sum.inr) (f : Nat → V) (hd0 : H1 d = some (.frz od (.dK kvs))) (hD : H1 D = none)
    (hz : ((zs.map cs).flatten).length ≤ 100000) (hw : ∀ v, wipe ((wipe σ [j1, j2]).set j1 (some v)) [j1, j2] = wipe σ [j1, j2])
    (hw1 : ∀ v u, wipe ((wipe ((wipe σ [j1, j2]).set j1 (some v)) [j2]).set j2 (some u)) [j2] = wipe ((wipe σ [j1, j2]).set j1 (some v)) [j2])
    (hv : ∀ v, ((wipe σ [j1, j2]).set j1 (some v))[j1]? = some (some v))
    (hs : ∀ z ∈ zs, ∀ c ∈ cs z, ∀ H, Same H1 H → ∀ N : VK, (∀ H', Same H H' → N (f c) H') → te ((wipe ((wipe σ [j1, j2]).set j1 (some (.str z))) [j2]).set j2 (some (chV c))) H N)
    (hd : ∀ H, Same H1 H → H D = some (.lst ((zs.map cs).flatten.map f)) → Qd H) :
    ∃ W : Nat → Nat → Hp → Prop, (∃ m, W 0 m (upd H1 D (.lst []))) ∧ ∀ i m H, W i m H →
      ((Itk d od kvs).stop i H ∧ Qd H) ∨ ((Itk d od kvs).go i H ∧ ∃ Nx : Hp → Prop, (∀ H', Nx H' → ∃ m', m' < m ∧ W (i + 1) m' H') ∧ ∀ x H', (Itk d od kvs).yld i H x H' → gName j1 x (wipe σ [j1, j2]) H' fun σ2 H2 => wipe σ2 [j1, j2] = wipe σ [j1, j2] ∧ tYes σ2 H2 fun b H3 =>
        if b = true then iStr (tVar j1) σ2 H3 fun J1 H4 => ∃ W1 : Nat → Nat → Hp → Prop, (∃ m, W1 0 m H4) ∧ ∀ j k H, W1 j k H →
          (J1.stop j H ∧ Nx H) ∨ (J1.go j H ∧ ∃ Nx1 : Hp → Prop, (∀ H', Nx1 H' → ∃ k', k' < k ∧ W1 (j + 1) k' H') ∧ ∀ x H', J1.yld j H x H' → gName j2 x (wipe σ2 [j2]) H' fun σ3 H5 => wipe σ3 [j2] = wipe σ2 [j2] ∧ tYes σ3 H5 fun b H6 =>
            if b = true then te σ3 H6 fun y H7 => ∃ acc, H7 D = some (.lst acc) ∧ acc.length < sizeLine ∧ Nx1 (upd H7 D (.lst (acc ++ [y]))) else Nx1 H6)
        else Nx H3) := by
  have len : kvs.length = zs.length := by
    have h := congrArg List.length hk
    rwa [List.length_map, List.length_map] at h
  have keep : ∀ {H : Hp} {o : HO}, Same H1 H → Same H1 (upd H D o) := fun s b o e => by
    rw [upd_ne (ne_of_none e hD)]
    exact s _ _ e
  have part : ∀ (i : Nat) (z : Str), zs[i]? = some z → ∀ j, ((((zs.take i).map cs).flatten.map f) ++ ((cs z).take j).map f).length ≤ 100000 := by
    intro i z hi j
    have e1 : zs = zs.take i ++ z :: zs.drop (i + 1) := by
      obtain ⟨hlt, hz'⟩ := List.getElem?_eq_some_iff.mp hi
      rw [← hz', List.getElem_cons_drop, List.take_append_drop]
    have e2 := hz
    rw [e1, List.map_append, List.flatten_append, List.map_cons, List.flatten_cons, List.length_append, List.length_append] at e2
    rw [List.length_append, List.length_map, List.length_map, List.length_take]
    omega
  refine ⟨fun i m H => m = kvs.length - i ∧ i ≤ kvs.length ∧ Same H1 H ∧ H D = some (.lst (((zs.take i).map cs).flatten.map f)), ⟨_, rfl, Nat.zero_le _, same_new hD, upd_same⟩, ?_⟩
  rintro i m H ⟨rfl, hi, s, e⟩
  have fz := s _ _ hd0
  by_cases hlt : i < kvs.length
  · refine .inr ⟨⟨fz, hlt⟩, fun H' => Same H1 H' ∧ H' D = some (.lst (((zs.take (i + 1)).map cs).flatten.map f)), fun H' q => ⟨kvs.length - (i + 1), by omega, rfl, hlt, q⟩, ?_⟩
    rintro x H' ⟨rfl, k, v, ek, rfl⟩
    obtain ⟨z, hz1⟩ : ∃ z, zs[i]? = some z := ⟨_, List.getElem?_eq_getElem (by omega)⟩
    have ez : k = Sum.inr z := by
      have h1 := congrArg (fun l => l[i]?) hk
      simp only [List.getElem?_map, ek, hz1] at h1
      exact Option.some.inj h1
    subst ez
    have hzm := List.mem_of_getElem? hz1
    refine ⟨hw _, _, hv _, z, rfl, fun j k' H' => k' = (cs z).length - j ∧ j ≤ (cs z).length ∧ Same H1 H' ∧ H' D = some (.lst ((((zs.take i).map cs).flatten.map f) ++ ((cs z).take j).map f)), ⟨_, rfl, Nat.zero_le _, s, by simpa using e⟩, ?_⟩
    rintro j k' H2 ⟨rfl, hj, s2, e2⟩
    have lz := cs_len z
    by_cases hjl : j < (cs z).length
    · refine .inr ⟨by show j < z.cps.size; rw [lz] at hjl; exact hjl, fun H' => Same H1 H' ∧ H' D = some (.lst ((((zs.take i).map cs).flatten.map f) ++ ((cs z).take (j + 1)).map f)), fun H' q => ⟨(cs z).length - (j + 1), by omega, rfl, hjl, q⟩, ?_⟩
      rintro x H3 ⟨rfl, c, hc, rfl⟩
      have hc' : (cs z)[j]? = some c := by simpa [cs] using hc
      refine ⟨hw1 _ _, hs z hzm c (List.mem_of_getElem? hc') _ s2 _ fun H4 s4 => ⟨_, s4 _ _ e2, Nat.lt_of_le_of_lt (part i z hz1 j) (by decide), keep (s2.trans s4), ?_⟩⟩
      rw [upd_same, List.append_assoc]
      congr 3
      have : (cs z).take (j + 1) = (cs z).take j ++ [c] := by
        rw [List.take_add_one, hc']
        rfl
      rw [this, List.map_append]
      rfl
    · have ej : j = (cs z).length := by omega
      subst ej
      refine .inl ⟨by show z.cps.size ≤ _; rw [lz]; exact Nat.le_refl _, s2, ?_⟩
      rw [List.take_length] at e2
      rw [e2]
      have : (zs.take (i + 1)).map cs = (zs.take i).map cs ++ [cs z] := by
        rw [List.take_add_one, hz1, List.map_append]
        rfl
      rw [this, List.flatten_append, List.map_append]
      simp
  · have ei : i = kvs.length := by omega
    subst ei
    refine .inl ⟨⟨fz, Nat.le_refl _⟩, hd H s ?_⟩
    rw [len, List.take_length] at e
    exact e
/-! ### the values of a dict, as a view -/
def vwV (d r : Addr) : HO := .ext fun h => h.IsValuesView r d
section
variable {X : Cx}
theorem mt_values : MtR X "dict.values" (fun x xs H Q => ∃ d kvs, x = .ref d ∧ xs = [] ∧ Rd H d (.dK kvs) ∧ ∀ r, H r = none → Q (.ref r) (upd H r (vwV d r))) := by
  intro pins s σ H x xs v us Q I rx rs h
  obtain ⟨d, kvs, rfl, rfl, hd, q⟩ := h
  cases rx
  cases rs
  obtain ⟨_, low, vs, _, hdo⟩ := dk_rd I.hok hd
  refine call_meetsIn PySem.F.slot_dict_values hdo.typeIs PySem.F.entry_dict_values (PySem.F.args_dict_values_1 _) (meets_dict_values (mixKind X.prog X.w) d low) ⟨⟨vs, hdo⟩, ?_⟩
  have view : (s.heap.push { cls := .type "dict_values", data := .fields #[.ref d] }).IsValuesView s.heap.objs.size d := ⟨_, Heap.get?_push_size _ rfl, rfl, rfl⟩
  refine ⟨.ref s.heap.objs.size, _, I.laid (o := vwV d s.heap.objs.size) (fun _ _ e => Heap.get?_push_of_some _ e) (Nat.le_refl _) ⟨view, ⟨_, Heap.get?_push_size _ rfl⟩, ?_⟩, rfl, q _ (I.hok.fresh (Nat.le_refl _))⟩
  rintro h1 h2 ⟨o, a, b, c⟩ k
  exact ⟨o, k o a, b, c⟩
theorem call_listVw (hc : X.calm = true) : CallR X (.type "list") (fun xs H Q => ∃ r d kvs, xs = [.ref r] ∧ H r = some (vwV d r) ∧ Rd H d (.dK kvs) ∧ ∀ p, H p = none → Q (.ref p) (upd H p (.lst (kvs.map (·.2))))) := by
  intro pins s σ H xs us Q I rs h
  obtain ⟨r, d, kvs, rfl, hr, hd, q⟩ := h
  obtain ⟨u, rfl, ru⟩ := vals1 rs
  cases ru
  obtain ⟨short, low, vs, rel, hdo⟩ := dk_rd I.hok hd
  obtain ⟨ep, at'⟩ := hdo.dictAt
  have view : s.heap.IsValuesView r d := (I.hok r _ hr).1
  have nl : kvs.length = vs.length := rel.length
  refine PySem.W.kdl_call (PySem.W.kdl_values (knd := mixKind X.prog X.w) (kvs := vs) (ep := ep)) (I.ok.hd hc) ⟨view, at'⟩ (by omega) ?_
  intro h' tk acc c' keeps new items
  have va : Vals (kvs.map (·.2)) acc.toList := vals_at _ _ (by rw [Array.length_toList, List.length_map, items.1, nl]) fun j w hw => by
    obtain ⟨k, hk⟩ := items.2 j w (by simpa using hw)
    obtain ⟨p, hp, rp⟩ : ∃ p, kvs[j]? = some p ∧ RelV p.2 w := by
      have jl : j < kvs.length := by
        have := (List.getElem?_eq_some_iff.mp hk).1
        omega
      refine ⟨kvs[j], List.getElem?_eq_getElem jl, ?_⟩
      obtain ⟨y, hy, ry⟩ := LiI.paired_get rel (List.getElem?_eq_getElem jl)
      rw [hk] at hy
      cases hy
      exact ry.2
    exact ⟨p.2, by rw [List.getElem?_map, hp]; rfl, rp⟩
  refine ⟨.ref s.heap.objs.size, _, I.laid (t' := tk) (o := .lst (kvs.map (·.2))) keeps (Nat.le_refl _) ⟨by rw [List.length_map]; exact short, acc.toList, c', va, by simpa using new⟩, rfl, q _ (I.hok.fresh (Nat.le_refl _))⟩
/-- len of a dict, locked or not -/
theorem call_lenF : CallR X (.builtin "len") (fun xs H Q => ∃ a kvs, xs = [V.ref a] ∧ Rd H a (.dK kvs) ∧ Q (.int (kvs.length : Int)) H) := by
  intro pins s σ H xs us Q I rs h
  obtain ⟨a, kvs, rfl, ha, q⟩ := h
  obtain ⟨u, rfl, ru⟩ := vals1 rs
  cases ru
  exact d_len I (by first | exact ha | exact Or.inl ha) fun t s' J => ⟨.int kvs.length, H, J, ⟨t, rfl⟩, q⟩
end
/-! ### what a dict of prices is -/
def inRange (x : V) (a b : Int) : Bool := match x with | .int i => decide (i.natAbs < 10 ^ 60) && (decide (a ≤ i) && decide (i ≤ b)) | _ => false
def isPrice (x : V) : Bool := inRange x 1 99
def keyStrs (kvs : List (Key × V)) : List Str := kvs.filterMap fun kv => match kv.1 with | .inr z => some z | .inl _ => none
def arePrices (kvs : List (Key × V)) : Bool :=
  (decide (1 ≤ (kvs.length : Int)) && decide ((kvs.length : Int) ≤ 12)) && (kvs.all fun kv => isPiece (kV kv.1) && isPrice kv.2) && decide (((keyStrs kvs).filter fun z => decide ((cs z).length = 1)).length ≤ 4) &&
    ((keyStrs kvs).map cs).flatten.all fun c => (valV kvs (Sum.inr (ch c))).isSome
/-- what was tracked is so still, or locked -/
def Sim (H H' : Hp) : Prop := ∀ b o, H b = some o → H' b = some o ∨ ∃ od, H' b = some (.frz od o)
theorem Sim.of {H H' : Hp} (s : Same H H') : Sim H H' := fun b o e => Or.inl (s b o e)
theorem Sim.lock {H : Hp} {a : Addr} {u : HO} {od : Obj} (h : H a = some u) : Sim H (upd H a (.frz od u)) := fun b o e => by
  by_cases hb : b = a
  · rw [hb] at e ⊢
    rw [h] at e
    cases e
    exact Or.inr ⟨od, upd_same⟩
  · exact Or.inl (by rw [upd_ne hb]; exact e)
theorem Sim.then {H H1 H2 : Hp} (a : Sim H H1) (s : Same H1 H2) : Sim H H2 := fun b o e => by
  rcases a b o e with h | ⟨od, h⟩
  · exact Or.inl (s _ _ h)
  · exact Or.inr ⟨od, s _ _ h⟩
theorem Sim.after {H H1 H2 : Hp} (s : Same H H1) (a : Sim H1 H2) : Sim H H2 := fun b o e => a b o (s b o e)
/-- of a known kind, as long as it stands, locked or not -/
def TydS (K : PySem.W.Frag) (H : Hp) (x : V) : Prop := ∀ H', Sim H H' → Tyd K H' x
section
variable {K : PySem.W.Frag} {H : Hp}
theorem TydS.now {x : V} (t : TydS K H x) : Tyd K H x := t H (.of (Same.refl H))
theorem TydS.same {H' : Hp} {x : V} (t : TydS K H x) (s : Same H H') : TydS K H' x := fun H2 z => t H2 (Sim.after s z)
theorem tydS_non : TydS K H .non := fun _ _ => tyd_non
theorem tydS_bl (b : Bool) : TydS K H (.bl b) := fun _ _ => tyd_bl b
theorem tydS_int (i : Int) : TydS K H (.int i) := fun _ _ => tyd_int i
theorem tydS_str (z : Str) : TydS K H (.str z) := fun _ _ => tyd_str z
theorem tydS_lst {a : Addr} {xs : List V} (h : H a = some (.lst xs)) : TydS K H (.ref a) := fun H' z => by
  rcases z a _ h with h | ⟨od, h⟩
  · exact tyd_lst h
  · exact tyd_of (a := false) (b := false) (c := false) (.base (.frz h)) (by decide +kernel) (by decide +kernel) (by decide +kernel) rfl rfl rfl
theorem tydS_tup {a : Addr} {xs : List V} (h : H a = some (.tup xs)) : TydS K H (.ref a) := fun H' z => by
  rcases z a _ h with h | ⟨od, h⟩
  · exact tyd_tup h
  · exact tyd_of (a := false) (b := false) (c := false) (.fTuple h) (by decide +kernel) (by decide +kernel) (by decide +kernel) rfl rfl rfl
theorem tydS_dK {a : Addr} {kvs : List (Key × V)} (h : H a = some (.dK kvs)) : TydS K H (.ref a) := fun H' z => by
  rcases z a _ h with h | ⟨od, h⟩
  · exact tyd_dK h
  · exact tyd_of (a := false) (b := false) (c := false) (.fDict h) (by decide +kernel) (by decide +kernel) (by decide +kernel) rfl rfl rfl
end
def KvOk (K : PySem.W.Frag) (H : Hp) (kvs : List (Key × V)) : Prop := ∀ kv ∈ kvs, szV (kV kv.1) ∧ TydS K H kv.2
theorem tyd_key {K : PySem.W.Frag} {H : Hp} (k : Key) : Tyd K H (kV k) := by
  cases k with
  | inl i => exact tyd_int i
  | inr z => exact tyd_str z
def spWithin (K : PySem.W.Frag) : Sp := fun vs H Q _ => ∃ x a b, vs = [x, .int a, .int b] ∧ Tyd K H x ∧ ∀ H', Same H H' → Q (.bl (inRange x a b)) H'
def spArePrices (K : PySem.W.Frag) : Sp := fun vs H Q _ => ∃ x, vs = [x] ∧
  ((∃ t, TyX K H x t ∧ PySem.W.kitOne K t (.type "dict") = some false ∧ ∀ H', Same H H' → Q (.bl false) H') ∨
   ∃ a kvs, x = .ref a ∧ H a = some (.dK kvs) ∧ kvs.length ≤ 1000 ∧ KvOk K H kvs ∧ ∀ H', Same H H' → Q (.bl (arePrices kvs)) H')
theorem piece_key {k : Key} (h : isPiece (kV k) = true) : ∃ z, k = Sum.inr z ∧ 1 ≤ (cs z).length ∧ (cs z).length ≤ 5 ∧ ∀ c ∈ cs z, lett c = true := by
  cases k with
  | inl i => cases h
  | inr z =>
    have h' : (decide (1 ≤ (cs z).length) && decide ((cs z).length ≤ 5) && (cs z).all lett) = true := h
    rw [Bool.and_eq_true, Bool.and_eq_true] at h'
    exact ⟨z, rfl, of_decide_eq_true h'.1.1, of_decide_eq_true h'.1.2, List.all_eq_true.mp h'.2⟩
theorem keys_of {kvs : List (Key × V)} (h : (kvs.all fun kv => isPiece (kV kv.1) && isPrice kv.2) = true) : kvs.map (·.1) = (keyStrs kvs).map Sum.inr := by
  induction kvs with
  | nil => rfl
  | cons a r ih =>
    rw [List.all_cons, Bool.and_eq_true, Bool.and_eq_true] at h
    obtain ⟨z, ez, _⟩ := piece_key h.1.1
    obtain ⟨k, v⟩ := a
    dsimp only at ez
    subst ez
    show Sum.inr z :: _ = Sum.inr z :: _
    rw [ih h.2]
    rfl
theorem keyStrs_piece {kvs : List (Key × V)} (h : (kvs.all fun kv => isPiece (kV kv.1) && isPrice kv.2) = true) : ∀ z ∈ keyStrs kvs, 1 ≤ (cs z).length ∧ (cs z).length ≤ 5 ∧ ∀ c ∈ cs z, lett c = true := by
  intro z hz
  obtain ⟨kv, hkv, e⟩ := List.mem_filterMap.mp hz
  have h1 := List.all_eq_true.mp h kv hkv
  rw [Bool.and_eq_true] at h1
  obtain ⟨y, ey, r⟩ := piece_key h1.1
  obtain ⟨k, v⟩ := kv
  dsimp only at ey e
  subst ey
  cases e
  exact r
theorem flat_len {zs : List Str} (h : ∀ z ∈ zs, (cs z).length ≤ 5) : ((zs.map cs).flatten).length ≤ 5 * zs.length := by
  induction zs with
  | nil => exact Nat.zero_le _
  | cons a r ih =>
    rw [List.map_cons, List.flatten_cons, List.length_append, List.length_cons]
    have h1 := h a List.mem_cons_self
    have h2 := ih fun z hz => h z (List.mem_cons_of_mem _ hz)
    omega
theorem singles : ∀ kvs : List (Key × V), (kvs.filterMap fun kv => match kv.1 with | .inr z => if decide ((cs z).length = 1) = true then some (V.str z) else none | .inl _ => none) = ((keyStrs kvs).filter fun z => decide ((cs z).length = 1)).map V.str
  | [] => rfl
  | (.inl i, v) :: r => singles r
  | (.inr z, v) :: r => by
    have ih := singles r
    have e : keyStrs ((Sum.inr z, v) :: r) = z :: keyStrs r := rfl
    rw [e, List.filter_cons, List.filterMap_cons]
    dsimp only
    cases h : decide ((cs z).length = 1) with
    | true =>
      rw [if_pos rfl, if_pos rfl, List.map_cons, ih]
    | false =>
      rw [if_neg Bool.false_ne_true, if_neg Bool.false_ne_true, ih]
/-! ### dict comprehensions; walks of lists and tuples told by a function -/
section
variable {α : Type} {J : It} {G : Hp → Prop} {Y : Nat → Hp → V → Hp → Prop}
theorem valV_none {κ : Type} [DecidableEq κ] {kvs : List (κ × V)} {k : κ} (h : k ∉ kvs.map (·.1)) : valV kvs k = none := by
  cases e : valV kvs k with
  | none => rfl
  | some v => exact absurd (valV_in e) h
theorem dcs (its : List α) (w : Walk J its.length G Y) (h : α → Key × V) (nd : (its.map fun a => (h a).1).Nodup) {g : TG} {tt : TT} {tk tv : TE} {vs : List Nat} {σ : L2.St} {H1 : Hp} {D : Addr} {Qd : Hp → Prop} (hD : H1 D = none) (hz : its.length ≤ 100000) (hG : ∀ H, Same H1 H → G H)
    (hs : ∀ i a x H H', its[i]? = some a → Same H1 H → Y i H x H' → ∀ (N : V → V → Hp → Prop) (M : Hp → Prop), (∀ H3, Same H H3 → N (kV (h a).1) (h a).2 H3) →
      g x (wipe σ vs) H' fun σ2 H2 => wipe σ2 vs = wipe σ vs ∧ tt σ2 H2 fun b H3 => if b = true then tk σ2 H3 fun y H4 => tv σ2 H4 fun z H5 => N y z H5 else M H3)
    (hd : ∀ H, Same H1 H → H D = some (.dK (its.map h)) → Qd H) :
    ∃ W : Nat → Nat → Hp → Prop, (∃ m, W 0 m (upd H1 D (.dK []))) ∧ ∀ i m H, W i m H →
      (J.stop i H ∧ Qd H) ∨ (J.go i H ∧ ∃ Nx : Hp → Prop, (∀ H', Nx H' → ∃ m', m' < m ∧ W (i + 1) m' H') ∧ ∀ x H', J.yld i H x H' → g x (wipe σ vs) H' fun σ2 H2 => wipe σ2 vs = wipe σ vs ∧ tt σ2 H2 fun b H3 =>
        if b = true then tk σ2 H3 fun y H4 => tv σ2 H4 fun z H5 => ∃ kvs k, y = kV k ∧ H5 D = some (.dK kvs) ∧ kvs.length < sizeLine ∧ Nx (upd H5 D (.dK (putK kvs k z))) else Nx H3) := by
  refine ⟨fun i m H => m = its.length - i ∧ i ≤ its.length ∧ Same H1 H ∧ H D = some (.dK ((its.take i).map h)), ⟨_, rfl, Nat.zero_le _, same_new hD, upd_same⟩, ?_⟩
  rintro i m H ⟨rfl, hi, s, e⟩
  by_cases hlt : i < its.length
  · obtain ⟨a, ha⟩ : ∃ a, its[i]? = some a := ⟨_, List.getElem?_eq_getElem hlt⟩
    refine .inr ⟨w.goes i H hlt (hG H s), fun H' => Same H1 H' ∧ H' D = some (.dK ((its.take (i + 1)).map h)), fun H' q => ⟨its.length - (i + 1), by omega, rfl, hlt, q⟩, ?_⟩
    intro x H' y
    refine hs i a x H H' ha s (w.yields i H x H' hlt (hG H s) y) _ _ fun H3 s3 => ⟨_, (h a).1, rfl, s3 _ _ e, ?_, fun b o q => ?_, ?_⟩
    · rw [List.length_map, List.length_take]
      exact Nat.lt_of_le_of_lt (by omega : _ ≤ 100000) (by decide)
    · rw [upd_ne (ne_of_none q hD)]
      exact s3 _ _ (s _ _ q)
    · have e1 : its.take (i + 1) = its.take i ++ [a] := by
        rw [List.take_add_one, ha]
        rfl
      have e2 : valV ((its.take i).map h) (h a).1 = none := valV_none fun m => by
        rw [List.map_map] at m
        have nd' : ((its.take (i + 1)).map fun a => (h a).1).Nodup := nd.sublist ((List.take_sublist _ _).map _)
        rw [e1, List.map_append] at nd'
        exact (List.nodup_append.mp nd').2.2 _ m _ (List.mem_singleton.mpr rfl) rfl
      rw [upd_same, putK_new _ e2, e1, List.map_append]
      rfl
  · have ei : i = its.length := by omega
    subst ei
    refine .inl ⟨w.stops H (hG H s), hd H s ?_⟩
    rw [e, List.take_length]
end
theorem walk_listF {β : Type} {K : PySem.W.Frag} {a : Addr} (f : β → V) (ys : List β) : Walk (Itl K a) ys.length (fun H => SqL K H a (ys.map f)) (fun i H x H' => H' = H ∧ ∃ b, ys[i]? = some b ∧ x = f b) := by
  have w := walk_list (K := K) (a := a) (xs := ys.map f)
  rw [List.length_map] at w
  refine w.mono (fun _ h => h) ?_
  rintro i H x H' hi _ ⟨rfl, hx⟩
  rw [List.getElem?_map] at hx
  cases e : ys[i]? with
  | none =>
    rw [e] at hx
    cases hx
  | some b =>
    rw [e] at hx
    exact ⟨rfl, b, rfl, (Option.some.inj hx).symm⟩
theorem walk_tupF {β : Type} {K : PySem.W.Frag} {a : Addr} (f : β → V) (ys : List β) : Walk (Itt K a) ys.length (fun H => SqT K H a (ys.map f)) (fun i H x H' => H' = H ∧ ∃ b, ys[i]? = some b ∧ x = f b) := by
  have w := walk_tup (K := K) (a := a) (xs := ys.map f)
  rw [List.length_map] at w
  refine w.mono (fun _ h => h) ?_
  rintro i H x H' hi _ ⟨rfl, hx⟩
  rw [List.getElem?_map] at hx
  cases e : ys[i]? with
  | none =>
    rw [e] at hx
    cases hx
  | some b =>
    rw [e] at hx
    exact ⟨rfl, b, rfl, (Option.some.inj hx).symm⟩
/-! ### a book is made -/
def priceIn (kvs : List (Key × V)) (z : Str) : Int := match valV kvs (Sum.inr z) with | some (.int p) => p | _ => 0
def psOf (kvs : List (Key × V)) (ys : List Str) : Ps := ys.map fun z => (z, priceIn kvs z)
theorem fm_some {α β : Type} (f : α → β) (l : List α) : l.filterMap (fun a => some (f a)) = l.map f := by
  rw [List.filterMap_eq_map']
theorem price_of_key {kvs : List (Key × V)} (h : (kvs.all fun kv => isPiece (kV kv.1) && isPrice kv.2) = true) {z : Str} (hz : z ∈ keyStrs kvs) : valV kvs (Sum.inr z) = some (.int (priceIn kvs z)) ∧ 1 ≤ priceIn kvs z ∧ priceIn kvs z ≤ 99 := by
  have hm : (Sum.inr z : Key) ∈ kvs.map (·.1) := by
    rw [keys_of h]
    exact List.mem_map.mpr ⟨z, hz, rfl⟩
  cases e : valV kvs (Sum.inr z : Key) with
  | none => exact absurd hm (valV_not e)
  | some v =>
    obtain ⟨kv, hkv, e1⟩ : ∃ kv ∈ kvs, kv.2 = v := by
      unfold valV at e
      cases e2 : kvs.find? (fun kv => decide (kv.1 = (Sum.inr z : Key))) with
      | none =>
        rw [e2] at e
        cases e
      | some kv =>
        rw [e2] at e
        exact ⟨kv, List.mem_of_find?_eq_some e2, Option.some.inj e⟩
    have h1 := List.all_eq_true.mp h kv hkv
    rw [Bool.and_eq_true] at h1
    have h2 := h1.2
    rw [e1] at h2
    cases v with
    | int p =>
      have h3 : (decide (p.natAbs < 10 ^ 60) && (decide (1 ≤ p) && decide (p ≤ 99))) = true := h2
      rw [Bool.and_eq_true, Bool.and_eq_true] at h3
      have e3 : priceIn kvs z = p := by
        unfold priceIn
        rw [e]
      rw [e3]
      exact ⟨rfl, of_decide_eq_true h3.2.1, of_decide_eq_true h3.2.2⟩
    | _ => cases h2
theorem ap_parts {kvs : List (Key × V)} (h : arePrices kvs = true) : (1 ≤ kvs.length ∧ kvs.length ≤ 12) ∧ (kvs.all fun kv => isPiece (kV kv.1) && isPrice kv.2) = true ∧ ((keyStrs kvs).filter fun z => decide ((cs z).length = 1)).length ≤ 4 ∧
    (((keyStrs kvs).map cs).flatten.all fun c => (valV kvs (Sum.inr (ch c))).isSome) = true := by
  unfold arePrices at h
  rw [Bool.and_eq_true, Bool.and_eq_true, Bool.and_eq_true, Bool.and_eq_true] at h
  obtain ⟨⟨⟨⟨a, b⟩, c⟩, d⟩, e⟩ := h
  have a' := of_decide_eq_true a
  have b' := of_decide_eq_true b
  exact ⟨⟨by omega, by omega⟩, c, of_decide_eq_true d, e⟩
theorem not_there {H H' : Hp} {a : Addr} (s : Same H H') (h : H' a = none) : H a = none := by
  cases e : H a with
  | none => rfl
  | some o =>
    rw [s _ _ e] at h
    cases h
theorem nd_of_map {α β : Type} {f : α → β} {l : List α} (h : (l.map f).Nodup) : l.Nodup := List.Pairwise.of_map f (fun _ _ n e => n (congrArg f e)) h
theorem nd_map {α β : Type} {f : α → β} (hf : ∀ a b, f a = f b → a = b) {l : List α} (h : l.Nodup) : (l.map f).Nodup := List.Pairwise.map f (fun a b n e => n (hf a b e)) h
section
variable {x y z u v : V}
theorem pf2 : putF "own_pieces" y [(("own_prices" : Str), x)] = [(("own_prices" : Str), x), ("own_pieces", y)] := by
  rw [pf_by (by decide +kernel)]
  rfl
theorem pf3 : putF "own_alphabet" z [(("own_prices" : Str), x), ("own_pieces", y)] = [(("own_prices" : Str), x), ("own_pieces", y), ("own_alphabet", z)] := by
  rw [pf_by (by decide +kernel), pf_by (by decide +kernel)]
  rfl
theorem pf4 : putF "own_longest" u [(("own_prices" : Str), x), ("own_pieces", y), ("own_alphabet", z)] = [(("own_prices" : Str), x), ("own_pieces", y), ("own_alphabet", z), ("own_longest", u)] := by
  rw [pf_by (by decide +kernel), pf_by (by decide +kernel), pf_by (by decide +kernel)]
  rfl
theorem pf5 : putF "own_dearest" v [(("own_prices" : Str), x), ("own_pieces", y), ("own_alphabet", z), ("own_longest", u)] = [(("own_prices" : Str), x), ("own_pieces", y), ("own_alphabet", z), ("own_longest", u), ("own_dearest", v)] := by
  rw [pf_by (by decide +kernel), pf_by (by decide +kernel), pf_by (by decide +kernel), pf_by (by decide +kernel)]
  rfl
end
theorem sgn_fm (kvs : List (Key × V)) (ys : List Str) : (ys.filterMap fun z => if decide ((cs z).length = 1) = true then some (V.str z) else none) = (sgn (psOf kvs ys)).map V.str := by
  induction ys with
  | nil => rfl
  | cons z r ih =>
    have e : sgn (psOf kvs (z :: r)) = if decide (z.length = 1) = true then z :: sgn (psOf kvs r) else sgn (psOf kvs r) := by
      unfold sgn psOf
      rw [List.map_cons, List.map_cons, List.filter_cons]
    rw [e, List.filterMap_cons, cs_len, ih]
    cases decide (z.length = 1) <;> rfl
theorem kv_keys (ps : Ps) : (kvOf ps).map (fun kv => kV kv.1) = ps.map fun p => V.str p.1 := by
  unfold kvOf
  rw [List.map_map]
  rfl
theorem kv_vals (ps : Ps) : (kvOf ps).map (·.2) = (fees ps).map V.int := by
  unfold kvOf fees
  rw [List.map_map, List.map_map]
  rfl
/-- Book.__init__ on a right dict -/
def spBook (C : Addr) (K : PySem.W.Frag) : Sp := fun vs H Q _ => ∃ (b dx a : Addr) (kvs : List (Key × V)), vs = [.ref b, .ref a] ∧ H b = some (.ins C dx []) ∧ H a = some (.dK kvs) ∧ KvOk K H kvs ∧ arePrices kvs = true ∧ (kvs.map (·.1)).Nodup ∧
  ∀ H' ys L M d tp ta od, ys.Perm (keyStrs kvs) → sortedS ys = true → BookAt C H' b (psOf kvs ys) L M dx d tp ta od → (∀ c o, H c = some o → c ≠ b → H' c = some o) → Q .non H'
end G
/-! Cheapest prices, in plain Lean: cuts by a tariff, the least fee. -/
namespace G
open PySem PySem.Spec PyProof.Rows L2
abbrev Tf := Str → Option Int
def Cut (F : Tf) (l : List Nat) (c : Ps) : Prop := (∀ p ∈ c, F p.1 = some p.2) ∧ (c.map fun p => cs p.1).flatten = l
def fee (c : Ps) : Int := (c.map (·.2)).sum
def Least (F : Tf) (l : List Nat) (m : Int) : Prop := (∃ c, Cut F l c ∧ fee c = m) ∧ ∀ c, Cut F l c → m ≤ fee c
def Over (F : Tf) (l : List Nat) : Prop := ∀ c ∈ l, ∃ p, F (ch c) = some p
structure Good (F : Tf) : Prop where
  pos : ∀ z p, F z = some p → 1 ≤ p ∧ p ≤ 99
  len : ∀ z p, F z = some p → 1 ≤ (cs z).length ∧ (cs z).length ≤ 5
  cov : ∀ z p, F z = some p → Over F (cs z)
open Classical in
noncomputable def lp (F : Tf) (l : List Nat) : Int := if h : ∃ m, Least F l m then h.choose else 0
section
variable {F F1 F2 : Tf} {l a b : List Nat} {m n : Int} {c d : Ps} {z : Str} {p : Int}
theorem Least.uniq (h : Least F l m) (k : Least F l n) : m = n := by
  obtain ⟨⟨c, hc, rfl⟩, hm⟩ := h
  obtain ⟨⟨d, hd, rfl⟩, hn⟩ := k
  have := hm d hd
  have := hn c hc
  omega
theorem lp_of (h : Least F l m) : lp F l = m := by
  have hx : ∃ m, Least F l m := ⟨m, h⟩
  unfold lp
  rw [dif_pos hx]
  exact hx.choose_spec.uniq h
theorem fee_app : fee (c ++ d) = fee c + fee d := by
  unfold fee
  rw [List.map_append, List.sum_append]
theorem Cut.app (h : Cut F a c) (k : Cut F b d) : Cut F (a ++ b) (c ++ d) := by
  refine ⟨fun p hp => ?_, ?_⟩
  · rcases List.mem_append.mp hp with q | q
    · exact h.1 p q
    · exact k.1 p q
  · rw [List.map_append, List.flatten_append, h.2, k.2]
theorem Cut.one (h : F z = some p) : Cut F (cs z) [(z, p)] := ⟨fun q hq => by rw [List.mem_singleton.mp hq]; exact h, by simp⟩
theorem Cut.nil : Cut F [] [] := ⟨fun _ h => (List.not_mem_nil h).elim, rfl⟩
theorem fee_one : fee [(z, p)] = p := by simp [fee]
theorem fee_nil : fee [] = 0 := rfl
theorem fee_cons {q : Str × Int} : fee (q :: c) = q.2 + fee c := rfl
theorem fee_pos (G : Good F) : ∀ c : Ps, (∀ p ∈ c, F p.1 = some p.2) → 0 ≤ fee c
  | [], _ => Int.le_refl _
  | q :: r, h => by
    have h1 := (G.pos _ _ (h q List.mem_cons_self)).1
    have h2 := fee_pos G r fun p hp => h p (List.mem_cons_of_mem _ hp)
    rw [fee_cons]
    omega
theorem cut_ex (o : Over F l) : ∃ c, Cut F l c := by
  induction l with
  | nil => exact ⟨[], Cut.nil⟩
  | cons x r ih =>
    obtain ⟨c, hc⟩ := ih fun y hy => o y (List.mem_cons_of_mem _ hy)
    obtain ⟨p, hp⟩ := o x List.mem_cons_self
    exact ⟨_, (Cut.one hp).app hc⟩
theorem least_ex (G : Good F) (o : Over F l) : ∃ m, Least F l m := by
  obtain ⟨c0, h0⟩ := cut_ex o
  have go : ∀ n : Nat, ∀ c, Cut F l c → (fee c).toNat = n → ∃ m, Least F l m := by
    intro n
    induction n using Nat.strongRecOn with
    | ind n ih =>
      intro c hc hn
      by_cases hx : ∃ d, Cut F l d ∧ fee d < fee c
      · obtain ⟨d, hd, lt⟩ := hx
        have := fee_pos G d hd.1
        exact ih (fee d).toNat (by omega) d hd rfl
      · refine ⟨fee c, ⟨c, hc, rfl⟩, fun d hd => ?_⟩
        by_cases q : fee c ≤ fee d
        · exact q
        · exact absurd ⟨d, hd, by omega⟩ hx
  exact go _ c0 h0 rfl
theorem lp_least (G : Good F) (o : Over F l) : Least F l (lp F l) := by
  obtain ⟨m, h⟩ := least_ex G o
  rw [lp_of h]
  exact h
theorem lp_nil (G : Good F) : lp F [] = 0 := lp_of ⟨⟨[], Cut.nil, rfl⟩, fun c hc => fee_pos G c hc.1⟩
theorem lp_le (G : Good F) (h : Cut F l c) (o : Over F l) : lp F l ≤ fee c := (lp_least G o).2 c h
theorem lp_cut (G : Good F) (o : Over F l) : ∃ c, Cut F l c ∧ fee c = lp F l := (lp_least G o).1
theorem Over.app (h : Over F a) (k : Over F b) : Over F (a ++ b) := fun c hc => by
  rcases List.mem_append.mp hc with q | q
  · exact h c q
  · exact k c q
theorem Over.left (h : Over F (a ++ b)) : Over F a := fun c hc => h c (List.mem_append_left _ hc)
theorem Over.right (h : Over F (a ++ b)) : Over F b := fun c hc => h c (List.mem_append_right _ hc)
theorem Over.take (h : Over F l) (i : Nat) : Over F (l.take i) := fun c hc => h c (List.mem_of_mem_take hc)
theorem Over.drop (h : Over F l) (i : Nat) : Over F (l.drop i) := fun c hc => h c (List.mem_of_mem_drop hc)
theorem lp_add (G : Good F) (ha : Over F a) (hb : Over F b) : lp F (a ++ b) ≤ lp F a + lp F b := by
  obtain ⟨c, hc, e1⟩ := lp_cut G ha
  obtain ⟨d, hd, e2⟩ := lp_cut G hb
  have := lp_le G (hc.app hd) (ha.app hb)
  rw [fee_app, e1, e2] at this
  exact this
theorem lp_piece (G : Good F) (h : F z = some p) : lp F (cs z) ≤ p := by
  have := lp_le G (Cut.one h) (G.cov z p h)
  rwa [fee_one] at this
theorem lp_app (G : Good F) (ha : Over F a) (h : F z = some p) : lp F (a ++ cs z) ≤ lp F a + p := by
  have h1 := lp_add G ha (G.cov z p h)
  have h2 := lp_piece G h
  omega
/-- the last piece of a cheapest cut -/
theorem lp_last (G : Good F) (o : Over F l) (ne : l ≠ []) : ∃ z p a, F z = some p ∧ l = a ++ cs z ∧ lp F l = lp F a + p := by
  obtain ⟨c, hc, e⟩ := lp_cut G o
  have nc : c ≠ [] := fun q => ne (by rw [← hc.2, q]; rfl)
  obtain ⟨d, q, rfl⟩ : ∃ d q, c = d ++ [q] := ⟨c.dropLast, c.getLast nc, (List.dropLast_concat_getLast nc).symm⟩
  have hq := hc.1 q (List.mem_append_right _ (List.mem_singleton.mpr rfl))
  have hl : l = (d.map fun p => cs p.1).flatten ++ cs q.1 := by
    rw [← hc.2, List.map_append, List.flatten_append]
    simp
  have hd : Cut F (d.map fun p => cs p.1).flatten d := ⟨fun p hp => hc.1 p (List.mem_append_left _ hp), rfl⟩
  have oa : Over F (d.map fun p => cs p.1).flatten := by
    rw [hl] at o
    exact o.left
  refine ⟨q.1, q.2, _, hq, hl, ?_⟩
  have h1 := lp_le G hd oa
  have h2 := lp_app G oa hq
  rw [← hl] at h2
  rw [fee_app] at e
  have h3 : fee [q] = q.2 := fee_one (z := q.1)
  rw [h3] at e
  omega
/-- one step of the row of cheapest prices -/
theorem lp_step (G : Good F) (o : Over F l) (ne : l ≠ []) {ys : List Int} (hin : ∀ y ∈ ys, ∃ z p a, F z = some p ∧ l = a ++ cs z ∧ y = lp F a + p)
    (hall : ∀ z p a, F z = some p → l = a ++ cs z → lp F a + p ∈ ys) (hm : m ∈ ys) (hl : ∀ y ∈ ys, m ≤ y) : m = lp F l := by
  obtain ⟨z, p, a, h1, h2, h3⟩ := lp_last G o ne
  have h4 := hl _ (hall z p a h1 h2)
  obtain ⟨z', p', a', h5, h6, h7⟩ := hin m hm
  have h8 := lp_app G (a := a') (by rw [h6] at o; exact o.left) h5
  rw [← h6] at h8
  omega
/-- dearer on no piece, dearer on no text -/
theorem lp_mono (G1 : Good F1) (G2 : Good F2) (h : ∀ z p, F2 z = some p → Over F1 (cs z) ∧ lp F1 (cs z) ≤ p) (o1 : Over F1 l) (o2 : Over F2 l) : lp F1 l ≤ lp F2 l := by
  obtain ⟨c, hc, e⟩ := lp_cut G2 o2
  rw [← e]
  have go : ∀ (c : Ps) (l : List Nat), Cut F2 l c → Over F1 l → lp F1 l ≤ fee c := by
    intro c
    induction c with
    | nil =>
      intro l hc _
      rw [← hc.2]
      exact Int.le_of_eq (lp_nil G1)
    | cons q r ih =>
      intro l hc ol
      have hl : l = cs q.1 ++ (r.map fun p => cs p.1).flatten := hc.2.symm
      rw [hl] at ol ⊢
      obtain ⟨h1, h2⟩ := h _ _ (hc.1 q List.mem_cons_self)
      have h3 := ih _ ⟨fun p hp => hc.1 p (List.mem_cons_of_mem _ hp), rfl⟩ ol.right
      have h4 := lp_add G1 ol.left ol.right
      rw [fee_cons]
      omega
  exact go c l hc o1
end
/-- the tariff of a dict -/
def tfD (kvs : List (Key × V)) : Tf := fun z => match valV kvs (Sum.inr z) with | some (.int p) => some p | _ => none
theorem tf_some {kvs : List (Key × V)} {z : Str} {p : Int} : tfD kvs z = some p ↔ valV kvs (Sum.inr z) = some (.int p) := by
  unfold tfD
  constructor
  · intro h
    split at h
    · rename_i q e
      rw [e, Option.some.inj h]
    · cases h
  · intro h
    rw [h]
theorem ks_mem {kvs : List (Key × V)} {z : Str} : z ∈ keyStrs kvs ↔ (Sum.inr z : Key) ∈ kvs.map (·.1) := by
  unfold keyStrs
  rw [List.mem_filterMap, List.mem_map]
  constructor
  · rintro ⟨⟨k, v⟩, h1, h2⟩
    cases k with
    | inl i => cases h2
    | inr y =>
      cases h2
      exact ⟨_, h1, rfl⟩
  · rintro ⟨⟨k, v⟩, h1, h2⟩
    dsimp only at h2
    subst h2
    exact ⟨_, h1, rfl⟩
theorem good_of {kvs : List (Key × V)} (av : arePrices kvs = true) : Good (tfD kvs) := by
  obtain ⟨_, al, _, fs⟩ := ap_parts av
  have key : ∀ {z p}, tfD kvs z = some p → z ∈ keyStrs kvs := fun h => ks_mem.mpr (valV_in (tf_some.mp h))
  refine ⟨fun z p h => ?_, fun z p h => ?_, fun z p h c hc => ?_⟩
  · obtain ⟨h1, h2, h3⟩ := price_of_key al (key h)
    rw [tf_some.mp h] at h1
    have : p = priceIn kvs z := V.int.inj (Option.some.inj h1)
    rw [this]
    exact ⟨h2, h3⟩
  · obtain ⟨h1, h2, _⟩ := keyStrs_piece al z (key h)
    exact ⟨h1, h2⟩
  · have h1 := List.all_eq_true.mp fs c (List.mem_flatten.mpr ⟨cs z, List.mem_map.mpr ⟨z, key h, rfl⟩, hc⟩)
    have h2 : (Sum.inr (ch c) : Key) ∈ kvs.map (·.1) := by
      cases e : valV kvs (Sum.inr (ch c)) with
      | none =>
        rw [e] at h1
        cases h1
      | some v => exact valV_in e
    exact ⟨_, tf_some.mpr (price_of_key al (ks_mem.mpr h2)).1⟩

theorem valV_mem {kvs : List (Key × V)} {k : Key} {v : V} (h : valV kvs k = some v) : (k, v) ∈ kvs := by
  unfold valV at h
  cases e : kvs.find? (fun kv => decide (kv.1 = k)) with
  | none =>
    rw [e] at h
    cases h
  | some kv =>
    rw [e] at h
    have h1 : kv.2 = v := Option.some.inj h
    have h2 : kv.1 = k := by simpa using List.find?_some e
    have h3 := List.mem_of_find?_eq_some e
    rw [← h1, ← h2]
    exact h3
/-- a dict of texts and prices -/
structure Tar (kvs : List (Key × V)) : Prop where
  good : Good (tfD kvs)
  mem : ∀ kv ∈ kvs, ∃ z p, kv = (Sum.inr z, V.int p) ∧ tfD kvs z = some p
  len : kvs.length ≤ 1000
theorem tar_of {kvs : List (Key × V)} (av : arePrices kvs = true) (nd : (kvs.map (·.1)).Nodup) : Tar kvs := by
  obtain ⟨⟨n1, n2⟩, al, _, fs⟩ := ap_parts av
  refine ⟨good_of av, fun kv hkv => ?_, by omega⟩
  have h1 := List.all_eq_true.mp al kv hkv
  rw [Bool.and_eq_true] at h1
  obtain ⟨z, ez, _⟩ := piece_key h1.1
  have h3 := val_nodup nd kv hkv
  rw [ez] at h3
  have hz : z ∈ keyStrs kvs := ks_mem.mpr (List.mem_map.mpr ⟨kv, hkv, ez⟩)
  obtain ⟨h4, _⟩ := price_of_key al hz
  rw [h4] at h3
  refine ⟨z, priceIn kvs z, ?_, tf_some.mpr h4⟩
  rw [Option.some.inj h3, ← ez]
theorem val_fun {g : Str → Int} : ∀ {ys : List Str} {z : Str}, valV (ys.map fun y => ((Sum.inr y : Key), V.int (g y))) (Sum.inr z) = if z ∈ ys then some (.int (g z)) else none
  | [], z => by
    rw [if_neg (List.not_mem_nil)]
    rfl
  | y :: r, z => by
    by_cases h : y = z
    · subst h
      rw [if_pos List.mem_cons_self, List.map_cons, valV_pos rfl]
    · rw [List.map_cons, valV_neg (fun e => h (Sum.inr.inj e)), val_fun]
      by_cases q : z ∈ r
      · rw [if_pos q, if_pos (List.mem_cons_of_mem _ q)]
      · rw [if_neg q, if_neg fun m => ?_]
        rcases List.mem_cons.mp m with e | e
        · exact h e.symm
        · exact q e
theorem kvOf_ps {kvs : List (Key × V)} {ys : List Str} : kvOf (psOf kvs ys) = ys.map fun y => ((Sum.inr y : Key), V.int (priceIn kvs y)) := by
  unfold kvOf psOf
  rw [List.map_map]
  rfl
theorem tf_psOf {kvs : List (Key × V)} {ys : List Str} (al : (kvs.all fun kv => isPiece (kV kv.1) && isPrice kv.2) = true) (pm : ys.Perm (keyStrs kvs)) : tfD (kvOf (psOf kvs ys)) = tfD kvs := by
  funext z
  unfold tfD
  rw [kvOf_ps, val_fun]
  by_cases h : z ∈ ys
  · rw [if_pos h, (price_of_key al (pm.mem_iff.mp h)).1]
  · rw [if_neg h, valV_none fun m => h (pm.mem_iff.mpr (ks_mem.mpr m))]
theorem tar_book {kvs : List (Key × V)} {ys : List Str} (av : arePrices kvs = true) (pm : ys.Perm (keyStrs kvs)) : Tar (kvOf (psOf kvs ys)) := by
  obtain ⟨⟨n1, n2⟩, al, _, fs⟩ := ap_parts av
  have e := tf_psOf al pm
  refine ⟨by rw [e]; exact good_of av, fun kv hkv => ?_, ?_⟩
  · rw [kvOf_ps] at hkv
    obtain ⟨y, hy, rfl⟩ := List.mem_map.mp hkv
    refine ⟨y, _, rfl, ?_⟩
    rw [e]
    exact tf_some.mpr (price_of_key al (pm.mem_iff.mp hy)).1
  · have h := congrArg List.length (keys_of al)
    rw [List.length_map, List.length_map] at h
    rw [kvOf_ps, List.length_map, pm.length_eq]
    omega
/-- a book as Book(prices) made it -/
structure Book1 (C : Addr) (H : Hp) (b : Addr) (kvs : List (Key × V)) : Prop where
  av : arePrices kvs = true
  nd : (kvs.map (·.1)).Nodup
  ex : ∃ ys L M dx d tp ta od, ys.Perm (keyStrs kvs) ∧ sortedS ys = true ∧ BookAt C H b (psOf kvs ys) L M dx d tp ta od
theorem Book1.same {C : Addr} {H H' : Hp} {b : Addr} {kvs : List (Key × V)} (B : Book1 C H b kvs) (s : Same H H') : Book1 C H' b kvs := by
  obtain ⟨ys, L, M, dx, d, tp, ta, od, h1, h2, h3⟩ := B.ex
  exact ⟨B.av, B.nd, ys, L, M, dx, d, tp, ta, od, h1, h2, h3.same s⟩
theorem kvOk_of {K : PySem.W.Frag} {H : Hp} {kvs : List (Key × V)} (al : (kvs.all fun kv => isPiece (kV kv.1) && isPrice kv.2) = true) : KvOk K H kvs := by
  intro kv hkv
  have h1 := List.all_eq_true.mp al kv hkv
  rw [Bool.and_eq_true] at h1
  obtain ⟨z, ez, _, h2, _⟩ := piece_key h1.1
  constructor
  · rw [ez]
    show z.length ≤ 100000
    rw [← cs_len]
    omega
  · have h3 := h1.2
    generalize kv.2 = v at h3
    cases v with
    | int p => exact tydS_int p
    | _ => cases h3
/-- Book(prices), as pe_mk asks -/
theorem made_book {C a x dx : Addr} {K : PySem.W.Frag} {H : Hp} {kvs : List (Key × V)} {Q : VK} {E : XK} (hx : H x = none) (hdx : H dx = none) (ha : H a = some (.dK kvs)) (av : arePrices kvs = true) (nd : (kvs.map (·.1)).Nodup) (q : ∀ H', Same H H' → Book1 C H' x kvs → Q .non H') :
    spBook C K (.ref x :: ([.ref a] ++ [])) (upd (upd H dx (.own x)) x (.ins C dx [])) Q E := by
  refine ⟨x, dx, a, kvs, rfl, upd_same, ?_, kvOk_of (ap_parts av).2.1, av, nd, ?_⟩
  · rw [upd_ne (ne_of_none ha hx), upd_ne (ne_of_none ha hdx)]
    exact ha
  · intro H' ys L M d tp ta od pm so B k
    refine q H' (fun c o e => k c o ?_ (ne_of_none e hx)) ⟨av, nd, ys, L, M, dx, d, tp, ta, od, pm, so, B⟩
    rw [upd_ne (ne_of_none e hx), upd_ne (ne_of_none e hdx)]
    exact e
/-! ### ends of texts -/
theorem ends_iff {x y : Str} : Txt.endswith x y = true ↔ ∃ a, cs x = a ++ cs y := by
  have l1 := cs_len x
  have l2 := cs_len y
  unfold Txt.endswith
  rw [StrLaws.subAt_eq, Nat.zero_add, Bool.and_eq_true, decide_eq_true_eq, beq_iff_eq]
  constructor
  · rintro ⟨h1, h2⟩
    refine ⟨(cs x).take (x.length - y.length), ?_⟩
    have h3 : ((cs x).drop (x.length - y.length)).take y.length = (cs x).drop (x.length - y.length) := List.take_of_length_le (by rw [List.length_drop]; omega)
    have h4 : (cs x).drop (x.length - y.length) = cs y := h3.symm.trans h2
    rw [← h4, List.take_append_drop]
  · rintro ⟨a, h⟩
    have h0 := congrArg List.length h
    rw [List.length_append] at h0
    refine ⟨by omega, ?_⟩
    show ((cs x).drop (x.length - y.length)).take y.length = cs y
    have e : x.length - y.length = a.length := by omega
    rw [h, e, List.drop_left, List.take_of_length_le (by omega)]
/-! ### rows of cheapest prices -/
noncomputable def rowV (F : Tf) (l : List Nat) (n : Nat) : List V := (List.range n).map fun j => V.int (lp F (l.take j))
theorem rowV_len {F : Tf} {l : List Nat} {n : Nat} : (rowV F l n).length = n := by
  unfold rowV
  rw [List.length_map, List.length_range]
theorem rowV_at {F : Tf} {l : List Nat} {n j : Nat} (h : j < n) : (rowV F l n)[j]? = some (.int (lp F (l.take j))) := by
  unfold rowV
  rw [List.getElem?_map, List.getElem?_range h]
  rfl
theorem rowV_succ {F : Tf} {l : List Nat} {n : Nat} : rowV F l (n + 1) = rowV F l n ++ [.int (lp F (l.take n))] := by
  unfold rowV
  rw [List.range_succ, List.map_append]
  rfl
theorem rowV_one {F : Tf} {l : List Nat} (G : Good F) : rowV F l 1 = [.int 0] := by
  show [V.int (lp F (l.take 0))] = _
  rw [List.take_zero, lp_nil G]
theorem atI_last {α : Type} {xs : List α} {v : α} : atI (xs ++ [v]) (-1) = some v := by
  have e : ixN (xs ++ [v]).length (-1) = some xs.length := by
    rw [List.length_append, List.length_singleton]
    unfold ixN
    rw [if_neg (by omega), if_pos (by omega)]
    congr 1
    omega
  unfold atI
  rw [e]
  show (xs ++ [v])[xs.length]? = some v
  simp
noncomputable def candG (F : Tf) (l : List Nat) (e : Nat) (st : Str) : Key × V → Option Int := fun kv => match kv with
  | (.inr y, .int p) => if Txt.endswith st y = true then some (lp F (l.take (e - y.length)) + p) else none
  | _ => none
theorem cand_min {kvs : List (Key × V)} {l : List Nat} {e : Nat} {st : Str} (T : Tar kvs) (ov : Over (tfD kvs) l) (hst : cs st = l.take e) (he : 1 ≤ e) (hel : e ≤ l.length) :
    0 < (kvs.filterMap (candG (tfD kvs) l e st)).length ∧ ∀ m ∈ kvs.filterMap (candG (tfD kvs) l e st), (∀ y ∈ kvs.filterMap (candG (tfD kvs) l e st), m ≤ y) → m = lp (tfD kvs) (l.take e) := by
  have le : (l.take e).length = e := by
    rw [List.length_take]
    omega
  have ne : l.take e ≠ [] := fun q => by
    rw [q] at le
    simp at le
    omega
  have ove : Over (tfD kvs) (l.take e) := ov.take e
  have part : ∀ {a : List Nat} {y : Str}, l.take e = a ++ cs y → a = l.take (e - y.length) := by
    intro a y h
    have h1 := congrArg List.length h
    rw [List.length_append, le, cs_len] at h1
    have h2 : (l.take e).take (e - y.length) = a := by
      rw [h, List.take_append_of_le_length (by omega), List.take_of_length_le (by omega)]
    rw [← h2, List.take_take]
    congr 1
    omega
  have hin : ∀ y ∈ kvs.filterMap (candG (tfD kvs) l e st), ∃ z p a, tfD kvs z = some p ∧ l.take e = a ++ cs z ∧ y = lp (tfD kvs) a + p := by
    intro y hy
    obtain ⟨kv, hkv, g⟩ := List.mem_filterMap.mp hy
    obtain ⟨z, p, rfl, hp⟩ := T.mem kv hkv
    have g' : (if Txt.endswith st z = true then some (lp (tfD kvs) (l.take (e - z.length)) + p) else none) = some y := g
    by_cases q : Txt.endswith st z = true
    · rw [if_pos q] at g'
      obtain ⟨a, ha⟩ := ends_iff.mp q
      rw [hst] at ha
      refine ⟨z, p, a, hp, ha, ?_⟩
      rw [part ha]
      exact (Option.some.inj g').symm
    · rw [if_neg q] at g'
      cases g'
  have hall : ∀ z p a, tfD kvs z = some p → l.take e = a ++ cs z → lp (tfD kvs) a + p ∈ kvs.filterMap (candG (tfD kvs) l e st) := by
    intro z p a hp ha
    refine List.mem_filterMap.mpr ⟨(Sum.inr z, V.int p), valV_mem (tf_some.mp hp), ?_⟩
    show (if Txt.endswith st z = true then some (lp (tfD kvs) (l.take (e - z.length)) + p) else none) = _
    rw [if_pos (ends_iff.mpr ⟨a, by rw [hst]; exact ha⟩), ← part ha]
  constructor
  · obtain ⟨z, p, a, h1, h2, _⟩ := lp_last T.good ove ne
    exact List.length_pos_of_mem (hall z p a h1 h2)
  · intro m hm hl
    exact lp_step T.good ove ne hin hall hm hl
theorem fm_int {α : Type} {g : α → Option Int} {l : List α} : l.filterMap (fun a => (g a).map V.int) = (l.filterMap g).map V.int := by
  rw [List.map_filterMap]
theorem same_mut {H H' : Hp} {a : Addr} {o : HO} (s : Same H H') (h : H a = none) : Same H (upd H' a o) := fun b u e => by
  rw [upd_ne (ne_of_none e h)]
  exact s _ _ e
theorem cs_cutTo {z : Str} {i : Nat} (h : i ≤ z.length) : cs (cutS z none (some (i : Int))) = (cs z).take i := by
  rw [cs_cut, sIx_pos (by omega)]
  show ((cs z).drop 0).take (min (Int.toNat (i : Int)) z.length - 0) = _
  rw [List.drop_zero, Int.toNat_natCast]
  congr 1
  omega
noncomputable def costF (F : Tf) (l : List Nat) (s : Nat) : Option Int := (F (sOf (l.drop s))).map fun p => lp F (l.take s) + p
noncomputable def costs (F : Tf) (l : List Nat) : List Int := (List.range (l.length - (l.length - 5))).filterMap fun i => costF F l (l.length - 5 + i)
theorem cost_min {F : Tf} {l : List Nat} (G : Good F) (o : Over F l) (ne : l ≠ []) : 0 < (costs F l).length ∧ ∀ m ∈ costs F l, (∀ y ∈ costs F l, m ≤ y) → m = lp F l := by
  have hin : ∀ y ∈ costs F l, ∃ z p a, F z = some p ∧ l = a ++ cs z ∧ y = lp F a + p := by
    intro y hy
    obtain ⟨i, hi, g⟩ := List.mem_filterMap.mp hy
    have g' : (F (sOf (l.drop (l.length - 5 + i)))).map (fun p => lp F (l.take (l.length - 5 + i)) + p) = some y := g
    cases e : F (sOf (l.drop (l.length - 5 + i))) with
    | none =>
      rw [e] at g'
      cases g'
    | some p =>
      rw [e] at g'
      exact ⟨_, p, l.take (l.length - 5 + i), e, by rw [cs_sOf, List.take_append_drop], (Option.some.inj g').symm⟩
  have hall : ∀ z p a, F z = some p → l = a ++ cs z → lp F a + p ∈ costs F l := by
    intro z p a hp ha
    obtain ⟨n1, n2⟩ := G.len z p hp
    have hl := congrArg List.length ha
    rw [List.length_append] at hl
    have e1 : l.length - 5 + (a.length - (l.length - 5)) = a.length := by omega
    refine List.mem_filterMap.mpr ⟨a.length - (l.length - 5), List.mem_range.mpr (by omega), ?_⟩
    show costF F l (l.length - 5 + (a.length - (l.length - 5))) = _
    rw [e1]
    unfold costF
    have e2 : l.drop a.length = cs z := by rw [ha, List.drop_left]
    have e3 : l.take a.length = a := by rw [ha, List.take_left]
    rw [e2, e3, sOf_cs, hp]
    rfl
  constructor
  · obtain ⟨z, p, a, h1, h2, _⟩ := lp_last G o ne
    exact List.length_pos_of_mem (hall z p a h1 h2)
  · intro m hm hl
    exact lp_step G o ne hin hall hm hl
theorem tar_val {kvs : List (Key × V)} (T : Tar kvs) (z : Str) : valV kvs (Sum.inr z) = (tfD kvs z).map V.int := by
  cases e : valV kvs (Sum.inr z : Key) with
  | none =>
    unfold tfD
    rw [e]
    rfl
  | some v =>
    obtain ⟨y, p, e1, e2⟩ := T.mem _ (valV_mem e)
    have e3 : z = y := Sum.inr.inj (congrArg Prod.fst e1)
    subst e3
    rw [e2]
    have e4 : v = V.int p := congrArg Prod.snd e1
    rw [e4]
    rfl
theorem cs_cutAB {z : Str} {a b : Nat} (hab : a ≤ b) (hb : b ≤ z.length) : cs (cutS z (some (a : Int)) (some (b : Int))) = ((cs z).take b).drop a := by
  have e1 : min a z.length = a := by omega
  have e2 : min b z.length = b := by omega
  rw [cs_cut, sIx_pos (by omega), sIx_pos (by omega), Int.toNat_natCast, Int.toNat_natCast, List.drop_take, e1, e2]
theorem cs_cutFrom {z : Str} {a : Nat} (h : a ≤ z.length) : cs (cutS z (some (a : Int)) none) = (cs z).drop a := by
  rw [cs_cut, sIx_pos (by omega), Int.toNat_natCast]
  have e : min a z.length = a := by omega
  rw [e]
  show ((cs z).drop a).take (z.length - a) = _
  exact List.take_of_length_le (by rw [List.length_drop, cs_len]; omega)
theorem max0 (n : Nat) : (if (n : Int) - 5 > 0 then (n : Int) - 5 else 0) = ((n - 5 : Nat) : Int) := by split <;> omega
/-- _law_least, of a dict that is locked or not -/
def spLawLeast : Sp := fun vs H Q _ => ∃ d kvs z, vs = [.ref d, .str z] ∧ Rd H d (.dK kvs) ∧ Tar kvs ∧ Over (tfD kvs) (cs z) ∧ z.length ≤ 10000 ∧ ∀ H', Same H H' → Q (.int (lp (tfD kvs) (cs z))) H'
theorem fm_range_succ {α : Type} {g : Nat → Option α} {j : Nat} : (List.range (j + 1)).filterMap g = (List.range j).filterMap g ++ (g j).toList := by
  rw [List.range_succ, List.filterMap_append]
  congr 1
theorem rd_same {H H' : Hp} {d : Addr} {u : HO} (r : Rd H d u) (s : Same H H') : Rd H' d u := by
  rcases r with h | ⟨od, h⟩
  · exact .inl (s _ _ h)
  · exact .inr ⟨od, s _ _ h⟩
/-! ### tables of cheapest prices -/
structure TblOk (F : Tf) (S : Str → Prop) (kf : List (Key × V)) : Prop where
  val : ∀ z, S z → valV kf (Sum.inr z) = some (.int (lp F (cs z)))
  key : ∀ kv ∈ kf, ∃ z, kv.1 = Sum.inr z ∧ S z
theorem TblOk.congr {F : Tf} {S S' : Str → Prop} {kf : List (Key × V)} (T : TblOk F S kf) (h : ∀ z, S z ↔ S' z) : TblOk F S' kf :=
  ⟨fun z hz => T.val z ((h z).mpr hz), fun kv hkv => (T.key kv hkv).imp fun z q => ⟨q.1, (h z).mp q.2⟩⟩
theorem put_mem {kvs : List (Key × V)} {k : Key} {v : V} {kv : Key × V} (h : kv ∈ putK kvs k v) : kv.1 = k ∨ kv ∈ kvs := by
  unfold putK at h
  by_cases q : (kvs.any fun kv => decide (kv.1 = k)) = true
  · rw [if_pos q] at h
    obtain ⟨x, hx, rfl⟩ := List.mem_map.mp h
    by_cases e : x.1 = k
    · rw [if_pos e]
      exact Or.inl e
    · rw [if_neg e]
      exact Or.inr hx
  · rw [if_neg q] at h
    rcases List.mem_append.mp h with h | h
    · exact Or.inr h
    · rw [List.mem_singleton.mp h]
      exact Or.inl rfl
theorem put_len {kvs : List (Key × V)} {k : Key} {v : V} : (putK kvs k v).length ≤ kvs.length + 1 := by
  unfold putK
  split
  · rw [List.length_map]
    omega
  · rw [List.length_append]
    exact Nat.le_refl _
theorem TblOk.put {F : Tf} {S : Str → Prop} {kf : List (Key × V)} (T : TblOk F S kf) (y : Str) : TblOk F (fun z => S z ∨ z = y) (putK kf (Sum.inr y) (.int (lp F (cs y)))) := by
  refine ⟨fun z hz => ?_, fun kv hkv => ?_⟩
  · rw [valV_put]
    by_cases e : z = y
    · subst e
      rw [if_pos rfl]
    · rw [if_neg fun q => e (Sum.inr.inj q)]
      exact T.val z (hz.resolve_right e)
  · rcases put_mem hkv with h | h
    · exact ⟨y, h, Or.inr rfl⟩
    · obtain ⟨z, h1, h2⟩ := T.key kv h
      exact ⟨z, h1, Or.inl h2⟩
def tv (t : List Nat) : V := .str (sOf t)
def grow (sg : List Nat) (ts : List (List Nat)) : List (List Nat) := ts.flatMap fun t => sg.map fun c => t ++ [c]
def layerL (sg : List Nat) : Nat → List (List Nat)
  | 0 => [[]]
  | n + 1 => grow sg (layerL sg n)
theorem grow_len {sg : List Nat} : ∀ {ts : List (List Nat)}, (grow sg ts).length = ts.length * sg.length
  | [] => by simp [grow]
  | t :: r => by
    have ih := grow_len (sg := sg) (ts := r)
    unfold grow at ih ⊢
    rw [List.flatMap_cons, List.length_append, ih, List.length_map, List.length_cons, Nat.add_mul]
    omega
theorem layer_len {sg : List Nat} (n : Nat) : (layerL sg n).length = sg.length ^ n := by
  induction n with
  | zero => rfl
  | succ n ih => rw [layerL, grow_len, ih, Nat.pow_succ]
theorem layer_le {sg : List Nat} {n : Nat} (h4 : sg.length ≤ 4) (h8 : n ≤ 8) : (layerL sg n).length ≤ 65536 := by
  rw [layer_len]
  calc sg.length ^ n ≤ 4 ^ n := Nat.pow_le_pow_left h4 n
    _ ≤ 4 ^ 8 := Nat.pow_le_pow_right (by decide) h8
    _ = 65536 := by decide
theorem layer_mem {sg : List Nat} : ∀ {n : Nat} {t : List Nat}, t ∈ layerL sg n ↔ t.length = n ∧ ∀ c ∈ t, c ∈ sg
  | 0, t => by
    show t ∈ [[]] ↔ _
    rw [List.mem_singleton]
    constructor
    · rintro rfl
      exact ⟨rfl, fun _ h => (List.not_mem_nil h).elim⟩
    · rintro ⟨h, _⟩
      exact List.eq_nil_of_length_eq_zero h
  | n + 1, t => by
    show t ∈ grow sg (layerL sg n) ↔ _
    unfold grow
    rw [List.mem_flatMap]
    constructor
    · rintro ⟨u, hu, h⟩
      obtain ⟨c, hc, rfl⟩ := List.mem_map.mp h
      obtain ⟨h1, h2⟩ := layer_mem.mp hu
      refine ⟨by rw [List.length_append, h1]; rfl, fun d hd => ?_⟩
      rcases List.mem_append.mp hd with q | q
      · exact h2 d q
      · rw [List.mem_singleton.mp q]
        exact hc
    · rintro ⟨h1, h2⟩
      have ne : t ≠ [] := fun e => by
        rw [e] at h1
        cases h1
      refine ⟨t.dropLast, layer_mem.mpr ⟨by rw [List.length_dropLast, h1]; rfl, fun c hc => h2 c (List.dropLast_subset t hc)⟩, List.mem_map.mpr ⟨t.getLast ne, h2 _ (List.getLast_mem ne), List.dropLast_concat_getLast ne⟩⟩
def InAll (sg : List Nat) (n : Nat) (z : Str) : Prop := (cs z).length ≤ n ∧ ∀ c ∈ cs z, c ∈ sg
theorem inAll_zero {F : Tf} {sg : List Nat} (G : Good F) : TblOk F (InAll sg 0) [(Sum.inr (sOf []), .int 0)] := by
  refine ⟨fun z hz => ?_, fun kv hkv => ?_⟩
  · have e : z = sOf [] := str_ext (List.eq_nil_of_length_eq_zero (Nat.le_zero.mp hz.1))
    rw [e, valV_pos rfl, cs_sOf, lp_nil G]
  · rw [List.mem_singleton.mp hkv]
    exact ⟨_, rfl, Nat.le_refl _, fun c h => (List.not_mem_nil (a := c) h).elim⟩
theorem inAll_succ {sg : List Nat} {n : Nat} {z : Str} : InAll sg n z ∨ z ∈ (layerL sg (n + 1)).map sOf ↔ InAll sg (n + 1) z := by
  constructor
  · rintro (⟨h1, h2⟩ | h)
    · exact ⟨by omega, h2⟩
    · obtain ⟨t, ht, rfl⟩ := List.mem_map.mp h
      obtain ⟨h1, h2⟩ := layer_mem.mp ht
      exact ⟨by rw [cs_sOf]; omega, by rw [cs_sOf]; exact h2⟩
  · rintro ⟨h1, h2⟩
    rcases Nat.lt_or_ge n (cs z).length with h | h
    · exact Or.inr (List.mem_map.mpr ⟨cs z, layer_mem.mpr ⟨by omega, h2⟩, sOf_cs z⟩)
    · exact Or.inl ⟨h, h2⟩
theorem grow_take {sg : List Nat} {ts : List (List Nat)} {j : Nat} {t : List Nat} (h : ts[j]? = some t) : grow sg (ts.take (j + 1)) = grow sg (ts.take j) ++ sg.map fun c => t ++ [c] := by
  rw [List.take_add_one, h]
  unfold grow
  rw [List.flatMap_append]
  simp
theorem emp : Str.ofString "" = sOf [] := str_ext (by rfl)
theorem tv_at {ts : List (List Nat)} {j : Nat} {x : V} (h : (ts.map tv)[j]? = some x) : ∃ t, ts[j]? = some t ∧ x = tv t := by
  rw [List.getElem?_map] at h
  cases e : ts[j]? with
  | none =>
    rw [e] at h
    cases h
  | some t =>
    rw [e] at h
    exact ⟨t, rfl, (Option.some.inj h).symm⟩
theorem tv_app (t : List Nat) (c : Nat) : V.str (sOf t ++ ch c) = tv (t ++ [c]) := by
  unfold tv
  congr 1
  exact str_ext (by rw [cs_app, cs_sOf, cs_sOf])
theorem tbl_take {F : Tf} {S : Str → Prop} {kf : List (Key × V)} {ts : List (List Nat)} {j : Nat} {t : List Nat} (h : ts[j]? = some t) (T : TblOk F (fun z => S z ∨ z ∈ (ts.take j).map sOf) kf) :
    TblOk F (fun z => S z ∨ z ∈ (ts.take (j + 1)).map sOf) (putK kf (Sum.inr (sOf t)) (.int (lp F t))) := by
  have h1 := T.put (sOf t)
  rw [cs_sOf] at h1
  refine h1.congr fun z => ?_
  rw [List.take_add_one, h, List.map_append, List.mem_append]
  show (S z ∨ _) ∨ z = sOf t ↔ S z ∨ _ ∨ z ∈ [sOf t]
  rw [List.mem_singleton, or_assoc]
/-- _law_all -/
def spAll (K : PySem.W.Frag) : Sp := fun vs H Q _ => ∃ d kvs sa sg n, vs = [.ref d, .ref sa, .int ((n : Nat) : Int)] ∧ H d = some (.dK kvs) ∧ Tar kvs ∧ SqL K H sa (sg.map chV) ∧ (∀ c ∈ sg, ∃ p, tfD kvs (ch c) = some p) ∧ sg.length ≤ 4 ∧ n ≤ 8 ∧
  ∀ fo kf H', H fo = none → H' fo = some (.dK kf) → TblOk (tfD kvs) (InAll sg n) kf → kf.length ≤ 600000 → Same H H' → Q (.ref fo) H'
/-! ### dicts of prices while they are made -/
theorem keys_nd' {kvs : List (Key × V)} (nd : (kvs.map (·.1)).Nodup) (al : (kvs.all fun kv => isPiece (kV kv.1) && isPrice kv.2) = true) : (keyStrs kvs).Nodup := by
  rw [keys_of al] at nd
  exact nd_of_map nd
structure PrOk (sg : List Nat) (kvs : List (Key × V)) : Prop where
  mem : ∀ kv ∈ kvs, ∃ z p, kv = (Sum.inr z, V.int p) ∧ (1 ≤ (cs z).length ∧ (cs z).length ≤ 5) ∧ (∀ c ∈ cs z, c ∈ sg) ∧ 1 ≤ p ∧ p ≤ 99
  nd : (kvs.map (·.1)).Nodup
theorem PrOk.nil {sg : List Nat} : PrOk sg [] := ⟨fun _ h => (List.not_mem_nil h).elim, List.nodup_nil⟩
theorem put_keys {kvs : List (Key × V)} {k : Key} {v : V} : (putK kvs k v).map (·.1) = if (valV kvs k).isSome = true then kvs.map (·.1) else kvs.map (·.1) ++ [k] := by
  unfold putK
  rw [valV_any]
  split
  · rw [List.map_map]
    refine List.map_congr_left fun kv _ => ?_
    show (if kv.1 = k then (kv.1, v) else kv).1 = kv.1
    split <;> rfl
  · rw [List.map_append]
    rfl
theorem put_val_mem {kvs : List (Key × V)} {k : Key} {v : V} {kv : Key × V} (h : kv ∈ putK kvs k v) : kv = (k, v) ∨ kv ∈ kvs := by
  unfold putK at h
  by_cases q : (kvs.any fun kv => decide (kv.1 = k)) = true
  · rw [if_pos q] at h
    obtain ⟨x, hx, rfl⟩ := List.mem_map.mp h
    by_cases e : x.1 = k
    · rw [if_pos e, e]
      exact Or.inl rfl
    · rw [if_neg e]
      exact Or.inr hx
  · rw [if_neg q] at h
    rcases List.mem_append.mp h with h | h
    · exact Or.inr h
    · exact Or.inl (List.mem_singleton.mp h)
theorem PrOk.put {sg : List Nat} {kvs : List (Key × V)} (P : PrOk sg kvs) {z : Str} {p : Int} (h1 : 1 ≤ (cs z).length ∧ (cs z).length ≤ 5) (h2 : ∀ c ∈ cs z, c ∈ sg) (h3 : 1 ≤ p ∧ p ≤ 99) : PrOk sg (putK kvs (Sum.inr z) (.int p)) := by
  refine ⟨fun kv hkv => ?_, ?_⟩
  · rcases put_val_mem hkv with h | h
    · exact ⟨z, p, h, h1, h2, h3⟩
    · exact P.mem kv h
  · rw [put_keys]
    split
    · exact P.nd
    · rename_i q
      refine List.nodup_append.mpr ⟨P.nd, by simp, fun a ha b hb e => ?_⟩
      rw [List.mem_singleton.mp hb] at e
      rw [e] at ha
      refine q ?_
      cases e2 : valV kvs (Sum.inr z : Key) with
      | none => exact absurd ha (valV_not e2)
      | some v => rfl
theorem PrOk.merge {sg : List Nat} : ∀ {more kvs : List (Key × V)}, PrOk sg kvs → (∀ kv ∈ more, ∃ z p, kv = (Sum.inr z, V.int p) ∧ (1 ≤ (cs z).length ∧ (cs z).length ≤ 5) ∧ (∀ c ∈ cs z, c ∈ sg) ∧ 1 ≤ p ∧ p ≤ 99) →
    PrOk sg (mergeK kvs more) ∧ (mergeK kvs more).length ≤ kvs.length + more.length
  | [], kvs, P, _ => ⟨P, Nat.le_refl _⟩
  | a :: r, kvs, P, h => by
    obtain ⟨z, p, rfl, h1, h2, h3⟩ := h a List.mem_cons_self
    obtain ⟨q1, q2⟩ := PrOk.merge (more := r) (P.put h1 h2 h3) fun kv hkv => h kv (List.mem_cons_of_mem _ hkv)
    refine ⟨q1, Nat.le_trans q2 ?_⟩
    have := put_len (kvs := kvs) (k := Sum.inr z) (v := .int p)
    rw [List.length_cons]
    omega
theorem merge_has {k : Key} : ∀ {more kvs : List (Key × V)}, (k ∈ more.map (·.1) ∨ (valV kvs k).isSome = true) → (valV (mergeK kvs more) k).isSome = true
  | [], kvs, h => by
    rcases h with h | h
    · simp at h
    · exact h
  | a :: r, kvs, h => by
    refine merge_has (more := r) (kvs := putK kvs a.1 a.2) ?_
    rw [valV_put]
    by_cases e : k = a.1
    · exact Or.inr (by rw [if_pos e]; rfl)
    · rw [if_neg e]
      rcases h with h | h
      · rcases List.mem_cons.mp h with h | h
        · exact absurd h e
        · exact Or.inl h
      · exact Or.inr h
theorem nd_sub_len {α : Type} [BEq α] [LawfulBEq α] : ∀ {l1 l2 : List α}, l1.Nodup → (∀ a ∈ l1, a ∈ l2) → l1.length ≤ l2.length
  | [], _, _, _ => Nat.zero_le _
  | a :: r, l2, nd, h => by
    obtain ⟨h1, h2⟩ := List.nodup_cons.mp nd
    have h3 := nd_sub_len (l1 := r) (l2 := l2.erase a) h2 fun b hb => by
      have nb : b ≠ a := fun e => h1 (e ▸ hb)
      exact (List.mem_erase_of_ne nb).mpr (h b (List.mem_cons_of_mem _ hb))
    have h4 := h a List.mem_cons_self
    rw [List.length_erase_of_mem h4] at h3
    have := List.length_pos_of_mem h4
    rw [List.length_cons]
    omega
theorem PrOk.tf {sg : List Nat} {kvs : List (Key × V)} (P : PrOk sg kvs) {z : Str} : z ∈ keyStrs kvs ↔ ∃ p, tfD kvs z = some p := by
  rw [ks_mem]
  constructor
  · intro h
    obtain ⟨kv, hkv, e⟩ := List.mem_map.mp h
    obtain ⟨y, p, rfl, _⟩ := P.mem kv hkv
    have h2 := val_nodup P.nd _ hkv
    dsimp only at e h2
    cases e
    exact ⟨p, tf_some.mpr h2⟩
  · rintro ⟨p, h⟩
    exact valV_in (tf_some.mp h)
/-- a dict of prices over the signs sg, all of them in it -/
theorem PrOk.right {sg : List Nat} {kvs : List (Key × V)} (P : PrOk sg kvs) (hs : ∀ c ∈ sg, (valV kvs (Sum.inr (ch c))).isSome = true) (hl : ∀ c ∈ sg, lett c = true) (n4 : sg.length ≤ 4) (n0 : 1 ≤ sg.length) (n12 : kvs.length ≤ 12) :
    arePrices kvs = true ∧ ∀ c, (∃ p, tfD kvs (ch c) = some p) ↔ c ∈ sg := by
  have al : (kvs.all fun kv => isPiece (kV kv.1) && isPrice kv.2) = true := by
    rw [List.all_eq_true]
    intro kv hkv
    obtain ⟨z, p, rfl, h1, h2, h3⟩ := P.mem kv hkv
    rw [Bool.and_eq_true]
    refine ⟨?_, ?_⟩
    · show isPiece (.str z) = true
      rw [isPiece_of fun c hc => hl c (h2 c hc), decide_eq_true h1.1, decide_eq_true h1.2]
      rfl
    · show (decide (p.natAbs < 10 ^ 60) && (decide (1 ≤ p) && decide (p ≤ 99))) = true
      rw [decide_eq_true (by omega : p.natAbs < 10 ^ 60), decide_eq_true h3.1, decide_eq_true h3.2]
      rfl
  have key : ∀ {z}, z ∈ keyStrs kvs → (∀ c ∈ cs z, c ∈ sg) := by
    intro z hz
    obtain ⟨kv, hkv, e⟩ := List.mem_map.mp (ks_mem.mp hz)
    obtain ⟨y, p, rfl, _, h2, _⟩ := P.mem kv hkv
    dsimp only at e
    cases e
    exact h2
  refine ⟨?_, fun c => ⟨fun ⟨p, h⟩ => key (ks_mem.mpr (valV_in (tf_some.mp h))) c (by simp [cs]), fun h => ?_⟩⟩
  · unfold arePrices
    have e1 : 1 ≤ kvs.length := by
      cases sg with
      | nil => simp at n0
      | cons c r =>
        have := hs c List.mem_cons_self
        cases kvs with
        | nil => cases this
        | cons a r => simp
    have e3 : ((keyStrs kvs).filter fun z => decide ((cs z).length = 1)).length ≤ 4 := by
      refine Nat.le_trans (nd_sub_len (l2 := sg.map ch) ((keys_nd' P.nd al).filter _) fun z hz => ?_) (by rw [List.length_map]; exact n4)
      obtain ⟨h1, h2⟩ := List.mem_filter.mp hz
      obtain ⟨c, rfl⟩ := G.one_sign (z := z) (by simpa using h2)
      exact List.mem_map.mpr ⟨c, key h1 c (by simp [cs]), rfl⟩
    have e4 : (((keyStrs kvs).map cs).flatten.all fun c => (valV kvs (Sum.inr (ch c))).isSome) = true := by
      rw [List.all_eq_true]
      intro c hc
      obtain ⟨l, hl, hcl⟩ := List.mem_flatten.mp hc
      obtain ⟨z, hz, rfl⟩ := List.mem_map.mp hl
      exact hs c (key hz c hcl)
    rw [decide_eq_true (by omega : 1 ≤ (kvs.length : Int)), decide_eq_true (by omega : (kvs.length : Int) ≤ 12), al, decide_eq_true e3, e4]
    rfl
  · have h1 := hs c h
    cases e : valV kvs (Sum.inr (ch c) : Key) with
    | none =>
      rw [e] at h1
      cases h1
    | some v =>
      have h2 := P.tf.mp (ks_mem.mpr (valV_in e))
      exact h2
theorem kp_free {l a : Addr} {H H' : Hp} (k : Kp l H H') (n : a ≠ l) (h : H' a = none) : H a = none := by
  cases e : H a with
  | none => rfl
  | some o =>
    rw [k a o e n] at h
    cases h
theorem paired_of {α β : Type} {F : α → β → Prop} : ∀ {ps : List (α × β)}, (∀ p ∈ ps, F p.1 p.2) → Paired F (ps.map (·.1)) (ps.map (·.2))
  | [], _ => .nil
  | p :: r, h => .cons (h p List.mem_cons_self) (paired_of fun q hq => h q (List.mem_cons_of_mem _ hq))
theorem lift_map {α : Type} {f : α → V} {P : α → Prop} : ∀ {zs : List V}, (∀ v ∈ zs, ∃ w, v = f w ∧ P w) → ∃ ws : List α, zs = ws.map f ∧ ∀ w ∈ ws, P w
  | [], _ => ⟨[], rfl, fun _ h => (List.not_mem_nil h).elim⟩
  | v :: r, h => by
    obtain ⟨w, rfl, hw⟩ := h v List.mem_cons_self
    obtain ⟨ws, rfl, hws⟩ := lift_map (zs := r) fun u hu => h u (List.mem_cons_of_mem _ hu)
    refine ⟨w :: ws, rfl, fun u hu => ?_⟩
    rcases List.mem_cons.mp hu with rfl | hu
    · exact hw
    · exact hws u hu
def PairOk (sg : List Nat) (kv : Key × V) : Prop := ∃ z p, kv = (Sum.inr z, V.int p) ∧ (1 ≤ (cs z).length ∧ (cs z).length ≤ 5) ∧ (∀ c ∈ cs z, c ∈ sg) ∧ 1 ≤ p ∧ p ≤ 99
/-- a word of the menu -/
def Word (sg w : List Nat) : Prop := 2 ≤ w.length ∧ w.length ≤ 5 ∧ ∀ c ∈ w, c ∈ sg
theorem Word.piece {sg w : List Nat} (h : Word sg w) : (1 ≤ (cs (sOf w)).length ∧ (cs (sOf w)).length ≤ 5) ∧ ∀ c ∈ cs (sOf w), c ∈ sg := by
  obtain ⟨h1, h2, h3⟩ := h
  rw [cs_sOf]
  exact ⟨⟨by omega, h2⟩, h3⟩
/-! ### what is sorted -/
theorem so_pw : ∀ {ys : List Str}, sortedS ys = true → ys.Pairwise fun a b => cs a ≤ cs b
  | [], _ => .nil
  | [x], _ => by simp
  | x :: y :: r, h => by
    have h' : (!ltCps y.cps.toList x.cps.toList && risingS y r) = true := h
    rw [Bool.and_eq_true] at h'
    have ih := so_pw (ys := y :: r) h'.2
    have h1 : cs x ≤ cs y := by
      have h2 := h'.1
      rw [ltCps_eq] at h2
      exact List.not_lt.mp (by simpa using h2)
    refine List.Pairwise.cons (fun b hb => ?_) ih
    rcases List.mem_cons.mp hb with rfl | hb
    · exact h1
    · exact List.le_trans h1 ((List.pairwise_cons.mp ih).1 b hb)
theorem so_eq {ys zs : List Str} (h1 : ys.Pairwise fun a b => cs a ≤ cs b) (h2 : zs.Pairwise fun a b => cs a ≤ cs b) (p : ys.Perm zs) : ys = zs := p.eq_of_pairwise (fun a b _ _ h k => str_ext (List.le_antisymm h k)) h1 h2
def SameSigns (F1 F2 : Tf) : Prop := ∀ c, (∃ p, F1 (ch c) = some p) ↔ ∃ p, F2 (ch c) = some p
theorem sgn_ps {kvs : List (Key × V)} {ys : List Str} : sgn (psOf kvs ys) = ys.filter fun z => decide (z.length = 1) := by
  unfold sgn psOf
  rw [List.map_map]
  congr 1
  exact List.map_id' ys
theorem tf_key {kvs : List (Key × V)} {z : Str} (al : (kvs.all fun kv => isPiece (kV kv.1) && isPrice kv.2) = true) : z ∈ keyStrs kvs ↔ ∃ p, tfD kvs z = some p :=
  ⟨fun h => ⟨_, tf_some.mpr (price_of_key al h).1⟩, fun ⟨p, h⟩ => ks_mem.mpr (valV_in (tf_some.mp h))⟩
theorem keys_nd {kvs : List (Key × V)} (al : (kvs.all fun kv => isPiece (kV kv.1) && isPrice kv.2) = true) (nd : (kvs.map (·.1)).Nodup) : (keyStrs kvs).Nodup := by
  rw [keys_of al] at nd
  exact nd_of_map nd
theorem sgn_eq {kvs1 kvs2 : List (Key × V)} {ys1 ys2 : List Str} (al1 : (kvs1.all fun kv => isPiece (kV kv.1) && isPrice kv.2) = true) (al2 : (kvs2.all fun kv => isPiece (kV kv.1) && isPrice kv.2) = true)
    (nd1 : (kvs1.map (·.1)).Nodup) (nd2 : (kvs2.map (·.1)).Nodup) (pm1 : ys1.Perm (keyStrs kvs1)) (pm2 : ys2.Perm (keyStrs kvs2)) (so1 : sortedS ys1 = true) (so2 : sortedS ys2 = true) (ss : SameSigns (tfD kvs1) (tfD kvs2)) :
    sgn (psOf kvs1 ys1) = sgn (psOf kvs2 ys2) := by
  rw [sgn_ps, sgn_ps]
  refine so_eq ((so_pw so1).filter _) ((so_pw so2).filter _) ?_
  refine (List.perm_ext_iff_of_nodup ((pm1.nodup_iff.mpr (keys_nd al1 nd1)).filter _) ((pm2.nodup_iff.mpr (keys_nd al2 nd2)).filter _)).mpr fun z => ?_
  rw [List.mem_filter, List.mem_filter, pm1.mem_iff, pm2.mem_iff, tf_key al1, tf_key al2]
  constructor
  · rintro ⟨h1, h2⟩
    obtain ⟨c, rfl⟩ := one_sign (z := z) (by rw [cs_len]; simpa using h2)
    exact ⟨(ss c).mp h1, h2⟩
  · rintro ⟨h1, h2⟩
    obtain ⟨c, rfl⟩ := one_sign (z := z) (by rw [cs_len]; simpa using h2)
    exact ⟨(ss c).mpr h1, h2⟩
/-! ### tuples of texts as data -/
theorem dpAll_strs {K : PySem.W.Frag} {H : Hp} : ∀ zs : List Str, DpAll K H (zs.map V.str) (zs.map PyData.str)
  | [] => .nil
  | z :: r => .cons (.str z) (dpAll_strs r)
theorem strOk_lett {z : Str} (h : ∀ c ∈ cs z, lett c = true) : PyData.strOk z = true := by
  show z.cps.all (fun c => decide (c < 0x110000)) = true
  rw [Array.all_eq_true_iff_forall_mem]
  intro c hc
  have h1 := h c (by simpa [cs] using hc)
  unfold lett at h1
  rw [Bool.and_eq_true] at h1
  have := of_decide_eq_true h1.2
  exact decide_eq_true (by omega)
theorem shaped_strs {zs : List Str} (h : ∀ z ∈ zs, ∀ c ∈ cs z, lett c = true) : SeqAt.shaped (.tuple (zs.map PyData.str)) = true := by
  have h1 : ∀ l : List Str, (∀ z ∈ l, ∀ c ∈ cs z, lett c = true) → PyData.canLayAll0 (l.map PyData.str) = true := by
    intro l hl
    induction l with
    | nil => rfl
    | cons a r ih => simp [PyData.canLayAll0, PyData.canLay0, strOk_lett (hl a List.mem_cons_self), ih fun z hz => hl z (List.mem_cons_of_mem _ hz)]
  have h2 : ∀ l : List Str, PyData.depthAll (l.map PyData.str) = 0 := by
    intro l
    induction l with
    | nil => simp [PyData.depthAll]
    | cons a r ih => simp [PyData.depthAll, PyData.depth, ih]
  unfold SeqAt.shaped
  rw [Bool.and_eq_true]
  refine ⟨by simpa [PyData.canLay0] using h1 zs h, decide_eq_true ?_⟩
  simp only [PyData.depth, h2]
  omega
theorem eqv_strs {zs : List Str} (h : ∀ z ∈ zs, ∀ c ∈ cs z, lett c = true) : PyData.eqv (.tuple (zs.map PyData.str)) (.tuple (zs.map PyData.str)) = true :=
  SeqAt.eqv_refl _ (SeqAt.canLay_of_shaped (shaped_strs h))
/-! ### promises of cutbehind.base.compared -/
def NoDear (F1 F2 : Tf) : Prop := ∀ z p, F2 z = some p → lp F1 (cs z) ≤ p
/-- what dearer_in returns -/
def DearR (F1 F2 : Tf) (r : V) : Prop := (r = .non ∧ NoDear F1 F2) ∨ ∃ z p, r = .str z ∧ F2 z = some p ∧ p < lp F1 (cs z) ∧ ∀ z' p', F2 z' = some p' → cs z' < cs z → lp F1 (cs z') ≤ p'
def spReqBook (C : Addr) : Sp := fun vs H Q _ => ∃ b dx fs, vs = [.ref b] ∧ H b = some (.ins C dx fs) ∧ Q .non H
def Two (C : Addr) (H : Hp) (vs : List V) (k1 k2 : List (Key × V)) : Prop := ∃ b1 b2, vs = [.ref b1, .ref b2] ∧ Book1 C H b1 k1 ∧ Book1 C H b2 k2 ∧ SameSigns (tfD k1) (tfD k2)
def spReqCmp (C : Addr) : Sp := fun vs H Q _ => ∃ k1 k2, Two C H vs k1 k2 ∧ ∀ H', Same H H' → Q .non H'
def spDearer (C : Addr) : Sp := fun vs H Q _ => ∃ k1 k2, Two C H vs k1 k2 ∧ ∀ r H', Same H H' → DearR (tfD k1) (tfD k2) r → Q r H'
def spNowhere (C : Addr) : Sp := fun vs H Q _ => ∃ k1 k2, Two C H vs k1 k2 ∧ ∀ b H', Same H H' → (b = true ↔ NoDear (tfD k1) (tfD k2)) → Q (.bl b) H'
def spAsCheap (C : Addr) : Sp := fun vs H Q _ => ∃ k1 k2, Two C H vs k1 k2 ∧ ∀ b H', Same H H' → (b = true ↔ NoDear (tfD k1) (tfD k2) ∧ NoDear (tfD k2) (tfD k1)) → Q (.bl b) H'
theorem dear_non {F1 F2 : Tf} {r : V} (d : DearR F1 F2 r) : decide (r = .non) = true ↔ NoDear F1 F2 := by
  rw [decide_eq_true_eq]
  rcases d with ⟨h1, h2⟩ | ⟨z, p, h1, h2, h3, _⟩
  · exact ⟨fun _ => h2, fun _ => h1⟩
  · refine ⟨fun e => ?_, fun n => ?_⟩
    · rw [h1] at e
      cases e
    · have := n z p h2
      omega
theorem SameSigns.symm {F1 F2 : Tf} (h : SameSigns F1 F2) : SameSigns F2 F1 := fun c => (h c).symm
/-! ### lists of texts as data; heaps with a lock -/
theorem shaped_lstrs {zs : List Str} (h : ∀ z ∈ zs, ∀ c ∈ cs z, lett c = true) : SeqAt.shaped (.list (zs.map PyData.str)) = true := by
  have h1 := shaped_strs h
  unfold SeqAt.shaped at h1 ⊢
  simpa [PyData.canLay0, PyData.depth] using h1
theorem eqv_nil (zs : List Str) : PyData.eqv (.list (zs.map PyData.str)) (.list []) = zs.isEmpty := by cases zs <;> simp [PyData.eqv, PyData.eqvAll]
theorem rd_lock {H : Hp} {a b : Addr} {u v : HO} {od : Obj} (h : H a = some u) (k : H b = some v) : Rd (upd H b (.frz od v)) a u := by
  by_cases e : a = b
  · subst e
    rw [h] at k
    cases k
    exact .inr ⟨od, upd_same⟩
  · exact .inl (by rw [upd_ne e]; exact h)
theorem repr_bool {K : PySem.W.Frag} {H : Hp} {b : Bool} {Q : VK} (q : Q (.str (PyData.bool b).shown) H) : rRepr K [.bl b] H Q :=
  ⟨_, .bool b, rfl, .bl b, (shw_bool b).s, (shw_bool b).h, Nat.le_trans (shw_bool b).dp (by omega), Nat.le_trans (shw_bool b).len (fits_sz (by omega)), q⟩
/-- x == [] for a list of texts -/
theorem eq_nil {K : PySem.W.Frag} {H : Hp} {a p : Addr} {zs : List Str} {Q : VK} (h : SqL K H a (zs.map V.str)) (hp : H p = some (.lst [])) (hl : ∀ z ∈ zs, ∀ c ∈ cs z, lett c = true) (q : Q (.bl zs.isEmpty) H) : rEqD K (.ref a) (.ref p) H Q := by
  refine ⟨.list (zs.map PyData.str), .list [], .lst h (dpAll_strs zs), .lst (SqL.of hp) .nil, shaped_lstrs hl, by decide, ?_⟩
  rw [eqv_nil]
  exact q
/-! ### books under changes of lists; which texts are dearer -/
theorem Book1.keep {C : Addr} {H H' : Hp} {b : Addr} {kvs : List (Key × V)} (B : Book1 C H b kvs) (h : ∀ a o, H a = some o → (∀ xs, o ≠ .lst xs) → H' a = some o) : Book1 C H' b kvs := by
  obtain ⟨ys, L, M, dx, d, tp, ta, od, h1, h2, A⟩ := B.ex
  exact ⟨B.av, B.nd, ys, L, M, dx, d, tp, ta, od, h1, h2, h _ _ A.ob (fun _ e => by cases e), h _ _ A.dc (fun _ e => by cases e), h _ _ A.pi (fun _ e => by cases e), h _ _ A.al (fun _ e => by cases e), A.lo, A.de⟩
theorem Book1.updL {C : Addr} {H : Hp} {a b : Addr} {kvs : List (Key × V)} {xs : List V} {o : HO} (B : Book1 C H b kvs) (h : H a = some (.lst xs)) : Book1 C (upd H a o) b kvs :=
  B.keep fun c u e n => by
    rw [upd_ne fun q => ?_]
    · exact e
    · rw [q, h] at e
      exact n xs (Option.some.inj e).symm
theorem Book1.kp {C : Addr} {H H' : Hp} {l b : Addr} {kvs : List (Key × V)} {n : Nat} (B : Book1 C H b kvs) (D : Dice H l n) (k : Kp l H H') : Book1 C H' b kvs := by
  obtain ⟨d0, d1, d2, h, _⟩ := D
  refine B.keep fun c u e n => k c u e fun q => ?_
  rw [q, h] at e
  exact n _ (Option.some.inj e).symm
noncomputable def dearG (F1 F2 : Tf) : Key × V → Option Str := fun kv => match kv.1 with
  | .inr z => if lp F2 (cs z) < lp F1 (cs z) then some z else none
  | .inl _ => none
theorem Tar.mono {k1 k2 : List (Key × V)} (t1 : Tar k1) (t2 : Tar k2) (ss : SameSigns (tfD k1) (tfD k2)) (h : NoDear (tfD k1) (tfD k2)) {l : List Nat} (o : Over (tfD k1) l) : lp (tfD k1) l ≤ lp (tfD k2) l :=
  lp_mono t1.good t2.good (fun z p hz => ⟨fun c hc => (ss c).mpr (t2.good.cov z p hz c hc), h z p hz⟩) o fun c hc => (ss c).mp (o c hc)
theorem dear_iff {k1 k2 kf : List (Key × V)} {S : Str → Prop} (T : TblOk (tfD k1) S kf) (t1 : Tar k1) (t2 : Tar k2) (ss : SameSigns (tfD k1) (tfD k2)) (hS : ∀ z, S z → Over (tfD k1) (cs z)) (hk : ∀ z p, tfD k2 z = some p → S z) :
    kf.filterMap (dearG (tfD k1) (tfD k2)) = [] ↔ NoDear (tfD k1) (tfD k2) := by
  rw [List.filterMap_eq_nil_iff]
  constructor
  · intro h z p hz
    have h1 := h _ (valV_mem (T.val z (hk z p hz)))
    have h2 : (if lp (tfD k2) (cs z) < lp (tfD k1) (cs z) then some z else none) = none := h1
    have h3 := lp_piece t2.good hz
    by_cases q : lp (tfD k2) (cs z) < lp (tfD k1) (cs z)
    · rw [if_pos q] at h2
      cases h2
    · omega
  · intro n kv hkv
    obtain ⟨z, ez, hz⟩ := T.key kv hkv
    unfold dearG
    rw [ez]
    show (if lp (tfD k2) (cs z) < lp (tfD k1) (cs z) then some z else none) = none
    have := t1.mono t2 ss n (hS z hz)
    rw [if_neg (by omega)]
theorem nodear_trans {k0 k1 k2 : List (Key × V)} (t0 : Tar k0) (t1 : Tar k1) (t2 : Tar k2) (s01 : SameSigns (tfD k0) (tfD k1)) (s12 : SameSigns (tfD k1) (tfD k2)) (h : NoDear (tfD k0) (tfD k1)) (k : NoDear (tfD k1) (tfD k2)) : NoDear (tfD k0) (tfD k2) := by
  intro z p hz
  have h1 := k z p hz
  have h2 := t0.mono t1 s01 h (l := cs z) fun c hc => (s01 c).mpr ((s12 c).mpr (t2.good.cov z p hz c hc))
  omega
theorem nodear_self {k : List (Key × V)} (t : Tar k) : NoDear (tfD k) (tfD k) := fun z p hz => lp_piece t.good hz
theorem fm_str {α : Type} {g : α → Option Str} {l : List α} : l.filterMap (fun a => (g a).map V.str) = (l.filterMap g).map V.str := by
  rw [List.map_filterMap]
theorem tandv {ta tb : TE} {σ : L2.St} {H : Hp} {Q : VK} {a b : Bool} (ha : ∀ N : VK, N (.bl a) H → ta σ H N) (hb : ∀ N : VK, N (.bl b) H → tb σ H N) (q : Q (.bl (a && b)) H) : tAndV ta tb σ H Q := by
  refine ha _ ⟨a, rfl, ?_⟩
  refine itB (fun e => hb _ ?_) (fun e => ?_)
  · rw [e] at q
    exact q
  · rw [e] at q
    exact q
/-! ### the row of prices_along -/
theorem best_end {F : Tf} {l : List Nat} {L : Nat} {m : Int} (G : Good F) (o : Over F l) (ne : l ≠ []) (hL : ∀ z p, F z = some p → (cs z).length ≤ L) (hm : ∃ s, s < l.length ∧ costF F l s = some m)
    (hb : ∀ s y, l.length - L ≤ s → s < l.length → costF F l s = some y → m ≤ y) : m = lp F l := by
  refine lp_step G o ne (ys := (List.range l.length).filterMap (costF F l)) ?_ ?_ ?_ ?_
  · intro y hy
    obtain ⟨s, hs, g⟩ := List.mem_filterMap.mp hy
    have g' : (F (sOf (l.drop s))).map (fun p => lp F (l.take s) + p) = some y := g
    cases e : F (sOf (l.drop s)) with
    | none =>
      rw [e] at g'
      cases g'
    | some p =>
      rw [e] at g'
      exact ⟨_, p, l.take s, e, by rw [cs_sOf, List.take_append_drop], (Option.some.inj g').symm⟩
  · intro z p a hp ha
    have hn := (G.len z p hp).1
    have hl := congrArg List.length ha
    rw [List.length_append] at hl
    refine List.mem_filterMap.mpr ⟨a.length, List.mem_range.mpr (by omega), ?_⟩
    unfold costF
    have e2 : l.drop a.length = cs z := by rw [ha, List.drop_left]
    have e3 : l.take a.length = a := by rw [ha, List.take_left]
    rw [e2, e3, sOf_cs, hp]
    rfl
  · obtain ⟨s, hs, e⟩ := hm
    exact List.mem_filterMap.mpr ⟨s, List.mem_range.mpr hs, e⟩
  · intro y hy
    obtain ⟨s, hs, g⟩ := List.mem_filterMap.mp hy
    have hs' := List.mem_range.mp hs
    refine hb s y ?_ hs' g
    have g' : (F (sOf (l.drop s))).map (fun p => lp F (l.take s) + p) = some y := g
    cases e : F (sOf (l.drop s)) with
    | none =>
      rw [e] at g'
      cases g'
    | some p =>
      have := hL _ _ e
      rw [cs_sOf, List.length_drop] at this
      omega
theorem maxN (n m : Nat) : (if (n : Int) - (m : Int) > 0 then (n : Int) - (m : Int) else 0) = ((n - m : Nat) : Int) := by split <;> omega
/-- prices_along -/
def spAlong (C : Addr) : Sp := fun vs H Q _ => ∃ b kvs z, vs = [.ref b, .str z] ∧ Book1 C H b kvs ∧ Over (tfD kvs) (cs z) ∧ z.length ≤ 10000 ∧ ∀ p H', H p = none → H' p = some (.lst (rowV (tfD kvs) (cs z) (z.length + 1))) → Same H H' → Q (.ref p) H'
/-! ### properties -/
structure HasP (P : Program) (w : World) (K : PySem.W.Frag) (mg : Str → Option Value) (base : Heap) (k : Nat) (C : Addr) (f : Str) (sp : Sp) : Prop where
  ex : ∃ p g fd, Cls K C ∧ PropOf K C f p g ∧ FnOk P w K mg base CX0 k g fd ["self"] sp ∧ Binds K fd ["self"] []
theorem pe_prp {X : Cx} {k j : Nat} {C : Addr} {f : Str} {sp : Sp} {e : Expr} {pos : Pos} {ta : TE} (c : HasP X.prog X.w X.K X.mg X.base k C f sp) (hr : Room j X.A) (hk : k + 1 ≤ j) (he : PE X e ta)
    (hab : attributeBase e f X.env (eval e X.env) = eval e X.env := by rfl) : PE X (.Attribute e f pos) (tProp C sp [] C8.E0 ta) := by
  obtain ⟨p, g, fd, hc, hp, F, hb⟩ := c.ex
  exact pe_prop he hc hp F (hr.mono hk) hb .nil pass0 hab
/-! ### texts over a book -/
theorem inV_str {z : Str} : ∀ {zs : List Str}, inV (.str z) (zs.map V.str) = decide (z ∈ zs)
  | [] => by simp [inV]
  | a :: r => by
    have ih := inV_str (z := z) (zs := r)
    unfold inV at ih ⊢
    rw [List.map_cons, List.any_cons, ih]
    have e : eqV (.str a) (.str z) = decide (z = a) := by
      by_cases h : z = a
      · subst h
        simp [eqV]
      · have h' : ¬ a = z := fun q => h q.symm
        simp [eqV, h, h']
    rw [e]
    by_cases h : z = a <;> simp [h]
theorem flat_strs (zs : List Str) : (zs.map V.str).all flatV = true := by
  rw [List.all_map, List.all_eq_true]
  intro z _
  rfl
theorem sgn_mem {kvs : List (Key × V)} {ys : List Str} (al : (kvs.all fun kv => isPiece (kV kv.1) && isPrice kv.2) = true) (pm : ys.Perm (keyStrs kvs)) {c : Nat} : ch c ∈ sgn (psOf kvs ys) ↔ ∃ p, tfD kvs (ch c) = some p := by
  rw [sgn_ps, List.mem_filter, pm.mem_iff, tf_key al]
  exact ⟨fun h => h.1, fun h => ⟨h, rfl⟩⟩
def overB (kvs : List (Key × V)) (z : Str) : Bool := isText (.str z) && (cs z).all fun c => (tfD kvs (ch c)).isSome
theorem overB_true {kvs : List (Key × V)} {z : Str} (h1 : isText (.str z) = true) (h2 : Over (tfD kvs) (cs z)) : overB kvs z = true := by
  unfold overB
  rw [h1, Bool.true_and, List.all_eq_true]
  intro c hc
  obtain ⟨p, hp⟩ := h2 c hc
  rw [hp]
  rfl
/-- is_text_over, accepts -/
def spTextOver (C : Addr) : Sp := fun vs H Q _ => ∃ b kvs z, vs = [.ref b, .str z] ∧ Book1 C H b kvs ∧ z.length ≤ 100000 ∧ ∀ H', Same H H' → Q (.bl (overB kvs z)) H'
/-- require_text -/
def spReqText (C : Addr) : Sp := fun vs H Q _ => ∃ b kvs z, vs = [.ref b, .str z] ∧ Book1 C H b kvs ∧ z.length ≤ 100000 ∧ overB kvs z = true ∧ ∀ H', Same H H' → Q .non H'
/-- prices -/
def spPrices (C : Addr) : Sp := fun vs H Q _ => ∃ b kvs, vs = [.ref b] ∧ Book1 C H b kvs ∧ ∀ p ys H', H p = none → ys.Perm (keyStrs kvs) → sortedS ys = true → H' p = some (.dK (kvOf (psOf kvs ys))) → Same H H' → Q (.ref p) H'
/-- least_price, of a dict that is not changed -/
def spLeastPrice : Sp := fun vs H Q _ => ∃ d od kvs z, vs = [.ref d, .str z] ∧ H d = some (.frz od (.dK kvs)) ∧ Tar kvs ∧ Over (tfD kvs) (cs z) ∧ z.length ≤ 10000 ∧ ∀ H', Same H H' → Q (.int (lp (tfD kvs) (cs z))) H'
end G
/-! Fronts, in plain Lean. -/
namespace G
open PySem PySem.Spec PyProof.Rows L2
def Wide (F : Tf) (L : Nat) : Prop := (∃ z p, F z = some p ∧ (cs z).length = L) ∧ ∀ z p, F z = some p → (cs z).length ≤ L
def frontW (L : Nat) (l : List Nat) : List Nat := l.drop (l.length - min (L - 1) l.length)
noncomputable def frontD (F : Tf) (L : Nat) (l : List Nat) : List Int := (List.range (min (L - 1) l.length)).map fun i => lp F (l.take (l.length - (i + 1))) - lp F l
def FrontAt (H : Hp) (t : Addr) (l : List Nat) (ds : List Int) : Prop := ∃ td, H t = some (.tup [.str (sOf l), .ref td]) ∧ H td = some (.tup (ds.map V.int))
theorem FrontAt.same {H H' : Hp} {t : Addr} {l : List Nat} {ds : List Int} (f : FrontAt H t l ds) (s : Same H H') : FrontAt H' t l ds := by
  obtain ⟨td, h1, h2⟩ := f
  exact ⟨td, s _ _ h1, s _ _ h2⟩
section
variable {F : Tf} {L : Nat} {l : List Nat} {ds : List Int} {c : Nat} {m : Int}
theorem frontW_len : (frontW L l).length = min (L - 1) l.length := by
  unfold frontW
  rw [List.length_drop]
  omega
theorem frontD_len : (frontD F L l).length = min (L - 1) l.length := by
  unfold frontD
  rw [List.length_map, List.length_range]
theorem frontD_at {i : Nat} (h : i < min (L - 1) l.length) : (frontD F L l)[i]? = some (lp F (l.take (l.length - (i + 1))) - lp F l) := by
  unfold frontD
  rw [List.getElem?_map, List.getElem?_range h]
  rfl
/-- 0 and the differences: what the row says by steps back -/
theorem ahead_at {i : Nat} (h : i ≤ min (L - 1) l.length) : ((0 : Int) :: frontD F L l)[i]? = some (lp F (l.take (l.length - i)) - lp F l) := by
  cases i with
  | zero =>
    show some (0 : Int) = _
    rw [Nat.sub_zero, List.take_length]
    simp
  | succ i =>
    show (frontD F L l)[i]? = _
    exact frontD_at (by omega)
/-- the change at a sign, of any front -/
def StepR (F : Tf) (l : List Nat) (ds : List Int) (c : Nat) (m : Int) : Prop :=
  (∃ z p a y, F z = some p ∧ l ++ [c] = a ++ cs z ∧ ((0 : Int) :: ds)[(cs z).length - 1]? = some y ∧ m = p + y) ∧ ∀ z p a y, F z = some p → l ++ [c] = a ++ cs z → ((0 : Int) :: ds)[(cs z).length - 1]? = some y → m ≤ p + y
theorem StepR.uniq {n : Int} (h : StepR F l ds c m) (k : StepR F l ds c n) : m = n := by
  obtain ⟨⟨z, p, a, y, h1, h2, h3, rfl⟩, h4⟩ := h
  obtain ⟨⟨z', p', a', y', k1, k2, k3, rfl⟩, k4⟩ := k
  have := h4 z' p' a' y' k1 k2 k3
  have := k4 z p a y h1 h2 h3
  omega
def stepW (L : Nat) (l : List Nat) (c : Nat) : List Nat := (l ++ [c]).drop (l.length + 1 - (L - 1))
def stepD (L : Nat) (l : List Nat) (ds : List Int) (c : Nat) (m : Int) : List Int := (((0 : Int) :: ds).map fun x => x - m).take (stepW L l c).length
theorem stepW_len : (stepW L l c).length = min (L - 1) (l.length + 1) := by
  unfold stepW
  rw [List.length_drop, List.length_append]
  show l.length + 1 - _ = _
  omega
/-- a piece at the end of the front's signs is one at the end of the text, and the other way about -/
theorem front_suffix {z : Str} {p : Int} (W : Wide F L) (G : Good F) (hz : F z = some p) : (∃ a, frontW L l ++ [c] = a ++ cs z) ↔ ∃ a, l ++ [c] = a ++ cs z := by
  have n1 := (G.len z p hz).1
  have n2 := W.2 z p hz
  have el : l = l.take (l.length - min (L - 1) l.length) ++ frontW L l := (List.take_append_drop _ _).symm
  constructor
  · rintro ⟨a, h⟩
    refine ⟨l.take (l.length - min (L - 1) l.length) ++ a, ?_⟩
    rw [List.append_assoc, ← h, ← List.append_assoc, ← el]
  · rintro ⟨a, h⟩
    have hl := congrArg List.length h
    rw [List.length_append, List.length_append, List.length_singleton] at hl
    refine ⟨(frontW L l ++ [c]).take (min (L - 1) l.length + 1 - (cs z).length), ?_⟩
    have e1 : (frontW L l ++ [c]) = (l ++ [c]).drop (l.length - min (L - 1) l.length) := by
      rw [List.drop_append_of_le_length (by omega)]
      rfl
    have e2 : (frontW L l ++ [c]).drop (min (L - 1) l.length + 1 - (cs z).length) = cs z := by
      rw [e1, List.drop_drop, h, List.drop_append, List.drop_of_length_le (by omega)]
      have : l.length - min (L - 1) l.length + (min (L - 1) l.length + 1 - (cs z).length) - a.length = 0 := by omega
      rw [this]
      rfl
    conv => lhs; rw [← List.take_append_drop (min (L - 1) l.length + 1 - (cs z).length) (frontW L l ++ [c])]
    rw [e2]
/-- the change of a text's front is what the sign costs more -/
theorem front_change (G : Good F) (W : Wide F L) (o : Over F (l ++ [c])) : StepR F (frontW L l) (frontD F L l) c (lp F (l ++ [c]) - lp F l) := by
  have at' : ∀ {z : Str} {p : Int} {a : List Nat}, F z = some p → l ++ [c] = a ++ cs z → ((0 : Int) :: frontD F L l)[(cs z).length - 1]? = some (lp F a - lp F l) := by
    intro z p a hz h
    have n1 := (G.len z p hz).1
    have n2 := W.2 z p hz
    have hl := congrArg List.length h
    rw [List.length_append, List.length_append, List.length_singleton] at hl
    rw [ahead_at (by omega)]
    have e : l.take (l.length - ((cs z).length - 1)) = a := by
      have h2 : (l ++ [c]).take a.length = a := by rw [h, List.take_left]
      rw [List.take_append_of_le_length (by omega)] at h2
      have : l.length - ((cs z).length - 1) = a.length := by omega
      rw [this, h2]
    rw [e]
  constructor
  · obtain ⟨z, p, a, h1, h2, h3⟩ := lp_last G o (by simp)
    obtain ⟨a', ha'⟩ := (front_suffix (c := c) (l := l) W G h1).mpr ⟨a, h2⟩
    exact ⟨z, p, a', _, h1, ha', at' h1 h2, by omega⟩
  · intro z p a y h1 h2 h3
    obtain ⟨a', ha'⟩ := (front_suffix (c := c) (l := l) W G h1).mp ⟨a, h2⟩
    rw [at' h1 ha'] at h3
    have e := Option.some.inj h3
    have h4 := lp_app G (a := a') (by rw [ha'] at o; exact o.left) h1
    rw [← ha'] at h4
    omega
theorem front_stepW (hL : 1 ≤ L) : stepW L (frontW L l) c = frontW L (l ++ [c]) := by
  have e1 : (frontW L l ++ [c]) = (l ++ [c]).drop (l.length - min (L - 1) l.length) := by
    rw [List.drop_append_of_le_length (by omega)]
    rfl
  unfold stepW
  rw [e1, List.drop_drop]
  show _ = (l ++ [c]).drop ((l ++ [c]).length - min (L - 1) (l ++ [c]).length)
  rw [List.length_append, List.length_singleton, frontW_len]
  congr 1
  omega
theorem front_stepD (hL : 1 ≤ L) : stepD L (frontW L l) (frontD F L l) c (lp F (l ++ [c]) - lp F l) = frontD F L (l ++ [c]) := by
  have ln : (stepW L (frontW L l) c).length = min (L - 1) (l.length + 1) := by
    rw [stepW_len, frontW_len]
    omega
  refine List.ext_getElem? fun i => ?_
  unfold stepD
  rw [ln, List.getElem?_take]
  by_cases h : i < min (L - 1) (l.length + 1)
  · rw [if_pos h, List.getElem?_map, ahead_at (by omega), frontD_at (by rw [List.length_append]; exact h)]
    show some _ = some _
    congr 1
    have e : (l ++ [c]).take ((l ++ [c]).length - (i + 1)) = l.take (l.length - i) := by
      rw [List.length_append, List.length_singleton, List.take_append_of_le_length (by omega)]
      congr 1
      omega
    rw [e]
    dsimp only
    omega
  · rw [if_neg h, List.getElem?_eq_none]
    rw [frontD_len, List.length_append]
    show min (L - 1) (l.length + 1) ≤ i
    omega
end
/-! ### promises -/
theorem wide_of {kvs : List (Key × V)} {ys : List Str} {Ln : Nat} (av : arePrices kvs = true) (pm : ys.Perm (keyStrs kvs)) (h : IsMax (Ln : Int) (lens (psOf kvs ys))) : Wide (tfD kvs) Ln ∧ 1 ≤ Ln ∧ Ln ≤ 5 := by
  obtain ⟨_, al, _, _⟩ := ap_parts av
  obtain ⟨lm, lo⟩ := h
  obtain ⟨q, hq, e⟩ := List.mem_map.mp lm
  obtain ⟨y, hy, rfl⟩ := List.mem_map.mp hq
  have e' : (y.length : Int) = (Ln : Int) := e
  have hk := pm.mem_iff.mp hy
  obtain ⟨p, hp⟩ := (tf_key al).mp hk
  have h1 := keyStrs_piece al y hk
  have h2 := cs_len y
  refine ⟨⟨⟨y, p, hp, by omega⟩, fun z q hz => ?_⟩, by omega, by omega⟩
  have h3 := lo _ (List.mem_map.mpr ⟨(z, priceIn kvs z), List.mem_map.mpr ⟨z, pm.mem_iff.mpr ((tf_key al).mpr ⟨q, hz⟩), rfl⟩, rfl⟩)
  have h4 : (z.length : Int) ≤ (Ln : Int) := h3
  rw [cs_len]
  omega
theorem Wide.uniq {F : Tf} {L M : Nat} (h : Wide F L) (k : Wide F M) : L = M := by
  obtain ⟨⟨z, p, h1, h2⟩, h3⟩ := h
  obtain ⟨⟨y, q, k1, k2⟩, k3⟩ := k
  have := h3 y q k1
  have := k3 z p h1
  omega
theorem atI_neg {α : Type} {xs : List α} {j : Nat} (h : j < xs.length) : atI xs (-(j : Int) - 1) = xs[xs.length - 1 - j]? := by
  have e : ixN xs.length (-(j : Int) - 1) = some (xs.length - 1 - j) := by
    unfold ixN
    rw [if_neg (by omega), if_pos (by omega)]
    congr 1
    omega
  unfold atI
  rw [e]
  rfl
/-- front_in, front_of -/
def spFrontIn (C : Addr) : Sp := fun vs H Q _ => ∃ b kvs z, vs = [.ref b, .str z] ∧ Book1 C H b kvs ∧ Over (tfD kvs) (cs z) ∧ z.length ≤ 8000 ∧ isText (.str z) = true ∧
  ∀ L t H', Wide (tfD kvs) L → FrontAt H' t (frontW L (cs z)) (frontD (tfD kvs) L (cs z)) → Same H H' → Q (.ref t) H'
/-- what step_in returns -/
def StepAt (H : Hp) (t : Addr) (l : List Nat) (ds : List Int) (m : Int) : Prop := ∃ u, H t = some (.tup [.ref u, .int m]) ∧ FrontAt H u l ds
/-- step_in, next_front -/
def spStepIn (C : Addr) : Sp := fun vs H Q _ => ∃ (b f : Addr) (kvs : List (Key × V)) (l : List Nat) (ds : List Int) (c L : Nat), vs = [.ref b, .ref f, .str (ch c)] ∧ Book1 C H b kvs ∧ FrontAt H f l ds ∧ Wide (tfD kvs) L ∧ Over (tfD kvs) l ∧ Over (tfD kvs) [c] ∧ l.length < L ∧ ds.length = l.length ∧ (∀ x ∈ l, lett x = true) ∧
  (∀ x ∈ ds, isInteger (.int x) = true) ∧ ∀ t m H', StepR (tfD kvs) l ds c m → StepAt H' t (stepW L l c) (stepD L l ds c m) m → Same H H' → Q (.ref t) H'
theorem cutV_to {xs : List V} {i : Nat} (h : i ≤ xs.length) : cutV xs none (some (i : Int)) = xs.take i := by
  unfold cutV
  rw [show HT.sIx xs.length xs.length (some (i : Int)) = i by rw [sIx_pos (by omega), Int.toNat_natCast]; omega]
  rfl
noncomputable def aheadAt (ds : List Int) (y : Str) : Int := (((0 : Int) :: ds)[(cs y).length - 1]?).getD 0
theorem ends_fm {lg : Str} {ys : List Str} : (ys.filterMap fun y => if Txt.endswith lg y = true then some (V.str y) else none) = (ys.filter fun y => Txt.endswith lg y).map V.str := by
  induction ys with
  | nil => rfl
  | cons a r ih =>
    rw [List.filterMap_cons, List.filter_cons, ih]
    cases Txt.endswith lg a <;> rfl
/-- the least candidate is the change -/
theorem step_min {kvs : List (Key × V)} {ys : List Str} {lg : Str} {l : List Nat} {ds : List Int} {c : Nat} (av : arePrices kvs = true) (pm : ys.Perm (keyStrs kvs)) (hg : cs lg = l ++ [c]) (hds : ds.length = l.length) (oc : Over (tfD kvs) [c]) :
    0 < ((ys.filter fun y => Txt.endswith lg y).map fun y => priceIn kvs y + aheadAt ds y).length ∧ ∀ m ∈ (ys.filter fun y => Txt.endswith lg y).map (fun y => priceIn kvs y + aheadAt ds y), (∀ y ∈ (ys.filter fun y => Txt.endswith lg y).map (fun y => priceIn kvs y + aheadAt ds y), m ≤ y) → StepR (tfD kvs) l ds c m := by
  obtain ⟨_, al, _, _⟩ := ap_parts av
  have good := good_of av
  have price : ∀ {y p}, tfD kvs y = some p → p = priceIn kvs y := fun {y p} h => by
    have h1 := (price_of_key al ((tf_key al).mpr ⟨p, h⟩)).1
    rw [tf_some.mp h] at h1
    exact V.int.inj (Option.some.inj h1)
  have mem : ∀ {y p a}, tfD kvs y = some p → l ++ [c] = a ++ cs y → y ∈ ys.filter fun y => Txt.endswith lg y := fun {y p a} h h2 =>
    List.mem_filter.mpr ⟨pm.mem_iff.mpr ((tf_key al).mpr ⟨p, h⟩), ends_iff.mpr ⟨a, by rw [hg]; exact h2⟩⟩
  have ah : ∀ {y p a}, tfD kvs y = some p → l ++ [c] = a ++ cs y → ((0 : Int) :: ds)[(cs y).length - 1]? = some (aheadAt ds y) := fun {y p a} h h2 => by
    have n1 := (good.len y p h).1
    have h3 := congrArg List.length h2
    rw [List.length_append, List.length_append, List.length_singleton] at h3
    unfold aheadAt
    rw [List.getElem?_eq_getElem (by rw [List.length_cons]; omega)]
    rfl
  constructor
  · rw [List.length_map]
    obtain ⟨p, hp⟩ := oc c List.mem_cons_self
    exact List.length_pos_of_mem (mem (y := ch c) (a := l) hp rfl)
  · intro m hm hle
    constructor
    · obtain ⟨y, hy, rfl⟩ := List.mem_map.mp hm
      obtain ⟨h1, h2⟩ := List.mem_filter.mp hy
      obtain ⟨a, ha⟩ := ends_iff.mp h2
      rw [hg] at ha
      obtain ⟨p, hp⟩ := (tf_key al).mp (pm.mem_iff.mp h1)
      exact ⟨y, p, a, _, hp, ha, ah hp ha, by rw [price hp]⟩
    · intro z p a y hz h2 h3
      have h4 := hle _ (List.mem_map.mpr ⟨z, mem hz h2, rfl⟩)
      rw [ah hz h2] at h3
      rw [price hz, ← Option.some.inj h3]
      exact h4
structure FrontArg (C : Addr) (H : Hp) (b f : Addr) (kvs : List (Key × V)) (l : List Nat) (ds : List Int) (L : Nat) : Prop where
  bk : Book1 C H b kvs
  fr : FrontAt H f l ds
  wd : Wide (tfD kvs) L
  ov : Over (tfD kvs) l
  ln : l.length < L
  dl : ds.length = l.length
  lt : ∀ x ∈ l, lett x = true
  di : ∀ x ∈ ds, isInteger (.int x) = true
theorem FrontArg.same {C : Addr} {H H' : Hp} {b f : Addr} {kvs : List (Key × V)} {l : List Nat} {ds : List Int} {L : Nat} (a : FrontArg C H b f kvs l ds L) (s : Same H H') : FrontArg C H' b f kvs l ds L :=
  ⟨a.bk.same s, a.fr.same s, a.wd, a.ov, a.ln, a.dl, a.lt, a.di⟩
/-- has_front_form, of a front in its form -/
def spForm (C : Addr) : Sp := fun vs H Q _ => ∃ (b f : Addr) (kvs : List (Key × V)) (l : List Nat) (ds : List Int) (L : Nat), vs = [.ref b, .ref f] ∧ FrontArg C H b f kvs l ds L ∧ ∀ H', Same H H' → Q (.bl true) H'
def spReqFront (C : Addr) : Sp := fun vs H Q _ => ∃ (b f : Addr) (kvs : List (Key × V)) (l : List Nat) (ds : List Int) (L : Nat), vs = [.ref b, .ref f] ∧ FrontArg C H b f kvs l ds L ∧ ∀ H', Same H H' → Q .non H'
def spReqSign (C : Addr) : Sp := fun vs H Q _ => ∃ (b : Addr) (kvs : List (Key × V)) (c : Nat), vs = [.ref b, .str (ch c)] ∧ Book1 C H b kvs ∧ Over (tfD kvs) [c] ∧ ∀ H', Same H H' → Q .non H'
def spNext (C : Addr) : Sp := fun vs H Q _ => ∃ (b f : Addr) (kvs : List (Key × V)) (l : List Nat) (ds : List Int) (c L : Nat), vs = [.ref b, .ref f, .str (ch c)] ∧ FrontArg C H b f kvs l ds L ∧ Over (tfD kvs) [c] ∧ lett c = true ∧
  ∀ t m H', StepR (tfD kvs) l ds c m → StepAt H' t (stepW L l c) (stepD L l ds c m) m → Same H H' → Q (.ref t) H'
/-! ### the law's helpers -/
/-- _law_shuffled, of letters -/
def spShuf (K : PySem.W.Frag) : Sp := fun vs H Q _ => ∃ (l a : Addr) (cl : List Nat) (n : Nat), vs = [.ref l, .ref a] ∧ a ≠ l ∧ SqL K H a (cl.map chV) ∧ cl.length ≤ 100 ∧ (∀ c ∈ cl, lett c = true) ∧ Dice H l (n + cl.length) ∧
  ∀ (p : Addr) (zs : List Nat) H', H p = none → p ≠ l → zs.Perm cl → H' p = some (.lst (zs.map chV)) → Kp l H H' → Dice H' l n → Q (.ref p) H'
/-- _law_letters of these laws: some letters -/
def spLett (K : PySem.W.Frag) : Sp := fun vs H Q _ => ∃ (l : Addr) (m n : Nat), vs = [.ref l, .int (m : Int)] ∧ m ≤ 26 ∧ Dice H l (n + 26) ∧
  ∀ (p : Addr) (zs : List Nat) H', H p = none → p ≠ l → zs.length = m → (∀ c ∈ zs, lett c = true) → H' p = some (.lst (zs.map chV)) → Kp l H H' → Dice H' l n → Q (.ref p) H'
theorem chs_strs (l : List Nat) : l.map chV = (l.map ch).map V.str := by
  rw [List.map_map]
  rfl
theorem rNe_nil {K : PySem.W.Frag} {H : Hp} {a p : Addr} {zs : List Str} {Q : VK} (h : SqL K H a (zs.map V.str)) (hp : H p = some (.lst [])) (hl : ∀ z ∈ zs, ∀ c ∈ cs z, lett c = true) (q : Q (.bl (!zs.isEmpty)) H) : rNeD K (.ref a) (.ref p) H Q := by
  refine ⟨.list (zs.map PyData.str), .list [], .lst h (dpAll_strs zs), .lst (SqL.of hp) .nil, shaped_lstrs hl, by decide, ?_⟩
  rw [eqv_nil]
  exact q
/-- _law_prices: a right dict over the signs -/
def spPrices20 (K : PySem.W.Frag) : Sp := fun vs H Q _ => ∃ (l sa ma : Addr) (sg : List Nat) (ms : List Int) (n : Nat), vs = [.ref l, .ref sa, .int 6, .int 5, .ref ma] ∧ sa ≠ l ∧ ma ≠ l ∧ SqL K H sa (sg.map chV) ∧ SqL K H ma (ms.map V.int) ∧ 1 ≤ sg.length ∧ sg.length ≤ 4 ∧ (∀ c ∈ sg, lett c = true) ∧
  1 ≤ ms.length ∧ ms.length ≤ 100 ∧ (∀ i ∈ ms, 1 ≤ i ∧ i ≤ 99) ∧ Dice H l (n + 100) ∧
  ∀ (p : Addr) (kvs : List (Key × V)) H', H p = none → p ≠ l → H' p = some (.dK kvs) → arePrices kvs = true → (kvs.map (·.1)).Nodup → (∀ c, (∃ q, tfD kvs (ch c) = some q) ↔ c ∈ sg) → Kp l H H' → Dice H' l n → Q (.ref p) H'
/-- _law_cheap -/
def spCheap : Sp := fun vs H Q _ => ∃ d kvs z, vs = [.ref d, .str z] ∧ H d = some (.dK kvs) ∧ Tar kvs ∧ Over (tfD kvs) (cs z) ∧ z.length ≤ 10000 ∧ ∀ p H', H p = none → H' p = some (.lst (rowV (tfD kvs) (cs z) (z.length + 1))) → Same H H' → Q (.ref p) H'
/-- _law_wide -/
def spWide : Sp := fun vs H Q _ => ∃ d kvs, vs = [.ref d] ∧ H d = some (.dK kvs) ∧ Tar kvs ∧ kvs ≠ [] ∧ ∀ (L : Nat) H', Wide (tfD kvs) L → 1 ≤ L → L ≤ 5 → Same H H' → Q (.int (L : Int)) H'
/-- _law_front -/
def spLawFront : Sp := fun vs H Q _ => ∃ d kvs z, vs = [.ref d, .str z] ∧ H d = some (.dK kvs) ∧ Tar kvs ∧ kvs ≠ [] ∧ Over (tfD kvs) (cs z) ∧ z.length ≤ 10000 ∧ ∀ L t H', Wide (tfD kvs) L → FrontAt H' t (frontW L (cs z)) (frontD (tfD kvs) L (cs z)) → Same H H' → Q (.ref t) H'
/-- _law_step -/
def spLawStep : Sp := fun vs H Q _ => ∃ (d f : Addr) (kvs : List (Key × V)) (l : List Nat) (ds : List Int) (c L : Nat), vs = [.ref d, .ref f, .str (ch c)] ∧ H d = some (.dK kvs) ∧ Tar kvs ∧ kvs ≠ [] ∧ FrontAt H f l ds ∧ Wide (tfD kvs) L ∧ Over (tfD kvs) [c] ∧ l.length < L ∧ ds.length = l.length ∧
  ∀ t m H', StepR (tfD kvs) l ds c m → StepAt H' t (stepW L l c) (stepD L l ds c m) m → Same H H' → Q (.ref t) H'
noncomputable def stepG (ds : List Int) (lg : Str) : Key × V → Option Int := fun kv => match kv with
  | (.inr y, .int p) => if Txt.endswith lg y = true then some (p + aheadAt ds y) else none
  | _ => none
theorem step_minT {kvs : List (Key × V)} {lg : Str} {l : List Nat} {ds : List Int} {c : Nat} (T : Tar kvs) (hg : cs lg = l ++ [c]) (hds : ds.length = l.length) (oc : Over (tfD kvs) [c]) :
    0 < (kvs.filterMap (stepG ds lg)).length ∧ ∀ m ∈ kvs.filterMap (stepG ds lg), (∀ y ∈ kvs.filterMap (stepG ds lg), m ≤ y) → StepR (tfD kvs) l ds c m := by
  have mem : ∀ {y p a}, tfD kvs y = some p → l ++ [c] = a ++ cs y → p + aheadAt ds y ∈ kvs.filterMap (stepG ds lg) := fun {y p a} h h2 => by
    refine List.mem_filterMap.mpr ⟨_, valV_mem (tf_some.mp h), ?_⟩
    show (if Txt.endswith lg y = true then some (p + aheadAt ds y) else none) = _
    rw [if_pos (ends_iff.mpr ⟨a, by rw [hg]; exact h2⟩)]
  have ah : ∀ {y p a}, tfD kvs y = some p → l ++ [c] = a ++ cs y → ((0 : Int) :: ds)[(cs y).length - 1]? = some (aheadAt ds y) := fun {y p a} h h2 => by
    have n1 := (T.good.len y p h).1
    have h3 := congrArg List.length h2
    rw [List.length_append, List.length_append, List.length_singleton] at h3
    unfold aheadAt
    rw [List.getElem?_eq_getElem (by rw [List.length_cons]; omega)]
    rfl
  constructor
  · obtain ⟨p, hp⟩ := oc c List.mem_cons_self
    exact List.length_pos_of_mem (mem (y := ch c) (a := l) hp rfl)
  · intro m hm hle
    constructor
    · obtain ⟨kv, hkv, g⟩ := List.mem_filterMap.mp hm
      obtain ⟨y, p, rfl, hp⟩ := T.mem kv hkv
      have g' : (if Txt.endswith lg y = true then some (p + aheadAt ds y) else none) = some m := g
      by_cases q : Txt.endswith lg y = true
      · rw [if_pos q] at g'
        obtain ⟨a, ha⟩ := ends_iff.mp q
        rw [hg] at ha
        exact ⟨y, p, a, _, hp, ha, ah hp ha, (Option.some.inj g').symm⟩
      · rw [if_neg q] at g'
        cases g'
    · intro z p a y hz h2 h3
      rw [ah hz h2] at h3
      rw [← Option.some.inj h3]
      exact hle _ (mem hz h2)
/-- _law_large -/
def spLarge : Sp := fun vs H Q _ => ∃ (l : Addr) (n : Nat), vs = [.ref l] ∧ Dice H l (n + 2) ∧ ∀ (i : Int) H', isInteger (.int i) = true → Kp l H H' → Dice H' l n → Q (.int i) H'
theorem isI_of {i : Int} (h : i.natAbs < 10 ^ 60) : isInteger (.int i) = true := decide_eq_true h
theorem ten60 : (10 : Int) ^ (60 : Int).toNat = ((10 ^ 60 : Nat) : Int) := by decide +kernel
theorem large60 : 1000 ≤ (10 ^ 60 : Nat) := by decide +kernel
/-! ### fronts as data -/
def dFront (l : List Nat) (ds : List Int) : PyData := .tuple [.str (sOf l), .tuple (ds.map PyData.int)]
def dStep (l : List Nat) (ds : List Int) (m : Int) : PyData := .tuple [dFront l ds, .int m]
theorem dpAll_ints {K : PySem.W.Frag} {H : Hp} : ∀ ds : List Int, DpAll K H (ds.map V.int) (ds.map PyData.int)
  | [] => .nil
  | d :: r => .cons (.int d) (dpAll_ints r)
theorem dp_front {K : PySem.W.Frag} {H : Hp} {t : Addr} {l : List Nat} {ds : List Int} (f : FrontAt H t l ds) : Dp K H (.ref t) (dFront l ds) := by
  obtain ⟨td, h1, h2⟩ := f
  exact .tup (SqT.of h1) (.cons (.str _) (.cons (.tup (SqT.of h2) (dpAll_ints ds)) .nil))
theorem dp_step {K : PySem.W.Frag} {H : Hp} {t : Addr} {l : List Nat} {ds : List Int} {m : Int} (f : StepAt H t l ds m) : Dp K H (.ref t) (dStep l ds m) := by
  obtain ⟨u, h1, h2⟩ := f
  exact .tup (SqT.of h1) (.cons (dp_front h2) (.cons (.int m) .nil))
theorem shw_tuple {ds : List PyData} {k n : Nat} (h : ∀ d ∈ ds, Shw d k n) : Shw (.tuple ds) (k + 1) (ds.length * (n + 2) + 4) := by
  obtain ⟨b1, b2, b3, b4⟩ := shwAll h
  refine ⟨by simpa [PyData.showable] using b1, by simpa [PyData.hasDict] using b2, by simp only [PyData.depth]; omega, ?_⟩
  simp only [PyData.shown]
  unfold tupleText
  rw [strLen_append, strLen_append]
  have c1 : (("(" : String) : Str).length = 1 := by decide +kernel
  have c2 : ((if (PyData.shownAll ds).length == 1 then ",)" else ")" : String) : Str).length ≤ 2 := by split <;> decide +kernel
  have c3 : piled (PyData.shownAll ds) ≤ (PyData.shownAll ds).length * (n + 2) := by
    have gen : ∀ l : List Str, (∀ t ∈ l, t.length ≤ n) → piled l ≤ l.length * (n + 2) := by
      intro l hl
      induction l with
      | nil => simp [piled]
      | cons t r ih =>
        have h1 := hl t List.mem_cons_self
        have h2 := ih fun u hu => hl u (List.mem_cons_of_mem _ hu)
        have e : piled (t :: r) = t.length + 2 + piled r := by simp [piled]
        rw [e, List.length_cons, Nat.add_mul]
        omega
    exact gen _ b4
  have c4 : (Str.join ", " (PyData.shownAll ds)).length ≤ piled (PyData.shownAll ds) := by
    by_cases q : PyData.shownAll ds = []
    · rw [q]
      decide +kernel
    · have := join_length_add _ q
      omega
  have c5 : (PyData.shownAll ds).length = ds.length := by rw [shownAll_map, List.length_map]
  rw [c5] at c3
  omega
theorem shw_str {z : Str} {n : Nat} (h : z.length ≤ n) (hc : ∀ c ∈ cs z, c < 16 ^ 8) : Shw (.str z) 0 (10 * n + 2) :=
  ⟨by simp [PyData.showable], by simp [PyData.hasDict], by simp [PyData.depth], by simp only [PyData.shown]; exact Nat.le_trans (StrLaws.reprText_len z hc) (by omega)⟩
theorem shw_front {l : List Nat} {ds : List Int} (hl : l.length ≤ 5) (hc : ∀ c ∈ l, lett c = true) (hd : ds.length ≤ 5) (hi : ∀ d ∈ ds, d.natAbs < 2 ^ 300) : Shw (dFront l ds) 2 (2 * 9700) := by
  have h1 : Shw (.str (sOf l)) 1 9650 := (shw_str (n := 5) (by rw [sOf_len]; exact hl) fun c h => by
    rw [cs_sOf] at h
    have := hc c h
    unfold lett at this
    rw [Bool.and_eq_true] at this
    have := of_decide_eq_true this.2
    exact Nat.lt_of_le_of_lt this (by decide)).le (by omega) (by omega)
  have h2 : Shw (.tuple (ds.map PyData.int)) 1 9650 := (shw_tuple (k := 0) (n := 1921) fun d hd' => by
    obtain ⟨i, hi', rfl⟩ := List.mem_map.mp hd'
    exact shw_int (log_of (hi i hi'))).le (by omega) (by
      rw [List.length_map]
      have := Nat.mul_le_mul_right (1921 + 2) hd
      omega)
  refine (shw_tuple (k := 1) (n := 9650) fun d hd' => ?_).le (by omega) (by show 2 * (9650 + 2) + 4 ≤ 2 * 9700; omega)
  simp only [List.mem_cons, List.not_mem_nil, or_false] at hd'
  rcases hd' with rfl | rfl
  · exact h1
  · exact h2
theorem shw_step {l : List Nat} {ds : List Int} {m : Int} (hl : l.length ≤ 5) (hc : ∀ c ∈ l, lett c = true) (hd : ds.length ≤ 5) (hi : ∀ d ∈ ds, d.natAbs < 2 ^ 300) (hm : m.natAbs < 2 ^ 300) : Shw (dStep l ds m) 3 40000 := by
  refine (shw_tuple (k := 2) (n := 2 * 9700) fun d hd' => ?_).le (by omega) (by show 2 * (2 * 9700 + 2) + 4 ≤ 40000; omega)
  simp only [List.mem_cons, List.not_mem_nil, or_false] at hd'
  rcases hd' with rfl | rfl
  · exact shw_front hl hc hd hi
  · exact (shw_int (log_of hm)).le (by omega) (by omega)
/-- repr of shown data -/
theorem repr_shw {K : PySem.W.Frag} {H : Hp} {x : V} {d : PyData} {k n : Nat} {Q : VK} (h : Dp K H x d) (s : Shw d k n) (hk : k ≤ 60) (hn : n ≤ 100000) (q : Q (.str d.shown) H) : rRepr K [x] H Q :=
  ⟨x, d, rfl, h, s.s, s.h, Nat.le_trans s.dp hk, Nat.le_trans s.len (fits_sz hn), q⟩
theorem lift_ch {P : Nat → Prop} : ∀ {ys : List Str}, (∀ y ∈ ys, ∃ c, y = ch c ∧ P c) → ∃ sg : List Nat, ys = sg.map ch ∧ ∀ c ∈ sg, P c
  | [], _ => ⟨[], rfl, fun _ h => (List.not_mem_nil h).elim⟩
  | y :: r, h => by
    obtain ⟨c, rfl, hc⟩ := h y List.mem_cons_self
    obtain ⟨sg, rfl, hs⟩ := lift_ch (ys := r) fun z hz => h z (List.mem_cons_of_mem _ hz)
    refine ⟨c :: sg, rfl, fun d hd => ?_⟩
    rcases List.mem_cons.mp hd with rfl | hd
    · exact hc
    · exact hs d hd
/-! ### bounds -/
theorem lp_bound {F : Tf} (G : Good F) : ∀ l, Over F l → 0 ≤ lp F l ∧ lp F l ≤ 99 * (l.length : Int)
  | [], _ => by
    rw [lp_nil G]
    exact ⟨Int.le_refl _, by decide⟩
  | c :: r, o => by
    have o1 : Over F [c] := fun d hd => o d (by rw [List.mem_singleton.mp hd]; exact List.mem_cons_self)
    have o2 : Over F r := fun d hd => o d (List.mem_cons_of_mem _ hd)
    obtain ⟨p, hp⟩ := o c List.mem_cons_self
    have h1 : lp F [c] ≤ p := lp_piece G hp
    have h2 := (G.pos _ _ hp).2
    have h3 := (lp_bound G r o2).2
    have h4 : lp F (c :: r) ≤ lp F [c] + lp F r := lp_add G o1 o2
    obtain ⟨d, hd, e⟩ := lp_cut G o
    have h5 := fee_pos G d hd.1
    rw [List.length_cons]
    omega
theorem front_small {F : Tf} {L : Nat} {l : List Nat} (G : Good F) (o : Over F l) : ∀ d ∈ frontD F L l, d.natAbs ≤ 99 * l.length := fun d hd => by
  unfold frontD at hd
  obtain ⟨i, _, rfl⟩ := List.mem_map.mp hd
  have h1 := lp_bound G _ o
  have h2 := lp_bound G _ (o.take (l.length - (i + 1)))
  have h3 : (l.take (l.length - (i + 1))).length ≤ l.length := by
    rw [List.length_take]
    omega
  omega
theorem frontW_mem {L : Nat} {l : List Nat} {c : Nat} (h : c ∈ frontW L l) : c ∈ l := List.mem_of_mem_drop h
theorem stepW_mem {L : Nat} {l : List Nat} {c d : Nat} (h : d ∈ stepW L l c) : d ∈ l ∨ d = c := by
  have h1 := List.mem_of_mem_drop h
  rcases List.mem_append.mp h1 with h | h
  · exact Or.inl h
  · exact Or.inr (List.mem_singleton.mp h)
theorem stepR_small {F : Tf} {l : List Nat} {ds : List Int} {c B : Nat} {m : Int} (G : Good F) (h : StepR F l ds c m) (hb : ∀ d ∈ ds, d.natAbs ≤ B) : m.natAbs ≤ B + 99 := by
  obtain ⟨⟨z, p, a, y, h1, _, h3, rfl⟩, _⟩ := h
  have h4 := G.pos _ _ h1
  rcases List.mem_cons.mp (List.mem_of_getElem? h3) with rfl | h5
  · omega
  · have := hb y h5
    omega
theorem stepD_small {L : Nat} {l : List Nat} {ds : List Int} {c B : Nat} {m : Int} (hm : m.natAbs ≤ B + 99) (hb : ∀ d ∈ ds, d.natAbs ≤ B) : ∀ d ∈ stepD L l ds c m, d.natAbs ≤ 2 * B + 99 := fun d hd => by
  obtain ⟨x, hx, rfl⟩ := List.mem_map.mp (List.mem_of_mem_take hd)
  rcases List.mem_cons.mp hx with rfl | h5
  · omega
  · have := hb x h5
    omega
theorem stepD_len {L : Nat} {l : List Nat} {ds : List Int} {c : Nat} {m : Int} : (stepD L l ds c m).length ≤ (stepW L l c).length := by
  unfold stepD
  rw [List.length_take]
  omega
/-! ### fronts of given books, worked out -/
def psK (kvs : List (Key × V)) : List (List Nat × Int) := kvs.filterMap fun kv => match kv with | (.inr z, .int p) => some (cs z, p) | _ => none
theorem ps_tf {kvs : List (Key × V)} (nd : (kvs.map (·.1)).Nodup) {z : Str} {p : Int} : tfD kvs z = some p ↔ (cs z, p) ∈ psK kvs := by
  unfold psK
  rw [List.mem_filterMap]
  constructor
  · intro h
    exact ⟨_, valV_mem (tf_some.mp h), rfl⟩
  · rintro ⟨⟨k, v⟩, h1, h2⟩
    have h3 := val_nodup nd _ h1
    rcases k with i | y
    · cases h2
    · cases v
      case int q =>
        have e := Option.some.inj h2
        have e1 : y = z := str_ext (Prod.mk.inj e).1
        have e2 : q = p := (Prod.mk.inj e).2
        subst e1
        subst e2
        exact tf_some.mpr h3
      all_goals cases h2
def candF (ps : List (List Nat × Int)) (w : List Nat) (d : List Int) (c : Nat) : List Int :=
  ps.filterMap fun q => if (w ++ [c]).drop ((w ++ [c]).length - q.1.length) = q.1 then (((0 : Int) :: d)[q.1.length - 1]?).map fun y => q.2 + y else none
def minI : List Int → Option Int
  | [] => none
  | a :: r => match minI r with
    | none => some a
    | some b => some (if a ≤ b then a else b)
theorem minI_none : ∀ {xs : List Int}, minI xs = none → xs = []
  | [], _ => rfl
  | a :: r, h => by
    unfold minI at h
    split at h <;> cases h
theorem minI_spec : ∀ {xs : List Int} {m : Int}, minI xs = some m → m ∈ xs ∧ ∀ y ∈ xs, m ≤ y
  | [], _, h => by cases h
  | a :: r, m, h => by
    unfold minI at h
    split at h
    · rename_i e
      have er := minI_none e
      have em := Option.some.inj h
      subst em
      rw [er]
      exact ⟨List.mem_cons_self, fun y hy => by rw [List.mem_singleton.mp hy]; exact Int.le_refl _⟩
    · rename_i b e
      obtain ⟨h1, h2⟩ := minI_spec e
      have em := Option.some.inj h
      subst em
      constructor
      · split
        · exact List.mem_cons_self
        · exact List.mem_cons_of_mem _ h1
      · intro y hy
        rcases List.mem_cons.mp hy with rfl | hy
        · split <;> omega
        · have := h2 y hy
          split <;> omega
theorem step_of {kvs : List (Key × V)} (nd : (kvs.map (·.1)).Nodup) {w : List Nat} {d : List Int} {c : Nat} {m : Int} (h : minI (candF (psK kvs) w d c) = some m) : StepR (tfD kvs) w d c m := by
  obtain ⟨h1, h2⟩ := minI_spec h
  constructor
  · obtain ⟨q, hq, e⟩ := List.mem_filterMap.mp h1
    split at e
    · rename_i s
      obtain ⟨y, hy, rfl⟩ := Option.map_eq_some_iff.mp e
      refine ⟨sOf q.1, q.2, (w ++ [c]).take ((w ++ [c]).length - q.1.length), y, (ps_tf nd).mpr (by rw [cs_sOf]; exact hq), ?_, by rw [cs_sOf]; exact hy, rfl⟩
      rw [cs_sOf]
      conv => rhs; rw [← s]
      exact (List.take_append_drop _ _).symm.trans (by rw [s])
    · cases e
  · intro z p a y hz hs hy
    refine h2 _ (List.mem_filterMap.mpr ⟨_, (ps_tf nd).mp hz, ?_⟩)
    have e : (w ++ [c]).drop ((w ++ [c]).length - (cs z).length) = cs z := by
      rw [hs, List.length_append, Nat.add_sub_cancel, List.drop_left]
    dsimp only
    rw [if_pos e, hy]
    rfl
def runF (ps : List (List Nat × Int)) (L : Nat) : List Nat → List Nat → List Int → Option (List Nat × List Int)
  | [], w, d => some (w, d)
  | c :: r, w, d => match minI (candF ps w d c) with
    | none => none
    | some m => runF ps L r (stepW L w c) (stepD L w d c m)
theorem run_front {kvs : List (Key × V)} (nd : (kvs.map (·.1)).Nodup) (G : Good (tfD kvs)) {L : Nat} (W : Wide (tfD kvs) L) (hL : 1 ≤ L) : ∀ {r l w : List Nat} {d : List Int} {w' : List Nat} {d' : List Int}, Over (tfD kvs) (l ++ r) → frontW L l = w → frontD (tfD kvs) L l = d →
    runF (psK kvs) L r w d = some (w', d') → frontW L (l ++ r) = w' ∧ frontD (tfD kvs) L (l ++ r) = d'
  | [], l, w, d, w', d', _, hw, hd, h => by
    have e := Option.some.inj h
    rw [List.append_nil, hw, hd]
    exact Prod.mk.inj e
  | c :: r, l, w, d, w', d', o, hw, hd, h => by
    unfold runF at h
    split at h
    · cases h
    · rename_i m e
      have st := step_of nd e
      have o1 : Over (tfD kvs) (l ++ [c]) := fun x hx => o x (by
        rcases List.mem_append.mp hx with h | h
        · exact List.mem_append_left _ h
        · rw [List.mem_singleton.mp h]
          exact List.mem_append_right _ List.mem_cons_self)
      have fc := front_change G W o1
      have em : m = lp (tfD kvs) (l ++ [c]) - lp (tfD kvs) l := (show StepR (tfD kvs) (frontW L l) (frontD (tfD kvs) L l) c m by rw [hw, hd]; exact st).uniq fc
      have e2 : l ++ c :: r = (l ++ [c]) ++ r := by rw [List.append_assoc]; rfl
      rw [e2]
      refine run_front nd G W hL (by rw [← e2]; exact o) ?_ ?_ h
      · rw [← hw, front_stepW hL]
      · rw [← hw, ← hd, em, front_stepD hL]
theorem run_all {kvs : List (Key × V)} (nd : (kvs.map (·.1)).Nodup) (G : Good (tfD kvs)) {L : Nat} (W : Wide (tfD kvs) L) (hL : 1 ≤ L) {r w' : List Nat} {d' : List Int} (o : Over (tfD kvs) r) (h : runF (psK kvs) L r [] [] = some (w', d')) : frontW L r = w' ∧ frontD (tfD kvs) L r = d' :=
  run_front nd G W hL (l := []) (w := []) (d := []) o (by unfold frontW; exact List.drop_nil) (by unfold frontD; rw [List.length_nil, Nat.min_zero]; rfl) h
/-- a front that comes back behind a word -/
theorem run_round {kvs : List (Key × V)} (nd : (kvs.map (·.1)).Nodup) (G : Good (tfD kvs)) {L : Nat} (W : Wide (tfD kvs) L) (hL : 1 ≤ L) {r w : List Nat} {d : List Int} (o : Over (tfD kvs) r) (h1 : runF (psK kvs) L r [] [] = some (w, d)) (h2 : runF (psK kvs) L r w d = some (w, d)) :
    ∀ n : Nat, frontW L (List.replicate (n + 1) r).flatten = w ∧ frontD (tfD kvs) L (List.replicate (n + 1) r).flatten = d
  | 0 => by
    have e : (List.replicate 1 r).flatten = r := by simp
    rw [e]
    exact run_all nd G W hL o h1
  | n + 1 => by
    obtain ⟨i1, i2⟩ := run_round nd G W hL o h1 h2 n
    have e : (List.replicate (n + 1 + 1) r).flatten = (List.replicate (n + 1) r).flatten ++ r := by
      rw [List.replicate_succ', List.flatten_append]
      simp
    rw [e]
    refine run_front nd G W hL (fun c hc => ?_) i1 i2 h2
    rcases List.mem_append.mp hc with h | h
    · obtain ⟨t, ht, hc⟩ := List.mem_flatten.mp h
      rw [(List.mem_replicate.mp ht).2] at hc
      exact o c hc
    · exact o c h
theorem wide_ps {kvs : List (Key × V)} (nd : (kvs.map (·.1)).Nodup) {L : Nat} (h : ((psK kvs).any fun q => decide (q.1.length = L)) = true) (k : ((psK kvs).all fun q => decide (q.1.length ≤ L)) = true) : Wide (tfD kvs) L := by
  constructor
  · obtain ⟨q, hq, e⟩ := List.any_eq_true.mp h
    exact ⟨sOf q.1, q.2, (ps_tf nd).mpr (by rw [cs_sOf]; exact hq), by rw [cs_sOf]; exact of_decide_eq_true e⟩
  · intro z p hz
    exact of_decide_eq_true (List.all_eq_true.mp k _ ((ps_tf nd).mp hz))
theorem over_ps {kvs : List (Key × V)} (nd : (kvs.map (·.1)).Nodup) {l : List Nat} (h : (l.all fun c => (psK kvs).any fun q => decide (q.1 = [c])) = true) : Over (tfD kvs) l := fun c hc => by
  obtain ⟨q, hq, e⟩ := List.any_eq_true.mp (List.all_eq_true.mp h c hc)
  exact ⟨q.2, (ps_tf nd).mpr (by
    show ([c], q.2) ∈ _
    rw [← of_decide_eq_true e]
    exact hq)⟩
end G
/-! sorted(d.items()) of a dict from texts to ints. -/
namespace G
open PySem PySem.W PySem.Spec PyProof.Rows
/-- the text that stands first in a tuple -/
def txK (h : Heap) (v : Value) : Str := DT.txOf (DT.seqAt0 h (DT.refOf (some v)))
def PairTI (h : Heap) (v : Value) (y : Str) (n : Int) : Prop := ∃ a t u, v = .ref a ∧ IsTup h a #[.str y t, .int n u]
theorem PairTI.tx {h : Heap} {v : Value} {y : Str} {n : Int} (x : PairTI h v y n) : txK h v = y := by
  obtain ⟨a, t, u, rfl, i⟩ := x
  have e := DT.seqAt0_of i
  unfold txK
  show DT.txOf (DT.seqAt0 h a) = y
  rw [e]
  rfl
theorem firstsTI {h : Heap} {M : Str → Int} : ∀ vs : List Value, (∀ v ∈ vs, ∃ y, PairTI h v y (M y)) → ∃ fs : List Value, KatTups h vs fs ∧ fs.length = vs.length ∧ ∀ f ∈ fs, ∃ y t, f = Value.str y t
  | [], _ => ⟨[], KatTups.nil, rfl, fun _ z => (List.not_mem_nil z).elim⟩
  | v :: r, x => by
    obtain ⟨fs, k, hl, hi⟩ := firstsTI r fun u hu => x u (List.mem_cons_of_mem _ hu)
    obtain ⟨y, a, t, u, rfl, ⟨o, ho, hc, n, hd⟩⟩ := x v List.mem_cons_self
    refine ⟨.str y t :: fs, KatTups.cons ho hc hd rfl k, congrArg (· + 1) hl, fun f hf => ?_⟩
    rcases List.mem_cons.mp hf with rfl | hf
    · exact ⟨y, t, rfl⟩
    · exact hi f hf
section
variable {prog : Program} {w : World} {A : Around} {E : Value → Shared → Prop} {s : Shared}
theorem kindTI {vs : List Value} {ρ : Str → Int} {M : Str → Int} (h2 : 2 ≤ vs.length) (x : ∀ v ∈ vs, ∃ y, PairTI s.heap v y (M y))
    (hρ : ∀ v ∈ vs, ∀ u ∈ vs, decide ((txK s.heap v).cps.toList < (txK s.heap u).cps.toList) = decide (ρ (txK s.heap v) < ρ (txK s.heap u))) (Q : SortKind → Shared → Prop)
    (h : ∀ κ, _root_.TS.Cmp prog w A s κ (pairsOf vs) (fun v => ρ (txK s.heap v)) → Q κ s) : wpAny (model prog w) A (keyKind' vs.toArray) Q E s := by
  obtain ⟨fs, k, hl, hi⟩ := firstsTI vs x
  refine kat_kind (T := Value.type "str") k (by omega) (fun f hf => ?_) rfl (h _ ?_)
  · obtain ⟨y, t, rfl⟩ := hi f hf
    exact .now
  · have hb : (Value.type "str" != Value.type "tuple") = true := by first | rfl | decide | simp
    rw [hb]
    intro p q hp hq Q' E' hQ
    rw [pairsOf_toList] at hp hq
    have mp := (mem_zip_self hp).2
    have mq := (mem_zip_self hq).2
    obtain ⟨y, py⟩ := x _ mp
    obtain ⟨z, pz⟩ := x _ mq
    have hQ1 : Q' (decide (ρ (txK s.heap p.1) < ρ (txK s.heap q.1))) s := hQ
    rw [← hρ _ mp _ mq, py.tx, pz.tx] at hQ1
    obtain ⟨a, t, u, e1, ⟨o, ho, _, n, hd⟩⟩ := py
    obtain ⟨b, t', u', e2, ⟨o', ho', _, n', hd'⟩⟩ := pz
    rw [e1, e2]
    refine kat_lt ho hd ho' hd' ?_
    show KatLex prog w A true false Q' [(Value.str y t, Value.str z t'), (Value.int (M y) u, Value.int (M z) u')] 0 s
    refine kat_cons (SeqAt.EqAt.str_str y t z t' _ _ _ _ ?_)
    refine kat_go (fun e0 => ?_) (fun e0 => ?_)
    · have e : y = z := by simpa using e0
      subst e
      have irr : decide (y.cps.toList < y.cps.toList) = false := decide_eq_false (List.lt_irrefl _)
      rw [irr] at hQ1
      refine kat_yes (kat_cons (SeqAt.EqAt.int_int (M y) u (M y) u' _ _ _ _ ?_))
      refine kat_go (fun _ => kat_yes (kat_nil hQ1)) (fun e1' => ?_)
      simp at e1'
    · refine kat_no ?_
      show wpAny _ _ (oneLt' true _ _) _ _ _
      exact oneLt_str hQ1
end
/-! ### the rank of a text among some -/
def rankOf (ks : List Str) (y : Str) : Int := (ks.countP fun k => decide (cs k < cs y) : Nat)
theorem countP_le {α : Type} {p q : α → Bool} : ∀ {l : List α}, (∀ a ∈ l, p a = true → q a = true) → l.countP p ≤ l.countP q
  | [], _ => Nat.le_refl _
  | a :: r, h => by
    have ih := countP_le (l := r) fun b hb => h b (List.mem_cons_of_mem _ hb)
    rw [List.countP_cons, List.countP_cons]
    have := h a List.mem_cons_self
    by_cases e : p a = true
    · rw [if_pos e, if_pos (this e)]
      omega
    · rw [if_neg e]
      split <;> omega
theorem countP_lt {α : Type} {p q : α → Bool} {x : α} : ∀ {l : List α}, (∀ a ∈ l, p a = true → q a = true) → x ∈ l → p x = false → q x = true → l.countP p < l.countP q
  | [], _, hx, _, _ => (List.not_mem_nil hx).elim
  | a :: r, h, hx, h1, h2 => by
    have hr : ∀ b ∈ r, p b = true → q b = true := fun b hb => h b (List.mem_cons_of_mem _ hb)
    rw [List.countP_cons, List.countP_cons]
    rcases List.mem_cons.mp hx with rfl | hx
    · have ih := countP_le hr
      rw [if_neg (by rw [h1]; exact Bool.false_ne_true), if_pos h2]
      omega
    · have ih := countP_lt hr hx h1 h2
      have := h a List.mem_cons_self
      by_cases e : p a = true
      · rw [if_pos e, if_pos (this e)]
        omega
      · rw [if_neg e]
        split <;> omega
theorem rank_lt {ks : List Str} {y z : Str} (hy : y ∈ ks) (hz : z ∈ ks) : decide (cs y < cs z) = decide (rankOf ks y < rankOf ks z) := by
  unfold rankOf
  by_cases h : cs y < cs z
  · have h1 := countP_lt (p := fun k => decide (cs k < cs y)) (q := fun k => decide (cs k < cs z)) (l := ks) (fun a _ ha => decide_eq_true (List.lt_trans (of_decide_eq_true ha) h)) hy (decide_eq_false (List.lt_irrefl _)) (decide_eq_true h)
    rw [decide_eq_true h, decide_eq_true (by omega)]
  · have h1 := countP_le (p := fun k => decide (cs k < cs z)) (q := fun k => decide (cs k < cs y)) (l := ks) fun a _ ha => by
      by_cases q : cs a < cs y
      · exact decide_eq_true q
      · exact absurd (List.lt_of_le_of_lt (List.not_lt.mp q) (of_decide_eq_true ha)) h
    rw [decide_eq_false h, decide_eq_false (by omega)]
theorem rank_le {ks : List Str} {y z : Str} (hy : y ∈ ks) (hz : z ∈ ks) (h : rankOf ks y ≤ rankOf ks z) : cs y ≤ cs z := by
  have h1 := rank_lt hz hy
  rw [decide_eq_false (by omega : ¬ rankOf ks z < rankOf ks y)] at h1
  exact List.not_lt.mp (of_decide_eq_false h1)
/-! ### the rule -/
theorem pairs_get {prog : Program} {w : World} {K : Type} [DecidableEq K] {knd : KeyKind prog w K} : ∀ {es : List DictEntry} {kvs : List (K × Value)} {j : Nat} {e : DictEntry}, Pairs knd es kvs → es[j]? = some e → ∃ kv, kvs[j]? = some kv ∧ knd.is kv.1 e.key = true ∧ e.val = kv.2
  | _, _, _, _, .nil, h => by simp at h
  | _, _, 0, _, .cons h1 h2 _, h => by
    cases h
    exact ⟨_, rfl, h1, h2⟩
  | _, _, j + 1, _, .cons _ _ t, h => pairs_get (j := j) t (by simpa using h)
theorem pairs_len {prog : Program} {w : World} {K : Type} [DecidableEq K] {knd : KeyKind prog w K} : ∀ {es : List DictEntry} {kvs : List (K × Value)}, Pairs knd es kvs → es.length = kvs.length
  | _, _, .nil => rfl
  | _, _, .cons _ _ t => congrArg (· + 1) (pairs_len t)
abbrev entS (e : Str × Int) : L2.Key × L2.V := (Sum.inr e.1, L2.V.int e.2)
/-- d.items(), d locked or not -/
theorem mt_itemsK {X : L2.Cx} : L2.MtR X "dict.items" (fun x xs H Q => ∃ d kvs, x = .ref d ∧ xs = [] ∧ L2.Rd H d (.dK kvs) ∧ ∀ r, H r = none → Q (.ref r) (L2.upd H r (L2.DX.itemsO r d))) := by
  intro pins s σ H x xs v us Q I rx rs h
  obtain ⟨d, kvs, rfl, rfl, hd, q⟩ := h
  cases rx
  cases rs
  obtain ⟨_, low, vs, _, o, es, ep, ho, hx, hdat, _⟩ := L2.dk_rd I.hok hd
  refine DT.callItems (es := es) (ep := ep) low ⟨o, ho, hx, hdat⟩ ?_
  exact ⟨.ref s.heap.objs.size, _, I.laid (t' := s.toks) (o := L2.DX.itemsO s.heap.objs.size d) (fun _ _ e => Heap.get?_push_of_some _ e) (Nat.le_refl _) (L2.DX.itemsO_ok (Heap.get?_push_size _ rfl)), rfl, q _ (I.hok.fresh (Nat.le_refl _))⟩
/-- sorted(d.items()), d from texts to ints -/
def rSortTI : List L2.V → L2.Hp → L2.VK → Prop := fun vs H Q => ∃ (p a : Addr) (ks : List (Str × Int)), vs = [.ref p] ∧ H p = some (L2.DX.itemsO p a) ∧ L2.Rd H a (.dK (ks.map entS)) ∧ (ks.map (·.1)).Nodup ∧ ks.length < 64 ∧
  ∀ (H' : L2.Hp) (l : Addr) (ps : List (Addr × Str × Int)), L2.Same H H' → (ps.map (·.2)).Perm ks → (ps.map (·.2)).Pairwise (fun e f => cs e.1 ≤ cs f.1) → H' l = some (.lst (ps.map fun z => L2.V.ref z.1)) → (∀ z ∈ ps, H' z.1 = some (.tup [.str z.2.1, .int z.2.2])) → Q (.ref l) H'
def valS (ks : List (Str × Int)) (y : Str) : Int := ((ks.find? fun e => decide (e.1 = y)).map (·.2)).getD 0
theorem valS_of : ∀ {ks : List (Str × Int)} {e : Str × Int}, (ks.map (·.1)).Nodup → e ∈ ks → valS ks e.1 = e.2
  | [], _, _, h => (List.not_mem_nil h).elim
  | a :: r, e, nd, h => by
    obtain ⟨n1, n2⟩ := List.nodup_cons.mp nd
    unfold valS
    rw [List.find?_cons]
    rcases List.mem_cons.mp h with rfl | h
    · rw [decide_eq_true rfl]
      rfl
    · have ne : ¬ a.1 = e.1 := fun q => n1 (by
      show a.1 ∈ _
      rw [q]
      exact List.mem_map.mpr ⟨e, h, rfl⟩)
      rw [decide_eq_false ne]
      exact valS_of n2 h
open L2 in
theorem cr_sortTI {X : Cx} (hc : X.calm = true) : CallR X (.builtin "sorted") rSortTI := by
  intro pins s σ H xs us Q I r h
  obtain ⟨p, a, ks, rfl, hp, ha, nk, h64, q⟩ := h
  obtain rfl := Vals.ref1 r
  have view : s.heap.IsItemsView p a := (show ObjOk X.prog X.w H s.heap p (DX.itemsO p a) from I.hok p _ hp).1
  obtain ⟨_, low, ws, kv, o, es, ep, ho, hx, hdat, _, prs, _⟩ := dk_rd I.hok ha
  have n1 : ks.length = ws.length := by
    have := Paired.length kv
    rwa [List.length_map] at this
  have n2 : es.size = ws.length := by
    have := pairs_len prs
    rwa [Array.length_toList] at this
  refine DT.sortedI (es := es) (ep := ep) (I.ok.hd hc) view ⟨o, ho, hx, hdat⟩ (by rw [sizeLine_eq]; omega) fun g tk as hk hlt hl hG => ?_
  have nas : as.length = ks.length := by omega
  have nd : as.Nodup := List.Pairwise.imp (fun h => Nat.ne_of_lt h) hG.rise
  have made : ∀ (j : Nat) (b : Addr), as[j]? = some b → ∃ (e : Str × Int) (t u : Tok), ks[j]? = some e ∧ g.get? b = some { cls := .type "tuple", data := .seq #[Value.str e.1 t, Value.int e.2 u] } := by
    intro j b hj
    obtain ⟨en, he, hg⟩ := hG.pairs j b hj
    obtain ⟨kw, hw, h1, h2⟩ := pairs_get (j := j) prs (by rw [Array.getElem?_toList]; exact he)
    obtain ⟨e0, he0, r1, r2⟩ := DX.pget kv hw
    rw [List.getElem?_map] at he0
    cases hkj : ks[j]? with
    | none =>
      rw [hkj] at he0
      cases he0
    | some e =>
      rw [hkj] at he0
      cases he0
      have rk : RelV (kV (Sum.inr e.1)) en.key := relV_key (show keyIs (Sum.inr e.1) en.key = true by rw [show (Sum.inr e.1 : L2.Key) = kw.1 from r1]; exact h1)
      obtain ⟨t, ek⟩ := rk
      have rv : RelV (V.int e.2) en.val := by
        rw [h2]
        exact r2
      obtain ⟨u, ev⟩ := rv
      refine ⟨e, t, u, rfl, ?_⟩
      rw [hg, ek, ev]
  -- the heap while the sort asks
  have lo : (g.push { cls := .type "list", data := .seq (as.map Value.ref).toArray }).get? g.objs.size = some (seqObj "list" (as.map Value.ref).toArray 0) := Heap.get?_push_size _ rfl
  have up : ∀ b o, g.get? b = some o → (g.push { cls := .type "list", data := .seq (as.map Value.ref).toArray }).get? b = some o := fun b o e => Heap.get?_push_of_some _ e
  have off : ∀ b o, g.get? b = some o → b ≠ g.objs.size := fun b o e => Nat.ne_of_lt (Heap.lt_size e)
  generalize g.push { cls := .type "list", data := .seq (as.map Value.ref).toArray } = m at lo up ⊢
  have pin : ∀ (j : Nat) (b : Addr), as[j]? = some b → ∃ e : Str × Int, ks[j]? = some e ∧ PairTI (_root_.TS.midHeap m g.objs.size (as.map Value.ref)) (.ref b) e.1 (valS ks e.1) := by
    intro j b hj
    obtain ⟨e, t, u, he, hg⟩ := made j b hj
    refine ⟨e, he, b, t, u, rfl, ⟨_, _root_.TS.midHeap_old (off _ _ hg) (up _ _ hg), rfl, 0, ?_⟩⟩
    rw [valS_of nk (List.mem_of_getElem? he)]
  have tx : ∀ (j : Nat) (b : Addr) (e : Str × Int), as[j]? = some b → ks[j]? = some e → txK (_root_.TS.midHeap m g.objs.size (as.map Value.ref)) (.ref b) = e.1 := by
    intro j b e hj he
    obtain ⟨e', he', hp'⟩ := pin j b hj
    rw [he] at he'
    cases he'
    exact hp'.tx
  have each : ∀ v ∈ as.map Value.ref, ∃ (j : Nat) (b : Addr) (e : Str × Int), v = .ref b ∧ as[j]? = some b ∧ ks[j]? = some e := by
    intro v hv
    obtain ⟨b, hb, rfl⟩ := List.mem_map.mp hv
    obtain ⟨j, hj⟩ := List.mem_iff_getElem?.mp hb
    obtain ⟨e, _, _, he, _⟩ := made j b hj
    exact ⟨j, b, e, rfl, hj, he⟩
  have inK : ∀ {j : Nat} {e : Str × Int}, ks[j]? = some e → e.1 ∈ ks.map (·.1) := fun h => List.mem_map.mpr ⟨_, List.mem_of_getElem? h, rfl⟩
  refine wpAny_call_entry PyProof.Rows.slot_list_sort ⟨_, lo, rfl⟩ PyProof.Rows.entry_list_sort (SK.plain_sort (s := { s with heap := m, toks := tk })
    (r := fun v => rankOf (ks.map (·.1)) (txK (_root_.TS.midHeap m g.objs.size (as.map Value.ref)) v)) lo (by rw [List.length_map]; omega) (fun two Qk hQk => ?_) fun ps out o1 o2 o3 => ⟨.none, rfl, ?_⟩) (PyProof.Rows.args_list_sort _)
  · refine kindTI (s := { s with heap := _root_.TS.midHeap m g.objs.size (as.map Value.ref), toks := tk }) (ρ := rankOf (ks.map (·.1))) (M := valS ks) two (fun v hv => ?_) (fun v hv u hu => ?_) Qk hQk
    · obtain ⟨j, b, e, rfl, hj, _⟩ := each v hv
      obtain ⟨e', _, hp'⟩ := pin j b hj
      exact ⟨e'.1, hp'⟩
    · obtain ⟨j, b, e, rfl, hj, he⟩ := each v hv
      obtain ⟨j', b', e', rfl, hj', he'⟩ := each u hu
      dsimp only
      rw [tx j b e hj he, tx j' b' e' hj' he']
      exact rank_lt (inK he) (inK he')
  · show EP X pins σ Q (.ref g.objs.size) { s with heap := sortedHeap m g.objs.size (as.map Value.ref) out, toks := tk }
    obtain ⟨zs, pz, ez⟩ := perm_lift (fun z : Addr × Str × Int => (Value.ref z.1, Value.ref z.1)) o2 (as.zip ks) (DX.zip_self Value.ref as ks nas)
    have idx : ∀ z ∈ zs, ∃ j : Nat, as[j]? = some z.1 ∧ ks[j]? = some z.2 := by
      intro z hz
      obtain ⟨j, hj⟩ := List.mem_iff_getElem?.mp (pz.mem_iff.mp hz)
      exact ⟨j, List.getElem?_zip_eq_some.mp hj⟩
    have eout : out.toList = zs.map fun z => Value.ref z.1 := by
      rw [o1, ← ez, List.map_map]
      rfl
    have perm : (zs.map (·.2)).Perm ks := by
      have e := pz.map (·.2)
      rwa [show (as.zip ks).map (·.2) = ks from List.map_snd_zip (by omega)] at e
    have srt : (zs.map (·.2)).Pairwise (fun e f => cs e.1 ≤ cs f.1) := by
      rw [← ez, List.pairwise_map] at o3
      rw [List.pairwise_map]
      refine List.Pairwise.imp_of_mem (fun {x y} hx hy h => ?_) o3
      obtain ⟨j, j1, j2⟩ := idx x hx
      obtain ⟨i, i1, i2⟩ := idx y hy
      dsimp only at h
      rw [tx j _ _ j1 j2, tx i _ _ i1 i2] at h
      exact rank_le (inK j2) (inK i2) h
    have keepM : ∀ b o, b ≠ g.objs.size → m.get? b = some o → (sortedHeap m g.objs.size (as.map Value.ref) out).get? b = some o := fun b o hb e => (PyProof.Rows.sortedHeap_old hb (Heap.lt_size e)).trans e
    have keepS : ∀ b o, s.heap.get? b = some o → (sortedHeap m g.objs.size (as.map Value.ref) out).get? b = some o := fun b o e => keepM b o (off _ _ (hk b o e)) (up _ _ (hk b o e))
    obtain ⟨ce, hce⟩ := PyProof.Rows.sortedHeap_at (vs := as.map Value.ref) (out := out) lo
    have J1 : Inv X pins σ H { s with heap := sortedHeap m g.objs.size (as.map Value.ref) out, toks := tk } := I.kept (t' := tk) keepS
    have free : H g.objs.size = none := I.hok.fresh (Nat.le_of_lt hlt)
    have zlen : (zs.map fun z => V.ref z.1).length ≤ sizeLine := by
      have e := perm.length_eq
      rw [List.length_map] at e
      rw [List.length_map, sizeLine_eq]
      omega
    have J2 : Inv X pins σ (upd H g.objs.size (.lst (zs.map fun z => V.ref z.1))) { s with heap := sortedHeap m g.objs.size (as.map Value.ref) out, toks := tk } :=
      J1.take (h' := sortedHeap m g.objs.size (as.map Value.ref) out) (t' := tk) (fun b ob _ e => e) (I.fpOk (Nat.le_of_lt hlt) free) ⟨zlen, out.toList, ce, by rw [eout]; exact vals_maps (fun z : Addr × Str × Int => V.ref z.1) (fun z => Value.ref z.1) zs fun _ _ => rfl, hce⟩
    obtain ⟨H2, J3, kp, tups⟩ := DX.takeT (P := fun b xs => ∃ (j : Nat) (e : Str × Int), as[j]? = some b ∧ ks[j]? = some e ∧ xs = [V.str e.1, V.int e.2]) I as _ J2 nd fun b hb => by
      obtain ⟨j, hj⟩ := List.mem_iff_getElem?.mp hb
      obtain ⟨e, t, u, he, hg⟩ := made j b hj
      have low' : s.heap.objs.size ≤ b := Nat.le_of_lt (hG.above b hb)
      refine ⟨low', ?_, [V.str e.1, V.int e.2], ⟨j, e, hj, he, rfl⟩, fun H3 => ⟨by show 2 ≤ sizeLine; decide, [Value.str e.1 t, Value.int e.2 u], .cons ⟨t, rfl⟩ (.cons ⟨u, rfl⟩ .nil), ⟨_, keepM _ _ (off _ _ hg) (up _ _ hg), rfl, 0, rfl⟩⟩⟩
      rw [upd_ne (off _ _ hg)]
      exact I.hok.fresh low'
    have same : Same H H2 := fun b o e => kp b o (by rw [upd_ne (ne_of_none e free)]; exact e)
    refine ⟨.ref g.objs.size, H2, J3, rfl, q H2 g.objs.size zs same perm srt (kp _ _ upd_same) fun z hz => ?_⟩
    obtain ⟨i, i1, i2⟩ := idx z hz
    obtain ⟨xs, ⟨j, e, j1, j2, rfl⟩, hH⟩ := tups z.1 (List.mem_of_getElem? i1)
    have eij : i = j := (List.getElem?_inj (List.getElem?_eq_some_iff.mp i1).1 nd).mp (i1.trans j1.symm)
    subst eij
    rw [i2] at j2
    cases j2
    exact hH
/-! ### repr of a dict from texts to ints -/
def dDict (ks : List (Str × Int)) : PyData := .dict (ks.map fun e => (PyData.str e.1, PyData.int e.2))
theorem reads_ks {prog : Program} {w : World} {h : Heap} : ∀ {ks : List (Str × Int)} {es : List DictEntry} {ws : List (L2.Key × Value)}, Pairs (L2.mixKind prog w) es ws → L2.KV (ks.map entS) ws →
    ReadsAll h (es.map (·.key)) (ks.map fun e => PyData.str e.1) [] ∧ ReadsAll h (es.map (·.val)) (ks.map fun e => PyData.int e.2) []
  | [], _, _, .nil, _ => ⟨.nil, .nil⟩
  | [], _, _, .cons _ _ _, kv => by cases kv
  | _ :: _, _, _, .nil, kv => by cases kv
  | e :: r, _, _, .cons h1 h2 t, kv => by
    cases kv with
    | cons hd tl =>
      obtain ⟨i1, i2⟩ := reads_ks (h := h) t tl
      obtain ⟨r1, r2⟩ := hd
      obtain ⟨tk, ek⟩ : L2.RelV (L2.kV (Sum.inr e.1)) _ := L2.relV_key (show L2.keyIs (Sum.inr e.1) _ = true by rw [show (Sum.inr e.1 : L2.Key) = _ from r1]; exact h1)
      obtain ⟨u, ev⟩ : L2.RelV (L2.V.int e.2) _ := by
        rw [← h2] at r2
        exact r2
      refine ⟨?_, ?_⟩
      · rw [List.map_cons, List.map_cons, ek]
        exact ReadsAll.cons (as := []) (bs := []) (.str _ _) i1
      · rw [List.map_cons, List.map_cons, ev]
        exact ReadsAll.cons (as := []) (bs := []) (.int _ _) i2
theorem depth_kv : ∀ ks : List (Str × Int), PyData.depthKv (ks.map fun e => (PyData.str e.1, PyData.int e.2)) = 0
  | [] => by simp [PyData.depthKv]
  | e :: r => by simp [PyData.depthKv, PyData.depth, depth_kv r]
theorem piled_le {n : Nat} : ∀ {ts : List Str}, (∀ t ∈ ts, t.length ≤ n) → piled ts ≤ ts.length * (n + 2)
  | [], _ => by simp [piled]
  | t :: r, h => by
    have h1 := h t List.mem_cons_self
    have h2 := piled_le (ts := r) fun u hu => h u (List.mem_cons_of_mem _ hu)
    have e : piled (t :: r) = t.length + 2 + piled r := by simp [piled]
    rw [e, List.length_cons, Nat.add_mul]
    omega
/-- a dict of pieces and prices may be shown -/
theorem show_dict {ks : List (Str × Int)} (hl : ks.length ≤ 100) (h : ∀ e ∈ ks, e.1.length ≤ 10 ∧ (∀ c ∈ cs e.1, c < 128) ∧ 0 ≤ e.2 ∧ e.2 ≤ 99) : (dDict ks).showable = true ∧ (dDict ks).shown.length ≤ sizeLine := by
  constructor
  · have : ∀ l : List (Str × Int), (∀ e ∈ l, 0 ≤ e.2 ∧ e.2 ≤ 99) → PyData.showableKv (l.map fun e => (PyData.str e.1, PyData.int e.2)) = true := by
      intro l hl
      induction l with
      | nil => simp [PyData.showableKv]
      | cons a r ih =>
        have h1 := hl a List.mem_cons_self
        have h2 : a.2.natAbs.log2 < 1920 := Nat.lt_of_lt_of_le (PySem.Flt.log2_lt_of (k := 7) (by decide) (by omega)) (by decide)
        simp [PyData.showableKv, PyData.showable, h2, ih fun e he => hl e (List.mem_cons_of_mem _ he)]
    unfold dDict
    simp only [PyData.showable]
    exact this ks fun e he => (h e he).2.2
  · have each : ∀ t ∈ PyData.shownKv (ks.map fun e => (PyData.str e.1, PyData.int e.2)), t.length ≤ 2100 := by
      intro t ht
      have gen : ∀ l : List (Str × Int), t ∈ PyData.shownKv (l.map fun e => (PyData.str e.1, PyData.int e.2)) → ∃ e ∈ l, t = reprText e.1 ++ ": " ++ toString e.2 := by
        intro l
        induction l with
        | nil => intro h; simp [PyData.shownKv] at h
        | cons a r ih =>
          intro h
          simp only [List.map_cons, PyData.shownKv, PyData.shown, List.mem_cons] at h
          rcases h with h | h
          · exact ⟨a, List.mem_cons_self, h⟩
          · obtain ⟨e, he, q⟩ := ih h
            exact ⟨e, List.mem_cons_of_mem _ he, q⟩
      obtain ⟨e, he, rfl⟩ := gen ks ht
      obtain ⟨l1, l2, l3, l4⟩ := h e he
      have r1 := StrLaws.reprText_len e.1 fun c hc => Nat.lt_of_lt_of_le (l2 c hc) (by decide)
      have r2 := int_text_len_1921 (i := e.2) (Nat.lt_of_lt_of_le (PySem.Flt.log2_lt_of (k := 7) (by decide) (by omega)) (by decide))
      have r3 : ((": " : String) : Str).length = 2 := by decide +kernel
      rw [strLen_append, strLen_append, r3]
      omega
    unfold dDict
    simp only [PyData.shown]
    unfold dictText
    rw [strLen_append, strLen_append]
    have c1 : (("{" : String) : Str).length = 1 := by decide +kernel
    have c2 : (("}" : String) : Str).length = 1 := by decide +kernel
    have c3 := piled_le each
    have c4 : (PyData.shownKv (ks.map fun e => (PyData.str e.1, PyData.int e.2))).length = ks.length := by
      generalize ks = l
      induction l with
      | nil => simp [PyData.shownKv]
      | cons a r ih => simp [PyData.shownKv, ih]
    rw [c4] at c3
    have c5 : (Str.join ", " (PyData.shownKv (ks.map fun e => (PyData.str e.1, PyData.int e.2)))).length ≤ piled (PyData.shownKv (ks.map fun e => (PyData.str e.1, PyData.int e.2))) := by
      by_cases q : PyData.shownKv (ks.map fun e => (PyData.str e.1, PyData.int e.2)) = []
      · rw [q]
        decide +kernel
      · have := join_length_add _ q
        omega
    have c6 : ks.length * (2100 + 2) ≤ 100 * 2102 := Nat.mul_le_mul_right _ hl
    rw [c1, c2]
    exact Nat.le_trans (by omega : _ ≤ 1000000) (by decide)
def rReprD : List L2.V → L2.Hp → L2.VK → Prop := fun xs H Q => ∃ a ks, xs = [.ref a] ∧ L2.Rd H a (.dK (ks.map entS)) ∧ (dDict ks).showable = true ∧ (dDict ks).shown.length ≤ sizeLine ∧ Q (.str (dDict ks).shown) H
theorem call_reprD {X : L2.Cx} (hg : X.A.guards = some []) (hu : X.A.units + 64 < cLine) : L2.CallR X (.builtin "repr") rReprD := by
  intro pins s σ H xs us Q I r h
  obtain ⟨a, ks, rfl, ha, hs, hz, q⟩ := h
  obtain rfl := L2.Vals.ref1 r
  obtain ⟨_, low, ws, kv, o, es, ep, ho, hx, hdat, _, prs, _⟩ := L2.dk_rd I.hok ha
  obtain ⟨k1, k2⟩ := reads_ks (h := s.heap) prs kv
  have rd : Reads s.heap (.ref a) (dDict ks) [a] := by
    refine Reads.dict (as := []) (bs := []) ho hx.1 hdat ?_ ?_
    · rw [List.map_map]
      exact k1
    · rw [List.map_map]
      exact k2
  have dep : (dDict ks).depth ≤ 10 := by
    unfold dDict
    simp only [PyData.depth, depth_kv]
    omega
  refine repr_of_reads' rd hs (fun _ hm => ?_) hg (by omega) (fun _ _ e => e) (fun h' u tk keeps => ⟨L2.V.str (dDict ks).shown, H, I.kept keeps, ⟨u, rfl⟩, q⟩) hz
  rw [List.mem_singleton.mp hm] at low
  simp at low
/-- dict(pairs) without double keys -/
theorem merge_nd : ∀ {more kvs : List (L2.Key × L2.V)}, ((kvs ++ more).map (·.1)).Nodup → L2.mergeK kvs more = kvs ++ more
  | [], kvs, _ => by rw [List.append_nil]; rfl
  | a :: r, kvs, h => by
    have no : L2.valV kvs a.1 = none := valV_none fun m => by
      rw [List.map_append, List.map_cons] at h
      exact (List.nodup_append.mp h).2.2 _ m _ List.mem_cons_self rfl
    show L2.mergeK (L2.putK kvs a.1 a.2) r = _
    rw [L2.putK_new _ no, merge_nd (by rw [List.append_assoc]; exact h), List.append_assoc]
    rfl
/-- two lists of pairs, both ascending by their texts, with the same pairs -/
theorem pairs_eq {xs ys : List (Str × Int)} (nd : (xs.map (·.1)).Nodup) (hx : xs.Pairwise fun e f => cs e.1 ≤ cs f.1) (hy : ys.Pairwise fun e f => cs e.1 ≤ cs f.1) (p : xs.Perm ys) : xs = ys := by
  refine p.eq_of_pairwise (fun a b ha hb h1 h2 => ?_) hx hy
  have e : a.1 = b.1 := str_ext (List.le_antisymm h1 h2)
  have hb' := p.mem_iff.mpr hb
  have v1 := valS_of nd ha
  have v2 := valS_of nd hb'
  rw [e] at v1
  exact Prod.ext e (v1.symm.trans v2)
theorem lift_ent : ∀ {kvs : List (L2.Key × L2.V)}, (∀ kv ∈ kvs, ∃ z p, kv = (Sum.inr z, L2.V.int p)) → ∃ ks : List (Str × Int), kvs = ks.map entS
  | [], _ => ⟨[], rfl⟩
  | kv :: r, h => by
    obtain ⟨z, p, rfl⟩ := h kv List.mem_cons_self
    obtain ⟨ks, rfl⟩ := lift_ent (kvs := r) fun x hx => h x (List.mem_cons_of_mem _ hx)
    exact ⟨(z, p) :: ks, rfl⟩
theorem keys_ent : ∀ ks : List (Str × Int), keyStrs (ks.map entS) = ks.map (·.1)
  | [] => rfl
  | e :: r => congrArg (e.1 :: ·) (keys_ent r)
theorem nd_ent {ks : List (Str × Int)} (nd : ((ks.map entS).map (·.1)).Nodup) : (ks.map (·.1)).Nodup := by
  have e : (ks.map entS).map (·.1) = (ks.map (·.1)).map (Sum.inr : Str → L2.Key) := by
    rw [List.map_map, List.map_map]
    rfl
  rw [e] at nd
  exact List.Pairwise.imp (fun h q => h (congrArg _ q)) (List.pairwise_map.mp nd)
theorem ps_perm {ks : List (Str × Int)} {ys : List Str} (al : ((ks.map entS).all fun kv => isPiece (L2.kV kv.1) && isPrice kv.2) = true) (nd : ((ks.map entS).map (·.1)).Nodup) (pm : ys.Perm (keyStrs (ks.map entS))) : (psOf (ks.map entS) ys).Perm ks := by
  rw [keys_ent] at pm
  have h1 := pm.map fun y => (y, priceIn (ks.map entS) y)
  refine h1.trans ?_
  rw [List.map_map]
  have h2 : ks.map ((fun y => (y, priceIn (ks.map entS) y)) ∘ (·.1)) = ks := by
    conv => rhs; rw [← List.map_id ks]
    refine List.map_congr_left fun e he => ?_
    have h3 := L2.val_nodup nd _ (List.mem_map.mpr ⟨e, he, rfl⟩)
    have hk : e.1 ∈ keyStrs (ks.map entS) := by
      rw [keys_ent]
      exact List.mem_map.mpr ⟨e, he, rfl⟩
    have h4 := (price_of_key al hk).1
    rw [show L2.valV (ks.map entS) (Sum.inr e.1) = some (L2.V.int e.2) from h3] at h4
    have h5 := L2.V.int.inj (Option.some.inj h4)
    show (e.1, priceIn (ks.map entS) e.1) = e
    rw [← h5]
  rw [h2]
theorem so_ps {kvs : List (L2.Key × L2.V)} {ys : List Str} (h : sortedS ys = true) : (psOf kvs ys).Pairwise fun e f => cs e.1 ≤ cs f.1 := List.pairwise_map.mpr (so_pw h)
theorem ps_keys {kvs : List (L2.Key × L2.V)} {ys : List Str} : (psOf kvs ys).map (·.1) = ys := by
  unfold psOf
  rw [List.map_map]
  exact List.map_id' ys
end G
/-! The two books that the law of fronts writes down. -/
namespace G
open PySem PySem.Spec PyProof.Rows L2
def eightK : List (Key × V) := [(.inr (sOf [120]), .int 1), (.inr (sOf [97]), .int 9), (.inr (sOf [120, 97]), .int 1), (.inr (sOf [97, 97]), .int 1), (.inr (sOf [97, 120]), .int 1)]
def abbaK : List (Key × V) := [(.inr (sOf [97]), .int 1), (.inr (sOf [98]), .int 1), (.inr (sOf [97, 98]), .int 1), (.inr (sOf [98, 98, 97]), .int 1)]
theorem eight_av : arePrices eightK = true := by decide +kernel
theorem eight_nd : (eightK.map (·.1)).Nodup := by decide +kernel
theorem eight_wd : Wide (tfD eightK) 2 := wide_ps eight_nd (by decide +kernel) (by decide +kernel)
theorem eight_good : Good (tfD eightK) := (tar_of eight_av eight_nd).good
theorem abba_av : arePrices abbaK = true := by decide +kernel
theorem abba_nd : (abbaK.map (·.1)).Nodup := by decide +kernel
theorem abba_wd : Wide (tfD abbaK) 3 := wide_ps abba_nd (by decide +kernel) (by decide +kernel)
theorem abba_good : Good (tfD abbaK) := (tar_of abba_av abba_nd).good
def texts8 : List (List Nat) := [[], [120], [120, 97], [120, 97, 97], [120, 97, 97, 120], List.replicate 40 120, List.replicate 41 97]
def fronts8 : List (List Nat × List Int) := [([], []), ([120], [-1]), ([97], [0]), ([97], [-1]), ([120], [0]), ([120], [-1]), ([97], [-9])]
theorem runs8 : texts8.map (fun t => runF (psK eightK) 2 t [] []) = fronts8.map some := by decide +kernel
theorem over8 : ∀ t ∈ texts8, Over (tfD eightK) t ∧ t.length ≤ 100 ∧ ∀ c ∈ t, lett c = true := fun t ht => by
  have h1 : (texts8.all fun t => (t.all fun c => (psK eightK).any fun q => decide (q.1 = [c])) && decide (t.length ≤ 100) && t.all lett) = true := by decide +kernel
  have h2 := List.all_eq_true.mp h1 t ht
  rw [Bool.and_eq_true, Bool.and_eq_true] at h2
  exact ⟨over_ps eight_nd h2.1.1, of_decide_eq_true h2.1.2, List.all_eq_true.mp h2.2⟩
theorem front8 {i : Nat} {t : List Nat} (h : texts8[i]? = some t) : ∃ f, fronts8[i]? = some f ∧ frontW 2 t = f.1 ∧ frontD (tfD eightK) 2 t = f.2 := by
  have e := congrArg (fun l => l[i]?) runs8
  rw [List.getElem?_map, List.getElem?_map, h] at e
  cases hf : fronts8[i]? with
  | none =>
    rw [hf] at e
    cases e
  | some f =>
    rw [hf] at e
    have e1 : runF (psK eightK) 2 t [] [] = some f := Option.some.inj e
    exact ⟨f, rfl, run_all eight_nd eight_good eight_wd (by decide) (over8 t (List.mem_of_getElem? h)).1 (w' := f.1) (d' := f.2) e1⟩
theorem abba_front (n : Nat) : frontW 3 (List.replicate (n + 1) [97, 98]).flatten = [97, 98] ∧ frontD (tfD abbaK) 3 (List.replicate (n + 1) [97, 98]).flatten = [0, -1] :=
  run_round abba_nd abba_good abba_wd (by decide) (over_ps abba_nd (by decide +kernel)) (by decide +kernel) (by decide +kernel) n
theorem step_given {H : Hp} {t : Addr} {kvs : List (Key × V)} {L c : Nat} {w w' : List Nat} {d d' : List Int} {m m0 : Int} (nd : (kvs.map (·.1)).Nodup) (h1 : minI (candF (psK kvs) w d c) = some m) (h2 : stepW L w c = w') (h3 : stepD L w d c m = d')
    (st : StepR (tfD kvs) w d c m0) (sa : StepAt H t (stepW L w c) (stepD L w d c m0) m0) : StepAt H t w' d' m := by
  have e := st.uniq (step_of nd h1)
  subst e
  rwa [h2, h3] at sa
theorem rNeD_same {K : PySem.W.Frag} {H : Hp} {x y : V} {d : PyData} {Q : VK} (hx : Dp K H x d) (hy : Dp K H y d) (s : SeqAt.shaped d = true) (q : Q (.bl false) H) : rNeD K x y H Q := by
  refine ⟨d, d, hx, hy, s, s, ?_⟩
  rw [SeqAt.eqv_refl _ (SeqAt.canLay_of_shaped s)]
  exact q
theorem rEqD_same {K : PySem.W.Frag} {H : Hp} {x y : V} {d : PyData} {Q : VK} (hx : Dp K H x d) (hy : Dp K H y d) (s : SeqAt.shaped d = true) (q : Q (.bl true) H) : rEqD K x y H Q := by
  refine ⟨d, d, hx, hy, s, s, ?_⟩
  rw [SeqAt.eqv_refl _ (SeqAt.canLay_of_shaped s)]
  exact q
theorem dpAll_fronts {K : PySem.W.Frag} {H : Hp} : ∀ {ts : List Addr} {fs : List (List Nat × List Int)}, ts.length = fs.length → (∀ (i : Nat) (t : Addr) (f : List Nat × List Int), ts[i]? = some t → fs[i]? = some f → FrontAt H t f.1 f.2) → DpAll K H (ts.map V.ref) (fs.map fun f => dFront f.1 f.2)
  | [], [], _, _ => .nil
  | [], _ :: _, h, _ => by cases h
  | _ :: _, [], h, _ => by cases h
  | t :: r, f :: g, h, k => .cons (dp_front (k 0 t f rfl rfl)) (dpAll_fronts (Nat.succ.inj h) fun i u v hu hv => k (i + 1) u v hu hv)
theorem ten59 : (10 : Int) ^ (59 : Int).toNat = 100000000000000000000000000000000000000000000000000000000000 := by decide +kernel
theorem shaped8 : SeqAt.shaped (.list (fronts8.map fun f => dFront f.1 f.2)) = true := by decide +kernel
theorem shapedS : SeqAt.shaped (dStep [97] [-9] 9) = true ∧ SeqAt.shaped (dStep [97] [8] (-8)) = true ∧ SeqAt.shaped (dFront [97, 98] [0, -1]) = true ∧
    SeqAt.shaped (.list [dStep [97] [-9] 9, dStep [97] [99999999999999999999999999999999999999999999999999999999999] (-99999999999999999999999999999999999999999999999999999999999)]) = true := by decide +kernel
theorem litX : Str.ofString "x" = sOf [120] ∧ Str.ofString "a" = sOf [97] ∧ Str.ofString "b" = sOf [98] ∧ Str.ofString "xa" = sOf [120, 97] ∧ Str.ofString "aa" = sOf [97, 97] ∧ Str.ofString "ax" = sOf [97, 120] ∧ Str.ofString "ab" = sOf [97, 98] ∧ Str.ofString "bba" = sOf [98, 98, 97] ∧
    Str.ofString "" = sOf [] ∧ Str.ofString "xaa" = sOf [120, 97, 97] ∧ Str.ofString "xaax" = sOf [120, 97, 97, 120] := by decide +kernel
theorem reps8 : sRep (sOf [120]) (40 : Int).toNat = sOf (List.replicate 40 120) ∧ sRep (sOf [97]) (41 : Int).toNat = sOf (List.replicate 41 97) := by decide +kernel
theorem FrontAt.updL {H : Hp} {t D : Addr} {w : List Nat} {d : List Int} {ys : List V} {o : HO} (f : FrontAt H t w d) (h : H D = some (.lst ys)) : FrontAt (upd H D o) t w d := by
  obtain ⟨td, h1, h2⟩ := f
  have n1 : t ≠ D := fun e => by
    rw [e, h] at h1
    cases h1
  have n2 : td ≠ D := fun e => by
    rw [e, h] at h2
    cases h2
  exact ⟨td, by rw [upd_ne n1]; exact h1, by rw [upd_ne n2]; exact h2⟩
theorem o97 : Over (tfD eightK) [97] := over_ps eight_nd (by decide +kernel)
theorem o120 : Over (tfD eightK) [120] := over_ps eight_nd (by decide +kernel)
theorem fa8 {C b t : Addr} {H : Hp} {c : Nat} {i : Int} (B : Book1 C H b eightK) (f : FrontAt H t [c] [i]) (o : Over (tfD eightK) [c]) (hc : lett c = true) (hi : isInteger (.int i) = true) : FrontArg C H b t eightK [c] [i] 2 :=
  ⟨B, f, eight_wd, o, Nat.lt_succ_self 1, rfl, fun x hx => by rw [List.mem_singleton.mp hx]; exact hc, fun x hx => by rw [List.mem_singleton.mp hx]; exact hi⟩
theorem StepAt.same {H H' : Hp} {t : Addr} {w : List Nat} {d : List Int} {m : Int} (f : StepAt H t w d m) (s : Same H H') : StepAt H' t w d m := by
  obtain ⟨u, h1, h2⟩ := f
  exact ⟨u, s _ _ h1, h2.same s⟩
end G
namespace K20
open PySem PySem.Spec PyProof.Rows L2 G
open L2 (St)

def top (i : Nat) : Stmt := PySem.Challenge.pw_cutbehind_k20_fronts_of_texts.main.body.getD i (.Pass ⟨0, 0, 0, 0⟩)
abbrev s_is_integer : Stmt := top 4
abbrev s_is_word : Stmt := top 6
abbrev s_is_text : Stmt := top 7
abbrev s_is_piece : Stmt := top 8
abbrev s_is_integer_within : Stmt := top 5
abbrev s_is_price : Stmt := top 21
abbrev s_are_prices : Stmt := top 22
abbrev s_Book___init__ : Stmt := inClass (top 30) 0
abbrev s_prices_along : Stmt := top 32
abbrev s_require_book : Stmt := top 26
abbrev s_is_text_over : Stmt := top 25
abbrev s_require_text : Stmt := top 27
abbrev s_Book_accepts : Stmt := inClass (top 30) 7
abbrev s_Book_prices : Stmt := inClass (top 30) 2
abbrev s_front_in : Stmt := top 34
abbrev s_step_in : Stmt := top 35
abbrev s_has_front_form : Stmt := top 36
abbrev s_require_front : Stmt := top 37
abbrev s_require_sign : Stmt := top 38
abbrev s_front_of : Stmt := top 39
abbrev s_next_front : Stmt := top 40
abbrev s__law_reel : Stmt := top 42
abbrev s__law_spin : Stmt := top 43
abbrev s__law_pick : Stmt := top 44
abbrev s__law_shuffled : Stmt := top 45
abbrev s__law_letters : Stmt := top 46
abbrev s__law_word : Stmt := top 47
abbrev s__law_prices : Stmt := top 48
abbrev s__law_cheap : Stmt := top 49
abbrev s__law_wide : Stmt := top 50
abbrev s__law_front : Stmt := top 51
abbrev s__law_step : Stmt := top 52
abbrev s__law_large : Stmt := top 53
abbrev s__law_right : Stmt := top 54
abbrev s_law : Stmt := top 55
structure Txt (K : PySem.W.Frag) (mg : Str → Option Value) (C : Addr) : Prop where
  cl : Cls K C
  ic : C8.InsC K C
  n_own_prices : NoAttr K C "own_prices"
  n_own_pieces : NoAttr K C "own_pieces"
  n_own_alphabet : NoAttr K C "own_alphabet"
  n_own_longest : NoAttr K C "own_longest"
  n_own_dearest : NoAttr K C "own_dearest"
  gC : mg "Book" = some (.ref C)
  b_abs : mg "abs" = none
  b_all : mg "all" = none
  b_bool : mg "bool" = none
  b_dict : mg "dict" = none
  b_int : mg "int" = none
  b_isinstance : mg "isinstance" = none
  b_len : mg "len" = none
  b_list : mg "list" = none
  b_max : mg "max" = none
  b_min : mg "min" = none
  b_range : mg "range" = none
  b_repr : mg "repr" = none
  b_sorted : mg "sorted" = none
  b_str : mg "str" = none
  b_tuple : mg "tuple" = none
  g_MAX_ALPHABET : ∃ t, mg "MAX_ALPHABET" = some (.int 4 t)
  g_MAX_PIECES : ∃ t, mg "MAX_PIECES" = some (.int 12 t)
  g_MAX_PRICE : ∃ t, mg "MAX_PRICE" = some (.int 99 t)
  g_PIECE_SIGNS : ∃ t, mg "PIECE_SIGNS" = some (.int 5 t)
  g_TEXT_SIGNS : ∃ t, mg "TEXT_SIGNS" = some (.int 8000 t)

section
variable {P : Program} {w : World} {K : PySem.W.Frag} {mg : Str → Option Value} {base : Heap} {C : Addr}
theorem sc_is_integer : FnScope ["value"] ["value"] (defScope s_is_integer) := ⟨rfl, rfl, rfl, by decide +kernel, rfl, by decide +kernel, by decide +kernel⟩
theorem ok_is_integer {f : Addr} {fd : FuncData} (F : Fun K "is_integer" "is_integer" s_is_integer f fd) (T : Txt K mg C) : FnOk P w K mg base CX0 1 f fd ["value"] (spIsI K isInteger) := by
  refine F.ok sc_is_integer (fun vs H Q E h => ?_) (fun cdv A outer s H vs Q E hr h => ?_)
  · obtain ⟨x, rfl, _⟩ := h
    rfl
  · have hu := hu_of hr
    obtain ⟨x, rfl, ty, k⟩ := h
    obtain ⟨t, ht, hs, hi, hb⟩ := id ty
    have k0 := k H (Same.refl H)
    refine ⟨_, (pss_cons (ps_if (PW.pt (pw_or (pt_val (pe_callB (g_isi K) (by rfl) T.b_isinstance (by decide +kernel) (pa_cons (pv 0) (pa_cons (pe_bltn (v := .ty "bool") rfl T.b_bool (by decide +kernel) rfl) pa_nil)))) (pw_or1 (pt_not (pt_val (pe_callB (g_isi K) (by rfl) T.b_isinstance (by decide +kernel) (pa_cons (pv 0) (pa_cons (pe_bltn (v := .ty "int") rfl T.b_int (by decide +kernel) rfl) pa_nil)))))))) (pss_one (ps_ret pe_bl)) pss_nil)
      (pss_one (ps_ret (pe_cmpR op_lt (pe_callB call_abs (by rfl) T.b_abs (by decide +kernel) (pa_cons (pv 0) pa_nil)) (pe_op op_powW pe_int pe_int) (nomark _))))), ?_⟩
    cases x with
    | bl b =>
      refine ⟨_, rfl, _, _, _, _, _, rfl, .ty _, ht, hb, _, rfl, ?_⟩
      exact k0
    | int i =>
      refine ⟨_, rfl, _, _, _, _, _, rfl, .ty _, ht, hb, _, rfl, ?_⟩
      refine ⟨_, rfl, _, _, _, _, _, rfl, .ty _, ht, hi, _, rfl, ?_⟩
      refine ⟨_, rfl, _, rfl, _, _, rfl, rfl, ⟨by decide, by decide +kernel⟩, _, _, rfl, rfl, ?_⟩
      have e : decide ((if i < 0 then -i else i) < (10 : Int) ^ (60 : Int).toNat) = isInteger (.int i) := abs_lt i
      rw [← e] at k0
      exact k0
    | _ =>
      refine ⟨_, rfl, _, _, _, _, _, rfl, .ty _, ht, hb, _, rfl, ?_⟩
      refine ⟨_, rfl, _, _, _, _, _, rfl, .ty _, ht, hi, _, rfl, ?_⟩
      exact k0
theorem sc_is_word : FnScope ["value", "letter"] ["value"] (defScope s_is_word) := ⟨rfl, rfl, rfl, by decide +kernel, rfl, by decide +kernel, by decide +kernel⟩
theorem ok_is_word {f : Addr} {fd : FuncData} (F : Fun K "is_word" "is_word" s_is_word f fd) (T : Txt K mg C) : FnOk P w K mg base CX0 1 f fd ["value"] (spIs K isWord) := by
  refine F.ok sc_is_word (fun vs H Q E h => ?_) (fun cdv A outer s H vs Q E hr h => ?_)
  · obtain ⟨x, rfl, _⟩ := h
    rfl
  · have hu := hu_of hr
    obtain ⟨x, rfl, ty, sz, k⟩ := h
    obtain ⟨t, ht, hs, hi, hb⟩ := id ty
    have k0 := k H (Same.refl H)
    refine ⟨_, (pss_one (ps_ret (pe_and (pe_callB (g_isi K) (by rfl) T.b_isinstance (by decide +kernel) (pa_cons (pv 0) (pa_cons (pe_bltn (v := .ty "str") rfl T.b_str (by decide +kernel) rfl) pa_nil))) (pe_and (pe_cmpR op_ne (pv 0) pe_str (nomark _)) (pe_one (pe_callB (g_all K rfl) (by rfl) T.b_all (by decide +kernel) (pa_cons (pe_lc (own := [("letter", 1)]) rfl sc_is_word.nd (pi_str (pv 0)) (blkOk_by (own := [("letter", 1)]) (N := ["value", "letter"]) (sc := defScope s_is_word) (by decide +kernel)) (fun _ _ _ _ _ => (pg_name (i := 1) sc_is_word.nd rfl (Or.inl rfl))) (fun _ _ _ _ _ => pts_nil) (fun _ _ _ _ _ => (pe_chain op_le_str op_le_str pe_str (pv 1) pe_str))) pa_nil))))))), ?_⟩
    cases x with
    | str z =>
      have sz' : z.length ≤ sizeLine := fits_sz sz
      refine ⟨_, rfl, _, _, _, _, _, rfl, .ty _, ht, hs, _, rfl, ?_⟩
      refine ⟨_, rfl, rfl, _, rfl, ?_⟩
      rw [v_str_ne]
      refine itB (fun e1 => ?_) (fun e1 => ?_)
      · refine ⟨_, rfl, _, rfl, fun D hD => ?_⟩
        refine lcp_str (fun c => .bl (lett c)) sz' (fun c acc N hc hN => ?_) ?_
        · refine ⟨_, rfl, _, _, rfl, rfl, _, rfl, ?_⟩
          show if (!decide (([c] : List Nat) < [97])) = true then _ else _
          rw [(lett_eq c).1]
          refine itB (fun e2 => ?_) (fun e2 => ?_)
          · refine ⟨_, _, rfl, rfl, ?_⟩
            show N (.bl (!decide (([122] : List Nat) < [c]))) _
            rw [(lett_eq c).2, ← lett_of e2]
            exact hN
          · rw [lett_no e2] at hN
            exact hN
        · refine ⟨_, (cs z).map lett, rfl, SqL.of (by rw [upd_same, List.map_map]; rfl), ?_⟩
          have e4 : ((cs z).map lett).all id = isWord (.str z) := by
            show _ = (!(cs z).isEmpty && (cs z).all lett)
            rw [e1, List.all_map]
            rfl
          rw [e4]
          exact k _ (same_new hD)
      · have e4 : isWord (.str z) = false := by
          show (!(cs z).isEmpty && (cs z).all lett) = false
          rw [e1]
          rfl
        rw [e4] at k0
        exact k0
    | _ =>
      refine ⟨_, rfl, _, _, _, _, _, rfl, .ty _, ht, hs, _, rfl, ?_⟩
      exact k0
theorem sc_is_text : FnScope ["value"] ["value"] (defScope s_is_text) := ⟨rfl, rfl, rfl, by decide +kernel, rfl, by decide +kernel, by decide +kernel⟩
theorem ok_is_text {f : Addr} {fd : FuncData} (F : Fun K "is_text" "is_text" s_is_text f fd) (T : Txt K mg C) (c_is_word : HasO P w K mg base CX0 1 "is_word" ["value"] (spIs K isWord)) : FnOk P w K mg base CX0 2 f fd ["value"] (spIs K isText) := by
  refine F.ok sc_is_text (fun vs H Q E h => ?_) (fun cdv A outer s H vs Q E hr h => ?_)
  · obtain ⟨x, rfl, _⟩ := h
    rfl
  · have hu := hu_of hr
    obtain ⟨x, rfl, ty, sz, k⟩ := h
    obtain ⟨t, ht, hs, hi, hb⟩ := id ty
    have k0 := k H (Same.refl H)
    refine ⟨_, (pss_cons (ps_if (PW.pt (pw_or (pt_not (pt_val (pe_callB (g_isi K) (by rfl) T.b_isinstance (by decide +kernel) (pa_cons (pv 0) (pa_cons (pe_bltn (v := .ty "str") rfl T.b_str (by decide +kernel) rfl) pa_nil))))) (pw_or1 (pt_cmpR op_gt (pe_callB call_len_str (by rfl) T.b_len (by decide +kernel) (pa_cons (pv 0) pa_nil)) (pe_glob (v := .int 8000) rfl T.g_TEXT_SIGNS.choose_spec ⟨_, rfl⟩) (nomark _))))) (pss_one (ps_ret pe_bl)) pss_nil)
      (pss_one (ps_ret (pe_or (pe_cmpR op_eq (pv 0) pe_str (nomark _)) (pe_one (pe_hasO c_is_word (hr.mono (by decide)) pass0 (pa_cons (pv 0) pa_nil))))))), ?_⟩
    cases x with
    | str z =>
      have sz' : z.length ≤ sizeLine := fits_sz sz
      refine ⟨_, rfl, _, _, _, _, _, rfl, .ty _, ht, hs, _, rfl, ?_⟩
      refine ⟨_, rfl, _, rfl, sz', _, _, rfl, rfl, _, rfl, ?_⟩
      refine itB (fun e1 => ?_) (fun e1 => ?_)
      · have e2 := of_decide_eq_true e1
        have e4 : isText (.str z) = false := by
          show (decide ((cs z).length ≤ 8000) && (cs z).all lett) = false
          rw [cs_len, decide_eq_false (by omega)]
          rfl
        rw [e4] at k0
        exact k0
      · have e2 := of_decide_eq_false e1
        have e4 : isText (.str z) = (cs z).all lett := by
          show (decide ((cs z).length ≤ 8000) && (cs z).all lett) = _
          rw [cs_len, decide_eq_true (by omega)]
          rfl
        refine ⟨_, rfl, rfl, _, rfl, ?_⟩
        rw [v_str_eq]
        refine itB (fun e3 => ?_) (fun e3 => ?_)
        · have e5 : isText (.str z) = true := by
            rw [e4]
            cases hz : cs z with
            | nil => rfl
            | cons a l =>
              rw [hz] at e3
              cases e3
          rw [e5] at k0
          exact k0
        · refine ⟨_, rfl, _, rfl, ty, sz, fun H' s' => ?_⟩
          have e5 : isWord (.str z) = isText (.str z) := by
            rw [e4]
            show (!(cs z).isEmpty && (cs z).all lett) = _
            rw [e3]
            rfl
          rw [e5]
          exact k _ s'
    | _ =>
      refine ⟨_, rfl, _, _, _, _, _, rfl, .ty _, ht, hs, _, rfl, ?_⟩
      exact k0
theorem sc_is_piece : FnScope ["value"] ["value"] (defScope s_is_piece) := ⟨rfl, rfl, rfl, by decide +kernel, rfl, by decide +kernel, by decide +kernel⟩
theorem ok_is_piece {f : Addr} {fd : FuncData} (F : Fun K "is_piece" "is_piece" s_is_piece f fd) (T : Txt K mg C) (c_is_word : HasO P w K mg base CX0 1 "is_word" ["value"] (spIs K isWord)) : FnOk P w K mg base CX0 2 f fd ["value"] (spIs K isPiece) := by
  refine F.ok sc_is_piece (fun vs H Q E h => ?_) (fun cdv A outer s H vs Q E hr h => ?_)
  · obtain ⟨x, rfl, _⟩ := h
    rfl
  · have hu := hu_of hr
    obtain ⟨x, rfl, ty, sz, k⟩ := h
    obtain ⟨t, ht, hs, hi, hb⟩ := id ty
    have k0 := k H (Same.refl H)
    refine ⟨_, (pss_one (ps_ret (pe_and (pe_callB (g_isi K) (by rfl) T.b_isinstance (by decide +kernel) (pa_cons (pv 0) (pa_cons (pe_bltn (v := .ty "str") rfl T.b_str (by decide +kernel) rfl) pa_nil))) (pe_and (pe_chain op_le op_le pe_int (pe_callB call_len_str (by rfl) T.b_len (by decide +kernel) (pa_cons (pv 0) pa_nil)) (pe_glob (v := .int 5) rfl T.g_PIECE_SIGNS.choose_spec ⟨_, rfl⟩)) (pe_one (pe_hasO c_is_word (hr.mono (by decide)) pass0 (pa_cons (pv 0) pa_nil))))))), ?_⟩
    cases x with
    | str z =>
      have sz' : z.length ≤ sizeLine := fits_sz sz
      refine ⟨_, rfl, _, _, _, _, _, rfl, .ty _, ht, hs, _, rfl, ?_⟩
      refine ⟨_, rfl, _, rfl, sz', _, _, rfl, rfl, _, rfl, ?_⟩
      refine itB (fun e1 => ?_) (fun e1 => ?_)
      · have e1' := of_decide_eq_true e1
        refine ⟨_, _, rfl, rfl, _, rfl, ?_⟩
        refine itB (fun e2 => ?_) (fun e2 => ?_)
        · have e2' := of_decide_eq_true e2
          refine ⟨_, rfl, _, rfl, ty, sz, fun H' s' => ?_⟩
          have e5 : isWord (.str z) = isPiece (.str z) := by
            show (!(cs z).isEmpty && (cs z).all lett) = (decide (1 ≤ (cs z).length) && decide ((cs z).length ≤ 5) && (cs z).all lett)
            rw [cs_len, decide_eq_true (by omega), decide_eq_true (by omega)]
            have : (cs z).isEmpty = false := by
              cases hz : cs z with
              | nil =>
                have := cs_len z
                rw [hz] at this
                simp at this
                omega
              | cons a l => rfl
            rw [this]
            rfl
          rw [e5]
          exact k _ s'
        · have e2' := of_decide_eq_false e2
          have e4 : isPiece (.str z) = false := by
            show (decide (1 ≤ (cs z).length) && decide ((cs z).length ≤ 5) && (cs z).all lett) = false
            rw [cs_len, decide_eq_false (by omega : ¬ z.length ≤ 5), Bool.and_false]
            rfl
          rw [e4] at k0
          exact k0
      · have e1' := of_decide_eq_false e1
        have e4 : isPiece (.str z) = false := by
          show (decide (1 ≤ (cs z).length) && decide ((cs z).length ≤ 5) && (cs z).all lett) = false
          rw [cs_len, decide_eq_false (by omega : ¬ 1 ≤ z.length)]
          rfl
        rw [e4] at k0
        exact ⟨_, rfl, k0⟩
    | _ =>
      refine ⟨_, rfl, _, _, _, _, _, rfl, .ty _, ht, hs, _, rfl, ?_⟩
      exact k0
theorem sc_is_integer_within : FnScope ["value", "least", "most"] ["value", "least", "most"] (defScope s_is_integer_within) := ⟨rfl, rfl, rfl, by decide +kernel, rfl, by decide +kernel, by decide +kernel⟩
theorem ok_is_integer_within {f : Addr} {fd : FuncData} (F : Fun K "is_integer_within" "is_integer_within" s_is_integer_within f fd) (T : Txt K mg C) (c_is_integer : HasO P w K mg base CX0 1 "is_integer" ["value"] (spIsI K isInteger)) : FnOk P w K mg base CX0 2 f fd ["value", "least", "most"] (spWithin K) := by
  refine F.ok sc_is_integer_within (fun vs H Q E h => ?_) (fun cdv A outer s H vs Q E hr h => ?_)
  · obtain ⟨x, a, b, rfl, _⟩ := h
    rfl
  · have hu := hu_of hr
    obtain ⟨x, a, b, rfl, ty, k⟩ := h
    refine ⟨_, (pss_one (ps_ret (pe_and (pe_hasO c_is_integer (hr.mono (by decide)) pass0 (pa_cons (pv 0) pa_nil)) (pe_one (pe_chain op_le op_le (pv 1) (pv 0) (pv 2)))))), ?_⟩
    refine ⟨_, rfl, _, rfl, ty, fun H1 s1 => ⟨_, rfl, ?_⟩⟩
    have k1 := k H1 s1
    cases x with
    | int i =>
      refine itB (fun e => ?_) (fun e => ?_)
      · have e' : decide (i.natAbs < 10 ^ 60) = true := e
        have e2 : inRange (.int i) a b = (decide (a ≤ i) && decide (i ≤ b)) := by
          show (decide (i.natAbs < 10 ^ 60) && (decide (a ≤ i) && decide (i ≤ b))) = _
          rw [e']
          rfl
        rw [e2] at k1
        exact chain_le (a := a) (b := i) (c := b) (fun N hN => ⟨_, rfl, hN⟩) (fun N hN => ⟨_, rfl, hN⟩) (fun N hN => ⟨_, rfl, hN⟩) k1
      · have e' : decide (i.natAbs < 10 ^ 60) = false := e
        have e2 : inRange (.int i) a b = false := by
          show (decide (i.natAbs < 10 ^ 60) && (decide (a ≤ i) && decide (i ≤ b))) = _
          rw [e']
          rfl
        rw [e2] at k1
        exact k1
    | _ => exact k1
theorem sc_is_price : FnScope ["value"] ["value"] (defScope s_is_price) := ⟨rfl, rfl, rfl, by decide +kernel, rfl, by decide +kernel, by decide +kernel⟩
theorem ok_is_price {f : Addr} {fd : FuncData} (F : Fun K "is_price" "is_price" s_is_price f fd) (T : Txt K mg C) (c_is_integer_within : HasO P w K mg base CX0 2 "is_integer_within" ["value", "least", "most"] (spWithin K)) : FnOk P w K mg base CX0 3 f fd ["value"] (spIsI K isPrice) := by
  refine F.ok sc_is_price (fun vs H Q E h => ?_) (fun cdv A outer s H vs Q E hr h => ?_)
  · obtain ⟨x, rfl, _⟩ := h
    rfl
  · have hu := hu_of hr
    obtain ⟨x, rfl, ty, k⟩ := h
    refine ⟨_, (pss_one (ps_ret (pe_hasO c_is_integer_within (hr.mono (by decide)) pass0 (pa_cons (pv 0) (pa_cons pe_int (pa_cons (pe_glob (v := .int 99) rfl T.g_MAX_PRICE.choose_spec ⟨_, rfl⟩) pa_nil)))))), ?_⟩
    exact ⟨_, rfl, x, 1, 99, rfl, ty, k⟩
theorem sc_are_prices : FnScope ["value", "piece", "sign", "price"] ["value"] (defScope s_are_prices) := ⟨rfl, rfl, rfl, by decide +kernel, rfl, by decide +kernel, by decide +kernel⟩
theorem ok_are_prices {f : Addr} {fd : FuncData} (F : Fun K "are_prices" "are_prices" s_are_prices f fd) (T : Txt K mg C) (c_is_piece : HasO P w K mg base CX0 2 "is_piece" ["value"] (spIs K isPiece)) (c_is_price : HasO P w K mg base CX0 3 "is_price" ["value"] (spIsI K isPrice)) : FnOk P w K mg base CX0 4 f fd ["value"] (spArePrices K) := by
  refine F.ok sc_are_prices (fun vs H Q E h => ?_) (fun cdv A outer s H vs Q E hr h => ?_)
  · obtain ⟨x, rfl, _⟩ := h
    rfl
  · have hu := hu_of hr
    obtain ⟨x, rfl, hx⟩ := h
    refine ⟨_, (pss_cons (ps_if (PW.pt (pw_or (pt_not (pt_val (pe_callB (g_isi K) (by rfl) T.b_isinstance (by decide +kernel) (pa_cons (pv 0) (pa_cons (pe_bltn (v := .ty "dict") rfl T.b_dict (by decide +kernel) rfl) pa_nil))))) (pw_or1 (pt_not (pt_chain op_le op_le pe_int (pe_callB call_lenF (by rfl) T.b_len (by decide +kernel) (pa_cons (pv 0) pa_nil)) (pe_glob (v := .int 12) rfl T.g_MAX_PIECES.choose_spec ⟨_, rfl⟩)))))) (pss_one (ps_ret pe_bl)) pss_nil)
      (pss_cons (ps_if (pt_not (pt_val (pe_callB (g_all K rfl) (by rfl) T.b_all (by decide +kernel) (pa_cons (pe_lock (by exact (pe_lc (own := [("piece", 1), ("price", 3)]) rfl sc_are_prices.nd (pi_items (pv 0)) (blkOk_by (own := [("piece", 1), ("price", 3)]) (N := ["value", "piece", "sign", "price"]) (sc := defScope s_are_prices) (by decide +kernel)) (fun _ _ _ _ _ => (g_tup K (n := 2) rfl (pgs_cons (pg_name (i := 1) sc_are_prices.nd rfl (Or.inl rfl)) (pgs_cons (pg_name (i := 3) sc_are_prices.nd rfl (Or.inl rfl)) pgs_nil)))) (fun _ _ _ _ _ => pts_nil) (fun _ _ _ _ _ => (pe_and (pe_hasO c_is_piece (hr.mono (by decide)) pass0 (pa_cons (pv 1) pa_nil)) (pe_one (pe_hasO c_is_price (hr.mono (by decide)) pass0 (pa_cons (pv 3) pa_nil)))))))) pa_nil)))) (pss_one (ps_ret pe_bl)) pss_nil)
      (pss_cons (ps_if (pt_cmpR op_gt (pe_callB (g_len_seq K) (by rfl) T.b_len (by decide +kernel) (pa_cons (pe_lock (by exact (pe_lc (own := [("piece", 1)]) rfl sc_are_prices.nd (pi_keys (pv 0)) (blkOk_by (own := [("piece", 1)]) (N := ["value", "piece", "sign", "price"]) (sc := defScope s_are_prices) (by decide +kernel)) (fun _ _ _ _ _ => (pg_name (i := 1) sc_are_prices.nd rfl (Or.inl rfl))) (fun _ _ _ _ _ => (pts_one (pt_cmpR op_eq (pe_callB call_len_str (by rfl) T.b_len (by decide +kernel) (pa_cons (pv 1) pa_nil)) pe_int (nomark _)))) (fun _ _ _ _ _ => (pv 1))))) pa_nil)) (pe_glob (v := .int 4) rfl T.g_MAX_ALPHABET.choose_spec ⟨_, rfl⟩) (nomark _)) (pss_one (ps_ret pe_bl)) pss_nil)
      (pss_one (ps_ret (pe_callB (g_all K rfl) (by rfl) T.b_all (by decide +kernel) (pa_cons (pe_lock (by exact (pe_lc2 (own := [("piece", 1), ("sign", 2)]) (vs1 := [2]) rfl sc_are_prices.nd (pi_keys (pv 0)) (blkOk_by (own := [("piece", 1), ("sign", 2)]) (N := ["value", "piece", "sign", "price"]) (sc := defScope s_are_prices) (by decide +kernel)) (by decide) (fun _ _ _ _ _ => (pg_name (i := 1) sc_are_prices.nd rfl (Or.inl rfl))) (fun _ _ _ _ _ => pts_nil) (fun _ _ _ _ _ => (pi_str (pv 1))) (fun _ _ _ _ _ => (pg_name (i := 2) sc_are_prices.nd rfl (Or.inl rfl))) (fun _ _ _ _ _ => pts_nil) (fun _ _ _ _ _ => (pe_cmp (pc_din hu (pv 2) (pv 0))))))) pa_nil))))))), ?_⟩
    rcases hx with ⟨t, ht, hdict, k⟩ | ⟨a, kvs, rfl, ha, hn, ok, k⟩
    · refine ⟨_, rfl, _, _, _, _, _, rfl, .ty _, ht, hdict, _, rfl, ?_⟩
      exact k H (Same.refl H)
    refine ⟨_, rfl, _, _, _, _, _, rfl, .ty _, .base (.dK ha), kit_ty (show kitB "dict" "dict" = some true by decide +kernel), _, rfl, ?_⟩
    refine ⟨_, rfl, _, _, rfl, .inl ha, _, _, rfl, rfl, _, rfl, ?_⟩
    have k0 := k H (Same.refl H)
    have fz : ∀ od, (upd H a (.frz od (.dK kvs))) a = some (.frz od (.dK kvs)) := fun od => upd_same
    unfold arePrices at k k0
    -- 1 <= len(value) <= MAX_PIECES
    cases e1 : decide (1 ≤ (kvs.length : Int)) with
    | false =>
      rw [e1] at k0
      exact ⟨_, rfl, k0⟩
    | true =>
    rw [e1] at k k0
    refine ⟨_, _, rfl, rfl, _, rfl, ?_⟩
    cases e2 : decide ((kvs.length : Int) ≤ 12) with
    | false =>
      rw [e2] at k0
      exact k0
    | true =>
    rw [e2] at k k0
    -- the pieces and the prices
    refine ⟨a, _, ha, trivial, fun od => ?_⟩
    refine ⟨_, rfl, a, od, kvs, rfl, upd_same, fun D hD => ?_⟩
    have nDa := lock_ne hD
    refine lcs kvs walk_kv (fun kv => some (.bl (isPiece (kV kv.1) && isPrice kv.2))) hD (by omega) (fun H' s => s _ _ (fz od)) ?_ ?_
    · rintro i kv x H2 H3 hi s ⟨T, k', v', e, rfl, hT, rfl⟩ N M hN hM
      have ekv : kv = (k', v') := Option.some.inj (hi.symm.trans e)
      subst ekv
      obtain ⟨sz, tyv⟩ := ok _ (List.mem_of_getElem? hi)
      have sH : ∀ {H'}, Same H2 H' → Same (upd H a (.frz od (.dK kvs))) H' := fun z => s.trans z
      refine ⟨T, _, rfl, SqT.of upd_same, rfl, _, _, rfl, _, _, rfl, rfl, rfl, ?_⟩
      have sT : Same H2 (upd H2 T (.tup [kV k', v'])) := same_new hT
      refine ⟨_, rfl, _, rfl, tyd_key _, sz, fun H4 s4 => ⟨_, rfl, ?_⟩⟩
      refine itB (fun p1 => ?_) (fun p1 => ?_)
      · refine ⟨_, rfl, _, rfl, tyv _ (((Sim.lock ha).then s).then (sT.trans s4)), fun H5 s5 => ?_⟩
        refine hN _ _ ?_ (sT.trans (s4.trans s5))
        show some (V.bl (isPiece (kV k') && isPrice v')) = _
        rw [p1]
        rfl
      · refine hN _ _ ?_ (sT.trans s4)
        show some (V.bl (isPiece (kV k') && isPrice v')) = _
        rw [p1]
        rfl
    rintro H2 s2 e2'
    have S2 : Same H (upd H2 a (.dK kvs)) := unlock ha s2
    refine ⟨s2 _ _ (fz od), _, kvs.map (fun kv => isPiece (kV kv.1) && isPrice kv.2), rfl, SqL.of (by rw [upd_ne nDa, e2', List.map_map, List.filterMap_eq_map']; rfl), _, rfl, ?_⟩
    have k2 := k _ S2
    have a2 : (upd H2 a (.dK kvs)) a = some (.dK kvs) := upd_same
    generalize upd H2 a (.dK kvs) = H3 at S2 k2 a2 ⊢
    have e3' : ((kvs.map fun kv => isPiece (kV kv.1) && isPrice kv.2).all id) = (kvs.all fun kv => isPiece (kV kv.1) && isPrice kv.2) := by
      rw [List.all_map]
      rfl
    rw [e3']
    clear e3' e2' s2 H2 hD nDa k0 fz od D
    cases e3 : (kvs.all fun kv => isPiece (kV kv.1) && isPrice kv.2) with
    | false =>
      rw [e3] at k2
      exact k2
    | true =>
    rw [e3] at k k2
    have hk := keys_of e3
    have hp := keyStrs_piece e3
    have ln : (keyStrs kvs).length = kvs.length := by
      have h := congrArg List.length hk
      rw [List.length_map, List.length_map] at h
      exact h.symm
    -- how many single signs
    refine ⟨a, _, a2, trivial, fun od => ?_⟩
    refine ⟨_, rfl, a, od, rfl, .inl ⟨kvs, upd_same, fun D hD => ?_⟩⟩
    have nDa := lock_ne hD
    refine lcs kvs walk_keys (fun kv => match kv.1 with | .inr z => if decide ((cs z).length = 1) = true then some (.str z) else none | .inl _ => none) hD (by omega) (fun H' s => s _ _ upd_same) ?_ ?_
    · rintro i kv x H4 H5 hi s ⟨rfl, k', v', e, rfl⟩ N M hN hM
      have ekv : kv = (k', v') := Option.some.inj (hi.symm.trans e)
      subst ekv
      obtain ⟨z, hz⟩ : ∃ z, k' = Sum.inr z := by
        have h1 := congrArg (fun l => l[i]?) hk
        simp only [List.getElem?_map, hi] at h1
        cases h2 : (keyStrs kvs)[i]? with
        | none => rw [h2] at h1; cases h1
        | some z => rw [h2] at h1; exact ⟨z, Option.some.inj h1⟩
      subst hz
      have zs := (ok _ (List.mem_of_getElem? hi)).1
      refine ⟨rfl, _, rfl, _, rfl, fits_sz zs, rfl, _, rfl, ?_⟩
      rw [v_len_eq1]
      refine itB (fun q1 => ?_) (fun q1 => ?_)
      · refine ⟨_, rfl, hN _ _ ?_ (Same.refl _)⟩
        show (if decide ((cs z).length = 1) = true then some (V.str z) else none) = _
        rw [if_pos q1]
        rfl
      · refine hM _ ?_ (Same.refl _)
        show (if decide ((cs z).length = 1) = true then some (V.str z) else none) = _
        rw [if_neg (by rw [q1]; exact Bool.false_ne_true)]
    rintro H4 s4 e4
    have e5 : (kvs.filterMap fun kv => match kv.1 with | .inr z => if decide ((cs z).length = 1) = true then some (V.str z) else none | .inl _ => none) = ((keyStrs kvs).filter fun z => decide ((cs z).length = 1)).map V.str := singles kvs
    rw [e5] at e4
    have S4 : Same H (upd H4 a (.dK kvs)) := S2.trans (unlock a2 s4)
    refine ⟨s4 _ _ upd_same, _, _, rfl, .inl (SqL.of (by rw [upd_ne nDa]; exact e4)), _, _, rfl, rfl, _, rfl, ?_⟩
    have k4 := k _ S4
    have a4 : (upd H4 a (.dK kvs)) a = some (.dK kvs) := upd_same
    generalize upd H4 a (.dK kvs) = H5 at S4 k4 a4 ⊢
    clear e4 e5 s4 H4 hD nDa od D S2 k2 a2 H3
    rw [List.length_map]
    cases e6 : decide (((keyStrs kvs).filter fun z => decide ((cs z).length = 1)).length ≤ 4) with
    | false =>
      rw [e6] at k4
      refine itT (decide_eq_true (by have := of_decide_eq_false e6; omega)) ?_
      exact k4
    | true =>
    rw [e6] at k k4
    refine itF (decide_eq_false (by have := of_decide_eq_true e6; omega)) ?_
    -- each sign of each piece
    have fl := flat_len (zs := keyStrs kvs) fun z hz => (hp z hz).2.1
    refine ⟨a, _, a4, trivial, fun od => ?_⟩
    refine ⟨_, rfl, a, od, rfl, .inl ⟨kvs, upd_same, fun D hD => ?_⟩⟩
    have nDa := lock_ne hD
    refine lc2_ks (zs := keyStrs kvs) hk (fun c => .bl (valV kvs (Sum.inr (ch c))).isSome) upd_same hD (by omega) (fun _ => rfl) (fun _ _ => rfl) (fun _ => rfl) ?_ ?_
    · intro z hz c hc H6 s6 N hN
      exact ⟨_, rfl, _, rfl, a, _, rfl, Or.inl ⟨kvs, Sum.inr (ch c), Or.inr ⟨od, s6 _ _ upd_same⟩, rfl, rfl⟩, hN _ (Same.refl _)⟩
    rintro H6 s6 e7
    refine ⟨s6 _ _ upd_same, _, ((keyStrs kvs).map cs).flatten.map (fun c => (valV kvs (Sum.inr (ch c))).isSome), rfl, SqL.of (by rw [upd_ne nDa, e7, List.map_map]; rfl), ?_⟩
    rw [List.all_map]
    exact k _ (S4.trans (unlock a4 s6))
theorem sc_Book___init__ : FnScope ["self", "prices", "piece"] ["self", "prices"] (defScope s_Book___init__) := ⟨rfl, rfl, rfl, by decide +kernel, rfl, by decide +kernel, by decide +kernel⟩
theorem ok_Book___init__ {f : Addr} {fd : FuncData} (F : Fun K "__init__" "Book.__init__" s_Book___init__ f fd) (T : Txt K mg C) (c_are_prices : HasO P w K mg base CX0 4 "are_prices" ["value"] (spArePrices K)) : FnOk P w K mg base CX0 5 f fd ["self", "prices"] (spBook C K) := by
  refine F.ok sc_Book___init__ (fun vs H Q E h => ?_) (fun cdv A outer s H vs Q E hr h => ?_)
  · obtain ⟨b, dx, a, kvs, rfl, _⟩ := h
    rfl
  · have hu := hu_of hr
    obtain ⟨b, dx, a, kvs, rfl, hb, ha, ok, av, nd, k⟩ := h
    refine ⟨_, (pss_frz (pss_cons (ps_if (pt_not (pt_val (pe_hasO c_are_prices (hr.mono (by decide)) pass0 (pa_cons (pv 1) pa_nil)))) (pss_one ps_never) pss_nil)
      (pss_cons (ps_fld (pv 0) (pe_dc (own := [("piece", 2)]) rfl sc_Book___init__.nd (g_list K (pe_callB (g_sortedS K) (by rfl) T.b_sorted (by decide +kernel) (pa_cons (pe_callTy (call_listD rfl) (by rfl) T.b_list (by decide +kernel) (pa_cons (pv 1) pa_nil)) pa_nil))) (blkOk_by (own := [("piece", 2)]) (N := ["self", "prices", "piece"]) (sc := defScope s_Book___init__) (by decide +kernel)) (fun _ _ _ _ _ => (pg_name (i := 2) sc_Book___init__.nd rfl (Or.inl rfl))) (fun _ _ _ _ _ => pts_nil) (fun _ _ _ _ _ => (pv 2)) (fun _ _ _ _ _ => (pe_dget hu (pv 1) (pv 2) (fun _ _ => rfl)))) rfl)
      (pss_cons (ps_fld (pv 0) (pe_callTy (g_tuple_of K) (by rfl) T.b_tuple (by decide +kernel) (pa_cons (pe_callTy (call_listD rfl) (by rfl) T.b_list (by decide +kernel) (pa_cons (g_fld K (pv 0)) pa_nil)) pa_nil)) rfl)
      (pss_cons (ps_fld (pv 0) (pe_callTy (g_tuple_of K) (by rfl) T.b_tuple (by decide +kernel) (pa_cons (pe_lc (own := [("piece", 2)]) rfl sc_Book___init__.nd (g_tuple K (g_fld K (pv 0))) (blkOk_by (own := [("piece", 2)]) (N := ["self", "prices", "piece"]) (sc := defScope s_Book___init__) (by decide +kernel)) (fun _ _ _ _ _ => (pg_name (i := 2) sc_Book___init__.nd rfl (Or.inl rfl))) (fun _ _ _ _ _ => (pts_one (pt_cmpR op_eq (pe_callB call_len_str (by rfl) T.b_len (by decide +kernel) (pa_cons (pv 2) pa_nil)) pe_int (nomark _)))) (fun _ _ _ _ _ => (pv 2))) pa_nil)) rfl)
      (pss_cons (ps_fld (pv 0) (pe_callB (g_max K rfl) (by rfl) T.b_max (by decide +kernel) (pa_cons (pe_lc (own := [("piece", 2)]) rfl sc_Book___init__.nd (g_tuple K (g_fld K (pv 0))) (blkOk_by (own := [("piece", 2)]) (N := ["self", "prices", "piece"]) (sc := defScope s_Book___init__) (by decide +kernel)) (fun _ _ _ _ _ => (pg_name (i := 2) sc_Book___init__.nd rfl (Or.inl rfl))) (fun _ _ _ _ _ => pts_nil) (fun _ _ _ _ _ => (pe_callB call_len_str (by rfl) T.b_len (by decide +kernel) (pa_cons (pv 2) pa_nil)))) pa_nil)) rfl)
      (pss_one (ps_fld (pv 0) (pe_callB (g_max K rfl) (by rfl) T.b_max (by decide +kernel) (pa_cons (pe_callTy (call_listVw rfl) (by rfl) T.b_list (by decide +kernel) (pa_cons (g_bm0 K PySem.F.plainAttrs_dict PySem.F.slot_dict_values PySem.F.type_dict_values mt_values (g_fld K (pv 0))) pa_nil)) pa_nil)) rfl)))))))), ?_⟩
    obtain ⟨⟨n1, n2⟩, al, f4, fs⟩ := ap_parts av
    have nb : b ≠ a := fun e => by
      rw [e, ha] at hb
      cases hb
    refine ⟨_, rfl, _, rfl, .inr ⟨a, kvs, rfl, ha, by omega, ok, fun H1 s1 => ⟨_, congrArg V.bl av, ?_⟩⟩⟩
    have hk := keys_of al
    have hkV : (kvs.map fun kv => kV kv.1) = (keyStrs kvs).map V.str := by
      have h := congrArg (List.map kV) hk
      rw [List.map_map, List.map_map] at h
      exact h
    have ln : (keyStrs kvs).length = kvs.length := by
      have h := congrArg List.length hk
      rw [List.length_map, List.length_map] at h
      exact h.symm
    -- the prices
    refine ⟨_, rfl, a, kvs, rfl, .inl (s1 _ _ ha), fun p hp => ?_⟩
    refine ⟨p, keyStrs kvs, rfl, SqL.of (by rw [upd_same, hkV]), by omega, fun ys p2 pm so hp2 => ?_⟩
    refine ⟨p2, rfl, ⟨_, SqL.of upd_same⟩, fun D hD => ?_⟩
    have ly : ys.length = kvs.length := by rw [pm.length_eq, ln]
    have ndk : (keyStrs kvs).Nodup := by
      rw [hk] at nd
      exact nd_of_map nd
    have ndy : ys.Nodup := pm.nodup_iff.mpr ndk
    have s2 : Same H (upd (upd H1 p (.lst (kvs.map fun kv => kV kv.1))) p2 (.lst (ys.map V.str))) := (s1.trans (same_new hp)).trans (same_new hp2)
    have l2 : (upd (upd H1 p (.lst (kvs.map fun kv => kV kv.1))) p2 (.lst (ys.map V.str))) p2 = some (.lst (ys.map V.str)) := upd_same
    generalize (upd (upd H1 p (.lst (kvs.map fun kv => kV kv.1))) p2 (.lst (ys.map V.str))) = H2 at s2 l2 hD ⊢
    have nDb : D ≠ b := (ne_of_none (s2 _ _ hb) hD).symm
    have hDn := not_there s2 hD
    refine dcs ys (walk_listF (K := K) V.str ys) (fun z => (Sum.inr z, .int (priceIn kvs z))) (nd_map (f := fun z : Str => (Sum.inr z : Key)) (fun _ _ h => Sum.inr.inj h) ndy) hD (by omega) (fun H' s => SqL.of (s _ _ l2)) ?_ ?_
    · rintro i z x H3 H4 hi s3 ⟨rfl, z', ez, rfl⟩ N M hN
      have e1 : z = z' := Option.some.inj (hi.symm.trans ez)
      subst e1
      exact ⟨wipe_set, _, rfl, _, rfl, _, rfl, a, _, rfl, .inl ⟨kvs, Sum.inr z, .inl (s3 _ _ (s2 _ _ ha)), rfl, (price_of_key al (pm.mem_iff.mp (List.mem_of_getElem? hi))).1.symm⟩, hN _ (Same.refl _)⟩
    rintro H3 s3 e3
    have e3' : H3 D = some (.dK (kvOf (psOf kvs ys))) := by
      rw [e3]
      unfold kvOf psOf
      rw [List.map_map]
      rfl
    have b3 := s3 _ _ (s2 _ _ hb)
    have hps : (psOf kvs ys).map (fun p => V.str p.1) = ys.map V.str := by
      unfold psOf
      rw [List.map_map]
      rfl
    refine ⟨_, rfl, b, C, dx, [], rfl, b3, T.cl, T.n_own_prices, by decide, ?_⟩
    have k3 : Kp b H (upd H3 b (.ins C dx (putF "own_prices" (.ref D) []))) := (Kp.of (s2.trans s3)).trans Kp.upd
    have d3 : upd H3 b (.ins C dx (putF "own_prices" (.ref D) [])) D = some (.dK (kvOf (psOf kvs ys))) := by
      rw [upd_ne nDb]
      exact e3'
    have o3 : upd H3 b (.ins C dx (putF "own_prices" (.ref D) [])) b = some (.ins C dx [(("own_prices" : Str), .ref D)]) := upd_same
    generalize upd H3 b (.ins C dx (putF "own_prices" (.ref D) [])) = H4 at k3 d3 o3 ⊢
    clear e3 e3' b3 s3 s2 l2 hD
    -- the pieces
    refine ⟨_, rfl, b, C, dx, _, _, rfl, o3, T.cl, T.n_own_prices, lk_at, D, _, rfl, .inl d3, fun p3 hp3 => ?_⟩
    refine ⟨p3, _, rfl, .inl ⟨SqL.of upd_same, fun tp htp => ?_⟩⟩
    rw [kv_keys, hps] at htp ⊢
    have npb : p3 ≠ b := (ne_of_none o3 hp3).symm
    have ntb : tp ≠ b := (ne_of_none ((same_new hp3) _ _ o3) htp).symm
    have o4' := (same_new hp3 (o := .lst (ys.map V.str))).trans (same_new htp (o := .tup (ys.map V.str)))
    refine ⟨_, rfl, b, C, dx, _, rfl, o4' _ _ o3, T.cl, T.n_own_pieces, by simp, ?_⟩
    rw [pf2]
    have k4 := (k3.trans (.of o4')).trans (Kp.upd (o := .ins C dx [(("own_prices" : Str), .ref D), ("own_pieces", .ref tp)]))
    have d4 : (upd (upd (upd H4 p3 (.lst (ys.map V.str))) tp (.tup (ys.map V.str))) b (.ins C dx [(("own_prices" : Str), .ref D), ("own_pieces", .ref tp)])) D = some (.dK (kvOf (psOf kvs ys))) := by
      rw [upd_ne nDb]
      exact o4' _ _ d3
    have t4 : (upd (upd (upd H4 p3 (.lst (ys.map V.str))) tp (.tup (ys.map V.str))) b (.ins C dx [(("own_prices" : Str), .ref D), ("own_pieces", .ref tp)])) tp = some (.tup (ys.map V.str)) := by
      rw [upd_ne ntb]
      exact upd_same
    have o4 : (upd (upd (upd H4 p3 (.lst (ys.map V.str))) tp (.tup (ys.map V.str))) b (.ins C dx [(("own_prices" : Str), .ref D), ("own_pieces", .ref tp)])) b = some (.ins C dx [(("own_prices" : Str), .ref D), ("own_pieces", .ref tp)]) := upd_same
    generalize (upd (upd (upd H4 p3 (.lst (ys.map V.str))) tp (.tup (ys.map V.str))) b (.ins C dx [(("own_prices" : Str), .ref D), ("own_pieces", .ref tp)])) = H5 at k4 d4 t4 o4 ⊢
    clear o4' htp hp3 npb k3 d3 o3
    -- the alphabet
    refine ⟨_, rfl, b, C, dx, _, _, rfl, o4, T.cl, T.n_own_pieces, (lk_by (by decide +kernel)).trans lk_at, tp, rfl, ⟨_, SqT.of t4⟩, fun L hL => ?_⟩
    have nLb : L ≠ b := (ne_of_none o4 hL).symm
    refine lcs ys (walk_tupF (K := K) V.str ys) (fun z => if decide ((cs z).length = 1) = true then some (V.str z) else none) hL (by omega) (fun H' s => SqT.of (s _ _ t4)) ?_ ?_
    · rintro i z x H6 H7 hi s6 ⟨rfl, z', ez, rfl⟩ N M hN hM
      have e1 : z = z' := Option.some.inj (hi.symm.trans ez)
      subst e1
      have hz := (keyStrs_piece al z (pm.mem_iff.mp (List.mem_of_getElem? hi))).2.1
      refine ⟨wipe_set, _, rfl, _, rfl, fits_sz (by rw [← cs_len]; omega), rfl, _, rfl, ?_⟩
      rw [v_len_eq1]
      refine itB (fun q1 => ?_) (fun q1 => ?_)
      · exact ⟨_, rfl, hN _ _ (if_pos q1) (Same.refl _)⟩
      · exact hM _ (if_neg (by rw [q1]; exact Bool.false_ne_true)) (Same.refl _)
    rintro H6 s6 e6
    rw [sgn_fm kvs ys] at e6
    refine ⟨L, _, rfl, .inl ⟨SqL.of e6, fun ta hta => ?_⟩⟩
    have nab : ta ≠ b := (ne_of_none (s6 _ _ o4) hta).symm
    have o6 := s6.trans (same_new hta (o := .tup ((sgn (psOf kvs ys)).map V.str)))
    refine ⟨_, rfl, b, C, dx, _, rfl, o6 _ _ o4, T.cl, T.n_own_alphabet, by simp, ?_⟩
    rw [pf3]
    have k6 := (k4.trans (.of o6)).trans (Kp.upd (o := .ins C dx [(("own_prices" : Str), .ref D), ("own_pieces", .ref tp), ("own_alphabet", .ref ta)]))
    have d6 : (upd (upd H6 ta (.tup ((sgn (psOf kvs ys)).map V.str))) b (.ins C dx [(("own_prices" : Str), .ref D), ("own_pieces", .ref tp), ("own_alphabet", .ref ta)])) D = some (.dK (kvOf (psOf kvs ys))) := by
      rw [upd_ne nDb]
      exact o6 _ _ d4
    have t6 : (upd (upd H6 ta (.tup ((sgn (psOf kvs ys)).map V.str))) b (.ins C dx [(("own_prices" : Str), .ref D), ("own_pieces", .ref tp), ("own_alphabet", .ref ta)])) tp = some (.tup (ys.map V.str)) := by
      rw [upd_ne ntb]
      exact o6 _ _ t4
    have a6 : (upd (upd H6 ta (.tup ((sgn (psOf kvs ys)).map V.str))) b (.ins C dx [(("own_prices" : Str), .ref D), ("own_pieces", .ref tp), ("own_alphabet", .ref ta)])) ta = some (.tup ((sgn (psOf kvs ys)).map V.str)) := by
      rw [upd_ne nab]
      exact upd_same
    have o6' : (upd (upd H6 ta (.tup ((sgn (psOf kvs ys)).map V.str))) b (.ins C dx [(("own_prices" : Str), .ref D), ("own_pieces", .ref tp), ("own_alphabet", .ref ta)])) b = some (.ins C dx [(("own_prices" : Str), .ref D), ("own_pieces", .ref tp), ("own_alphabet", .ref ta)]) := upd_same
    generalize (upd (upd H6 ta (.tup ((sgn (psOf kvs ys)).map V.str))) b (.ins C dx [(("own_prices" : Str), .ref D), ("own_pieces", .ref tp), ("own_alphabet", .ref ta)])) = H7 at k6 d6 t6 a6 o6' ⊢
    clear o6 e6 s6 hta hL k4 d4 t4 o4
    -- the longest
    refine ⟨_, rfl, b, C, dx, _, _, rfl, o6', T.cl, T.n_own_pieces, (lk_by (by decide +kernel)).trans lk_at, tp, rfl, ⟨_, SqT.of t6⟩, fun L hL => ?_⟩
    refine lcs ys (walk_tupF (K := K) V.str ys) (fun z => some (V.int (z.length : Int))) hL (by omega) (fun H' s => SqT.of (s _ _ t6)) ?_ ?_
    · rintro i z x H8 H9 hi s8 ⟨rfl, z', ez, rfl⟩ N M hN hM
      have e1 : z = z' := Option.some.inj (hi.symm.trans ez)
      subst e1
      have hz := (keyStrs_piece al z (pm.mem_iff.mp (List.mem_of_getElem? hi))).2.1
      exact ⟨wipe_set, _, rfl, _, rfl, fits_sz (by rw [← cs_len]; omega), hN _ _ rfl (Same.refl _)⟩
    rintro H8 s8 e8
    have ll : (ys.filterMap fun z => some (V.int (z.length : Int))) = (lens (psOf kvs ys)).map V.int := by
      rw [fm_some]
      unfold lens psOf
      rw [List.map_map, List.map_map]
      rfl
    rw [ll] at e8
    refine ⟨L, _, rfl, SqL.of e8, by unfold lens psOf; rw [List.length_map, List.length_map]; omega, fun lo lo1 lo2 => ?_⟩
    refine ⟨_, rfl, b, C, dx, _, rfl, s8 _ _ o6', T.cl, T.n_own_longest, by simp, ?_⟩
    rw [pf4]
    have k8 := (k6.trans (.of s8)).trans (Kp.upd (o := .ins C dx [(("own_prices" : Str), .ref D), ("own_pieces", .ref tp), ("own_alphabet", .ref ta), ("own_longest", .int lo)]))
    have d8 : (upd H8 b (.ins C dx [(("own_prices" : Str), .ref D), ("own_pieces", .ref tp), ("own_alphabet", .ref ta), ("own_longest", .int lo)])) D = some (.dK (kvOf (psOf kvs ys))) := by
      rw [upd_ne nDb]
      exact s8 _ _ d6
    have t8 : (upd H8 b (.ins C dx [(("own_prices" : Str), .ref D), ("own_pieces", .ref tp), ("own_alphabet", .ref ta), ("own_longest", .int lo)])) tp = some (.tup (ys.map V.str)) := by
      rw [upd_ne ntb]
      exact s8 _ _ t6
    have a8 : (upd H8 b (.ins C dx [(("own_prices" : Str), .ref D), ("own_pieces", .ref tp), ("own_alphabet", .ref ta), ("own_longest", .int lo)])) ta = some (.tup ((sgn (psOf kvs ys)).map V.str)) := by
      rw [upd_ne nab]
      exact s8 _ _ a6
    have o8 : (upd H8 b (.ins C dx [(("own_prices" : Str), .ref D), ("own_pieces", .ref tp), ("own_alphabet", .ref ta), ("own_longest", .int lo)])) b = some (.ins C dx [(("own_prices" : Str), .ref D), ("own_pieces", .ref tp), ("own_alphabet", .ref ta), ("own_longest", .int lo)]) := upd_same
    generalize (upd H8 b (.ins C dx [(("own_prices" : Str), .ref D), ("own_pieces", .ref tp), ("own_alphabet", .ref ta), ("own_longest", .int lo)])) = H9 at k8 d8 t8 a8 o8 ⊢
    clear s8 e8 hL k6 d6 t6 a6 o6'
    have ntD : tp ≠ D := fun e => by
      rw [e, d8] at t8
      cases t8
    have naD : ta ≠ D := fun e => by
      rw [e, d8] at a8
      cases a8
    -- the dearest
    refine ⟨_, rfl, b, C, dx, _, _, rfl, o8, T.cl, T.n_own_prices, lk_at, .inr (.inr (.inl ⟨rfl, .inl ⟨_, d8⟩⟩)), D, _, rfl, rfl, .inl d8, fun r hr => ?_⟩
    refine ⟨r, D, _, rfl, upd_same, .inl (same_new hr _ _ d8), fun q hq => ?_⟩
    rw [kv_vals] at *
    refine ⟨q, _, rfl, SqL.of upd_same, by unfold fees psOf; rw [List.length_map, List.length_map]; omega, fun de de1 de2 => ?_⟩
    have s9 := (same_new hr (o := vwV D r)).trans (same_new hq (o := .lst ((fees (psOf kvs ys)).map V.int)))
    refine ⟨_, rfl, b, C, dx, _, rfl, s9 _ _ o8, T.cl, T.n_own_dearest, by simp, ?_⟩
    rw [pf5]
    have k9 := (k8.trans (.of s9)).trans (Kp.upd (o := .ins C dx (bookF D tp ta lo de)))
    refine ⟨D, _, (upd_ne nDb).trans (s9 _ _ d8), trivial, fun od => ?_⟩
    refine k _ ys lo de D tp ta od pm so ⟨?_, upd_same, ?_, ?_, ⟨lo1, lo2⟩, ⟨de1, de2⟩⟩ ?_
    · exact (upd_ne nDb.symm).trans upd_same
    · rw [upd_ne ntD, upd_ne ntb, hps]
      exact s9 _ _ t8
    · rw [upd_ne naD, upd_ne nab]
      exact s9 _ _ a8
    · intro c o e n
      rw [upd_ne (ne_of_none e hDn)]
      exact k9 _ _ e n
theorem sc_prices_along : FnScope ["book", "text", "found", "stop", "best", "start", "price"] ["book", "text"] (defScope s_prices_along) := ⟨rfl, rfl, rfl, by decide +kernel, rfl, by decide +kernel, by decide +kernel⟩
theorem ok_prices_along {f : Addr} {fd : FuncData} (F : Fun K "prices_along" "prices_along" s_prices_along f fd) (T : Txt K mg C) : FnOk P w K mg base CX0 2 f fd ["book", "text"] (spAlong C) := by
  refine F.ok sc_prices_along (fun vs H Q E h => ?_) (fun cdv A outer s H vs Q E hr h => ?_)
  · obtain ⟨b, kvs, z, rfl, _⟩ := h
    rfl
  · have hu := hu_of hr
    obtain ⟨b, kvs, z, rfl, B, ov, hz, k⟩ := h
    refine ⟨_, (pss_cons (ps_set (i := 2) sc_prices_along.nd rfl (Or.inl rfl) (pe_lst (pa_cons pe_int pa_nil)))
      (pss_cons (ps_for PassesOwn.never rfl (pi_range2 (by rfl) T.b_range (pa_cons pe_int (pa_cons (pe_op op_add (pe_callB call_len_str (by rfl) T.b_len (by decide +kernel) (pa_cons (pv 1) pa_nil)) pe_int) pa_nil))) (pg_name (i := 3) sc_prices_along.nd rfl (Or.inl rfl)) (pss_cons (ps_set (i := 4) sc_prices_along.nd rfl (Or.inl rfl) (pe_op op_add (pe_ix (g_ix_list K) (pv 2) (pe_un un_neg pe_int) (fun _ _ => rfl)) (pe_dget hu (g_fld K (pv 0)) (pe_ix ix_str (pv 1) (pe_op op_sub (pv 3) pe_int) (fun _ _ => rfl)) (fun _ _ => rfl))))
      (pss_cons (ps_for PassesOwn.never rfl (pi_range2 (by rfl) T.b_range (pa_cons (pe_callB (call_max2 rfl) (by rfl) T.b_max (by decide +kernel) (pa_cons pe_int (pa_cons (pe_op op_sub (pv 3) (g_fld K (pv 0))) pa_nil))) (pa_cons (pe_op op_sub (pv 3) pe_int) pa_nil))) (pg_name (i := 5) sc_prices_along.nd rfl (Or.inl rfl)) (pss_cons (ps_set (i := 6) sc_prices_along.nd rfl (Or.inl rfl) (pe_dget1 hu (g_fld K (pv 0)) (pe_slice sl_str (pv 1) (po_some (pv 5)) (po_some (pv 3))) ⟨by rfl, by rfl, by rfl, by rfl⟩))
      (pss_one (ps_if (PW.pt (pw_and (pt_cmpR op_notN (pv 6) pe_non (nomark _)) (pw_and1 (pt_cmpR op_lt (pe_op op_add (pe_ix (g_ix_list K) (pv 2) (pv 5) (fun _ _ => rfl)) (pv 6)) (pv 4) (nomark _))))) (pss_one (ps_set (i := 4) sc_prices_along.nd rfl (Or.inl rfl) (pe_op op_add (pe_ix (g_ix_list K) (pv 2) (pv 5) (fun _ _ => rfl)) (pv 6)))) pss_nil))))
      (pss_one (ps_expr (g_bm K PySem.F.plainAttrs_list PySem.F.slot_list_append PySem.F.type_list_append mt_append (pv 2) (pa_cons (pv 4) pa_nil)))))))
      (pss_one (ps_ret (pv 2))))), ?_⟩
    obtain ⟨av, nd, ys, L, M, dx, d, tp, ta, od, pm, so, A⟩ := id B
    obtain ⟨_, al, _, _⟩ := ap_parts av
    have tar := tar_of av nd
    have good := tar.good
    have ef := tf_psOf al pm
    have lz := cs_len z
    obtain ⟨lm, lo⟩ := A.lo
    have hLz : ∀ y p, tfD kvs y = some p → ((cs y).length : Int) ≤ L := fun y p hy => by
      rw [cs_len]
      refine lo _ (List.mem_map.mpr ⟨(y, priceIn kvs y), List.mem_map.mpr ⟨y, pm.mem_iff.mpr ((tf_key al).mpr ⟨p, hy⟩), rfl⟩, rfl⟩)
    obtain ⟨Ln, rfl⟩ : ∃ Ln : Nat, L = (Ln : Int) := by
      obtain ⟨q, _, e⟩ := List.mem_map.mp lm
      exact ⟨q.1.length, e.symm⟩
    have hLn : ∀ y p, tfD kvs y = some p → (cs y).length ≤ Ln := fun y p hy => by have := hLz y p hy; omega
    have hL5 : Ln ≤ 5 ∧ 1 ≤ Ln := by
      obtain ⟨q, hq, e⟩ := List.mem_map.mp lm
      obtain ⟨y, hy, rfl⟩ := List.mem_map.mp hq
      have h1 := keyStrs_piece al y (pm.mem_iff.mp hy)
      have h2 := cs_len y
      have e' : (y.length : Int) = (Ln : Int) := e
      omega
    have at' : ∀ {H'} {y : Str}, Same H H' → DGet H' d (.str y) ((tfD kvs y).map V.int) := fun s => .inl ⟨_, Sum.inr _, .inr ⟨od, s _ _ A.dc⟩, rfl, by rw [tar_val (tar_book av pm), ef]⟩
    refine ⟨(by show 1 ≤ sizeLine; decide), fun fo hfo => ?_⟩
    refine ⟨_, rfl, z, rfl, fits_sz (by omega), _, _, rfl, rfl, 1, _, rfl, ⟨by omega, by omega, by omega, by omega⟩, for_range (lo := 1) (Pv := fun i σ H' => ∃ x3 x4 x5 x6, σ = [some (.ref b), some (.str z), some (.ref fo), x3, x4, x5, x6] ∧ Same H H' ∧ H' fo = some (.lst (rowV (tfD kvs) (cs z) (i + 1))))
      ⟨_, _, _, _, rfl, same_new hfo, by rw [upd_same, rowV_one good]⟩ ?_ ?_⟩
    · rintro i σ H1 hi ⟨x3, x4, x5, x6, rfl, s1, f1⟩
      have hi' : i < z.length := by omega
      have e1 : (1 : Int) + (i : Int) = ((i + 1 : Nat) : Int) := by omega
      rw [e1]
      have hl : ((cs z).take (i + 1)).length = i + 1 := by rw [List.length_take]; omega
      have ovl := ov.take (i + 1)
      obtain ⟨c, hc⟩ : ∃ c, (cs z)[i]? = some c := ⟨_, List.getElem?_eq_getElem (by omega)⟩
      obtain ⟨p, hp⟩ := ov c (List.mem_of_getElem? hc)
      have ob1 := s1 _ _ A.ob
      have hdrop : ((cs z).take (i + 1)).drop i = [c] := by
        rw [List.take_add_one, hc, List.drop_append, List.drop_of_length_le (by rw [List.length_take]; omega), List.length_take, Nat.min_eq_left (by omega), Nat.sub_self]
        rfl
      have htake : ∀ s, s ≤ i + 1 → ((cs z).take (i + 1)).take s = (cs z).take s := fun s hs => by rw [List.take_take, Nat.min_eq_left hs]
      have c0 : costF (tfD kvs) ((cs z).take (i + 1)) i = some (lp (tfD kvs) ((cs z).take i) + p) := by
        unfold costF
        rw [hdrop, htake i (by omega), show sOf [c] = ch c from rfl, hp]
        rfl
      refine ⟨_, rfl, _, rfl, fo, _, _, _, rfl, rfl, SqL.of f1, by rw [rowV_succ]; exact atI_last, _, rfl, b, C, dx, _, _, rfl, ob1, T.cl, T.n_own_prices, bf_prices, _, rfl, _, rfl, _, _, rfl, rfl, z, _, c, rfl, rfl, fits_sz (by omega), by rw [show ((i + 1 : Nat) : Int) - 1 = ((i : Nat) : Int) by omega]; exact atI_nat hc, d, .int p, rfl, by rw [show some (V.int p) = (tfD kvs (ch c)).map V.int by rw [hp]; rfl]; exact at' s1, _, _, rfl, rfl, ?_⟩
      refine ⟨_, rfl, _, rfl, b, C, dx, _, _, rfl, ob1, T.cl, T.n_own_longest, bf_longest, _, _, rfl, rfl, _, _, rfl, _, rfl, _, _, rfl, rfl, ((i + 1 - Ln : Nat) : Int), _, congrArg (fun t => [V.int t, V.int (((i + 1 : Nat) : Int) - 1)]) (maxN (i + 1) Ln), ⟨by omega, by omega, by omega, by omega⟩, ?_⟩
      have e2 : ((((i + 1 : Nat) : Int) - 1) - ((i + 1 - Ln : Nat) : Int)).toNat = i - (i + 1 - Ln) := by omega
      rw [e2]
      refine for_range (lo := ((i + 1 - Ln : Nat) : Int)) (Pv := fun j σ H' => ∃ m x5 x6, σ = [some (.ref b), some (.str z), some (.ref fo), some (.int ((i + 1 : Nat) : Int)), some (.int m), x5, x6] ∧ Same H H' ∧ H' fo = some (.lst (rowV (tfD kvs) (cs z) (i + 1))) ∧
        (∃ s, s < i + 1 ∧ costF (tfD kvs) ((cs z).take (i + 1)) s = some m) ∧ ∀ s y, (s = i ∨ (i + 1 - Ln ≤ s ∧ s < i + 1 - Ln + j)) → costF (tfD kvs) ((cs z).take (i + 1)) s = some y → m ≤ y)
        ⟨_, _, _, rfl, s1, f1, ⟨i, by omega, c0⟩, fun s y hs hy => ?_⟩ ?_ ?_
      · rcases hs with rfl | ⟨h1, h2⟩
        · rw [c0] at hy
          exact Int.le_of_eq (Option.some.inj hy)
        · omega
      · rintro j σ H2 hj ⟨m, y5, y6, rfl, s2, f2, hm, hb⟩
        have e3 : ((i + 1 - Ln : Nat) : Int) + (j : Int) = ((i + 1 - Ln + j : Nat) : Int) := by omega
        have hs' : i + 1 - Ln + j < i := by omega
        obtain ⟨st, hst⟩ : ∃ st, st = i + 1 - Ln + j := ⟨_, rfl⟩
        rw [e3, ← hst]
        rw [← hst] at hs'
        have hcut : cutS z (some (st : Int)) (some ((i + 1 : Nat) : Int)) = sOf (((cs z).take (i + 1)).drop st) := str_ext (by rw [cs_cutAB (by omega) (by omega), cs_sOf])
        refine ⟨_, rfl, b, C, dx, _, _, rfl, s2 _ _ A.ob, T.cl, T.n_own_prices, bf_prices, d, rfl, .inl ⟨_, .inr ⟨od, s2 _ _ A.dc⟩⟩, _, rfl, _, rfl, _, rfl, _, rfl, _, rfl, z, rfl, fits_sz (by omega), _, by rw [hcut]; exact at' s2, ?_⟩
        have next : ∀ (m' : Int), (∃ s, s < i + 1 ∧ costF (tfD kvs) ((cs z).take (i + 1)) s = some m') → m' ≤ m → (∀ y, costF (tfD kvs) ((cs z).take (i + 1)) st = some y → m' ≤ y) → ∀ s y, (s = i ∨ (i + 1 - Ln ≤ s ∧ s < i + 1 - Ln + (j + 1))) → costF (tfD kvs) ((cs z).take (i + 1)) s = some y → m' ≤ y := by
          intro m' _ hle hy' s y hs hy
          by_cases e : s = st
          · subst e
            exact hy' y hy
          · have := hb s y (by omega) hy
            omega
        cases e4 : tfD kvs (sOf (((cs z).take (i + 1)).drop st)) with
        | none =>
          refine ⟨_, rfl, rfl, false, rfl, ?_⟩
          refine itF rfl ?_
          refine ⟨m, _, _, rfl, s2, f2, hm, next m hm (Int.le_refl _) fun y hy => ?_⟩
          unfold costF at hy
          rw [e4] at hy
          cases hy
        | some p' =>
          have cy : costF (tfD kvs) ((cs z).take (i + 1)) st = some (lp (tfD kvs) ((cs z).take st) + p') := by
            unfold costF
            rw [e4, htake st (by omega)]
            rfl
          refine ⟨_, rfl, rfl, true, rfl, ?_⟩
          refine itT rfl ?_
          refine ⟨_, rfl, _, rfl, fo, _, _, _, rfl, rfl, SqL.of f2, at_of (j := st) rfl (rowV_at (by omega)), _, rfl, _, _, rfl, rfl, _, rfl, _, _, rfl, rfl, _, rfl, ?_⟩
          refine itB (fun q => ?_) (fun q => ?_)
          · have q' := of_decide_eq_true q
            refine ⟨_, rfl, _, rfl, fo, _, _, _, rfl, rfl, SqL.of f2, at_of (j := st) rfl (rowV_at (by omega)), _, rfl, _, _, rfl, rfl, ?_⟩
            refine ⟨_, _, _, rfl, s2, f2, ⟨st, by omega, cy⟩, next _ ⟨st, by omega, cy⟩ (Int.le_of_lt q') fun y hy => ?_⟩
            rw [cy] at hy
            exact Int.le_of_eq (Option.some.inj hy)
          · have q' := of_decide_eq_false q
            refine ⟨m, _, _, rfl, s2, f2, hm, next m hm (Int.le_refl _) fun y hy => ?_⟩
            rw [cy] at hy
            have := Option.some.inj hy
            omega
      · rintro σ H2 ⟨m, y5, y6, rfl, s2, f2, hm, hb⟩
        have em : m = lp (tfD kvs) ((cs z).take (i + 1)) := best_end good ovl (fun q => by rw [q] at hl; simp at hl) hLn (by rw [hl]; exact hm) fun s y h1 h2 hy => hb s y (by rw [hl] at h1 h2; omega) hy
        subst em
        refine ⟨_, rfl, .inl ⟨rfl, _, SqL.of f2⟩, _, rfl, fo, _, _, rfl, rfl, f2, by rw [rowV_len]; exact small1000' (by omega), ?_⟩
        refine ⟨_, _, _, _, rfl, same_mut s2 hfo, ?_⟩
        rw [upd_same, rowV_succ (n := i + 1)]
    · rintro σ H1 ⟨x3, x4, x5, x6, rfl, s1, f1⟩
      have e1 : ((z.length : Int) + 1 - 1).toNat = z.length := by omega
      rw [e1] at f1
      exact ⟨_, rfl, k fo H1 hfo f1 s1⟩
theorem sc_require_book : FnScope ["value"] ["value"] (defScope s_require_book) := ⟨rfl, rfl, rfl, by decide +kernel, rfl, by decide +kernel, by decide +kernel⟩
theorem ok_require_book {f : Addr} {fd : FuncData} (F : Fun K "require_book" "require_book" s_require_book f fd) (T : Txt K mg C) : FnOk P w K mg base CX0 1 f fd ["value"] (spReqBook C) := by
  refine F.ok sc_require_book (fun vs H Q E h => ?_) (fun cdv A outer s H vs Q E hr h => ?_)
  · obtain ⟨b, dx, fs, rfl, _⟩ := h
    rfl
  · have hu := hu_of hr
    obtain ⟨b, dx, fs, rfl, hb, k⟩ := h
    refine ⟨_, (pss_one (ps_if (pt_not (pt_val (pe_callB (C8.call_isC T.ic) (by rfl) T.b_isinstance (by decide +kernel) (pa_cons (pv 0) (pa_cons (pe_glob (v := .ref C) rfl T.gC rfl) pa_nil))))) (pss_one ps_never) pss_nil)), ?_⟩
    exact ⟨_, rfl, b, dx, fs, rfl, hb, true, rfl, k⟩
theorem sc_is_text_over : FnScope ["book", "value", "sign"] ["book", "value"] (defScope s_is_text_over) := ⟨rfl, rfl, rfl, by decide +kernel, rfl, by decide +kernel, by decide +kernel⟩
theorem ok_is_text_over {f : Addr} {fd : FuncData} (F : Fun K "is_text_over" "is_text_over" s_is_text_over f fd) (T : Txt K mg C) (c_is_text : HasO P w K mg base CX0 2 "is_text" ["value"] (spIs K isText)) : FnOk P w K mg base CX0 3 f fd ["book", "value"] (spTextOver C) := by
  refine F.ok sc_is_text_over (fun vs H Q E h => ?_) (fun cdv A outer s H vs Q E hr h => ?_)
  · obtain ⟨b, kvs, z, rfl, _⟩ := h
    rfl
  · have hu := hu_of hr
    obtain ⟨b, kvs, z, rfl, B, hz, k⟩ := h
    refine ⟨_, (pss_one (ps_ret (pe_and (pe_hasO c_is_text (hr.mono (by decide)) pass0 (pa_cons (pv 1) pa_nil)) (pe_one (pe_callB (g_all K rfl) (by rfl) T.b_all (by decide +kernel) (pa_cons (pe_lc (own := [("sign", 2)]) rfl sc_is_text_over.nd (pi_str (pv 1)) (blkOk_by (own := [("sign", 2)]) (N := ["book", "value", "sign"]) (sc := defScope s_is_text_over) (by decide +kernel)) (fun _ _ _ _ _ => (pg_name (i := 2) sc_is_text_over.nd rfl (Or.inl rfl))) (fun _ _ _ _ _ => pts_nil) (fun _ _ _ _ _ => (pe_cmpR (g_in_seq K) (pv 2) (g_fld K (pv 0)) (by rfl)))) pa_nil)))))), ?_⟩
    obtain ⟨av, nd, ys, L, M, dx, d, tp, ta, od, pm, so, A⟩ := id B
    obtain ⟨_, al, _, _⟩ := ap_parts av
    
    refine ⟨_, rfl, .str z, rfl, tyd_str z, hz, fun H1 s1 => ⟨_, rfl, ?_⟩⟩
    refine itB (fun e1 => ?_) (fun e1 => ?_)
    · refine ⟨_, rfl, z, rfl, fun D hD => ?_⟩
      refine lcp_str (fun c => .bl (tfD kvs (ch c)).isSome) (fits_sz hz) (fun c acc N hc hN => ?_) ?_
      · have s2 : Same H (upd H1 D (.lst acc)) := s1.trans (same_new hD)
        refine ⟨_, rfl, _, rfl, b, C, dx, _, _, rfl, s2 _ _ A.ob, T.cl, T.n_own_alphabet, bf_alphabet, ta, _, rfl, .inr (SqT.of (s2 _ _ A.al)), rfl, flat_strs _, ?_⟩
        rw [if_neg Bool.false_ne_true, inV_str]
        have e : decide (ch c ∈ sgn (psOf kvs ys)) = (tfD kvs (ch c)).isSome := by
          rw [Bool.eq_iff_iff, decide_eq_true_eq, sgn_mem al pm, Option.isSome_iff_exists]
        rw [e]
        exact hN
      · refine ⟨D, (cs z).map fun c => (tfD kvs (ch c)).isSome, rfl, SqL.of (by rw [upd_same, List.map_map]; rfl), ?_⟩
        have e : ((cs z).map fun c => (tfD kvs (ch c)).isSome).all id = overB kvs z := by
          unfold overB
          rw [e1, List.all_map]
          rfl
        rw [e]
        exact k _ (s1.trans (same_new hD))
    · have e : overB kvs z = false := by
        unfold overB
        rw [e1]
        rfl
      have k1 := k _ s1
      rw [e] at k1
      exact k1
theorem sc_require_text : FnScope ["book", "value"] ["book", "value"] (defScope s_require_text) := ⟨rfl, rfl, rfl, by decide +kernel, rfl, by decide +kernel, by decide +kernel⟩
theorem ok_require_text {f : Addr} {fd : FuncData} (F : Fun K "require_text" "require_text" s_require_text f fd) (T : Txt K mg C) (c_is_text_over : HasO P w K mg base CX0 3 "is_text_over" ["book", "value"] (spTextOver C)) : FnOk P w K mg base CX0 4 f fd ["book", "value"] (spReqText C) := by
  refine F.ok sc_require_text (fun vs H Q E h => ?_) (fun cdv A outer s H vs Q E hr h => ?_)
  · obtain ⟨b, kvs, z, rfl, _⟩ := h
    rfl
  · have hu := hu_of hr
    obtain ⟨b, kvs, z, rfl, B, hz, ok, k⟩ := h
    refine ⟨_, (pss_one (ps_if (pt_not (pt_val (pe_hasO c_is_text_over (hr.mono (by decide)) pass0 (pa_cons (pv 0) (pa_cons (pv 1) pa_nil))))) (pss_one ps_never) pss_nil)), ?_⟩
    exact ⟨_, rfl, _, rfl, b, kvs, z, rfl, B, hz, fun H1 s1 => ⟨true, congrArg V.bl ok, k _ s1⟩⟩
theorem sc_Book_accepts : FnScope ["self", "value"] ["self", "value"] (defScope s_Book_accepts) := ⟨rfl, rfl, rfl, by decide +kernel, rfl, by decide +kernel, by decide +kernel⟩
theorem ok_Book_accepts {f : Addr} {fd : FuncData} (F : Fun K "accepts" "Book.accepts" s_Book_accepts f fd) (T : Txt K mg C) (c_is_text_over : HasO P w K mg base CX0 3 "is_text_over" ["book", "value"] (spTextOver C)) : FnOk P w K mg base CX0 4 f fd ["self", "value"] (spTextOver C) := by
  refine F.ok sc_Book_accepts (fun vs H Q E h => ?_) (fun cdv A outer s H vs Q E hr h => ?_)
  · obtain ⟨b, kvs, z, rfl, _⟩ := h
    rfl
  · have hu := hu_of hr
    obtain ⟨b, kvs, z, rfl, B, hz, k⟩ := h
    refine ⟨_, (pss_one (ps_ret (pe_hasO c_is_text_over (hr.mono (by decide)) pass0 (pa_cons (pv 0) (pa_cons (pv 1) pa_nil))))), ?_⟩
    exact ⟨_, rfl, _, rfl, b, kvs, z, rfl, B, hz, k⟩
theorem sc_Book_prices : FnScope ["self", "piece"] ["self"] (defScope s_Book_prices) := ⟨rfl, rfl, rfl, by decide +kernel, rfl, by decide +kernel, by decide +kernel⟩
theorem ok_Book_prices {f : Addr} {fd : FuncData} (F : Fun K "prices" "Book.prices" s_Book_prices f fd) (T : Txt K mg C) : FnOk P w K mg base CX0 1 f fd ["self"] (spPrices C) := by
  refine F.ok sc_Book_prices (fun vs H Q E h => ?_) (fun cdv A outer s H vs Q E hr h => ?_)
  · obtain ⟨b, kvs, rfl, _⟩ := h
    rfl
  · have hu := hu_of hr
    obtain ⟨b, kvs, rfl, B, k⟩ := h
    refine ⟨_, (pss_one (ps_ret (pe_dc (own := [("piece", 1)]) rfl sc_Book_prices.nd (g_tuple K (g_fld K (pv 0))) (blkOk_by (own := [("piece", 1)]) (N := ["self", "piece"]) (sc := defScope s_Book_prices) (by decide +kernel)) (fun _ _ _ _ _ => (pg_name (i := 1) sc_Book_prices.nd rfl (Or.inl rfl))) (fun _ _ _ _ _ => pts_nil) (fun _ _ _ _ _ => (pv 1)) (fun _ _ _ _ _ => (pe_dget hu (g_fld K (pv 0)) (pv 1) (fun _ _ => rfl)))))), ?_⟩
    obtain ⟨av, nd, ys, L, M, dx, d, tp, ta, od, pm, so, A⟩ := id B
    obtain ⟨_, al, _, _⟩ := ap_parts av
    
    have ly : ys.length ≤ 12 := by
      obtain ⟨⟨_, n2⟩, _⟩ := ap_parts av
      have h := congrArg List.length (keys_of al)
      rw [List.length_map, List.length_map] at h
      rw [pm.length_eq]
      omega
    have ndy : ys.Nodup := pm.nodup_iff.mpr (keys_nd al nd)
    have pi : H tp = some (.tup (ys.map V.str)) := by
      rw [A.pi]
      unfold psOf
      rw [List.map_map]
      rfl
    refine ⟨_, rfl, b, C, dx, _, _, rfl, A.ob, T.cl, T.n_own_pieces, bf_pieces, tp, rfl, ⟨_, SqT.of pi⟩, fun D hD => ?_⟩
    refine dcs ys (walk_tupF (K := K) V.str ys) (fun z => (Sum.inr z, .int (priceIn kvs z))) (nd_map (f := fun z : Str => (Sum.inr z : Key)) (fun _ _ h => Sum.inr.inj h) ndy) hD (by omega) (fun H' s => SqT.of (s _ _ pi)) ?_ ?_
    · rintro i z x H3 H4 hi s3 ⟨rfl, z', ez, rfl⟩ N M hN
      have e1 : z = z' := Option.some.inj (hi.symm.trans ez)
      subst e1
      have hv : valV (kvOf (psOf kvs ys)) (Sum.inr z) = some (.int (priceIn kvs z)) := by
        rw [kvOf_ps, val_fun, if_pos (List.mem_of_getElem? hi)]
      exact ⟨wipe_set, _, rfl, _, rfl, b, C, dx, _, _, rfl, s3 _ _ A.ob, T.cl, T.n_own_prices, bf_prices, _, rfl, d, _, rfl, .inl ⟨_, Sum.inr z, .inr ⟨od, s3 _ _ A.dc⟩, rfl, hv.symm⟩, hN _ (Same.refl _)⟩
    rintro H3 s3 e3
    exact k D ys H3 hD pm so (by rw [e3, kvOf_ps]) s3
theorem sc_front_in : FnScope ["book", "text", "prices", "many", "back"] ["book", "text"] (defScope s_front_in) := ⟨rfl, rfl, rfl, by decide +kernel, rfl, by decide +kernel, by decide +kernel⟩
theorem ok_front_in {f : Addr} {fd : FuncData} (F : Fun K "front_in" "front_in" s_front_in f fd) (T : Txt K mg C) (c_prices_along : HasO P w K mg base CX0 2 "prices_along" ["book", "text"] (spAlong C)) : FnOk P w K mg base CX0 3 f fd ["book", "text"] (spFrontIn C) := by
  refine F.ok sc_front_in (fun vs H Q E h => ?_) (fun cdv A outer s H vs Q E hr h => ?_)
  · obtain ⟨b, kvs, z, rfl, _⟩ := h
    rfl
  · have hu := hu_of hr
    obtain ⟨b, kvs, z, rfl, B, ov, hz, hx, k⟩ := h
    refine ⟨_, (pss_cons (ps_set (i := 2) sc_front_in.nd rfl (Or.inr rfl) (pe_hasO c_prices_along (hr.mono (by decide)) pass0 (pa_cons (pv 0) (pa_cons (pv 1) pa_nil))))
      (pss_cons (ps_set (i := 3) sc_front_in.nd rfl (Or.inl rfl) (pe_callB (g_min K rfl) (by rfl) T.b_min (by decide +kernel) (pa_cons (pe_lst (pa_cons (pe_op op_sub (g_fld K (pv 0)) pe_int) (pa_cons (pe_callB call_len_str (by rfl) T.b_len (by decide +kernel) (pa_cons (pv 1) pa_nil)) pa_nil))) pa_nil)))
      (pss_one (ps_ret (pe_tup (pa_cons (pe_slice sl_str (pv 1) (po_some (pe_op op_sub (pe_callB call_len_str (by rfl) T.b_len (by decide +kernel) (pa_cons (pv 1) pa_nil)) (pv 3))) po_none) (pa_cons (pe_callTy (g_tuple_of K) (by rfl) T.b_tuple (by decide +kernel) (pa_cons (pe_lc (own := [("back", 4)]) rfl sc_front_in.nd (pi_range2 (by rfl) T.b_range (pa_cons pe_int (pa_cons (pe_op op_add (pv 3) pe_int) pa_nil))) (blkOk_by (own := [("back", 4)]) (N := ["book", "text", "prices", "many", "back"]) (sc := defScope s_front_in) (by decide +kernel)) (fun _ _ _ _ _ => (pg_name (i := 4) sc_front_in.nd rfl (Or.inl rfl))) (fun _ _ _ _ _ => pts_nil) (fun _ _ _ _ _ => (pe_op op_sub (pe_ix (g_ix_list K) (pv 2) (pe_op op_sub (pe_un un_neg pe_int) (pv 4)) (fun _ _ => rfl)) (pe_ix (g_ix_list K) (pv 2) (pe_un un_neg pe_int) (fun _ _ => rfl))))) pa_nil)) pa_nil))))))), ?_⟩
    obtain ⟨av, nd, ys, Lo, M, dx, d, tp, ta, od, pm, so, A⟩ := id B
    obtain ⟨_, al, _, _⟩ := ap_parts av
    have tar := tar_of av nd
    obtain ⟨Ln, rfl⟩ : ∃ Ln : Nat, Lo = (Ln : Int) := by
      obtain ⟨q, _, e⟩ := List.mem_map.mp A.lo.1
      exact ⟨q.1.length, e.symm⟩
    obtain ⟨wide, l1, l5⟩ := wide_of av pm A.lo
    
    have lz := cs_len z
    refine ⟨_, rfl, _, rfl, b, kvs, z, rfl, B, ov, by omega, fun ro H1 hro r1 s1 => ?_⟩
    refine ⟨_, rfl, b, C, dx, _, _, rfl, s1 _ _ A.ob, T.cl, T.n_own_longest, bf_longest, _, _, rfl, rfl, _, rfl, z, rfl, fits_sz (by omega), by show 2 ≤ sizeLine; decide, fun ml hml => ?_⟩
    refine ⟨ml, [(Ln : Int) - 1, (z.length : Int)], rfl, SqL.of upd_same, by simp, fun m hm hle => ?_⟩
    have em : m = ((min (Ln - 1) z.length : Nat) : Int) := by
      have h1 := hle _ List.mem_cons_self
      have h2 := hle _ (List.mem_cons_of_mem _ List.mem_cons_self)
      have h3 : m = (Ln : Int) - 1 ∨ m = (z.length : Int) := by simpa using hm
      omega
    subst em
    have s2 : Same H (upd H1 ml (.lst [(fun i j : Int => V.int (i - j)) (Ln : Int) 1, V.int (z.length : Int)])) := s1.trans (same_new hml)
    have r2 := same_new hml (o := .lst [(fun i j : Int => V.int (i - j)) (Ln : Int) 1, V.int (z.length : Int)]) _ _ r1
    generalize (upd H1 ml (.lst [(fun i j : Int => V.int (i - j)) (Ln : Int) 1, V.int (z.length : Int)])) = H2 at s2 r2 ⊢
    have ecut : (z.length : Int) - ((min (Ln - 1) z.length : Nat) : Int) = ((z.length - min (Ln - 1) z.length : Nat) : Int) := by omega
    have hcut : cutS z (some ((z.length : Int) - ((min (Ln - 1) z.length : Nat) : Int))) none = sOf (frontW Ln (cs z)) := str_ext (by rw [ecut, cs_cutFrom (by omega), cs_sOf]; unfold frontW; rw [lz])
    refine ⟨_, rfl, _, rfl, z, rfl, fits_sz (by omega), _, rfl, _, _, rfl, rfl, _, rfl, z, rfl, fits_sz (by omega), ?_⟩
    rw [hcut]
    refine ⟨_, rfl, _, _, rfl, rfl, 1, _, rfl, ⟨by omega, by omega, by omega, by omega⟩, fun D hD => ?_⟩
    have e3 : (((min (Ln - 1) z.length : Nat) : Int) + 1 - 1).toNat = min (Ln - 1) z.length := by omega
    rw [e3]
    have hD0 : H D = none := s2.free hD
    refine lc_range (fun i H' => Same H H' ∧ H' ro = some (.lst (rowV (tfD kvs) (cs z) (z.length + 1))) ∧ H' D = some (.lst (((List.range i).map fun i => lp (tfD kvs) ((cs z).take (z.length - (i + 1))) - lp (tfD kvs) (cs z)).map V.int))) ⟨s2.trans (same_new hD), same_new hD _ _ r2, upd_same⟩ ?_ ?_
    · rintro i H3 hi ⟨s3, r3, d3⟩
      have nrD : ro ≠ D := ne_of_none r2 hD
      have full : (cs z).take z.length = cs z := List.take_of_length_le (by omega)
      refine ⟨wipe_set, _, rfl, _, rfl, _, rfl, _, _, rfl, rfl, ro, _, _, .int (lp (tfD kvs) ((cs z).take (z.length - (i + 1)))), rfl, rfl, SqL.of r3, ?_, _, rfl, _, rfl, ro, _, _, .int (lp (tfD kvs) (cs z)), rfl, rfl, SqL.of r3, by rw [rowV_succ, full]; exact atI_last, _, _, rfl, rfl, ?_⟩
      · have e5 : -(1 : Int) - (1 + (i : Int)) = -((i + 1 : Nat) : Int) - 1 := by omega
        rw [e5, atI_neg (by rw [rowV_len]; omega), rowV_len, rowV_at (by omega)]
        have e6 : z.length + 1 - 1 - (i + 1) = z.length - (i + 1) := by omega
        rw [e6]
      · refine ⟨_, d3, by rw [List.length_map, List.length_map, List.length_range]; exact small1000' (by omega), same_mut s3 hD0, by rw [upd_ne nrD]; exact r3, ?_⟩
        rw [upd_same, List.range_succ, List.map_append, List.map_append]
        rfl
    rintro H3 ⟨s3, r3, d3⟩
    refine ⟨D, _, rfl, .inl ⟨SqL.of d3, fun td htd => ?_⟩⟩
    refine ⟨by show 2 ≤ sizeLine; decide, fun t ht => ?_⟩
    refine k Ln t _ wide ⟨td, upd_same, ?_⟩ ((s3.trans (same_new htd)).trans (same_new ht))
    refine same_new ht _ _ ?_
    rw [upd_same]
    unfold frontD
    rw [lz]
theorem sc_step_in : FnScope ["book", "front", "sign", "signs", "differences", "longer", "ahead", "ends", "change", "kept", "moved", "piece", "one"] ["book", "front", "sign"] (defScope s_step_in) := ⟨rfl, rfl, rfl, by decide +kernel, rfl, by decide +kernel, by decide +kernel⟩
theorem ok_step_in {f : Addr} {fd : FuncData} (F : Fun K "step_in" "step_in" s_step_in f fd) (T : Txt K mg C) : FnOk P w K mg base CX0 2 f fd ["book", "front", "sign"] (spStepIn C) := by
  refine F.ok sc_step_in (fun vs H Q E h => ?_) (fun cdv A outer s H vs Q E hr h => ?_)
  · obtain ⟨b, f, kvs, l, ds, c, L, rfl, _⟩ := h
    rfl
  · have hu := hu_of hr
    obtain ⟨b, f, kvs, l, ds, c, L, rfl, B, fr, wL, ol, oc, hlL, hds, hll, hdi, k⟩ := h
    refine ⟨_, (pss_cons (ps_asg (pv 1) (g_tup K (n := 2) rfl (pgs_cons (pg_name (i := 3) sc_step_in.nd rfl (Or.inl rfl)) (pgs_cons (pg_name (i := 4) sc_step_in.nd rfl (Or.inl rfl)) pgs_nil))))
      (pss_cons (ps_asg (pe_tup (pa_cons (pe_op op_add_str (pv 3) (pv 2)) (pa_cons (pe_tup (pa_cons pe_int (StX.pa_star (pv 4) pa_nil))) pa_nil))) (g_tup K (n := 2) rfl (pgs_cons (pg_name (i := 5) sc_step_in.nd rfl (Or.inr rfl)) (pgs_cons (pg_name (i := 6) sc_step_in.nd rfl (Or.inr rfl)) pgs_nil))))
      (pss_cons (ps_setLc (i := 7) (own := [("piece", 11)]) rfl sc_step_in.nd rfl rfl (sw_true rfl rfl rfl (by decide +kernel)) (g_tuple K (g_fld K (pv 0))) (blkOk_by (own := [("piece", 11)]) (N := ["book", "front", "sign", "signs", "differences", "longer", "ahead", "ends", "change", "kept", "moved", "piece", "one"]) (sc := defScope s_step_in) (by decide +kernel)) (fun _ _ _ _ _ => (pg_name (i := 11) sc_step_in.nd rfl (Or.inl rfl))) (fun _ _ _ _ _ => (pts_one (pt_val (pe_m1 PySem.F.slot_str_endswith PySem.F.type_str_endswith mt_endswith (pv 5) (pv 11))))) (fun _ _ _ _ _ => (pv 11)))
      (pss_cons (ps_set (i := 8) sc_step_in.nd rfl (Or.inr rfl) (pe_callB (g_min K rfl) (by rfl) T.b_min (by decide +kernel) (pa_cons (pe_lc (own := [("piece", 11)]) rfl sc_step_in.nd (g_list K (pv 7)) (blkOk_by (own := [("piece", 11)]) (N := ["book", "front", "sign", "signs", "differences", "longer", "ahead", "ends", "change", "kept", "moved", "piece", "one"]) (sc := defScope s_step_in) (by decide +kernel)) (fun _ _ _ _ _ => (pg_name (i := 11) sc_step_in.nd rfl (Or.inl rfl))) (fun _ _ _ _ _ => pts_nil) (fun _ _ _ _ _ => (pe_op op_add (pe_dget hu (g_fld K (pv 0)) (pv 11) (fun _ _ => rfl)) (pe_ix (g_ix_tup K) (pv 6) (pe_op op_sub (pe_callB call_len_str (by rfl) T.b_len (by decide +kernel) (pa_cons (pv 11) pa_nil)) pe_int) (fun _ _ => rfl))))) pa_nil)))
      (pss_cons (ps_set (i := 9) sc_step_in.nd rfl (Or.inl rfl) (pe_slice sl_str (pv 5) (po_some (pe_callB (g_max K rfl) (by rfl) T.b_max (by decide +kernel) (pa_cons (pe_lst (pa_cons pe_int (pa_cons (pe_op op_add (pe_op op_sub (pe_callB call_len_str (by rfl) T.b_len (by decide +kernel) (pa_cons (pv 5) pa_nil)) (g_fld K (pv 0))) pe_int) pa_nil))) pa_nil))) po_none))
      (pss_cons (ps_setLc (i := 10) (own := [("one", 12)]) rfl sc_step_in.nd rfl rfl (sw_true rfl rfl rfl (by decide +kernel)) (g_tuple K (pv 6)) (blkOk_by (own := [("one", 12)]) (N := ["book", "front", "sign", "signs", "differences", "longer", "ahead", "ends", "change", "kept", "moved", "piece", "one"]) (sc := defScope s_step_in) (by decide +kernel)) (fun _ _ _ _ _ => (pg_name (i := 12) sc_step_in.nd rfl (Or.inl rfl))) (fun _ _ _ _ _ => pts_nil) (fun _ _ _ _ _ => (pe_op op_sub (pv 12) (pv 8))))
      (pss_one (ps_ret (pe_tup (pa_cons (pe_tup (pa_cons (pv 9) (pa_cons (pe_callTy (g_tuple_of K) (by rfl) T.b_tuple (by decide +kernel) (pa_cons (pe_slice (g_sl_list K) (pv 10) po_none (po_some (pe_callB call_len_str (by rfl) T.b_len (by decide +kernel) (pa_cons (pv 9) pa_nil)))) pa_nil)) pa_nil))) (pa_cons (pv 8) pa_nil))))))))))), ?_⟩
    obtain ⟨av, nd, ys, Lo, M, dx, d, tp, ta, od, pm, so, A⟩ := id B
    obtain ⟨_, al, _, _⟩ := ap_parts av
    have tar := tar_of av nd
    obtain ⟨Ln, rfl⟩ : ∃ Ln : Nat, Lo = (Ln : Int) := by
      obtain ⟨q, _, e⟩ := List.mem_map.mp A.lo.1
      exact ⟨q.1.length, e.symm⟩
    obtain ⟨wide, l1, l5⟩ := wide_of av pm A.lo
    
    have eL := wide.uniq wL
    subst eL
    obtain ⟨fd, fr1, fr2⟩ := fr
    refine ⟨_, rfl, f, _, rfl, SqT.of fr1, rfl, _, _, rfl, _, _, rfl, rfl, ?_⟩
    have lgl : (sOf l ++ ch c) = sOf (l ++ [c]) := str_ext (by rw [cs_app, cs_sOf, cs_sOf])
    refine ⟨_, rfl, _, rfl, sOf l, ch c, rfl, rfl, by rw [sOf_len]; exact fits_sz (by show l.length + 1 ≤ 100000; omega), ?_⟩
    rw [lgl]
    refine ⟨_, rfl, fd, _, rfl, .inl (SqT.of fr2), by show (ds.map V.int ++ []).length + 1 ≤ sizeLine; rw [List.append_nil, List.length_map]; exact fits_sz (by omega), fun aa haa => ?_⟩
    have ea : V.int 0 :: (ds.map V.int ++ []) = ((0 : Int) :: ds).map V.int := by rw [List.append_nil]; rfl
    refine ⟨by show 2 ≤ sizeLine; decide, fun t1 ht1 => ?_⟩
    refine ⟨t1, _, rfl, SqT.of upd_same, rfl, _, _, rfl, _, _, rfl, rfl, ?_⟩
    have s1 : Same H (upd (upd H aa (.tup (V.int 0 :: (ds.map V.int ++ [])))) t1 (.tup [.str (sOf (l ++ [c])), .ref aa])) := (same_new haa).trans (same_new ht1)
    have a1 : (upd (upd H aa (.tup (V.int 0 :: (ds.map V.int ++ [])))) t1 (.tup [.str (sOf (l ++ [c])), .ref aa])) aa = some (.tup (((0 : Int) :: ds).map V.int)) := by
      rw [← ea]
      exact same_new ht1 _ _ upd_same
    generalize (upd (upd H aa (.tup (V.int 0 :: (ds.map V.int ++ [])))) t1 (.tup [.str (sOf (l ++ [c])), .ref aa])) = H1 at s1 a1 ⊢
    have clg : cs (sOf (l ++ [c])) = l ++ [c] := cs_sOf _
    have llg : (sOf (l ++ [c])).length = l.length + 1 := by rw [sOf_len, List.length_append]; rfl
    generalize sOf (l ++ [c]) = lg at clg llg ⊢
    have pi : H tp = some (.tup (ys.map V.str)) := by
      rw [A.pi]
      unfold psOf
      rw [List.map_map]
      rfl
    have ly : ys.length ≤ 12 := by
      obtain ⟨⟨_, n2⟩, _⟩ := ap_parts av
      have h := congrArg List.length (keys_of al)
      rw [List.length_map, List.length_map] at h
      rw [pm.length_eq]
      omega
    -- the pieces at the end
    refine ⟨_, rfl, b, C, dx, _, _, rfl, s1 _ _ A.ob, T.cl, T.n_own_pieces, bf_pieces, tp, rfl, ⟨_, SqT.of (s1 _ _ pi)⟩, fun D hD => ?_⟩
    refine lcs ys (walk_tupF (K := K) V.str ys) (fun y => if Txt.endswith lg y = true then some (V.str y) else none) hD (by omega) (fun H' s => SqT.of (s _ _ (s1 _ _ pi))) ?_ ?_
    · rintro i y x H3 H4 hi s3 ⟨rfl, y', ey, rfl⟩ N M' hN hM
      have e1 : y = y' := Option.some.inj (hi.symm.trans ey)
      subst e1
      refine ⟨wipe_set, _, rfl, ⟨_, rfl⟩, _, rfl, _, _, rfl, rfl, _, rfl, ?_⟩
      refine itB (fun q => ?_) (fun q => ?_)
      · exact ⟨_, rfl, hN _ _ (if_pos q) (Same.refl _)⟩
      · exact hM _ (if_neg (by rw [q]; exact Bool.false_ne_true)) (Same.refl _)
    rintro H2 s2 e2
    rw [ends_fm] at e2
    have s02 := s1.trans s2
    obtain ⟨mpos, mmin⟩ := step_min (ds := ds) av pm clg hds oc
    have eys : ∀ y ∈ ys.filter (fun y => Txt.endswith lg y), y ∈ ys ∧ (cs y).length ≤ l.length + 1 ∧ 1 ≤ (cs y).length := fun y hy => by
      obtain ⟨h1, h2⟩ := List.mem_filter.mp hy
      obtain ⟨a, ha⟩ := ends_iff.mp h2
      have h3 := congrArg List.length ha
      rw [clg, List.length_append, List.length_append, List.length_singleton] at h3
      exact ⟨h1, by omega, (keyStrs_piece al y (pm.mem_iff.mp h1)).1⟩
    have elen : (ys.filter fun y => Txt.endswith lg y).length ≤ 12 := Nat.le_trans (List.length_filter_le _ _) ly
    generalize (ys.filter fun y => Txt.endswith lg y) = es at e2 mpos mmin eys elen
    -- the change
    refine ⟨_, rfl, D, rfl, ⟨_, SqL.of e2⟩, fun D2 hD2 => ?_⟩
    refine lcs es (walk_listF (K := K) V.str es) (fun y => some (V.int (priceIn kvs y + aheadAt ds y))) hD2 (by omega) (fun H' s => SqL.of (s _ _ e2)) ?_ ?_
    · rintro i y x H3 H4 hi s3 ⟨rfl, y', ey, rfl⟩ N M' hN hM
      have e1 : y = y' := Option.some.inj (hi.symm.trans ey)
      subst e1
      obtain ⟨y1, y2, y3⟩ := eys y (List.mem_of_getElem? hi)
      have yl := cs_len y
      have hv : valV (kvOf (psOf kvs ys)) (Sum.inr y) = some (.int (priceIn kvs y)) := by
        rw [kvOf_ps, val_fun, if_pos y1]
      have ha : ((0 : Int) :: ds)[(cs y).length - 1]? = some (aheadAt ds y) := by
        unfold aheadAt
        rw [List.getElem?_eq_getElem (by rw [List.length_cons]; omega)]
        rfl
      refine ⟨wipe_set, _, rfl, b, C, dx, _, _, rfl, (s02.trans s3) _ _ A.ob, T.cl, T.n_own_prices, bf_prices, _, rfl, d, _, rfl, .inl ⟨_, Sum.inr y, .inr ⟨od, (s02.trans s3) _ _ A.dc⟩, rfl, hv.symm⟩, _, rfl, _, rfl, y, rfl, fits_sz (by omega), _, _, rfl, rfl, aa, _, _, .int (aheadAt ds y), rfl, rfl, SqT.of ((s2.trans s3) _ _ a1), at_of (j := (cs y).length - 1) (by omega) (by rw [List.getElem?_map, ha]; rfl), _, _, rfl, rfl, hN _ _ rfl (Same.refl _)⟩
    rintro H3 s3 e3
    have em : (es.filterMap fun y => some (V.int (priceIn kvs y + aheadAt ds y))) = (es.map fun y => priceIn kvs y + aheadAt ds y).map V.int := by
      rw [fm_some, List.map_map]
      rfl
    rw [em] at e3
    refine ⟨D2, _, rfl, SqL.of e3, mpos, fun m hm hle => ?_⟩
    have stp := mmin m hm hle
    have s03 := s02.trans s3
    have a3 := s3 _ _ (s2 _ _ a1)
    -- what is kept
    refine ⟨_, rfl, _, rfl, lg, rfl, fits_sz (by omega), _, rfl, b, C, dx, _, _, rfl, s03 _ _ A.ob, T.cl, T.n_own_longest, bf_longest, _, _, rfl, rfl, _, _, rfl, rfl, by show 2 ≤ sizeLine; decide, fun ml hml => ?_⟩
    refine ⟨ml, [0, (lg.length : Int) - (Ln : Int) + 1], rfl, SqL.of upd_same, by simp, fun q hq hqle => ?_⟩
    have eq' : q = ((l.length + 1 - (Ln - 1) : Nat) : Int) := by
      have h1 := hqle _ List.mem_cons_self
      have h2 := hqle _ (List.mem_cons_of_mem _ List.mem_cons_self)
      have h3 : q = 0 ∨ q = (lg.length : Int) - (Ln : Int) + 1 := by simpa using hq
      omega
    subst eq'
    refine ⟨_, rfl, lg, rfl, fits_sz (by omega), ?_⟩
    have hcut : cutS lg (some ((l.length + 1 - (Ln - 1) : Nat) : Int)) none = sOf (stepW Ln l c) := str_ext (by rw [cs_cutFrom (by omega), cs_sOf, clg]; rfl)
    rw [hcut]
    have s04 := s03.trans (same_new hml (o := .lst [V.int 0, (fun i j : Int => V.int (i + j)) ((lg.length : Int) - (Ln : Int)) 1]))
    have a4 := same_new hml (o := .lst [V.int 0, (fun i j : Int => V.int (i + j)) ((lg.length : Int) - (Ln : Int)) 1]) _ _ a3
    -- all moved by the change
    refine ⟨_, rfl, aa, rfl, ⟨_, SqT.of a4⟩, fun D3 hD3 => ?_⟩
    refine lcs ((0 : Int) :: ds) (walk_tupF (K := K) V.int ((0 : Int) :: ds)) (fun x => some (V.int (x - m))) hD3 (by rw [List.length_cons]; omega) (fun H' s => SqT.of (s _ _ a4)) ?_ ?_
    · rintro i y x H5 H6 hi s5 ⟨rfl, y', ey, rfl⟩ N M' hN hM
      have e1 : y = y' := Option.some.inj (hi.symm.trans ey)
      subst e1
      exact ⟨wipe_set, _, rfl, _, rfl, _, _, rfl, rfl, hN _ _ rfl (Same.refl _)⟩
    rintro H5 s5 e5
    have emv : (((0 : Int) :: ds).filterMap fun x => some (V.int (x - m))) = (((0 : Int) :: ds).map fun x => x - m).map V.int := by
      rw [fm_some, List.map_map]
      rfl
    rw [emv] at e5
    have s05 := s04.trans s5
    have swl : (sOf (stepW Ln l c)).length = (stepW Ln l c).length := sOf_len _
    have swle : (stepW Ln l c).length ≤ l.length + 1 := by rw [stepW_len]; omega
    refine ⟨_, rfl, _, rfl, _, rfl, _, rfl, fits_sz (by rw [swl]; omega), _, rfl, D3, _, rfl, SqL.of e5, fun q1 hq1 => ?_⟩
    refine ⟨q1, _, rfl, .inl ⟨SqL.of upd_same, fun td htd => ?_⟩⟩
    have ecut : cutV ((((0 : Int) :: ds).map fun x => x - m).map V.int) none (some ((sOf (stepW Ln l c)).length : Int)) = (stepD Ln l ds c m).map V.int := by
      rw [cutV_to (by rw [swl, List.length_map, List.length_map, List.length_cons]; omega), swl, ← List.map_take]
      rfl
    rw [ecut] at htd ⊢
    refine ⟨by show 2 ≤ sizeLine; decide, fun u hu => ?_⟩
    refine ⟨_, rfl, by show 2 ≤ sizeLine; decide, fun t ht => ?_⟩
    refine k t m _ stp ⟨u, upd_same, td, same_new ht _ _ upd_same, same_new ht _ _ (same_new hu _ _ upd_same)⟩ ((((s05.trans (same_new hq1)).trans (same_new htd)).trans (same_new hu)).trans (same_new ht))
theorem sc_has_front_form : FnScope ["book", "value", "signs", "differences", "one"] ["book", "value"] (defScope s_has_front_form) := ⟨rfl, rfl, rfl, by decide +kernel, rfl, by decide +kernel, by decide +kernel⟩
theorem ok_has_front_form {f : Addr} {fd : FuncData} (F : Fun K "has_front_form" "has_front_form" s_has_front_form f fd) (T : Txt K mg C) (c_Book_accepts : C8.Met P w K mg base 4 C "accepts" (spTextOver C) []) (c_is_integer : HasO P w K mg base CX0 1 "is_integer" ["value"] (spIsI K isInteger)) : FnOk P w K mg base CX0 5 f fd ["book", "value"] (spForm C) := by
  refine F.ok sc_has_front_form (fun vs H Q E h => ?_) (fun cdv A outer s H vs Q E hr h => ?_)
  · obtain ⟨b, f, kvs, l, ds, L, rfl, _⟩ := h
    rfl
  · have hu := hu_of hr
    obtain ⟨b, f, kvs, l, ds, L, rfl, fa, k⟩ := h
    refine ⟨_, (pss_cons (ps_if (PW.pt (pw_or (pt_not (pt_val (pe_callB (g_isi K) (by rfl) T.b_isinstance (by decide +kernel) (pa_cons (pv 1) (pa_cons (pe_bltn (v := .ty "tuple") rfl T.b_tuple (by decide +kernel) rfl) pa_nil))))) (pw_or (pt_cmpR op_ne (pe_callB (g_len_seq K) (by rfl) T.b_len (by decide +kernel) (pa_cons (pv 1) pa_nil)) pe_int (nomark _)) (pw_or1 (pt_not (pt_val (pe_callB (g_isi K) (by rfl) T.b_isinstance (by decide +kernel) (pa_cons (pe_ix (g_ix_tup K) (pv 1) pe_int (fun _ _ => rfl)) (pa_cons (pe_bltn (v := .ty "tuple") rfl T.b_tuple (by decide +kernel) rfl) pa_nil))))))))) (pss_one (ps_ret pe_bl)) pss_nil)
      (pss_cons (ps_asg (pv 1) (g_tup K (n := 2) rfl (pgs_cons (pg_name (i := 2) sc_has_front_form.nd rfl (Or.inl rfl)) (pgs_cons (pg_name (i := 3) sc_has_front_form.nd rfl (Or.inl rfl)) pgs_nil))))
      (pss_cons (ps_if (PW.pt (pw_or (pt_not (pt_val (C8.pe_mt c_Book_accepts hr (by decide) (pv 0) (pa_cons (pv 2) pa_nil)))) (pw_or (pt_cmpR op_ge (pe_callB call_len_str (by rfl) T.b_len (by decide +kernel) (pa_cons (pv 2) pa_nil)) (g_fld K (pv 0)) (nomark _)) (pw_or1 (pt_cmpR op_ne (pe_callB call_len_str (by rfl) T.b_len (by decide +kernel) (pa_cons (pv 2) pa_nil)) (pe_callB (g_len_seq K) (by rfl) T.b_len (by decide +kernel) (pa_cons (pv 3) pa_nil)) (nomark _)))))) (pss_one (ps_ret pe_bl)) pss_nil)
      (pss_one (ps_ret (pe_callB (g_all K rfl) (by rfl) T.b_all (by decide +kernel) (pa_cons (pe_lc (own := [("one", 4)]) rfl sc_has_front_form.nd (g_tuple K (pv 3)) (blkOk_by (own := [("one", 4)]) (N := ["book", "value", "signs", "differences", "one"]) (sc := defScope s_has_front_form) (by decide +kernel)) (fun _ _ _ _ _ => (pg_name (i := 4) sc_has_front_form.nd rfl (Or.inl rfl))) (fun _ _ _ _ _ => pts_nil) (fun _ _ _ _ _ => (pe_hasO c_is_integer (hr.mono (by decide)) pass0 (pa_cons (pv 4) pa_nil)))) pa_nil))))))), ?_⟩
    have B := fa.bk
    obtain ⟨av, nd, ys, Lo, M, dx, d, tp, ta, od, pm, so, A⟩ := id B
    obtain ⟨_, al, _, _⟩ := ap_parts av
    have tar := tar_of av nd
    obtain ⟨Ln, rfl⟩ : ∃ Ln : Nat, Lo = (Ln : Int) := by
      obtain ⟨q, _, e⟩ := List.mem_map.mp A.lo.1
      exact ⟨q.1.length, e.symm⟩
    obtain ⟨wide, l1, l5⟩ := wide_of av pm A.lo
    
    have eL := wide.uniq fa.wd
    subst eL
    obtain ⟨fd, fr1, fr2⟩ := fa.fr
    have ll := fa.ln
    have dl := fa.dl
    have lsl : (sOf l).length = l.length := sOf_len l
    have ok : overB kvs (sOf l) = true := overB_true (isText_of (by rw [cs_sOf]; omega) (by rw [cs_sOf]; exact fa.lt)) (by rw [cs_sOf]; exact fa.ov)
    refine ⟨_, rfl, _, _, _, _, _, rfl, .ty _, .base (.tup fr1), kit_ty (show kitB "tuple" "tuple" = some true by decide +kernel), _, rfl, ?_⟩
    refine ⟨_, rfl, f, _, rfl, .inr (SqT.of fr1), rfl, false, rfl, ?_⟩
    refine ⟨_, rfl, f, _, _, _, rfl, rfl, SqT.of fr1, at_of (j := 1) rfl rfl, ?_⟩
    refine ⟨_, _, _, _, _, rfl, .ty _, .base (.tup fr2), kit_ty (show kitB "tuple" "tuple" = some true by decide +kernel), true, rfl, ?_⟩
    refine ⟨_, rfl, f, _, rfl, SqT.of fr1, rfl, _, _, rfl, _, _, rfl, rfl, ?_⟩
    have noA : (bookF d tp ta (Ln : Int) M).lookup ("accepts" : Str) = none := bf_no (by decide +kernel) (by decide +kernel) (by decide +kernel) (by decide +kernel) (by decide +kernel)
    refine ⟨_, rfl, b, dx, _, rfl, A.ob, noA, _, rfl, b, kvs, sOf l, rfl, B, by omega, fun H1 s1 => ⟨true, congrArg V.bl ok, ?_⟩⟩
    refine itF rfl ?_
    refine ⟨_, rfl, sOf l, rfl, fits_sz (by omega), _, rfl, b, C, dx, _, _, rfl, s1 _ _ A.ob, T.cl, T.n_own_longest, bf_longest, _, _, rfl, rfl, false, congrArg V.bl (decide_eq_false (by omega)), ?_⟩
    refine itF rfl ?_
    refine ⟨_, rfl, sOf l, rfl, fits_sz (by omega), _, rfl, fd, _, rfl, .inr (SqT.of (s1 _ _ fr2)), rfl, false, by rw [lsl, List.length_map, dl, decide_eq_true rfl]; rfl, ?_⟩
    refine itF rfl ?_
    -- each difference
    refine ⟨_, rfl, fd, rfl, ⟨_, SqT.of (s1 _ _ fr2)⟩, fun D hD => ?_⟩
    refine lcs ds (walk_tupF (K := K) V.int ds) (fun _ => some (V.bl true)) hD (by omega) (fun H' s => SqT.of (s _ _ (s1 _ _ fr2))) ?_ ?_
    · rintro i y x H3 H4 hi s3 ⟨rfl, y', ey, rfl⟩ N M' hN hM
      have e1 : y = y' := Option.some.inj (hi.symm.trans ey)
      subst e1
      refine ⟨wipe_set, _, rfl, .int y, rfl, tyd_int y, fun H5 s5 => ?_⟩
      rw [fa.di y (List.mem_of_getElem? hi)]
      exact hN _ _ rfl s5
    rintro H3 s3 e3
    have em : (ds.filterMap fun _ => some (V.bl true)) = (ds.map fun _ => true).map V.bl := by
      rw [fm_some, List.map_map]
      rfl
    rw [em] at e3
    refine ⟨D, _, rfl, SqL.of e3, ?_⟩
    have ea : (ds.map fun _ => true).all id = true := by
      rw [List.all_map, List.all_eq_true]
      intro _ _
      rfl
    rw [ea]
    exact k _ (s1.trans s3)
theorem sc_require_front : FnScope ["book", "value"] ["book", "value"] (defScope s_require_front) := ⟨rfl, rfl, rfl, by decide +kernel, rfl, by decide +kernel, by decide +kernel⟩
theorem ok_require_front {f : Addr} {fd : FuncData} (F : Fun K "require_front" "require_front" s_require_front f fd) (T : Txt K mg C) (c_has_front_form : HasO P w K mg base CX0 5 "has_front_form" ["book", "value"] (spForm C)) : FnOk P w K mg base CX0 6 f fd ["book", "value"] (spReqFront C) := by
  refine F.ok sc_require_front (fun vs H Q E h => ?_) (fun cdv A outer s H vs Q E hr h => ?_)
  · obtain ⟨b, f, kvs, l, ds, L, rfl, _⟩ := h
    rfl
  · have hu := hu_of hr
    obtain ⟨b, f, kvs, l, ds, L, rfl, fa, k⟩ := h
    refine ⟨_, (pss_one (ps_if (pt_not (pt_val (pe_hasO c_has_front_form (hr.mono (by decide)) pass0 (pa_cons (pv 0) (pa_cons (pv 1) pa_nil))))) (pss_one ps_never) pss_nil)), ?_⟩
    exact ⟨_, rfl, _, rfl, b, f, kvs, l, ds, L, rfl, fa, fun H1 s1 => ⟨true, rfl, k _ s1⟩⟩
theorem sc_require_sign : FnScope ["book", "value"] ["book", "value"] (defScope s_require_sign) := ⟨rfl, rfl, rfl, by decide +kernel, rfl, by decide +kernel, by decide +kernel⟩
theorem ok_require_sign {f : Addr} {fd : FuncData} (F : Fun K "require_sign" "require_sign" s_require_sign f fd) (T : Txt K mg C) : FnOk P w K mg base CX0 1 f fd ["book", "value"] (spReqSign C) := by
  refine F.ok sc_require_sign (fun vs H Q E h => ?_) (fun cdv A outer s H vs Q E hr h => ?_)
  · obtain ⟨b, kvs, c, rfl, _⟩ := h
    rfl
  · have hu := hu_of hr
    obtain ⟨b, kvs, c, rfl, B, oc, k⟩ := h
    refine ⟨_, (pss_one (ps_if (PW.pt (pw_or (pt_not (pt_val (pe_callB (g_isi K) (by rfl) T.b_isinstance (by decide +kernel) (pa_cons (pv 1) (pa_cons (pe_bltn (v := .ty "str") rfl T.b_str (by decide +kernel) rfl) pa_nil))))) (pw_or1 (pt_cmpR (g_notIn_seq K) (pv 1) (g_fld K (pv 0)) (by rfl))))) (pss_one ps_never) pss_nil)), ?_⟩
    obtain ⟨av, nd, ys, Lo, M, dx, d, tp, ta, od, pm, so, A⟩ := id B
    obtain ⟨_, al, _, _⟩ := ap_parts av
    have tar := tar_of av nd
    obtain ⟨Ln, rfl⟩ : ∃ Ln : Nat, Lo = (Ln : Int) := by
      obtain ⟨q, _, e⟩ := List.mem_map.mp A.lo.1
      exact ⟨q.1.length, e.symm⟩
    obtain ⟨wide, l1, l5⟩ := wide_of av pm A.lo
    
    refine ⟨_, rfl, _, _, _, _, _, rfl, .ty _, .base (.str (ch c)), kit_ty (show kitB "str" "str" = some true by decide +kernel), true, rfl, ?_⟩
    refine ⟨_, rfl, _, rfl, b, C, dx, _, _, rfl, A.ob, T.cl, T.n_own_alphabet, bf_alphabet, ta, _, rfl, .inr (SqT.of A.al), rfl, flat_strs _, ?_⟩
    have e : inV (.str (ch c)) ((sgn (psOf kvs ys)).map V.str) = true := by
      rw [inV_str, decide_eq_true_eq, sgn_mem al pm]
      exact oc c List.mem_cons_self
    rw [e]
    exact ⟨false, rfl, k _ (Same.refl _)⟩
theorem sc_front_of : FnScope ["book", "text"] ["book", "text"] (defScope s_front_of) := ⟨rfl, rfl, rfl, by decide +kernel, rfl, by decide +kernel, by decide +kernel⟩
theorem ok_front_of {f : Addr} {fd : FuncData} (F : Fun K "front_of" "front_of" s_front_of f fd) (T : Txt K mg C) (c_require_book : HasO P w K mg base CX0 1 "require_book" ["value"] (spReqBook C)) (c_require_text : HasO P w K mg base CX0 4 "require_text" ["book", "value"] (spReqText C)) (c_front_in : HasO P w K mg base CX0 3 "front_in" ["book", "text"] (spFrontIn C)) : FnOk P w K mg base CX0 5 f fd ["book", "text"] (spFrontIn C) := by
  refine F.ok sc_front_of (fun vs H Q E h => ?_) (fun cdv A outer s H vs Q E hr h => ?_)
  · obtain ⟨b, kvs, z, rfl, _⟩ := h
    rfl
  · have hu := hu_of hr
    obtain ⟨b, kvs, z, rfl, B, ov, hz, hx, k⟩ := h
    refine ⟨_, (pss_cons (ps_expr (pe_hasO c_require_book (hr.mono (by decide)) pass0 (pa_cons (pv 0) pa_nil)))
      (pss_cons (ps_expr (pe_hasO c_require_text (hr.mono (by decide)) pass0 (pa_cons (pv 0) (pa_cons (pv 1) pa_nil))))
      (pss_one (ps_ret (pe_hasO c_front_in (hr.mono (by decide)) pass0 (pa_cons (pv 0) (pa_cons (pv 1) pa_nil))))))), ?_⟩
    obtain ⟨av, nd, ys, Lo, M, dx, d, tp, ta, od, pm, so, A⟩ := id B
    obtain ⟨_, al, _, _⟩ := ap_parts av
    have tar := tar_of av nd
    obtain ⟨Ln, rfl⟩ : ∃ Ln : Nat, Lo = (Ln : Int) := by
      obtain ⟨q, _, e⟩ := List.mem_map.mp A.lo.1
      exact ⟨q.1.length, e.symm⟩
    obtain ⟨wide, l1, l5⟩ := wide_of av pm A.lo
    
    refine ⟨_, rfl, b, dx, _, rfl, A.ob, ?_⟩
    refine ⟨_, rfl, _, rfl, b, kvs, z, rfl, B, by omega, overB_true hx ov, fun H1 s1 => ?_⟩
    refine ⟨_, rfl, _, rfl, b, kvs, z, rfl, B.same s1, ov, hz, hx, fun L t H2 wL fr s2 => ?_⟩
    exact k L t H2 wL fr (s1.trans s2)
theorem sc_next_front : FnScope ["book", "front", "sign"] ["book", "front", "sign"] (defScope s_next_front) := ⟨rfl, rfl, rfl, by decide +kernel, rfl, by decide +kernel, by decide +kernel⟩
theorem ok_next_front {f : Addr} {fd : FuncData} (F : Fun K "next_front" "next_front" s_next_front f fd) (T : Txt K mg C) (c_require_book : HasO P w K mg base CX0 1 "require_book" ["value"] (spReqBook C)) (c_require_front : HasO P w K mg base CX0 6 "require_front" ["book", "value"] (spReqFront C)) (c_require_sign : HasO P w K mg base CX0 1 "require_sign" ["book", "value"] (spReqSign C)) (c_step_in : HasO P w K mg base CX0 2 "step_in" ["book", "front", "sign"] (spStepIn C)) : FnOk P w K mg base CX0 7 f fd ["book", "front", "sign"] (spNext C) := by
  refine F.ok sc_next_front (fun vs H Q E h => ?_) (fun cdv A outer s H vs Q E hr h => ?_)
  · obtain ⟨b, f, kvs, l, ds, c, L, rfl, _⟩ := h
    rfl
  · have hu := hu_of hr
    obtain ⟨b, f, kvs, l, ds, c, L, rfl, fa, oc, lc, k⟩ := h
    refine ⟨_, (pss_cons (ps_expr (pe_hasO c_require_book (hr.mono (by decide)) pass0 (pa_cons (pv 0) pa_nil)))
      (pss_cons (ps_expr (pe_hasO c_require_front (hr.mono (by decide)) pass0 (pa_cons (pv 0) (pa_cons (pv 1) pa_nil))))
      (pss_cons (ps_expr (pe_hasO c_require_sign (hr.mono (by decide)) pass0 (pa_cons (pv 0) (pa_cons (pv 2) pa_nil))))
      (pss_one (ps_ret (pe_hasO c_step_in (hr.mono (by decide)) pass0 (pa_cons (pv 0) (pa_cons (pv 1) (pa_cons (pv 2) pa_nil))))))))), ?_⟩
    have B := fa.bk
    obtain ⟨av, nd, ys, Lo, M, dx, d, tp, ta, od, pm, so, A⟩ := id B
    obtain ⟨_, al, _, _⟩ := ap_parts av
    have tar := tar_of av nd
    obtain ⟨Ln, rfl⟩ : ∃ Ln : Nat, Lo = (Ln : Int) := by
      obtain ⟨q, _, e⟩ := List.mem_map.mp A.lo.1
      exact ⟨q.1.length, e.symm⟩
    obtain ⟨wide, l1, l5⟩ := wide_of av pm A.lo
    
    refine ⟨_, rfl, b, dx, _, rfl, A.ob, ?_⟩
    refine ⟨_, rfl, _, rfl, b, f, kvs, l, ds, L, rfl, fa, fun H1 s1 => ?_⟩
    refine ⟨_, rfl, _, rfl, b, kvs, c, rfl, B.same s1, oc, fun H2 s2 => ?_⟩
    have fa2 := (fa.same s1).same s2
    refine ⟨_, rfl, _, rfl, _, rfl, b, f, kvs, l, ds, c, L, rfl, fa2.bk, fa2.fr, fa2.wd, fa2.ov, oc, fa2.ln, fa2.dl, fa2.lt, fa2.di, fun t m H3 st sa s3 => ?_⟩
    exact k t m H3 st sa ((s1.trans s2).trans s3)
theorem sc__law_reel : FnScope ["script", "spot", "cell", "great", "blend"] ["script", "spot"] (defScope s__law_reel) := ⟨rfl, rfl, rfl, by decide +kernel, rfl, by decide +kernel, by decide +kernel⟩
theorem ok__law_reel {f : Addr} {fd : FuncData} (F : Fun K "_law_reel" "_law_reel" s__law_reel f fd) (T : Txt K mg C) : FnG P w K mg base CX0 1 f fd ["script", "spot"] (spDice K) := by
  refine fn_g0 F sc__law_reel (fun vs H Q E h => ?_) (fun cdv A outer s H vs Q E hg hr h => ?_)
  · obtain ⟨a, ns, s, rfl, _⟩ := h
    rfl
  · have hu := hu_of hr
    obtain ⟨a, ns, s, rfl, hS, hn, hs0, hs1, k⟩ := h
    refine ⟨_, (pss_cons (ps_set (i := 2) sc__law_reel.nd rfl (Or.inl rfl) (pe_ifExp (pt_cmpR op_lt (pv 1) (pe_callB (g_len_seq K) (by rfl) T.b_len (by decide +kernel) (pa_cons (pv 0) pa_nil)) (nomark _)) (pe_ix (g_ix_list K) (pv 0) (pv 1) (fun _ _ => rfl)) (pe_op op_add (pe_op op_mulW pe_int (pv 1)) pe_int)))
      (pss_cons (ps_set (i := 3) sc__law_reel.nd rfl (Or.inl rfl) (pe_op op_mod (pe_callTy call_int1 (by rfl) T.b_int (by decide +kernel) (pa_cons (pe_callB call_abs (by rfl) T.b_abs (by decide +kernel) (pa_cons (pv 2) pa_nil)) pa_nil)) (pe_op op_powW (pe_op op_powW pe_int pe_int) pe_int)))
      (pss_cons (ps_set (i := 4) sc__law_reel.nd rfl (Or.inl rfl) (pe_op op_add (pe_op op_add (pe_op op_add (pe_op op_mulW (pv 3) pe_int) (pe_op op_mulW pe_int (pv 1))) (pe_op op_mulW pe_int (pe_callTy call_int1 (by rfl) T.b_int (by decide +kernel) (pa_cons (pe_cmpR op_lt (pv 2) pe_int (nomark _)) pa_nil)))) pe_int))
      (pss_one (ps_ret (pe_lst (pa_cons (pe_callB (call_max2 rfl) (by rfl) T.b_max (by decide +kernel) (pa_cons pe_int (pa_cons (pe_op op_sub (pv 3) (pe_op op_powW pe_int pe_int)) pa_nil))) (pa_cons (pe_op op_mod (pe_callTy call_int1 (by rfl) T.b_int (by decide +kernel) (pa_cons (pv 4) pa_nil)) pe_int) (pa_cons pe_int pa_nil))))))))), ?_⟩
    refine tif_int (c := decide (s < ((ns.map V.int).length : Int))) (fun _ => True) (fun N hN => ?_) (fun e N hN => ?_) (fun e N hN => ?_) (fun cell _ => ?_)
    · exact ⟨_, rfl, _, rfl, _, _, rfl, .inl hS, _, _, rfl, rfl, _, rfl, hN⟩
    · have e1 : s.toNat < ns.length := by
        have := of_decide_eq_true e
        rw [List.length_map] at this
        omega
      refine ⟨_, rfl, _, rfl, _, _, _, _, rfl, rfl, hS, at_of (j := s.toNat) (by omega) (by rw [List.getElem?_map, List.getElem?_eq_getElem e1]; rfl), ?_⟩
      exact hN _ trivial
    · refine ⟨_, rfl, _, _, rfl, rfl, wide_mul (a := 8) (b := 8) (by decide) (by omega) (by decide) (by decide) (by decide), _, _, rfl, rfl, ?_⟩
      exact hN _ trivial
    · refine ⟨_, rfl, _, rfl, .inl ⟨_, rfl, _, _, rfl, rfl, ⟨by decide, by decide +kernel⟩, _, _, rfl, rfl, ⟨by decide, by decide +kernel⟩, _, _, rfl, rfl, (show (0 : Int) < ((10 : Int) ^ (57 : Int).toNat) ^ (10 : Int).toNat by decide +kernel), ?_⟩⟩
      have wb := big_mod (x := if cell < 0 then -cell else cell) (m := ((10 : Int) ^ (57 : Int).toNat) ^ (10 : Int).toNat) (by decide +kernel) (by decide +kernel)
      dsimp only [gName, tRet, tLst, tCons]
      generalize (if cell < 0 then -cell else cell) % ((10 : Int) ^ (57 : Int).toNat) ^ (10 : Int).toNat = great at wb ⊢
      obtain ⟨w0, w1⟩ := wb
      refine ⟨_, rfl, _, _, rfl, rfl, wide_mul (a := 2100) (b := 40) w1 (by decide) (by decide) (by decide) (by decide), _, rfl, _, _, rfl, rfl, wide_mul (a := 20) (b := 8) (by decide) (by omega) (by decide) (by decide) (by decide), _, _, rfl, rfl, _, rfl, _, _, rfl, rfl, .inr ⟨_, rfl, _, _, rfl, rfl, wide_mul (a := 8) (b := 8) (by decide) (by split <;> decide) (by decide) (by decide) (by decide), _, _, rfl, rfl, _, _, rfl, rfl, ?_⟩⟩
      dsimp only [gName, tRet, tLst, tCons]
      generalize great * 998244353 + 104729 * s + 29 * (if decide (cell < 0) = true then (1 : Int) else 0) + 5 = blend
      refine ⟨_, rfl, _, _, rfl, rfl, ⟨by decide, by decide +kernel⟩, _, _, rfl, rfl, _, _, rfl, _, rfl, .inl ⟨_, rfl, _, _, rfl, rfl, (show (0 : Int) < 2305843009213693921 by decide), ?_⟩⟩
      refine ⟨(by show 3 ≤ sizeLine; decide), fun p hp => ?_⟩
      obtain ⟨m0, m1⟩ := big_mod (x := blend) (m := 2305843009213693921) (by decide) (by decide +kernel)
      exact k p _ hp (same_new hp) ⟨_, _, _, upd_same, big_cut w0 w1 (by decide +kernel), big_of m0 m1, Int.le_refl _, by omega⟩
theorem sc__law_spin : FnScope ["reel", "many", "found", "one", "two"] ["reel", "many"] (defScope s__law_spin) := ⟨rfl, rfl, rfl, by decide +kernel, rfl, by decide +kernel, by decide +kernel⟩
theorem ok__law_spin {f : Addr} {fd : FuncData} (F : Fun K "_law_spin" "_law_spin" s__law_spin f fd) (T : Txt K mg C) : FnG P w K mg base CX0 1 f fd ["reel", "many"] (spRoll) := by
  refine fn_g0 F sc__law_spin (fun vs H Q E h => ?_) (fun cdv A outer s H vs Q E hg hr h => ?_)
  · obtain ⟨l, u, n, rfl, _⟩ := h
    rfl
  · have hu := hu_of hr
    obtain ⟨l, u, n, rfl, hu0, hu1, ⟨d0, d1, d2, hD, b0, b1, p2, q2⟩, k⟩ := h
    refine ⟨_, (pss_cons (ps_if (pt_cmpR op_gt (pe_ix (g_ix_list K) (pv 0) pe_int (fun _ _ => rfl)) pe_int (nomark _)) (pss_cons (ps_set (i := 2) sc__law_spin.nd rfl (Or.inl rfl) (pe_op op_mod (pe_callTy call_int1 (by rfl) T.b_int (by decide +kernel) (pa_cons (pe_ix (g_ix_list K) (pv 0) pe_int (fun _ _ => rfl)) pa_nil)) (pv 1)))
      (pss_cons (ps_asg (pe_op op_fdivW (pe_ix (g_ix_list K) (pv 0) pe_int (fun _ _ => rfl)) (pv 1)) (pg_sub (pv 0) pe_int set_list))
      (pss_one (ps_ret (pv 2))))) pss_nil)
      (pss_cons (ps_asg (pe_op op_add (pe_ix (g_ix_list K) (pv 0) pe_int (fun _ _ => rfl)) pe_int) (pg_sub (pv 0) pe_int set_list))
      (pss_cons (ps_set (i := 3) sc__law_spin.nd rfl (Or.inl rfl) (pe_op op_mod (pe_callTy call_int1 (by rfl) T.b_int (by decide +kernel) (pa_cons (pe_op op_add (pe_ix (g_ix_list K) (pv 0) pe_int (fun _ _ => rfl)) (pe_op op_mulW pe_int (pe_ix (g_ix_list K) (pv 0) pe_int (fun _ _ => rfl)))) pa_nil)) pe_int))
      (pss_cons (ps_set (i := 4) sc__law_spin.nd rfl (Or.inl rfl) (pe_op op_mod (pe_callTy call_int1 (by rfl) T.b_int (by decide +kernel) (pa_cons (pe_op op_add (pe_op op_mulW (pv 3) (pv 3)) (pe_op op_mulW pe_int (pe_ix (g_ix_list K) (pv 0) pe_int (fun _ _ => rfl)))) pa_nil)) pe_int))
      (pss_one (ps_ret (pe_op op_mod (pe_callTy call_int1 (by rfl) T.b_int (by decide +kernel) (pa_cons (pe_op op_fdivW (pe_op op_mod (pe_callTy call_int1 (by rfl) T.b_int (by decide +kernel) (pa_cons (pe_op op_mulW (pv 4) (pv 3)) pa_nil)) pe_int) pe_int) pa_nil)) (pv 1)))))))), ?_⟩
    refine ⟨_, rfl, _, _, _, _, rfl, rfl, SqL.of hD, rfl, _, _, rfl, rfl, _, rfl, ?_⟩
    have u0 : 0 < u := by omega
    refine itB (fun e => ?_) (fun e => ?_)
    · refine ⟨_, rfl, _, _, _, _, rfl, rfl, SqL.of hD, rfl, .inl ⟨_, rfl, _, rfl, _, _, rfl, rfl, u0, ?_⟩⟩
      refine ⟨_, rfl, _, _, _, _, rfl, rfl, SqL.of hD, rfl, _, rfl, _, _, rfl, rfl, wide_div (b := 64) u0 (by omega) (by decide) (by decide), ?_⟩
      refine ⟨_, rfl, _, _, _, _, rfl, rfl, hD, rfl, ?_⟩
      refine ⟨_, rfl, ?_⟩
      exact k _ _ (Int.emod_nonneg _ (by omega)) (Int.emod_lt_of_pos _ u0) Kp.upd ⟨_, _, _, upd_same, big_div b0 hu0, b1, p2, by omega⟩
    · refine ⟨_, rfl, _, _, _, _, rfl, rfl, SqL.of hD, rfl, _, _, rfl, rfl, _, rfl, _, _, _, _, rfl, rfl, hD, rfl, ?_⟩
      have hD2 : upd H l (.lst [.int d0, .int d1, .int (d2 + 1)]) l = some (.lst [.int d0, .int d1, .int (d2 + 1)]) := upd_same
      refine ⟨_, rfl, _, _, _, _, rfl, rfl, SqL.of hD2, rfl, _, rfl, _, _, _, _, rfl, rfl, SqL.of hD2, rfl, _, _, rfl, rfl, wide_mul (a := 40) (b := 64) (by decide) (by omega) (by decide) (by decide) (by decide), _, _, rfl, rfl, .inl ⟨_, rfl, _, _, rfl, rfl, (show (0 : Int) < 1152921504606846869 by decide), ?_⟩⟩
      have o1 := Int.emod_nonneg (d1 + 1000000087 * (d2 + 1)) (by decide : (1152921504606846869 : Int) ≠ 0)
      have o2 := Int.emod_lt_of_pos (d1 + 1000000087 * (d2 + 1)) (by decide : (0 : Int) < 1152921504606846869)
      dsimp only
      generalize (d1 + 1000000087 * (d2 + 1)) % 1152921504606846869 = one' at o1 o2 ⊢
      refine ⟨_, rfl, _, rfl, _, _, rfl, rfl, wide_mul (a := 64) (b := 64) (by omega) (by omega) (by decide) (by decide) (by decide), ?_⟩
      refine ⟨_, rfl, _, _, _, _, rfl, rfl, SqL.of hD2, rfl, _, _, rfl, rfl, wide_mul (a := 20) (b := 64) (by decide) (by omega) (by decide) (by decide) (by decide), _, _, rfl, rfl, .inl ⟨_, rfl, _, _, rfl, rfl, (show (0 : Int) < 2305843009213693907 by decide), ?_⟩⟩
      have t1 := Int.emod_nonneg (one' * one' + 7919 * (d2 + 1)) (by decide : (2305843009213693907 : Int) ≠ 0)
      have t2 := Int.emod_lt_of_pos (one' * one' + 7919 * (d2 + 1)) (by decide : (0 : Int) < 2305843009213693907)
      dsimp only
      generalize (one' * one' + 7919 * (d2 + 1)) % 2305843009213693907 = two' at t1 t2 ⊢
      refine ⟨_, rfl, _, rfl, _, _, rfl, rfl, wide_mul (a := 64) (b := 64) (by omega) (by omega) (by decide) (by decide) (by decide), .inl ⟨_, rfl, ?_⟩⟩
      refine ⟨_, _, rfl, rfl, (show (0 : Int) < 1125899906842589 by decide), _, _, rfl, rfl, wide_div (b := 64) (by decide) (by decide) (by decide) (by decide), .inl ⟨_, rfl, _, rfl, _, _, rfl, rfl, u0, ?_⟩⟩
      exact k _ _ (Int.emod_nonneg _ (by omega)) (Int.emod_lt_of_pos _ u0) Kp.upd ⟨_, _, _, hD2, b0, b1, by omega, by omega⟩
theorem sc__law_pick : FnScope ["reel", "items"] ["reel", "items"] (defScope s__law_pick) := ⟨rfl, rfl, rfl, by decide +kernel, rfl, by decide +kernel, by decide +kernel⟩
theorem ok__law_pick {f : Addr} {fd : FuncData} (F : Fun K "_law_pick" "_law_pick" s__law_pick f fd) (T : Txt K mg C) (c__law_spin : Has P w K mg base CX0 1 "_law_spin" ["reel", "many"] (spRoll)) : FnG P w K mg base CX0 2 f fd ["reel", "items"] (spPick K) := by
  refine fn_g0 F sc__law_pick (fun vs H Q E h => ?_) (fun cdv A outer s H vs Q E hg hr h => ?_)
  · obtain ⟨l, x, ys, n, rfl, _⟩ := h
    rfl
  · have hu := hu_of hr
    obtain ⟨l, x, ys, n, rfl, S, ne, hl, D, k⟩ := h
    have hpos : 0 < ys.length := List.length_pos_iff.mpr ne
    refine ⟨_, (pss_one (ps_ret (pe_ix (g_ix_seq K) (pv 1) (pe_has c__law_spin hg (hr.mono (by decide)) pass0 (pa_cons (pv 0) (pa_cons (pe_callB (g_len K) (by rfl) T.b_len (by decide +kernel) (pa_cons (pv 1) pa_nil)) pa_nil))) (fun _ _ => rfl)))), ?_⟩
    have hlen : LenV K x H ys.length := by
      cases S with
      | lst _ h => exact .inl ⟨_, h, rfl⟩
      | tup _ h => exact .inr ⟨_, h, rfl⟩
      | str h e => exact ⟨fits_sz (by omega), by rw [e, signsV_len]⟩
    refine ⟨_, rfl, _, rfl, _, rfl, _, _, rfl, hlen, l, _, n, rfl, by omega, by omega, D, fun r H' r0 r1 kp D' => ?_⟩
    have hr1 : r.toNat < ys.length := by omega
    have hat : ys[r.toNat]? = some ys[r.toNat] := List.getElem?_eq_getElem hr1
    have hmem : ys[r.toNat] ∈ ys := List.getElem_mem hr1
    cases S with
    | lst n h => exact .inl ⟨_, _, _, _, rfl, rfl, kp.seq n h, at_of (j := r.toNat) (by omega) hat, k _ _ hmem kp D'⟩
    | tup n h => exact .inr (.inl ⟨_, _, _, _, rfl, rfl, kp.tup n h, at_of (j := r.toNat) (by omega) hat, k _ _ hmem kp D'⟩)
    | @str z _ h e =>
      subst e
      have hc : ∃ c, (cs z)[r.toNat]? = some c := ⟨_, List.getElem?_eq_getElem (by rw [cs_len, ← signsV_len]; exact hr1)⟩
      obtain ⟨c, hc⟩ := hc
      have e2 : atI (cs z) r = some c := by
        have : r = ((r.toNat : Nat) : Int) := by omega
        rw [this]
        exact atI_nat hc
      refine .inr (.inr ⟨_, _, _, rfl, rfl, fits_sz (by omega), e2, ?_⟩)
      refine k _ _ ?_ kp D'
      unfold signsV
      exact List.mem_map.mpr ⟨c, List.mem_of_getElem? hc, rfl⟩
theorem sc__law_shuffled : FnScope ["reel", "items", "left", "found"] ["reel", "items"] (defScope s__law_shuffled) := ⟨rfl, rfl, rfl, by decide +kernel, rfl, by decide +kernel, by decide +kernel⟩
theorem ok__law_shuffled {f : Addr} {fd : FuncData} (F : Fun K "_law_shuffled" "_law_shuffled" s__law_shuffled f fd) (T : Txt K mg C) (c__law_spin : Has P w K mg base CX0 1 "_law_spin" ["reel", "many"] (spRoll)) : FnG P w K mg base CX0 2 f fd ["reel", "items"] (spShuf K) := by
  refine fn_g0 F sc__law_shuffled (fun vs H Q E h => ?_) (fun cdv A outer s H vs Q E hg hr h => ?_)
  · obtain ⟨l, a, cl, n, rfl, _⟩ := h
    rfl
  · have hu := hu_of hr
    obtain ⟨l, a, cl, n, rfl, na, ha, hl, hlt, D, k⟩ := h
    refine ⟨_, (pss_cons (ps_par (i := 2) (j := 3) (by rfl) sc__law_shuffled.nd rfl rfl (by decide) rfl rfl (pa_cons (pe_callTy (g_list_of K) (by rfl) T.b_list (by decide +kernel) (pa_cons (pv 1) pa_nil)) (pa_cons (pe_lst pa_nil) pa_nil)) (by rfl))
      (pss_cons (ps_while PassesOwn.never (pt_cmpR (g_neD K hr.units) (pv 2) (pe_lst pa_nil) (nomark _)) (pss_one (ps_expr (g_bm K PySem.F.plainAttrs_list PySem.F.slot_list_append PySem.F.type_list_append mt_append (pv 3) (pa_cons (g_bm K PySem.F.plainAttrs_list PySem.F.slot_list_pop PySem.F.type_list_pop mt_popAt (pv 2) (pa_cons (pe_has c__law_spin hg (hr.mono (by decide)) pass0 (pa_cons (pv 0) (pa_cons (pe_callB (g_len_seq K) (by rfl) T.b_len (by decide +kernel) (pa_cons (pv 2) pa_nil)) pa_nil))) pa_nil)) pa_nil)))))
      (pss_one (ps_ret (pv 3))))), ?_⟩
    refine ⟨_, rfl, a, _, rfl, .inl ha, fun lf hlf => ?_⟩
    refine ⟨by show 0 ≤ sizeLine; decide, fun fo hfo => ?_⟩
    have nlf : lf ≠ l := D.ne hlf
    have nfo : fo ≠ l := (D.new hlf).ne hfo
    have nff : lf ≠ fo := ne_of_none upd_same hfo
    have hfo0 : H fo = none := (same_new hlf).free hfo
    refine ⟨_, _, rfl, ?_⟩
    refine ⟨fun m' σ H' => ∃ zs rest : List Nat, m' = rest.length ∧ σ = [some (.ref l), some (.ref a), some (.ref lf), some (.ref fo)] ∧ (zs ++ rest).Perm cl ∧ H' lf = some (.lst (rest.map chV)) ∧ H' fo = some (.lst (zs.map chV)) ∧ Kp l H H' ∧ Dice H' l (n + rest.length),
      ⟨_, [], cl, rfl, rfl, List.Perm.refl _, by rw [upd_ne nff]; exact upd_same, upd_same, ((Kp.refl _ _).new hlf).new hfo, (D.new hlf).new hfo⟩, ?_⟩
    rintro m' σ H1 ⟨zs, rest, rfl, rfl, pm, e1, e2, kp, D1⟩
    have lr : zs.length + rest.length = cl.length := by
      have := pm.length_eq
      rwa [List.length_append] at this
    have rlt : ∀ z ∈ rest.map ch, ∀ c ∈ cs z, lett c = true := fun z hz c hc => by
      obtain ⟨d, hd, rfl⟩ := List.mem_map.mp hz
      have : c = d := by simpa [cs] using hc
      rw [this]
      exact hlt d (pm.mem_iff.mp (List.mem_append_right _ hd))
    refine ⟨_, rfl, by show 0 ≤ sizeLine; decide, fun p hp => ?_⟩
    have npl : p ≠ l := D1.ne hp
    have e1' := same_new hp (o := .lst []) _ _ e1
    have e2' := same_new hp (o := .lst []) _ _ e2
    have kp' := kp.new hp (o := .lst [])
    have D1' := D1.new hp (o := .lst [])
    refine rNe_nil (zs := rest.map ch) (SqL.of (by rw [e1', chs_strs])) upd_same rlt ⟨_, rfl, ?_⟩
    generalize upd H1 p (.lst []) = H2 at e1' e2' kp' D1' ⊢
    cases hr : rest with
    | nil =>
      subst hr
      refine itF rfl ?_
      rw [List.append_nil] at pm
      exact ⟨_, rfl, k fo zs H2 hfo0 nfo pm e2' kp' (D1'.le (by omega))⟩
    | cons r0 rr =>
      rw [← hr]
      have pos : 0 < rest.length := by rw [hr]; simp
      refine itT (by rw [hr]; rfl) ⟨fun σ' H' => ∃ zs' rest' : List Nat, rest'.length + 1 = rest.length ∧ σ' = [some (.ref l), some (.ref a), some (.ref lf), some (.ref fo)] ∧ (zs' ++ rest').Perm cl ∧ H' lf = some (.lst (rest'.map chV)) ∧ H' fo = some (.lst (zs'.map chV)) ∧ Kp l H H' ∧ Dice H' l (n + rest'.length),
        fun σ' H' ⟨zs', rest', h1, h2⟩ => ⟨rest'.length, by omega, zs', rest', rfl, h2⟩, ?_⟩
      refine ⟨_, rfl, .inl ⟨rfl, _, SqL.of e2'⟩, _, rfl, .inl ⟨rfl, _, SqL.of e1'⟩, _, rfl, _, rfl, lf, _, rfl, .inl (SqL.of e1'), l, _, n + (rest.length - 1), rfl, by rw [List.length_map]; omega, by rw [List.length_map]; omega, D1'.le (by omega), fun r H3 r0' r1 kp2 D2 => ?_⟩
      rw [List.length_map] at r1
      obtain ⟨y, hy⟩ : ∃ y, rest[r.toNat]? = some y := ⟨_, List.getElem?_eq_getElem (by omega)⟩
      have e1'' := kp2 _ _ e1' nlf
      have e2'' := kp2 _ _ e2' nfo
      refine ⟨lf, rest.map chV, r, r.toNat, chV y, rfl, rfl, e1'', by omega, by omega, ix_pos r0' (by rw [List.length_map]; omega), by rw [List.getElem?_map, hy]; rfl, ?_⟩
      refine ⟨fo, zs.map chV, chV y, rfl, rfl, by rw [upd_ne nff.symm]; exact e2'', by rw [List.length_map]; exact small1000' (by omega), ?_⟩
      have el : (rest.eraseIdx r.toNat).length + 1 = rest.length := by
        have := (erase_perm hy).length_eq
        rwa [List.length_cons] at this
      refine ⟨zs ++ [y], rest.eraseIdx r.toNat, el, rfl, ?_, ?_, by rw [upd_same, List.map_append]; rfl, ?_, ?_⟩
      · rw [List.append_assoc]
        exact ((erase_perm hy).append_left zs).trans pm
      · rw [upd_ne nff, upd_same, ← DT.map_erase]
      · exact ((kp'.trans kp2).mut hlf).mut hfo0
      · exact ((D2.le (by omega)).upd nlf).upd nfo
theorem sc__law_letters : FnScope ["reel", "many"] ["reel", "many"] (defScope s__law_letters) := ⟨rfl, rfl, rfl, by decide +kernel, rfl, by decide +kernel, by decide +kernel⟩
theorem ok__law_letters {f : Addr} {fd : FuncData} (F : Fun K "_law_letters" "_law_letters" s__law_letters f fd) (T : Txt K mg C) (c__law_shuffled : Has P w K mg base CX0 2 "_law_shuffled" ["reel", "items"] (spShuf K)) : FnG P w K mg base CX0 3 f fd ["reel", "many"] (spLett K) := by
  refine fn_g0 F sc__law_letters (fun vs H Q E h => ?_) (fun cdv A outer s H vs Q E hg hr h => ?_)
  · obtain ⟨l, m, n, rfl, _⟩ := h
    rfl
  · have hu := hu_of hr
    obtain ⟨l, m, n, rfl, hm, D, k⟩ := h
    refine ⟨_, (pss_one (ps_ret (pe_slice (g_sl_list K) (pe_has c__law_shuffled hg (hr.mono (by decide)) pass0 (pa_cons (pv 0) (pa_cons (pe_callTy (call_list_str rfl) (by rfl) T.b_list (by decide +kernel) (pa_cons pe_str pa_nil)) pa_nil))) po_none (po_some (pv 1))))), ?_⟩
    have l26 : (cs (Str.ofString "abcdefghijklmnopqrstuvwxyz")).length = 26 := by decide +kernel
    have all : ∀ c ∈ cs (Str.ofString "abcdefghijklmnopqrstuvwxyz"), lett c = true := List.all_eq_true.mp (show (Str.ofString "abcdefghijklmnopqrstuvwxyz").cps.toList.all lett = true by decide +kernel)
    refine ⟨_, rfl, Str.ofString "abcdefghijklmnopqrstuvwxyz", rfl, by decide +kernel, fun p hp => ?_⟩
    have npl : p ≠ l := D.ne hp
    refine ⟨l, p, cs (Str.ofString "abcdefghijklmnopqrstuvwxyz"), n, rfl, npl, SqL.of upd_same, by omega, all, by rw [l26]; exact D.new hp, fun q zs H1 hq nql pm e1 kp D1 => ?_⟩
    refine ⟨_, rfl, _, rfl, q, _, rfl, SqL.of e1, fun r hr => ?_⟩
    have zl : zs.length = 26 := by rw [pm.length_eq, l26]
    rw [cutV_to (by rw [List.length_map]; omega), ← List.map_take]
    have hq0 : H q = none := (same_new hp).free hq
    have nrl : r ≠ l := D1.ne hr
    have hr0 : H r = none := kp_free ((Kp.of (same_new hp)).trans kp) nrl hr
    exact k r (zs.take m) _ hr0 nrl (by rw [List.length_take]; omega) (fun c hc => all c (pm.mem_iff.mp (List.mem_of_mem_take hc))) upd_same (((Kp.of (same_new hp)).trans kp).new hr) (D1.new hr)
theorem sc__law_word : FnScope ["reel", "signs", "many", "turn"] ["reel", "signs", "many"] (defScope s__law_word) := ⟨rfl, rfl, rfl, by decide +kernel, rfl, by decide +kernel, by decide +kernel⟩
theorem ok__law_word {f : Addr} {fd : FuncData} (F : Fun K "_law_word" "_law_word" s__law_word f fd) (T : Txt K mg C) (c__law_pick : Has P w K mg base CX0 2 "_law_pick" ["reel", "items"] (spPick K)) : FnG P w K mg base CX0 3 f fd ["reel", "signs", "many"] (spLetters K) := by
  refine fn_g0 F sc__law_word (fun vs H Q E h => ?_) (fun cdv A outer s H vs Q E hg hr h => ?_)
  · obtain ⟨l, x, cl, m, n, rfl, _⟩ := h
    rfl
  · have hu := hu_of hr
    obtain ⟨l, x, cl, m, n, rfl, S, ne, hl, hm, D, k⟩ := h
    refine ⟨_, (pss_one (ps_ret (g_join K pe_str (pe_lc (own := [("turn", 3)]) rfl sc__law_word.nd (pi_range1 (by rfl) T.b_range (pa_cons (pv 2) pa_nil)) (blkOk_by (own := [("turn", 3)]) (N := ["reel", "signs", "many", "turn"]) (sc := defScope s__law_word) (by decide +kernel)) (fun _ _ _ _ _ => (pg_name (i := 3) sc__law_word.nd rfl (Or.inl rfl))) (fun _ _ _ _ _ => pts_nil) (fun _ _ _ _ _ => (pe_has c__law_pick hg (hr.mono (by decide)) pass0 (pa_cons (pv 0) (pa_cons (pv 1) pa_nil)))))))), ?_⟩
    refine ⟨⟨_, rfl⟩, _, rfl, _, rfl, by omega, by omega, fun p hp => ?_⟩
    have npl : p ≠ l := D.ne hp
    refine lc_range (fun i H' => ∃ zs : List Nat, zs.length = i ∧ (∀ c ∈ zs, c ∈ cl) ∧ H' p = some (.lst (zs.map chV)) ∧ Kp l H H' ∧ Dice H' l (n + (m - i)) ∧ i ≤ m)
      ⟨[], rfl, fun _ z => (List.not_mem_nil z).elim, upd_same, (Kp.refl _ _).new hp, D.upd npl, Nat.zero_le _⟩ ?_ ?_
    · rintro i H' hi ⟨zs, e1, e2, e3, kp, D', hi2⟩
      have e6 : Int.toNat (m : Int) = m := by omega
      rw [e6] at hi
      refine ⟨rfl, _, rfl, _, rfl, l, x, cl.map chV, n + (m - (i + 1)), rfl, S.kp kp, by simpa using ne, by simpa using hl, D'.le (by omega), fun y H2 hy kp2 D2 => ?_⟩
      obtain ⟨c, hc, rfl⟩ := List.mem_map.mp hy
      refine ⟨_, kp2 _ _ e3 npl, by rw [List.length_map]; exact Nat.lt_of_le_of_lt (by omega : zs.length ≤ 10000) (by decide), zs ++ [c], ?_, ?_, ?_, ?_, ?_, by omega⟩
      · rw [List.length_append, e1]
        rfl
      · intro d hd
        rcases List.mem_append.mp hd with hd | hd
        · exact e2 d hd
        · rw [List.mem_singleton.mp hd]
          exact hc
      · rw [upd_same, List.map_append]
        rfl
      · exact (kp.trans kp2).mut hp
      · exact D2.upd npl
    · rintro H' ⟨zs, e1, e2, e3, kp, D', hi2⟩
      have e6 : Int.toNat (m : Int) = m := by omega
      rw [e6] at e1 D'
      refine ⟨_, p, zs.map ch, rfl, rfl, .inl (SqL.of (by rw [e3, List.map_map]; rfl)), ?_, ?_⟩
      · rw [sum_ch, List.length_map]
        show zs.length + zs.length * 0 ≤ _
        omega
      · rw [join_ch]
        exact k zs H' e1 e2 kp (D'.le (by omega))
theorem sc__law_prices : FnScope ["reel", "signs", "most", "size", "menu", "found", "turn", "sign"] ["reel", "signs", "most", "size", "menu"] (defScope s__law_prices) := ⟨rfl, rfl, rfl, by decide +kernel, rfl, by decide +kernel, by decide +kernel⟩
theorem ok__law_prices {f : Addr} {fd : FuncData} (F : Fun K "_law_prices" "_law_prices" s__law_prices f fd) (T : Txt K mg C) (c__law_spin : Has P w K mg base CX0 1 "_law_spin" ["reel", "many"] (spRoll)) (c__law_pick : Has P w K mg base CX0 2 "_law_pick" ["reel", "items"] (spPick K)) (c__law_word : Has P w K mg base CX0 3 "_law_word" ["reel", "signs", "many"] (spLetters K)) : FnG P w K mg base CX0 4 f fd ["reel", "signs", "most", "size", "menu"] (spPrices20 K) := by
  refine fn_g0 F sc__law_prices (fun vs H Q E h => ?_) (fun cdv A outer s H vs Q E hg hr h => ?_)
  · obtain ⟨l, sa, ma, sg, ms, n, rfl, _⟩ := h
    rfl
  · have hu := hu_of hr
    obtain ⟨l, sa, ma, sg, ms, n, rfl, nsa, nma, hs, hm, n1, n4, hl, m0, m100, mm, D, k⟩ := h
    refine ⟨_, (pss_cons (ps_set (i := 5) sc__law_prices.nd rfl (Or.inl rfl) (pe_callTy (g_dictP K rfl) (by rfl) T.b_dict (by decide +kernel) (pa_cons (pe_lc (own := [("sign", 7)]) rfl sc__law_prices.nd (g_list K (pv 1)) (blkOk_by (own := [("sign", 7)]) (N := ["reel", "signs", "most", "size", "menu", "found", "turn", "sign"]) (sc := defScope s__law_prices) (by decide +kernel)) (fun _ _ _ _ _ => (pg_name (i := 7) sc__law_prices.nd rfl (Or.inl rfl))) (fun _ _ _ _ _ => pts_nil) (fun _ _ _ _ _ => (pe_tup (pa_cons (pv 7) (pa_cons (pe_has c__law_pick hg (hr.mono (by decide)) pass0 (pa_cons (pv 0) (pa_cons (pv 4) pa_nil))) pa_nil))))) pa_nil)))
      (pss_cons (ps_for PassesOwn.never rfl (pi_range1 (by rfl) T.b_range (pa_cons (pe_has c__law_spin hg (hr.mono (by decide)) pass0 (pa_cons (pv 0) (pa_cons (pe_op op_add (pv 2) pe_int) pa_nil))) pa_nil)) (pg_name (i := 6) sc__law_prices.nd rfl (Or.inl rfl)) (pss_one (ps_asg (pe_has c__law_pick hg (hr.mono (by decide)) pass0 (pa_cons (pv 0) (pa_cons (pv 4) pa_nil))) (pg_sub (pv 5) (pe_has c__law_word hg (hr.mono (by decide)) pass0 (pa_cons (pv 0) (pa_cons (pv 1) (pa_cons (pe_op op_add pe_int (pe_has c__law_spin hg (hr.mono (by decide)) pass0 (pa_cons (pv 0) (pa_cons (pe_op op_sub (pv 3) pe_int) pa_nil)))) pa_nil)))) (set_dict hu)))))
      (pss_one (ps_ret (pv 5))))), ?_⟩
    have nsg : sg ≠ [] := fun e => by
      rw [e] at n1
      simp at n1
    have nms : ms ≠ [] := fun e => by
      rw [e] at m0
      simp at m0
    have pickM : ∀ {y : V}, y ∈ ms.map V.int → ∃ i : Int, y = .int i ∧ 1 ≤ i ∧ i ≤ 99 := fun h => by
      obtain ⟨i, hi, rfl⟩ := List.mem_map.mp h
      exact ⟨i, rfl, mm i hi⟩
    -- the single signs
    refine ⟨_, rfl, sa, rfl, ⟨_, hs⟩, fun L hL => ?_⟩
    have nL : L ≠ l := D.ne hL
    refine lc_it (walk_listF (K := K) chV sg) (fun j H' => ∃ prs : List (Addr × (Key × V)), prs.length = j ∧ H' L = some (.lst (prs.map fun p => V.ref p.1)) ∧ (∀ p ∈ prs, p.1 ≠ l ∧ p.1 ≠ L ∧ H' p.1 = some (.tup [kV p.2.1, p.2.2]) ∧ PairOk sg p.2) ∧ prs.map (fun p => p.2.1) = (sg.take j).map (fun c => (Sum.inr (ch c) : Key)) ∧ Kp l H H' ∧ Dice H' l (n + (100 - j)))
      ⟨[], rfl, upd_same, fun _ h => (List.not_mem_nil h).elim, rfl, (Kp.refl _ _).new hL, (D.new hL).le (by omega)⟩ (fun j H' _ q => by obtain ⟨_, _, _, _, _, q, _⟩ := q; exact q.seq nsa hs) ?_ ?_
    · rintro j x H1 H2 hj ⟨prs, prl, L1, pr1, pk, k1, D1⟩ ⟨rfl, c, hc, rfl⟩
      refine ⟨wipe_set, _, rfl, _, rfl, _, rfl, l, .ref ma, ms.map V.int, n + (100 - (j + 1)), rfl, .lst nma (k1.seq nma hm), by simpa using nms, by rw [List.length_map]; omega, D1.le (by omega), fun y H3 hy k3 D3 => ?_⟩
      obtain ⟨i, rfl, i1, i2⟩ := pickM hy
      refine ⟨(by show 2 ≤ sizeLine; decide), fun tT hT => ?_⟩
      have nT : tT ≠ l := D3.ne hT
      have nTL : tT ≠ L := (ne_of_none (k3 _ _ L1 nL) hT).symm
      refine ⟨_, same_new hT _ _ (k3 _ _ L1 nL), by rw [List.length_map]; exact small1000' (by omega), prs ++ [(tT, (Sum.inr (ch c), .int i))], by rw [List.length_append, prl]; rfl, by rw [upd_same, List.map_append]; rfl, fun p hp => ?_, ?_, ?_, ?_⟩
      · rcases List.mem_append.mp hp with h | h
        · obtain ⟨q1, q2, q3, q4⟩ := pr1 p h
          exact ⟨q1, q2, by rw [upd_ne q2]; exact same_new hT _ _ (k3 _ _ q3 q1), q4⟩
        · rw [List.mem_singleton.mp h]
          exact ⟨nT, nTL, by rw [upd_ne nTL]; exact upd_same, ch c, i, rfl, by simp [cs], fun d hd => by simp [cs] at hd; rw [hd]; exact List.mem_of_getElem? hc, i1, i2⟩
      · rw [List.map_append, pk, List.take_add_one, hc, List.map_append]
        rfl
      · exact ((k1.trans k3).new hT).mut hL
      · exact (D3.new hT).upd nL
    rintro H1 ⟨prs, prl, L1, pr1, pk, k1, D1⟩
    rw [List.take_length] at pk
    refine ⟨L, prs.map (·.1), prs.map (·.2), rfl, SqL.of (by rw [L1, List.map_map]; rfl), paired_of (F := fun (p : Addr) (kv : Key × V) => SqT K H1 p [kV kv.1, kv.2]) (ps := prs) (fun p hp => SqT.of (pr1 p hp).2.2.1), fun pd hpd => ?_⟩
    obtain ⟨P0, l0⟩ := PrOk.merge (sg := sg) (more := prs.map (·.2)) PrOk.nil fun kv hkv => by
      obtain ⟨p, hp, rfl⟩ := List.mem_map.mp hkv
      exact (pr1 p hp).2.2.2
    have has0 : ∀ c ∈ sg, (valV (mergeK [] (prs.map (·.2))) (Sum.inr (ch c) : Key)).isSome = true := fun c hc => merge_has (Or.inl (by
      rw [List.map_map]
      show (Sum.inr (ch c) : Key) ∈ prs.map fun p => p.2.1
      rw [pk]
      exact List.mem_map.mpr ⟨c, hc, rfl⟩))
    have npd : pd ≠ l := D1.ne hpd
    have hpd0 : H pd = none := kp_free k1 npd hpd
    rw [List.length_map, prl] at l0
    have l0' : (mergeK [] (prs.map (·.2))).length ≤ 4 := Nat.le_trans l0 (by show 0 + sg.length ≤ 4; omega)
    have D1' := (D1.new (o := .dK (mergeK [] (prs.map (·.2)))) hpd)
    have k1' := k1.new (o := .dK (mergeK [] (prs.map (·.2)))) hpd
    have e1' : (upd H1 pd (.dK (mergeK [] (prs.map (·.2))))) pd = some (.dK (mergeK [] (prs.map (·.2)))) := upd_same
    generalize mergeK [] (prs.map (·.2)) = kv0 at P0 has0 l0' D1' k1' e1' ⊢
    generalize (upd H1 pd (.dK kv0)) = H2 at D1' k1' e1' ⊢
    -- longer pieces
    refine ⟨_, rfl, _, rfl, _, _, rfl, rfl, l, _, n + 95, rfl, by decide, by decide, D1'.le (by omega), fun r H3 r0 r1 k3 D3 => ?_⟩
    refine ⟨r, rfl, by omega, by omega, for_range (lo := 0) (n := r.toNat) (fun i σ H' => ∃ x6 x7, σ = [some (.ref l), some (.ref sa), some (.int 6), some (.int 5), some (.ref ma), some (.ref pd), x6, x7] ∧ ∃ kv, H' pd = some (.dK kv) ∧ PrOk sg kv ∧ kv.length ≤ 4 + i ∧ (∀ c ∈ sg, (valV kv (Sum.inr (ch c) : Key)).isSome = true) ∧ Kp l H H' ∧ Dice H' l (n + (95 - 7 * i)))
      ⟨_, _, rfl, kv0, k3 _ _ e1' npd, P0, l0', has0, k1'.trans k3, D3⟩ ?_ ?_⟩
    · rintro i σ H4 hi ⟨x6, x7, rfl, kv, e4, P4, n4', g4, k4, D4⟩
      have ir : i < 7 := by omega
      refine ⟨_, rfl, _, rfl, l, .ref ma, ms.map V.int, n + (95 - 7 * i - 1), rfl, .lst nma (k4.seq nma hm), by simpa using nms, by rw [List.length_map]; omega, D4.le (by omega), fun y H5 hy k5 D5 => ?_⟩
      obtain ⟨j, rfl, j1, j2⟩ := pickM hy
      refine ⟨_, rfl, _, rfl, _, rfl, _, rfl, _, rfl, _, _, rfl, rfl, l, _, n + (95 - 7 * i - 2), rfl, by decide, by decide, D5.le (by omega), fun r2 H6 r20 r21 k6 D6 => ⟨_, _, rfl, rfl, ?_⟩⟩
      have r2' : r2 < 4 := r21
      refine ⟨l, .ref sa, sg, (2 + r2).toNat, n + (95 - 7 * (i + 1)), by rw [Int.toNat_of_nonneg (by omega)]; rfl, .lst nsa (((k4.trans k5).trans k6).seq nsa hs), nsg, by omega, by omega, D6.le (by omega), fun zs H7 zl zc k7 D7 => ?_⟩
      have e7 := k7 _ _ (k6 _ _ (k5 _ _ e4 npd) npd) npd
      refine ⟨pd, _, rfl, .inl ⟨kv, Sum.inr (sOf zs), e7, rfl, small1000' (by omega), rfl⟩, ?_⟩
      refine ⟨_, _, rfl, _, upd_same, P4.put (z := sOf zs) (by rw [cs_sOf]; omega) (by rw [cs_sOf]; exact zc) ⟨j1, j2⟩, ?_, fun c hc => ?_, (((k4.trans k5).trans k6).trans k7).mut hpd0, D7.upd npd⟩
      · have := put_len (kvs := kv) (k := Sum.inr (sOf zs)) (v := .int j)
        omega
      · rw [valV_put]
        split
        · rfl
        · exact g4 c hc
    · rintro σ H4 ⟨x6, x7, rfl, kv, e4, P4, n4', g4, k4, D4⟩
      obtain ⟨av, sgns⟩ := P4.right g4 hl n4 n1 (by omega)
      exact ⟨_, rfl, k pd kv H4 hpd0 npd e4 av P4.nd sgns k4 (D4.le (by omega))⟩
theorem sc__law_cheap : FnScope ["prices", "text", "found", "end", "piece"] ["prices", "text"] (defScope s__law_cheap) := ⟨rfl, rfl, rfl, by decide +kernel, rfl, by decide +kernel, by decide +kernel⟩
theorem ok__law_cheap {f : Addr} {fd : FuncData} (F : Fun K "_law_cheap" "_law_cheap" s__law_cheap f fd) (T : Txt K mg C) : FnG P w K mg base CX0 2 f fd ["prices", "text"] (spCheap) := by
  refine fn_g0 F sc__law_cheap (fun vs H Q E h => ?_) (fun cdv A outer s H vs Q E hg hr h => ?_)
  · obtain ⟨d, kvs, z, rfl, _⟩ := h
    rfl
  · have hu := hu_of hr
    obtain ⟨d, kvs, z, rfl, hd, tar, ov, hz, k⟩ := h
    refine ⟨_, (pss_cons (ps_set (i := 2) sc__law_cheap.nd rfl (Or.inr rfl) (pe_lst (pa_cons pe_int pa_nil)))
      (pss_cons (ps_for PassesOwn.never rfl (pi_range2 (by rfl) T.b_range (pa_cons pe_int (pa_cons (pe_op op_add (pe_callB call_len_str (by rfl) T.b_len (by decide +kernel) (pa_cons (pv 1) pa_nil)) pe_int) pa_nil))) (pg_name (i := 3) sc__law_cheap.nd rfl (Or.inr rfl)) (pss_one (ps_expr (g_bm K PySem.F.plainAttrs_list PySem.F.slot_list_append PySem.F.type_list_append mt_append (pv 2) (pa_cons (pe_callB (g_min K rfl) (by rfl) T.b_min (by decide +kernel) (pa_cons (pe_lock (by exact (pe_lc (own := [("piece", 4)]) rfl sc__law_cheap.nd (pi_keys (pv 0)) (blkOk_by (own := [("piece", 4)]) (N := ["prices", "text", "found", "end", "piece"]) (sc := defScope s__law_cheap) (by decide +kernel)) (fun _ _ _ _ _ => (pg_name (i := 4) sc__law_cheap.nd rfl (Or.inl rfl))) (fun _ _ _ _ _ => (pts_one (pt_val (pe_m1 PySem.F.slot_str_endswith PySem.F.type_str_endswith mt_endswith (pe_slice sl_str (pv 1) po_none (po_some (pv 3))) (pv 4))))) (fun _ _ _ _ _ => (pe_op op_add (pe_ix (g_ix_list K) (pv 2) (pe_op op_sub (pv 3) (pe_callB call_len_str (by rfl) T.b_len (by decide +kernel) (pa_cons (pv 4) pa_nil))) (fun _ _ => rfl)) (pe_dget hu (pv 0) (pv 4) (fun _ _ => rfl))))))) pa_nil)) pa_nil)))))
      (pss_one (ps_ret (pv 2))))), ?_⟩
    have good := tar.good
    have lz := cs_len z
    refine ⟨(by show 1 ≤ sizeLine; decide), fun fo hfo => ?_⟩
    have nfd : fo ≠ d := (ne_of_none hd hfo).symm
    refine ⟨_, rfl, z, rfl, fits_sz (by omega), _, _, rfl, rfl, 1, _, rfl, ⟨by omega, by omega, by omega, by omega⟩, for_range (lo := 1) (Pv := fun i σ H' => ∃ u v, σ = [some (.ref d), some (.str z), some (.ref fo), u, v] ∧ Same H H' ∧ H' fo = some (.lst (rowV (tfD kvs) (cs z) (i + 1))))
      ⟨_, _, rfl, same_new hfo, by rw [upd_same, rowV_one good]⟩ ?_ ?_⟩
    · rintro i σ H1 hi ⟨u, v, rfl, s1, f1⟩
      have hi' : i < z.length := by omega
      have d1 := s1 _ _ hd
      have e1 : (1 : Int) + (i : Int) = ((i + 1 : Nat) : Int) := by omega
      rw [e1]
      have hst : cs (cutS z none (some ((i + 1 : Nat) : Int))) = (cs z).take (i + 1) := cs_cutTo (by omega)
      have lst : (cutS z none (some ((i + 1 : Nat) : Int))).length = i + 1 := by
        rw [← cs_len, hst, List.length_take]
        omega
      refine ⟨_, rfl, .inl ⟨rfl, _, SqL.of f1⟩, d, _, d1, trivial, fun od => ?_⟩
      refine ⟨_, rfl, d, od, rfl, .inl ⟨kvs, upd_same, fun D hD => ?_⟩⟩
      have nD := lock_ne hD
      have f1' : (upd H1 d (.frz od (.dK kvs))) fo = some (.lst (rowV (tfD kvs) (cs z) (i + 1))) := by
        rw [upd_ne nfd]
        exact f1
      refine lcs kvs walk_keys (fun kv => (candG (tfD kvs) (cs z) (i + 1) (cutS z none (some ((i + 1 : Nat) : Int))) kv).map V.int) hD (by have := tar.len; omega) (fun H' s => s _ _ upd_same) ?_ ?_
      · rintro j kv x H2 H3 hj s2 ⟨rfl, k', v', ek, rfl⟩ N M hN hM
        have ekv : kv = (k', v') := Option.some.inj (hj.symm.trans ek)
        subst ekv
        obtain ⟨y, p, ey, hp⟩ := tar.mem _ (List.mem_of_getElem? hj)
        cases ey
        have ly := good.len y p hp
        rw [cs_len] at ly
        refine ⟨wipe_set, _, rfl, _, rfl, _, rfl, z, rfl, fits_sz (by omega), ⟨_, rfl⟩, _, rfl, _, _, rfl, rfl, _, rfl, ?_⟩
        refine itB (fun q => ?_) (fun q => ?_)
        · obtain ⟨a, ha⟩ := ends_iff.mp q
          have la := congrArg List.length ha
          rw [List.length_append, cs_len, cs_len, lst] at la
          refine ⟨_, rfl, _, rfl, _, rfl, _, rfl, fits_sz (by omega), _, _, rfl, rfl, fo, _, _, _, rfl, rfl, SqL.of (s2 _ _ f1'), at_of (j := i + 1 - y.length) (by omega) (rowV_at (by omega)), _, rfl, _, rfl, d, _, rfl, .inl ⟨kvs, Sum.inr y, .inr ⟨od, s2 _ _ upd_same⟩, rfl, (tf_some.mp hp).symm⟩, _, _, rfl, rfl, hN _ _ ?_ (Same.refl _)⟩
          show (if Txt.endswith (cutS z none (some ((i + 1 : Nat) : Int))) y = true then some (lp (tfD kvs) ((cs z).take (i + 1 - y.length)) + p) else none).map V.int = _
          rw [if_pos q]
          rfl
        · refine hM _ ?_ (Same.refl _)
          show (if Txt.endswith (cutS z none (some ((i + 1 : Nat) : Int))) y = true then some (lp (tfD kvs) ((cs z).take (i + 1 - y.length)) + p) else none).map V.int = _
          rw [if_neg (by rw [q]; exact Bool.false_ne_true)]
          rfl
      rintro H2 s2 e2
      rw [fm_int] at e2
      obtain ⟨pos, least⟩ := cand_min tar ov hst (by omega) (by omega)
      have S2 : Same H1 (upd H2 d (.dK kvs)) := unlock d1 s2
      refine ⟨s2 _ _ upd_same, D, _, rfl, SqL.of (by rw [upd_ne nD]; exact e2), pos, fun m hm hl => ?_⟩
      have em := least m hm hl
      subst em
      refine ⟨fo, _, _, rfl, rfl, S2 _ _ f1, by rw [rowV_len]; exact small1000' (by omega), ?_⟩
      refine ⟨_, _, rfl, same_mut (s1.trans S2) hfo, ?_⟩
      rw [upd_same, rowV_succ (n := i + 1)]
    · rintro σ H1 ⟨u, v, rfl, s1, f1⟩
      have e1 : ((z.length : Int) + 1 - 1).toNat = z.length := by omega
      rw [e1] at f1
      exact ⟨_, rfl, k fo H1 hfo f1 s1⟩
theorem sc__law_wide : FnScope ["prices", "piece"] ["prices"] (defScope s__law_wide) := ⟨rfl, rfl, rfl, by decide +kernel, rfl, by decide +kernel, by decide +kernel⟩
theorem ok__law_wide {f : Addr} {fd : FuncData} (F : Fun K "_law_wide" "_law_wide" s__law_wide f fd) (T : Txt K mg C) : FnG P w K mg base CX0 1 f fd ["prices"] (spWide) := by
  refine fn_g0 F sc__law_wide (fun vs H Q E h => ?_) (fun cdv A outer s H vs Q E hg hr h => ?_)
  · obtain ⟨d, kvs, rfl, _⟩ := h
    rfl
  · have hu := hu_of hr
    obtain ⟨d, kvs, rfl, hd, tar, ne, k⟩ := h
    refine ⟨_, (pss_one (ps_ret (pe_callB (g_max K rfl) (by rfl) T.b_max (by decide +kernel) (pa_cons (pe_lock (by exact (pe_lc (own := [("piece", 1)]) rfl sc__law_wide.nd (pi_keys (pv 0)) (blkOk_by (own := [("piece", 1)]) (N := ["prices", "piece"]) (sc := defScope s__law_wide) (by decide +kernel)) (fun _ _ _ _ _ => (pg_name (i := 1) sc__law_wide.nd rfl (Or.inl rfl))) (fun _ _ _ _ _ => pts_nil) (fun _ _ _ _ _ => (pe_callB call_len_str (by rfl) T.b_len (by decide +kernel) (pa_cons (pv 1) pa_nil)))))) pa_nil)))), ?_⟩
    refine ⟨d, _, hd, trivial, fun od => ?_⟩
    refine ⟨_, rfl, d, od, rfl, .inl ⟨kvs, upd_same, fun D hD => ?_⟩⟩
    have nD := lock_ne hD
    refine lcs kvs walk_keys (fun kv => match kv.1 with | .inr y => some (V.int ((cs y).length : Int)) | .inl _ => none) hD (by have := tar.len; omega) (fun H' s => s _ _ upd_same) ?_ ?_
    · rintro j kv x H2 H3 hj s2 ⟨rfl, k', v', ek, rfl⟩ N M hN hM
      have ekv : kv = (k', v') := Option.some.inj (hj.symm.trans ek)
      subst ekv
      obtain ⟨y, p, ey, hp⟩ := tar.mem _ (List.mem_of_getElem? hj)
      cases ey
      have ly := tar.good.len y p hp
      refine ⟨wipe_set, _, rfl, y, rfl, fits_sz (by rw [← cs_len]; omega), hN _ _ ?_ (Same.refl _)⟩
      show some (V.int ((cs y).length : Int)) = _
      rw [cs_len]
    rintro H2 s2 e2
    have em : (kvs.filterMap fun kv => match kv.1 with | .inr y => some (V.int ((cs y).length : Int)) | .inl _ => none) = ((keyStrs kvs).map fun y => ((cs y).length : Int)).map V.int := by
      unfold keyStrs
      rw [List.map_map, List.map_filterMap]
      congr 1
      funext kv
      cases kv.1 <;> rfl
    rw [em] at e2
    have keyE : ∀ {y}, y ∈ keyStrs kvs ↔ ∃ p, tfD kvs y = some p := fun {y} => by
      rw [ks_mem]
      constructor
      · intro h
        obtain ⟨kv, hkv, e⟩ := List.mem_map.mp h
        obtain ⟨y', p, rfl, hp⟩ := tar.mem kv hkv
        dsimp only at e
        cases e
        exact ⟨p, hp⟩
      · rintro ⟨p, h⟩
        exact valV_in (tf_some.mp h)
    have pos : 0 < ((keyStrs kvs).map fun y => ((cs y).length : Int)).length := by
      rw [List.length_map]
      cases kvs with
      | nil => exact absurd rfl ne
      | cons a r =>
        obtain ⟨y, p, rfl, hp⟩ := tar.mem a List.mem_cons_self
        exact List.length_pos_of_mem (keyE.mpr ⟨p, hp⟩)
    refine ⟨s2 _ _ upd_same, D, _, rfl, SqL.of (by rw [upd_ne nD]; exact e2), pos, fun m hm hle => ?_⟩
    obtain ⟨y, hy, rfl⟩ := List.mem_map.mp hm
    obtain ⟨p, hp⟩ := keyE.mp hy
    have ly := tar.good.len y p hp
    refine k (cs y).length _ ⟨⟨y, p, hp, rfl⟩, fun z q hz => ?_⟩ ly.1 ly.2 (unlock hd s2)
    have := hle _ (List.mem_map.mpr ⟨z, keyE.mpr ⟨q, hz⟩, rfl⟩)
    omega
theorem sc__law_front : FnScope ["prices", "text", "row", "many", "back"] ["prices", "text"] (defScope s__law_front) := ⟨rfl, rfl, rfl, by decide +kernel, rfl, by decide +kernel, by decide +kernel⟩
theorem ok__law_front {f : Addr} {fd : FuncData} (F : Fun K "_law_front" "_law_front" s__law_front f fd) (T : Txt K mg C) (c__law_cheap : Has P w K mg base CX0 2 "_law_cheap" ["prices", "text"] (spCheap)) (c__law_wide : Has P w K mg base CX0 1 "_law_wide" ["prices"] (spWide)) : FnG P w K mg base CX0 3 f fd ["prices", "text"] (spLawFront) := by
  refine fn_g0 F sc__law_front (fun vs H Q E h => ?_) (fun cdv A outer s H vs Q E hg hr h => ?_)
  · obtain ⟨d, kvs, z, rfl, _⟩ := h
    rfl
  · have hu := hu_of hr
    obtain ⟨d, kvs, z, rfl, hd, tar, ne, ov, hz, k⟩ := h
    refine ⟨_, (pss_cons (ps_asg (pe_tup (pa_cons (pe_has c__law_cheap hg (hr.mono (by decide)) pass0 (pa_cons (pv 0) (pa_cons (pv 1) pa_nil))) (pa_cons (pe_callB (call_min2 rfl) (by rfl) T.b_min (by decide +kernel) (pa_cons (pe_op op_sub (pe_has c__law_wide hg (hr.mono (by decide)) pass0 (pa_cons (pv 0) pa_nil)) pe_int) (pa_cons (pe_callB call_len_str (by rfl) T.b_len (by decide +kernel) (pa_cons (pv 1) pa_nil)) pa_nil))) pa_nil))) (g_tup K (n := 2) rfl (pgs_cons (pg_name (i := 2) sc__law_front.nd rfl (Or.inr rfl)) (pgs_cons (pg_name (i := 3) sc__law_front.nd rfl (Or.inl rfl)) pgs_nil))))
      (pss_one (ps_ret (pe_tup (pa_cons (pe_slice sl_str (pv 1) (po_some (pe_op op_sub (pe_callB call_len_str (by rfl) T.b_len (by decide +kernel) (pa_cons (pv 1) pa_nil)) (pv 3))) po_none) (pa_cons (pe_callTy (g_tuple_of K) (by rfl) T.b_tuple (by decide +kernel) (pa_cons (pe_lc (own := [("back", 4)]) rfl sc__law_front.nd (pi_range2 (by rfl) T.b_range (pa_cons pe_int (pa_cons (pe_op op_add (pv 3) pe_int) pa_nil))) (blkOk_by (own := [("back", 4)]) (N := ["prices", "text", "row", "many", "back"]) (sc := defScope s__law_front) (by decide +kernel)) (fun _ _ _ _ _ => (pg_name (i := 4) sc__law_front.nd rfl (Or.inl rfl))) (fun _ _ _ _ _ => pts_nil) (fun _ _ _ _ _ => (pe_op op_sub (pe_ix (g_ix_list K) (pv 2) (pe_op op_sub (pe_callB call_len_str (by rfl) T.b_len (by decide +kernel) (pa_cons (pv 1) pa_nil)) (pv 4)) (fun _ _ => rfl)) (pe_ix (g_ix_list K) (pv 2) (pe_un un_neg pe_int) (fun _ _ => rfl))))) pa_nil)) pa_nil)))))), ?_⟩
    have lz := cs_len z
    refine ⟨_, rfl, _, rfl, d, kvs, z, rfl, hd, tar, ov, hz, fun ro H1 hro r1 s1 => ?_⟩
    refine ⟨_, rfl, d, kvs, rfl, s1 _ _ hd, tar, ne, fun L H2 wL l1 l5 s2 => ⟨_, _, rfl, rfl, _, rfl, z, rfl, fits_sz (by omega), _, _, rfl, ?_⟩⟩
    have em : (if (z.length : Int) < (L : Int) - 1 then (z.length : Int) else (L : Int) - 1) = ((min (L - 1) z.length : Nat) : Int) := by split <;> omega
    rw [em]
    refine ⟨by show 2 ≤ sizeLine; decide, fun tp htp => ?_⟩
    refine ⟨tp, _, rfl, SqT.of upd_same, rfl, _, _, rfl, _, _, rfl, rfl, ?_⟩
    have s3 : Same H (upd H2 tp (.tup [.ref ro, .int ((min (L - 1) z.length : Nat) : Int)])) := (s1.trans s2).trans (same_new htp)
    have r3 := same_new htp (o := .tup [.ref ro, .int ((min (L - 1) z.length : Nat) : Int)]) _ _ (s2 _ _ r1)
    generalize (upd H2 tp (.tup [.ref ro, .int ((min (L - 1) z.length : Nat) : Int)])) = H3 at s3 r3 ⊢
    have ecut : (z.length : Int) - ((min (L - 1) z.length : Nat) : Int) = ((z.length - min (L - 1) z.length : Nat) : Int) := by omega
    have hcut : cutS z (some ((z.length : Int) - ((min (L - 1) z.length : Nat) : Int))) none = sOf (frontW L (cs z)) := str_ext (by rw [ecut, cs_cutFrom (by omega), cs_sOf]; unfold frontW; rw [lz])
    refine ⟨_, rfl, _, rfl, z, rfl, fits_sz (by omega), _, rfl, _, _, rfl, rfl, _, rfl, z, rfl, fits_sz (by omega), ?_⟩
    rw [hcut]
    refine ⟨_, rfl, _, _, rfl, rfl, 1, _, rfl, ⟨by omega, by omega, by omega, by omega⟩, fun D hD => ?_⟩
    have e3 : (((min (L - 1) z.length : Nat) : Int) + 1 - 1).toNat = min (L - 1) z.length := by omega
    rw [e3]
    have hD0 : H D = none := s3.free hD
    refine lc_range (fun i H' => Same H H' ∧ H' ro = some (.lst (rowV (tfD kvs) (cs z) (z.length + 1))) ∧ H' D = some (.lst (((List.range i).map fun i => lp (tfD kvs) ((cs z).take (z.length - (i + 1))) - lp (tfD kvs) (cs z)).map V.int))) ⟨s3.trans (same_new hD), same_new hD _ _ r3, upd_same⟩ ?_ ?_
    · rintro i H4 hi ⟨s4, r4, d4⟩
      have nrD : ro ≠ D := ne_of_none r3 hD
      have full : (cs z).take z.length = cs z := List.take_of_length_le (by omega)
      refine ⟨wipe_set, _, rfl, _, rfl, z, rfl, fits_sz (by omega), _, rfl, _, _, rfl, rfl, ro, _, _, .int (lp (tfD kvs) ((cs z).take (z.length - (i + 1)))), rfl, rfl, SqL.of r4, at_of (j := z.length - (i + 1)) (by omega) (rowV_at (by omega)), _, rfl, _, rfl, ro, _, _, .int (lp (tfD kvs) (cs z)), rfl, rfl, SqL.of r4, by rw [rowV_succ, full]; exact atI_last, _, _, rfl, rfl, ?_⟩
      refine ⟨_, d4, by rw [List.length_map, List.length_map, List.length_range]; exact small1000' (by omega), same_mut s4 hD0, by rw [upd_ne nrD]; exact r4, ?_⟩
      rw [upd_same, List.range_succ, List.map_append, List.map_append]
      rfl
    rintro H4 ⟨s4, r4, d4⟩
    refine ⟨D, _, rfl, .inl ⟨SqL.of d4, fun td htd => ?_⟩⟩
    refine ⟨by show 2 ≤ sizeLine; decide, fun t ht => ?_⟩
    refine k L t _ wL ⟨td, upd_same, ?_⟩ ((s4.trans (same_new htd)).trans (same_new ht))
    refine same_new ht _ _ ?_
    rw [upd_same]
    unfold frontD
    rw [lz]
theorem sc__law_step : FnScope ["prices", "front", "sign", "signs", "differences", "longer", "row", "change", "keep", "piece", "one"] ["prices", "front", "sign"] (defScope s__law_step) := ⟨rfl, rfl, rfl, by decide +kernel, rfl, by decide +kernel, by decide +kernel⟩
theorem ok__law_step {f : Addr} {fd : FuncData} (F : Fun K "_law_step" "_law_step" s__law_step f fd) (T : Txt K mg C) (c__law_wide : Has P w K mg base CX0 1 "_law_wide" ["prices"] (spWide)) : FnG P w K mg base CX0 3 f fd ["prices", "front", "sign"] (spLawStep) := by
  refine fn_g0 F sc__law_step (fun vs H Q E h => ?_) (fun cdv A outer s H vs Q E hg hr h => ?_)
  · obtain ⟨d, f, kvs, l, ds, c, L, rfl, _⟩ := h
    rfl
  · have hu := hu_of hr
    obtain ⟨d, f, kvs, l, ds, c, L, rfl, hd, tar, ne, fr, wL, oc, hlL, hds, k⟩ := h
    refine ⟨_, (pss_cons (ps_asg (pv 1) (g_tup K (n := 2) rfl (pgs_cons (pg_name (i := 3) sc__law_step.nd rfl (Or.inl rfl)) (pgs_cons (pg_name (i := 4) sc__law_step.nd rfl (Or.inl rfl)) pgs_nil))))
      (pss_cons (ps_asg (pe_tup (pa_cons (pe_op op_add_str (pv 3) (pv 2)) (pa_cons (pe_op op_cat (pe_lst (pa_cons pe_int pa_nil)) (pe_callTy (g_list_of K) (by rfl) T.b_list (by decide +kernel) (pa_cons (pv 4) pa_nil))) pa_nil))) (g_tup K (n := 2) rfl (pgs_cons (pg_name (i := 5) sc__law_step.nd rfl (Or.inr rfl)) (pgs_cons (pg_name (i := 6) sc__law_step.nd rfl (Or.inr rfl)) pgs_nil))))
      (pss_cons (ps_set (i := 7) sc__law_step.nd rfl (Or.inr rfl) (pe_callB (g_min K rfl) (by rfl) T.b_min (by decide +kernel) (pa_cons (pe_lock (by exact (pe_lc (own := [("piece", 9)]) rfl sc__law_step.nd (pi_keys (pv 0)) (blkOk_by (own := [("piece", 9)]) (N := ["prices", "front", "sign", "signs", "differences", "longer", "row", "change", "keep", "piece", "one"]) (sc := defScope s__law_step) (by decide +kernel)) (fun _ _ _ _ _ => (pg_name (i := 9) sc__law_step.nd rfl (Or.inl rfl))) (fun _ _ _ _ _ => (pts_one (pt_val (pe_m1 PySem.F.slot_str_endswith PySem.F.type_str_endswith mt_endswith (pv 5) (pv 9))))) (fun _ _ _ _ _ => (pe_op op_add (pe_dget hu (pv 0) (pv 9) (fun _ _ => rfl)) (pe_ix (g_ix_list K) (pv 6) (pe_op op_sub (pe_callB call_len_str (by rfl) T.b_len (by decide +kernel) (pa_cons (pv 9) pa_nil)) pe_int) (fun _ _ => rfl))))))) pa_nil)))
      (pss_cons (ps_set (i := 8) sc__law_step.nd rfl (Or.inl rfl) (pe_callB (call_min2 rfl) (by rfl) T.b_min (by decide +kernel) (pa_cons (pe_op op_sub (pe_has c__law_wide hg (hr.mono (by decide)) pass0 (pa_cons (pv 0) pa_nil)) pe_int) (pa_cons (pe_callB call_len_str (by rfl) T.b_len (by decide +kernel) (pa_cons (pv 5) pa_nil)) pa_nil))))
      (pss_one (ps_ret (pe_tup (pa_cons (pe_tup (pa_cons (pe_slice sl_str (pv 5) (po_some (pe_op op_sub (pe_callB call_len_str (by rfl) T.b_len (by decide +kernel) (pa_cons (pv 5) pa_nil)) (pv 8))) po_none) (pa_cons (pe_callTy (g_tuple_of K) (by rfl) T.b_tuple (by decide +kernel) (pa_cons (pe_lc (own := [("one", 10)]) rfl sc__law_step.nd (g_list K (pe_slice (g_sl_list K) (pv 6) po_none (po_some (pv 8)))) (blkOk_by (own := [("one", 10)]) (N := ["prices", "front", "sign", "signs", "differences", "longer", "row", "change", "keep", "piece", "one"]) (sc := defScope s__law_step) (by decide +kernel)) (fun _ _ _ _ _ => (pg_name (i := 10) sc__law_step.nd rfl (Or.inl rfl))) (fun _ _ _ _ _ => pts_nil) (fun _ _ _ _ _ => (pe_op op_sub (pv 10) (pv 7)))) pa_nil)) pa_nil))) (pa_cons (pv 7) pa_nil))))))))), ?_⟩
    obtain ⟨fdd, fr1, fr2⟩ := fr
    have ln5 : L ≤ 5 ∧ 1 ≤ L := by
      obtain ⟨⟨z, p, h1, h2⟩, _⟩ := wL
      have := tar.good.len z p h1
      omega
    refine ⟨_, rfl, f, _, rfl, SqT.of fr1, rfl, _, _, rfl, _, _, rfl, rfl, ?_⟩
    have lgl : (sOf l ++ ch c) = sOf (l ++ [c]) := str_ext (by rw [cs_app, cs_sOf, cs_sOf])
    refine ⟨_, rfl, _, rfl, sOf l, ch c, rfl, rfl, by rw [sOf_len]; exact fits_sz (by show l.length + 1 ≤ 100000; omega), ?_⟩
    rw [lgl]
    refine ⟨by show 1 ≤ sizeLine; decide, fun z0 hz0 => ?_⟩
    refine ⟨_, rfl, fdd, _, rfl, .inr (SqT.of (same_new hz0 _ _ fr2)), fun z1 hz1 => ?_⟩
    have n01 : z0 ≠ z1 := ne_of_none upd_same hz1
    refine ⟨z0, z1, _, _, rfl, rfl, same_new hz1 _ _ upd_same, upd_same, ?_, fun ra hra => ?_⟩
    · rw [List.length_map]
      exact fits_sz (by show 1 + ds.length ≤ 100000; omega)
    refine ⟨by show 2 ≤ sizeLine; decide, fun t1 ht1 => ?_⟩
    refine ⟨t1, _, rfl, SqT.of upd_same, rfl, _, _, rfl, _, _, rfl, rfl, ?_⟩
    have s1 : Same H (upd (upd (upd (upd H z0 (.lst [V.int 0])) z1 (.lst (ds.map V.int))) ra (.lst ([V.int 0] ++ ds.map V.int))) t1 (.tup [.str (sOf (l ++ [c])), .ref ra])) := (((same_new hz0).trans (same_new hz1)).trans (same_new hra)).trans (same_new ht1)
    have a1 : (upd (upd (upd (upd H z0 (.lst [V.int 0])) z1 (.lst (ds.map V.int))) ra (.lst ([V.int 0] ++ ds.map V.int))) t1 (.tup [.str (sOf (l ++ [c])), .ref ra])) ra = some (.lst (((0 : Int) :: ds).map V.int)) := same_new ht1 _ _ upd_same
    generalize (upd (upd (upd (upd H z0 (.lst [V.int 0])) z1 (.lst (ds.map V.int))) ra (.lst ([V.int 0] ++ ds.map V.int))) t1 (.tup [.str (sOf (l ++ [c])), .ref ra])) = H1 at s1 a1 ⊢
    have clg : cs (sOf (l ++ [c])) = l ++ [c] := cs_sOf _
    have llg : (sOf (l ++ [c])).length = l.length + 1 := by rw [sOf_len, List.length_append]; rfl
    generalize sOf (l ++ [c]) = lg at clg llg ⊢
    have d1 := s1 _ _ hd
    have nrd : ra ≠ d := fun e => by
      rw [e, d1] at a1
      cases a1
    -- the change
    refine ⟨d, _, d1, trivial, fun od => ?_⟩
    refine ⟨_, rfl, d, od, rfl, .inl ⟨kvs, upd_same, fun D hD => ?_⟩⟩
    have nD := lock_ne hD
    have a1' : (upd H1 d (.frz od (.dK kvs))) ra = some (.lst (((0 : Int) :: ds).map V.int)) := by
      rw [upd_ne nrd]
      exact a1
    refine lcs kvs walk_keys (fun kv => (stepG ds lg kv).map V.int) hD (by have := tar.len; omega) (fun H' s => s _ _ upd_same) ?_ ?_
    · rintro j kv x H2 H3 hj s2 ⟨rfl, k', v', ek, rfl⟩ N M hN hM
      have ekv : kv = (k', v') := Option.some.inj (hj.symm.trans ek)
      subst ekv
      obtain ⟨y, p, ey, hp⟩ := tar.mem _ (List.mem_of_getElem? hj)
      cases ey
      have ly := tar.good.len y p hp
      have yl := cs_len y
      refine ⟨wipe_set, _, rfl, ⟨_, rfl⟩, _, rfl, _, _, rfl, rfl, _, rfl, ?_⟩
      refine itB (fun q => ?_) (fun q => ?_)
      · obtain ⟨a, ha⟩ := ends_iff.mp q
        have la := congrArg List.length ha
        rw [List.length_append, cs_len, cs_len, llg] at la
        have hah : ((0 : Int) :: ds)[(cs y).length - 1]? = some (aheadAt ds y) := by
          unfold aheadAt
          rw [List.getElem?_eq_getElem (by rw [List.length_cons]; omega)]
          rfl
        refine ⟨_, rfl, _, rfl, d, _, rfl, .inl ⟨kvs, Sum.inr y, .inr ⟨od, s2 _ _ upd_same⟩, rfl, (tf_some.mp hp).symm⟩, _, rfl, _, rfl, y, rfl, fits_sz (by omega), _, _, rfl, rfl, ra, _, _, .int (aheadAt ds y), rfl, rfl, SqL.of (s2 _ _ a1'), at_of (j := (cs y).length - 1) (by omega) (by rw [List.getElem?_map, hah]; rfl), _, _, rfl, rfl, hN _ _ ?_ (Same.refl _)⟩
        show (if Txt.endswith lg y = true then some (p + aheadAt ds y) else none).map V.int = _
        rw [if_pos q]
        rfl
      · refine hM _ ?_ (Same.refl _)
        show (if Txt.endswith lg y = true then some (p + aheadAt ds y) else none).map V.int = _
        rw [if_neg (by rw [q]; exact Bool.false_ne_true)]
        rfl
    rintro H2 s2 e2
    rw [fm_int] at e2
    obtain ⟨pos, least⟩ := step_minT (ds := ds) tar clg hds oc
    have S2 : Same H1 (upd H2 d (.dK kvs)) := unlock d1 s2
    refine ⟨s2 _ _ upd_same, D, _, rfl, SqL.of (by rw [upd_ne nD]; exact e2), pos, fun m hm hle => ?_⟩
    have stp := least m hm hle
    have s02 := s1.trans S2
    have a2 := S2 _ _ a1
    generalize (upd H2 d (.dK kvs)) = H3 at S2 s02 a2 ⊢
    -- how much is kept
    refine ⟨_, rfl, d, kvs, rfl, s02 _ _ hd, tar, ne, fun L' H4 wL' _ _ s4 => ⟨_, _, rfl, rfl, _, rfl, lg, rfl, fits_sz (by omega), _, _, rfl, ?_⟩⟩
    have eL := wL'.uniq wL
    subst eL
    have em : (if (lg.length : Int) < (L' : Int) - 1 then (lg.length : Int) else (L' : Int) - 1) = ((min (L' - 1) (l.length + 1) : Nat) : Int) := by split <;> omega
    rw [em]
    have s04 := s02.trans s4
    have a4 := s4 _ _ a2
    have ecut : (lg.length : Int) - ((min (L' - 1) (l.length + 1) : Nat) : Int) = ((l.length + 1 - (L' - 1) : Nat) : Int) := by omega
    have hcut : cutS lg (some ((lg.length : Int) - ((min (L' - 1) (l.length + 1) : Nat) : Int))) none = sOf (stepW L' l c) := str_ext (by rw [ecut, cs_cutFrom (by omega), cs_sOf, clg]; rfl)
    refine ⟨_, rfl, _, rfl, lg, rfl, fits_sz (by omega), _, rfl, _, _, rfl, rfl, _, rfl, lg, rfl, fits_sz (by omega), ?_⟩
    rw [hcut]
    refine ⟨_, rfl, _, rfl, _, rfl, ra, _, rfl, SqL.of a4, fun q1 hq1 => ?_⟩
    rw [cutV_to (by rw [List.length_map, List.length_cons]; omega), ← List.map_take]
    have s05 := s04.trans (same_new hq1 (o := .lst ((((0 : Int) :: ds).take (min (L' - 1) (l.length + 1))).map V.int)))
    have q5 : (upd H4 q1 (.lst ((((0 : Int) :: ds).take (min (L' - 1) (l.length + 1))).map V.int))) q1 = some (.lst ((((0 : Int) :: ds).take (min (L' - 1) (l.length + 1))).map V.int)) := upd_same
    generalize (upd H4 q1 (.lst ((((0 : Int) :: ds).take (min (L' - 1) (l.length + 1))).map V.int))) = H5 at s05 q5 ⊢
    refine ⟨q1, rfl, ⟨_, SqL.of q5⟩, fun D3 hD3 => ?_⟩
    refine lcs (((0 : Int) :: ds).take (min (L' - 1) (l.length + 1))) (walk_listF (K := K) V.int _) (fun x => some (V.int (x - m))) hD3 (by rw [List.length_take]; omega) (fun H' s => SqL.of (s _ _ q5)) ?_ ?_
    · rintro i y x H6 H7 hi s6 ⟨rfl, y', ey, rfl⟩ N M' hN hM
      have e1 : y = y' := Option.some.inj (hi.symm.trans ey)
      subst e1
      exact ⟨wipe_set, _, rfl, _, rfl, _, _, rfl, rfl, hN _ _ rfl (Same.refl _)⟩
    rintro H6 s6 e6
    have emv : ((((0 : Int) :: ds).take (min (L' - 1) (l.length + 1))).filterMap fun x => some (V.int (x - m))) = (stepD L' l ds c m).map V.int := by
      rw [fm_some]
      unfold stepD
      rw [stepW_len, ← List.map_take, List.map_map]
      rfl
    rw [emv] at e6
    refine ⟨D3, _, rfl, .inl ⟨SqL.of e6, fun td htd => ?_⟩⟩
    refine ⟨by show 2 ≤ sizeLine; decide, fun u hu => ?_⟩
    refine ⟨_, rfl, by show 2 ≤ sizeLine; decide, fun t ht => ?_⟩
    exact k t m _ stp ⟨u, upd_same, td, same_new ht _ _ upd_same, same_new ht _ _ (same_new hu _ _ upd_same)⟩ ((((s05.trans s6).trans (same_new htd)).trans (same_new hu)).trans (same_new ht))
theorem sc__law_large : FnScope ["reel", "small"] ["reel"] (defScope s__law_large) := ⟨rfl, rfl, rfl, by decide +kernel, rfl, by decide +kernel, by decide +kernel⟩
theorem ok__law_large {f : Addr} {fd : FuncData} (F : Fun K "_law_large" "_law_large" s__law_large f fd) (T : Txt K mg C) (c__law_pick : Has P w K mg base CX0 2 "_law_pick" ["reel", "items"] (spPick K)) (c__law_spin : Has P w K mg base CX0 1 "_law_spin" ["reel", "many"] (spRoll)) : FnG P w K mg base CX0 3 f fd ["reel"] (spLarge) := by
  refine fn_g0 F sc__law_large (fun vs H Q E h => ?_) (fun cdv A outer s H vs Q E hg hr h => ?_)
  · obtain ⟨l, n, rfl, _⟩ := h
    rfl
  · have hu := hu_of hr
    obtain ⟨l, n, rfl, D, k⟩ := h
    refine ⟨_, (pss_cons (ps_set (i := 1) sc__law_large.nd rfl (Or.inl rfl) (pe_op op_sub (pe_has c__law_spin hg (hr.mono (by decide)) pass0 (pa_cons (pv 0) (pa_cons pe_int pa_nil))) pe_int))
      (pss_one (ps_ret (pe_has c__law_pick hg (hr.mono (by decide)) pass0 (pa_cons (pv 0) (pa_cons (pe_lst (pa_cons (pv 1) (pa_cons (pv 1) (pa_cons (pv 1) (pa_cons (pe_op op_add (pe_op op_sub (pe_op op_powW pe_int pe_int) pe_int) (pv 1)) (pa_cons (pe_op op_sub (pe_op op_add pe_int (pv 1)) (pe_op op_powW pe_int pe_int)) pa_nil)))))) pa_nil)))))), ?_⟩
    refine ⟨_, rfl, l, 60, n + 1, rfl, by decide, by decide, D, fun r H1 r0 r1 k1 D1 => ⟨_, _, rfl, rfl, ?_⟩⟩
    refine ⟨_, rfl, _, rfl, _, rfl, _, rfl, _, _, rfl, rfl, ⟨by decide, by decide +kernel⟩, _, _, rfl, rfl, _, rfl, _, _, rfl, rfl, _, rfl, _, _, rfl, rfl, _, _, rfl, rfl, ⟨by decide, by decide +kernel⟩, _, _, rfl, rfl, by show 5 ≤ sizeLine; decide, fun p hp => ?_⟩
    refine ⟨l, .ref p, _, n, rfl, .lst (D1.ne hp) (SqL.of upd_same), by simp, by simp, D1.new hp, fun y H2 hy k2 D2 => ?_⟩
    have big := large60
    have t60 := ten60
    have fin : ∀ i : Int, y = .int i → i.natAbs < 10 ^ 60 → Q y H2 := fun i e h => by
      rw [e]
      exact k i H2 (isI_of h) ((k1.trans (.of (same_new hp))).trans k2) D2
    simp only [List.mem_cons, List.not_mem_nil, or_false] at hy
    generalize (10 ^ 60 : Nat) = M at big t60 fin
    generalize (10 : Int) ^ (60 : Int).toNat = TT at t60 hy
    rcases hy with h | h | h | h | h
    all_goals exact fin _ h (by omega)
theorem sc__law_right : FnScope ["reel", "signs", "menu", "prices", "book", "turn", "text", "front", "row", "due", "many", "odd", "sign", "one"] ["reel"] (defScope s__law_right) := ⟨rfl, rfl, rfl, by decide +kernel, rfl, by decide +kernel, by decide +kernel⟩
theorem ok__law_right {f : Addr} {fd : FuncData} (F : Fun K "_law_right" "_law_right" s__law_right f fd) (T : Txt K mg C) (c_Book : C8.Mak P w K mg base 5 "Book" C (spBook C K) []) (c_Book_prices : HasP P w K mg base 1 C "prices" (spPrices C)) (c__law_pick : Has P w K mg base CX0 2 "_law_pick" ["reel", "items"] (spPick K)) (c__law_prices : Has P w K mg base CX0 4 "_law_prices" ["reel", "signs", "most", "size", "menu"] (spPrices20 K)) (c__law_letters : Has P w K mg base CX0 3 "_law_letters" ["reel", "many"] (spLett K)) (c__law_word : Has P w K mg base CX0 3 "_law_word" ["reel", "signs", "many"] (spLetters K)) (c_front_of : HasO P w K mg base CX0 5 "front_of" ["book", "text"] (spFrontIn C)) (c__law_cheap : Has P w K mg base CX0 2 "_law_cheap" ["prices", "text"] (spCheap)) (c__law_spin : Has P w K mg base CX0 1 "_law_spin" ["reel", "many"] (spRoll)) (c__law_front : Has P w K mg base CX0 3 "_law_front" ["prices", "text"] (spLawFront)) (c__law_wide : Has P w K mg base CX0 1 "_law_wide" ["prices"] (spWide)) (c_next_front : HasO P w K mg base CX0 7 "next_front" ["book", "front", "sign"] (spNext C)) (c__law_large : Has P w K mg base CX0 3 "_law_large" ["reel"] (spLarge)) (c__law_step : Has P w K mg base CX0 3 "_law_step" ["prices", "front", "sign"] (spLawStep)) : FnG P w K mg base CX0 10 f fd ["reel"] (spRight 1000) := by
  refine fn_g0 F sc__law_right (fun vs H Q E h => ?_) (fun cdv A outer s H vs Q E hg hr h => ?_)
  · obtain ⟨l, n, rfl, _⟩ := h
    rfl
  · have hu := hu_of hr
    obtain ⟨l, n, rfl, D, k⟩ := h
    refine ⟨_, (pss_cons (ps_set (i := 1) sc__law_right.nd rfl (Or.inl rfl) (pe_callB (g_sortedS K) (by rfl) T.b_sorted (by decide +kernel) (pa_cons (pe_has c__law_letters hg (hr.mono (by decide)) pass0 (pa_cons (pv 0) (pa_cons (pe_op op_add pe_int (pe_has c__law_spin hg (hr.mono (by decide)) pass0 (pa_cons (pv 0) (pa_cons pe_int pa_nil)))) pa_nil))) pa_nil)))
      (pss_cons (ps_set (i := 2) sc__law_right.nd rfl (Or.inl rfl) (pe_has c__law_pick hg (hr.mono (by decide)) pass0 (pa_cons (pv 0) (pa_cons (pe_lst (pa_cons (pe_lst (pa_cons pe_int pa_nil)) (pa_cons (pe_lst (pa_cons pe_int (pa_cons pe_int pa_nil))) (pa_cons (pe_lst (pa_cons pe_int (pa_cons pe_int (pa_cons pe_int (pa_cons pe_int pa_nil))))) (pa_cons (pe_lst (pa_cons pe_int (pa_cons pe_int (pa_cons pe_int pa_nil)))) (pa_cons (pe_lst (pa_cons pe_int (pa_cons pe_int (pa_cons pe_int pa_nil)))) pa_nil)))))) pa_nil))))
      (pss_cons (ps_set (i := 3) sc__law_right.nd rfl (Or.inl rfl) (pe_has c__law_prices hg (hr.mono (by decide)) pass0 (pa_cons (pv 0) (pa_cons (pv 1) (pa_cons pe_int (pa_cons pe_int (pa_cons (pv 2) pa_nil)))))))
      (pss_cons (ps_set (i := 4) sc__law_right.nd rfl (Or.inl rfl) (C8.pe_mk c_Book hr (by decide) (by rfl) (pa_cons (pv 3) pa_nil)))
      (pss_cons (ps_for PassesOwn.never rfl (pi_range1 (by rfl) T.b_range (pa_cons pe_int pa_nil)) (pg_name (i := 5) sc__law_right.nd rfl (Or.inl rfl)) (pss_cons (ps_set (i := 6) sc__law_right.nd rfl (Or.inl rfl) (pe_has c__law_word hg (hr.mono (by decide)) pass0 (pa_cons (pv 0) (pa_cons (pv 1) (pa_cons (pe_has c__law_spin hg (hr.mono (by decide)) pass0 (pa_cons (pv 0) (pa_cons pe_int pa_nil))) pa_nil)))))
      (pss_cons (ps_set (i := 7) sc__law_right.nd rfl (Or.inl rfl) (pe_hasO c_front_of (hr.mono (by decide)) pass0 (pa_cons (pv 4) (pa_cons (pv 6) pa_nil))))
      (pss_cons (ps_if (pt_cmpR op_ne (pe_callB (g_repr K hg hr.units) (by rfl) T.b_repr (by decide +kernel) (pa_cons (pv 7) pa_nil)) (pe_callB (g_repr K hg hr.units) (by rfl) T.b_repr (by decide +kernel) (pa_cons (pe_has c__law_front hg (hr.mono (by decide)) pass0 (pa_cons (pv 3) (pa_cons (pv 6) pa_nil))) pa_nil)) (nomark _)) (pss_one (ps_ret pe_bl)) pss_nil)
      (pss_cons (ps_set (i := 8) sc__law_right.nd rfl (Or.inl rfl) (pe_has c__law_cheap hg (hr.mono (by decide)) pass0 (pa_cons (pv 3) (pa_cons (pe_op op_add_str (pv 6) (pe_ix (g_ix_list K) (pv 1) pe_int (fun _ _ => rfl))) pa_nil))))
      (pss_cons (ps_set (i := 9) sc__law_right.nd rfl (Or.inl rfl) (pe_tup (pa_cons (pe_has c__law_front hg (hr.mono (by decide)) pass0 (pa_cons (pv 3) (pa_cons (pe_op op_add_str (pv 6) (pe_ix (g_ix_list K) (pv 1) pe_int (fun _ _ => rfl))) pa_nil))) (pa_cons (pe_op op_sub (pe_ix (g_ix_list K) (pv 8) (pe_un un_neg pe_int) (fun _ _ => rfl)) (pe_ix (g_ix_list K) (pv 8) (pe_callB call_len_str (by rfl) T.b_len (by decide +kernel) (pa_cons (pv 6) pa_nil)) (fun _ _ => rfl))) pa_nil))))
      (pss_cons (ps_if (pt_cmpR op_ne (pe_callB (g_repr K hg hr.units) (by rfl) T.b_repr (by decide +kernel) (pa_cons (pe_hasO c_next_front (hr.mono (by decide)) pass0 (pa_cons (pv 4) (pa_cons (pv 7) (pa_cons (pe_ix (g_ix_list K) (pv 1) pe_int (fun _ _ => rfl)) pa_nil)))) pa_nil)) (pe_callB (g_repr K hg hr.units) (by rfl) T.b_repr (by decide +kernel) (pa_cons (pv 9) pa_nil)) (nomark _)) (pss_one (ps_ret pe_bl)) pss_nil)
      (pss_cons (ps_set (i := 10) sc__law_right.nd rfl (Or.inl rfl) (pe_has c__law_spin hg (hr.mono (by decide)) pass0 (pa_cons (pv 0) (pa_cons (pe_has c__law_wide hg (hr.mono (by decide)) pass0 (pa_cons (pv 3) pa_nil)) pa_nil))))
      (pss_cons (ps_set (i := 11) sc__law_right.nd rfl (Or.inl rfl) (pe_tup (pa_cons (pe_has c__law_word hg (hr.mono (by decide)) pass0 (pa_cons (pv 0) (pa_cons (pv 1) (pa_cons (pv 10) pa_nil)))) (pa_cons (pe_callTy (g_tuple_of K) (by rfl) T.b_tuple (by decide +kernel) (pa_cons (pe_lc (own := [("one", 13)]) rfl sc__law_right.nd (pi_range1 (by rfl) T.b_range (pa_cons (pv 10) pa_nil)) (blkOk_by (own := [("one", 13)]) (N := ["reel", "signs", "menu", "prices", "book", "turn", "text", "front", "row", "due", "many", "odd", "sign", "one"]) (sc := defScope s__law_right) (by decide +kernel)) (fun _ _ _ _ _ => (pg_name (i := 13) sc__law_right.nd rfl (Or.inl rfl))) (fun _ _ _ _ _ => pts_nil) (fun _ _ _ _ _ => (pe_has c__law_large hg (hr.mono (by decide)) pass0 (pa_cons (pv 0) pa_nil)))) pa_nil)) pa_nil))))
      (pss_one (ps_for PassesOwn.never rfl (g_list K (pv 1)) (pg_name (i := 12) sc__law_right.nd rfl (Or.inl rfl)) (pss_one (ps_if (pt_cmpR op_ne (pe_callB (g_repr K hg hr.units) (by rfl) T.b_repr (by decide +kernel) (pa_cons (pe_hasO c_next_front (hr.mono (by decide)) pass0 (pa_cons (pv 4) (pa_cons (pv 11) (pa_cons (pv 12) pa_nil)))) pa_nil)) (pe_callB (g_repr K hg hr.units) (by rfl) T.b_repr (by decide +kernel) (pa_cons (pe_has c__law_step hg (hr.mono (by decide)) pass0 (pa_cons (pv 3) (pa_cons (pv 11) (pa_cons (pv 12) pa_nil)))) pa_nil)) (nomark _)) (pss_one (ps_ret pe_bl)) pss_nil)))))))))))))
      (pss_one (ps_ret (pe_cmpR op_eq (pe_callB (call_reprD hg hr.units) (by rfl) T.b_repr (by decide +kernel) (pa_cons (pe_prp c_Book_prices hr (by decide) (pv 4)) pa_nil)) (pe_callB (call_reprD hg hr.units) (by rfl) T.b_repr (by decide +kernel) (pa_cons (pe_callTy (g_dictP K rfl) (by rfl) T.b_dict (by decide +kernel) (pa_cons (pe_callB (cr_sortTI rfl) (by rfl) T.b_sorted (by decide +kernel) (pa_cons (g_bm0 K PySem.F.plainAttrs_dict PySem.F.slot_dict_items PySem.F.type_dict_items mt_itemsK (pv 3)) pa_nil)) pa_nil)) pa_nil)) (nomark _))))))))), ?_⟩
    -- the signs
    refine ⟨_, rfl, _, rfl, l, 4, n + 990, rfl, by decide, by decide, D.le (by omega), fun r H1 r0 r1 k1 D1 => ⟨_, _, rfl, rfl, ?_⟩⟩
    refine ⟨l, (1 + r).toNat, n + 960, by rw [Int.toNat_of_nonneg (by omega)]; rfl, by omega, D1.le (by omega), fun la zs H2 hla nla zl zlt e2 k2 D2 => ?_⟩
    refine ⟨la, zs.map ch, rfl, SqL.of (by rw [e2, chs_strs]), by rw [List.length_map]; omega, fun ys sa pm so hsa => ?_⟩
    obtain ⟨sg, rfl, sgl⟩ : ∃ sg : List Nat, ys = sg.map ch ∧ ∀ c ∈ sg, lett c = true := lift_ch fun y hy => by
      obtain ⟨c, hc, rfl⟩ := List.mem_map.mp (pm.mem_iff.mp hy)
      exact ⟨c, rfl, zlt c hc⟩
    have sgn : sg.length = (1 + r).toNat := by
      have := pm.length_eq
      rw [List.length_map, List.length_map] at this
      omega
    have n1 : 1 ≤ sg.length := by omega
    have n4 : sg.length ≤ 4 := by omega
    have nsa : sa ≠ l := D2.ne hsa
    have kA := (k1.trans k2).new hsa (o := .lst ((sg.map ch).map V.str))
    have DA := D2.new hsa (o := .lst ((sg.map ch).map V.str))
    have sA : (upd H2 sa (.lst ((sg.map ch).map V.str))) sa = some (.lst (sg.map chV)) := by rw [upd_same, chs_strs]
    generalize (upd H2 sa (.lst ((sg.map ch).map V.str))) = H3 at kA DA sA ⊢
    -- the menu
    refine ⟨_, rfl, by show 1 ≤ sizeLine; decide, fun m1 w1 => ⟨by show 2 ≤ sizeLine; decide, fun m2 w2 => ⟨by show 4 ≤ sizeLine; decide, fun m3 w3 => ⟨by show 3 ≤ sizeLine; decide, fun m4 w4 => ⟨by show 3 ≤ sizeLine; decide, fun m5 w5 => ⟨by show 5 ≤ sizeLine; decide, fun mp wp => ?_⟩⟩⟩⟩⟩⟩
    have D1' := DA.new w1 (o := .lst [V.int 1])
    have D2' := D1'.new w2 (o := .lst [V.int 1, .int 2])
    have D3' := D2'.new w3 (o := .lst [V.int 1, .int 2, .int 3, .int 9])
    have D4' := D3'.new w4 (o := .lst [V.int 1, .int 98, .int 99])
    have D5' := D4'.new w5 (o := .lst [V.int 7, .int 11, .int 13])
    have D6' := D5'.new wp (o := .lst [V.ref m1, .ref m2, .ref m3, .ref m4, .ref m5])
    have s2 := same_new w2 (o := .lst [V.int 1, .int 2])
    have s3 := same_new w3 (o := .lst [V.int 1, .int 2, .int 3, .int 9])
    have s4 := same_new w4 (o := .lst [V.int 1, .int 98, .int 99])
    have s5 := same_new w5 (o := .lst [V.int 7, .int 11, .int 13])
    have s6 := same_new wp (o := .lst [V.ref m1, .ref m2, .ref m3, .ref m4, .ref m5])
    have sAll := (same_new w1 (o := .lst [V.int 1])).trans (s2.trans (s3.trans (s4.trans (s5.trans s6))))
    have f1 := s6 _ _ (s5 _ _ (s4 _ _ (s3 _ _ (s2 _ _ (upd_same (H := H3) (a := m1) (o := .lst [V.int 1]))))))
    have f2 := s6 _ _ (s5 _ _ (s4 _ _ (s3 _ _ (upd_same (a := m2) (o := .lst [V.int 1, .int 2])))))
    have f3 := s6 _ _ (s5 _ _ (s4 _ _ (upd_same (a := m3) (o := .lst [V.int 1, .int 2, .int 3, .int 9]))))
    have f4 := s6 _ _ (s5 _ _ (upd_same (a := m4) (o := .lst [V.int 1, .int 98, .int 99])))
    have f5 := s6 _ _ (upd_same (a := m5) (o := .lst [V.int 7, .int 11, .int 13]))
    have nn : m1 ≠ l ∧ m2 ≠ l ∧ m3 ≠ l ∧ m4 ≠ l ∧ m5 ≠ l := ⟨DA.ne w1, D1'.ne w2, D2'.ne w3, D3'.ne w4, D4'.ne w5⟩
    refine ⟨l, .ref mp, _, n + 950, rfl, .lst (D5'.ne wp) (SqL.of upd_same), by simp, by simp, D6'.le (by omega), fun y H4 hy k4 D4 => ?_⟩
    obtain ⟨ma, ms, rfl, ema, nma, ml1, ml2, mall⟩ : ∃ (ma : Addr) (ms : List Int), y = .ref ma ∧ (upd (upd (upd (upd (upd (upd H3 m1 (.lst [V.int 1])) m2 (.lst [V.int 1, .int 2])) m3 (.lst [V.int 1, .int 2, .int 3, .int 9])) m4 (.lst [V.int 1, .int 98, .int 99])) m5 (.lst [V.int 7, .int 11, .int 13])) mp (.lst [V.ref m1, .ref m2, .ref m3, .ref m4, .ref m5])) ma = some (HO.lst (ms.map V.int)) ∧ ma ≠ l ∧ 1 ≤ ms.length ∧ ms.length ≤ 100 ∧ ∀ i ∈ ms, 1 ≤ i ∧ i ≤ 99 := by
      simp only [List.mem_cons, List.not_mem_nil, or_false] at hy
      rcases hy with h | h | h | h | h
      · exact ⟨m1, [1], h, f1, nn.1, by decide, by decide, by decide⟩
      · exact ⟨m2, [1, 2], h, f2, nn.2.1, by decide, by decide, by decide⟩
      · exact ⟨m3, [1, 2, 3, 9], h, f3, nn.2.2.1, by decide, by decide, by decide⟩
      · exact ⟨m4, [1, 98, 99], h, f4, nn.2.2.2.1, by decide, by decide, by decide⟩
      · exact ⟨m5, [7, 11, 13], h, f5, nn.2.2.2.2, by decide, by decide, by decide⟩
    clear f1 f2 f3 f4 f5 s2 s3 s4 s5 s6 hy
    generalize (upd (upd (upd (upd (upd (upd H3 m1 (.lst [V.int 1])) m2 (.lst [V.int 1, .int 2])) m3 (.lst [V.int 1, .int 2, .int 3, .int 9])) m4 (.lst [V.int 1, .int 98, .int 99])) m5 (.lst [V.int 7, .int 11, .int 13])) mp (.lst [V.ref m1, .ref m2, .ref m3, .ref m4, .ref m5])) = Hm at sAll ema D6' k4
    have kB : Kp l H H4 := (kA.trans (.of sAll)).trans k4
    have sB := k4 _ _ (sAll _ _ sA) nsa
    have mB := k4 _ _ ema nma
    -- the prices, the book
    refine ⟨_, rfl, _, rfl, _, rfl, l, sa, ma, sg, ms, n + 850, rfl, nsa, nma, SqL.of sB, SqL.of mB, n1, n4, sgl, ml1, ml2, mall, D4, fun pd kvs H5 hpd npd e5 av nd sgns k5 D5 => ?_⟩
    have kC := kB.trans k5
    have sC := k5 _ _ sB nsa
    refine ⟨_, rfl, ?_⟩
    intro b dx hb hdx hne
    refine made_book hb hdx e5 av nd fun H6 s6 B6 => ⟨rfl, ?_⟩
    have kD := kC.trans (.of s6)
    have sD := s6 _ _ sC
    have e6 := s6 _ _ e5
    have D6 := D5.same s6
    have tar := tar_of av nd
    have nsg : sg ≠ [] := fun e => by
      rw [e] at n1
      simp at n1
    have nkv : kvs ≠ [] := fun e => by
      have := (ap_parts av).1.1
      rw [e] at this
      simp at this
    refine ⟨3, rfl, by decide, by decide, for_range (lo := 0) (n := 3) (fun i σ H' => ∃ x5 x6 x7 x8 x9 x10 x11 x12 x13, σ = [some (.ref l), some (.ref sa), some (.ref ma), some (.ref pd), some (.ref b), x5, x6, x7, x8, x9, x10, x11, x12, x13] ∧ Kp l H6 H' ∧ Dice H' l (n + (850 - 200 * i))) ⟨_, _, _, _, _, _, _, _, _, rfl, Kp.refl _ _, D6⟩ ?_ ?_⟩
    · rintro i σ H7 hi ⟨x5, x6, x7, x8, x9, x10, x11, x12, x13, rfl, k7, D7⟩
      have B7 := B6.kp D6 k7
      have e7 := k7 _ _ e6 npd
      have s7 := k7 _ _ sD nsa
      have good := tar.good
      obtain ⟨c0, hc0⟩ : ∃ c0, sg[0]? = some c0 := ⟨_, List.getElem?_eq_getElem (by omega)⟩
      have m0 : c0 ∈ sg := List.mem_of_getElem? hc0
      have v0 : (sg.map chV)[0]? = some (chV c0) := by
        rw [List.getElem?_map, hc0]
        rfl
      -- the text
      refine ⟨_, rfl, _, rfl, _, rfl, l, 10, n + (850 - 200 * i - 1), rfl, by decide, by decide, D7.le (by omega), fun r H8 r0 r1 k8 D8 => ?_⟩
      refine ⟨l, .ref sa, sg, r.toNat, n + (850 - 200 * i - 20), by rw [Int.toNat_of_nonneg r0]; rfl, .lst nsa (SqL.of (k8 _ _ s7 nsa)), nsg, by omega, by omega, D8.le (by omega), fun zs H9 zl zc k9 D9 => ?_⟩
      have k79 := k8.trans k9
      have B9 := B7.kp D7 k79
      have e9 := k79 _ _ e7 npd
      have s9 := k79 _ _ s7 nsa
      have ov : Over (tfD kvs) zs := fun c hc => (sgns c).mpr (zc c hc)
      have zl9 : zs.length ≤ 9 := by omega
      have zle : ∀ c ∈ zs, lett c = true := fun c hc => sgl c (zc c hc)
      have tcs : cs (sOf zs) = zs := cs_sOf _
      have tln : (sOf zs).length = zs.length := sOf_len _
      -- its front
      refine ⟨_, rfl, _, rfl, b, kvs, sOf zs, rfl, B9, by rw [tcs]; exact ov, by omega, isText_of (by rw [tcs]; omega) (by rw [tcs]; exact zle), fun L t1 H10 wL f1 s10 => ?_⟩
      rw [tcs] at f1
      have l5 : 1 ≤ L ∧ L ≤ 5 := by
        obtain ⟨⟨z, p, h1, h2⟩, _⟩ := wL
        have := good.len z p h1
        omega
      have fsm := front_small (L := L) good ov
      have shf : Shw (dFront (frontW L zs) (frontD (tfD kvs) L zs)) 2 (2 * 9700) := shw_front (by rw [frontW_len]; omega) (fun c hc => zle c (frontW_mem hc)) (by rw [frontD_len]; omega) fun d hd => by
        have := fsm d hd
        exact Nat.lt_of_le_of_lt (by omega : d.natAbs ≤ 2000) (by decide +kernel)
      refine ⟨_, rfl, ?_⟩
      dsimp only [tNil]
      refine repr_shw (dp_front f1) shf (by decide) (by decide) ?_
      refine ⟨_, rfl, _, rfl, pd, kvs, sOf zs, rfl, s10 _ _ e9, tar, nkv, by rw [tcs]; exact ov, by omega, fun L2 t2 H11 wL2 f2 s11 => ?_⟩
      rw [tcs] at f2
      have eL := wL.uniq wL2
      subst eL
      dsimp only [tNil]
      refine repr_shw (dp_front f2) shf (by decide) (by decide) ?_
      refine ⟨rfl, false, ne_self, ?_⟩
      -- the step to the first sign
      have s11' := s10.trans s11
      have e11 := s11' _ _ e9
      have z11 := s11' _ _ s9
      have lgl : (sOf zs ++ ch c0) = sOf (zs ++ [c0]) := str_ext (by rw [cs_app, cs_sOf, cs_sOf])
      have ov0 : Over (tfD kvs) [c0] := fun c hc => by
        rw [List.mem_singleton.mp hc]
        exact (sgns c0).mpr m0
      have ov2 : Over (tfD kvs) (zs ++ [c0]) := ov.app ov0
      have tcs2 : cs (sOf (zs ++ [c0])) = zs ++ [c0] := cs_sOf _
      have tln2 : (sOf (zs ++ [c0])).length = zs.length + 1 := by rw [sOf_len, List.length_append]; rfl
      have lc1 : (ch c0).length = 1 := rfl
      refine ⟨_, rfl, _, rfl, _, rfl, sa, _, _, chV c0, rfl, rfl, SqL.of z11, at_of (j := 0) rfl v0, sOf zs, ch c0, rfl, rfl, by rw [tln, lc1]; exact fits_sz (by omega), ?_⟩
      rw [lgl]
      refine ⟨pd, kvs, _, rfl, e11, tar, by rw [tcs2]; exact ov2, by omega, fun ro H12 hro r12 s12 => ?_⟩
      rw [tcs2, tln2] at r12
      refine ⟨_, rfl, _, rfl, _, rfl, sa, _, _, chV c0, rfl, rfl, SqL.of (s12 _ _ z11), at_of (j := 0) rfl v0, sOf zs, ch c0, rfl, rfl, by rw [tln, lc1]; exact fits_sz (by omega), ?_⟩
      rw [lgl]
      refine ⟨pd, kvs, _, rfl, s12 _ _ e11, tar, nkv, by rw [tcs2]; exact ov2, by omega, fun L3 t3 H13 wL3 f3 s13 => ?_⟩
      rw [tcs2] at f3
      have eL3 := wL.uniq wL3
      subst eL3
      have r13 := s13 _ _ r12
      have full : (zs ++ [c0]).take (zs.length + 1) = zs ++ [c0] := List.take_of_length_le (by rw [List.length_append]; exact Nat.le_refl _)
      have part : (zs ++ [c0]).take zs.length = zs := List.take_left
      refine ⟨_, rfl, _, rfl, ro, _, _, .int (lp (tfD kvs) (zs ++ [c0])), rfl, rfl, SqL.of r13, by rw [rowV_succ, full]; exact atI_last, _, rfl, _, rfl, sOf zs, rfl, by rw [tln]; exact fits_sz (by omega), ro, _, _, .int (lp (tfD kvs) zs), rfl, rfl, SqL.of r13, at_of (j := zs.length) (by omega) (by rw [rowV_at (by omega), part]), _, _, rfl, rfl, by show 2 ≤ sizeLine; decide, fun t4 ht4 => ?_⟩
      have d4 : StepAt (upd H13 t4 (.tup [.ref t3, .int (lp (tfD kvs) (zs ++ [c0]) - lp (tfD kvs) zs)])) t4 (frontW L (zs ++ [c0])) (frontD (tfD kvs) L (zs ++ [c0])) (lp (tfD kvs) (zs ++ [c0]) - lp (tfD kvs) zs) := ⟨t3, upd_same, f3.same (same_new ht4)⟩
      have s14 : Same H9 (upd H13 t4 (.tup [.ref t3, .int (lp (tfD kvs) (zs ++ [c0]) - lp (tfD kvs) zs)])) := ((s11'.trans s12).trans s13).trans (same_new ht4)
      have f14 := ((f1.same s11).same (s12.trans s13)).same (same_new ht4 (o := .tup [.ref t3, .int (lp (tfD kvs) (zs ++ [c0]) - lp (tfD kvs) zs)]))
      generalize (upd H13 t4 (.tup [.ref t3, .int (lp (tfD kvs) (zs ++ [c0]) - lp (tfD kvs) zs)])) = H14 at d4 s14 f14 ⊢
      have fa : FrontArg C H14 b t1 kvs (frontW L zs) (frontD (tfD kvs) L zs) L := ⟨B9.same s14, f14, wL, fun c hc => ov c (frontW_mem hc), by rw [frontW_len]; omega, by rw [frontW_len, frontD_len], fun c hc => zle c (frontW_mem hc), fun d hd => isI_of (by
        have := fsm d hd
        exact Nat.lt_of_le_of_lt (by omega : d.natAbs ≤ 2000) (by decide +kernel))⟩
      refine ⟨_, rfl, _, rfl, _, rfl, sa, _, _, chV c0, rfl, rfl, SqL.of (s14 _ _ s9), at_of (j := 0) rfl v0, b, t1, kvs, frontW L zs, frontD (tfD kvs) L zs, c0, L, rfl, fa, ov0, sgl c0 m0, fun t5 m5 H15 st5 sa5 s15 => ?_⟩
      have em5 := st5.uniq (front_change good wL ov2)
      subst em5
      rw [front_stepW l5.1, front_stepD l5.1] at sa5
      have fsm2 := front_small (L := L) good ov2
      have lb1 := lp_bound good _ ov
      have lb2 := lp_bound good _ ov2
      have l2n : (zs ++ [c0]).length = zs.length + 1 := by rw [List.length_append]; rfl
      have shs : Shw (dStep (frontW L (zs ++ [c0])) (frontD (tfD kvs) L (zs ++ [c0])) (lp (tfD kvs) (zs ++ [c0]) - lp (tfD kvs) zs)) 3 40000 := shw_step (by rw [frontW_len]; omega) (fun c hc => by
        rcases List.mem_append.mp (frontW_mem hc) with h | h
        · exact zle c h
        · rw [List.mem_singleton.mp h]
          exact sgl c0 m0) (by rw [frontD_len]; omega) (fun d hd => by
        have := fsm2 d hd
        exact Nat.lt_of_le_of_lt (by omega : d.natAbs ≤ 2000) (by decide +kernel)) (Nat.lt_of_le_of_lt (by omega : _ ≤ 2000) (by decide +kernel))
      dsimp only [tNil]
      refine repr_shw (dp_step sa5) shs (by decide) (by decide) ?_
      refine ⟨_, rfl, ?_⟩
      dsimp only [tNil]
      have d5 : StepAt H15 t4 (frontW L (zs ++ [c0])) (frontD (tfD kvs) L (zs ++ [c0])) (lp (tfD kvs) (zs ++ [c0]) - lp (tfD kvs) zs) := by
        obtain ⟨u, h1, h2⟩ := d4
        exact ⟨u, s15 _ _ h1, h2.same s15⟩
      refine repr_shw (dp_step d5) shs (by decide) (by decide) ?_
      refine ⟨rfl, false, ne_self, ?_⟩
      have s15' := s14.trans s15
      have e15 := s15' _ _ e9
      have z15 := s15' _ _ s9
      have D15 := D9.same s15'
      -- an odd front
      refine ⟨_, rfl, _, rfl, pd, kvs, rfl, e15, tar, nkv, fun L4 H16 wL4 _ _ s16 => ?_⟩
      have eL4 := wL.uniq wL4
      subst eL4
      refine ⟨l, (L : Int), n + (850 - 200 * i - 30), rfl, by omega, by omega, (D15.same s16).le (by omega), fun r2 H17 r20 r21 k17 D17 => ?_⟩
      refine ⟨_, rfl, _, rfl, _, rfl, l, .ref sa, sg, r2.toNat, n + (850 - 200 * i - 40), by rw [Int.toNat_of_nonneg r20]; rfl, .lst nsa (SqL.of (k17 _ _ (s16 _ _ z15) nsa)), nsg, by omega, by omega, D17.le (by omega), fun ws H18 wl wc k18 D18 => ?_⟩
      have wl' : ws.length < L := by omega
      have w5 : ws.length ≤ 4 := by omega
      refine ⟨_, rfl, _, rfl, by omega, by omega, fun D hD => ?_⟩
      have nD : D ≠ l := D18.ne hD
      refine lc_range (fun j H' => ∃ ds : List Int, ds.length = j ∧ j ≤ 4 ∧ H' D = some (.lst (ds.map V.int)) ∧ (∀ d ∈ ds, isInteger (.int d) = true) ∧ Kp l H18 H' ∧ Dice H' l (n + (850 - 200 * i - 50 + 8 - 2 * j))) ⟨[], rfl, by omega, upd_same, fun _ h => (List.not_mem_nil h).elim, (Kp.refl _ _).new hD, (D18.new hD).le (by omega)⟩ ?_ ?_
      · rintro j H' hj ⟨ds, dl, j4, d1, di, kj, Dj⟩
        refine ⟨wipe_set, _, rfl, l, n + (850 - 200 * i - 50 + 8 - 2 * (j + 1)), rfl, Dj.le (by omega), fun q H'' hq kq Dq => ?_⟩
        refine ⟨_, kq _ _ d1 nD, by rw [List.length_map]; exact small1000' (by omega), ds ++ [q], by rw [List.length_append, dl]; rfl, by omega, by rw [upd_same, List.map_append]; rfl, fun d hd => ?_, (kj.trans kq).mut hD, Dq.upd nD⟩
        rcases List.mem_append.mp hd with h | h
        · exact di d h
        · rw [List.mem_singleton.mp h]
          exact hq
      rintro H19 ⟨ds, dl, j4, d19, di, k19, D19⟩
      have dlw : ds.length = ws.length := by omega
      refine ⟨D, _, rfl, .inl ⟨SqL.of d19, fun td htd => ?_⟩⟩
      refine ⟨by show 2 ≤ sizeLine; decide, fun to hto => ?_⟩
      have fo : FrontAt (upd (upd H19 td (.tup (ds.map V.int))) to (.tup [.str (sOf ws), .ref td])) to ws ds := ⟨td, upd_same, same_new hto _ _ upd_same⟩
      have s20 : Same H19 (upd (upd H19 td (.tup (ds.map V.int))) to (.tup [.str (sOf ws), .ref td])) := (same_new htd).trans (same_new hto)
      generalize (upd (upd H19 td (.tup (ds.map V.int))) to (.tup [.str (sOf ws), .ref td])) = H20 at fo s20 ⊢
      have k20 : Kp l H9 H20 := ((((Kp.of (s15'.trans s16)).trans k17).trans k18).trans k19).trans (.of s20)
      have B20 := B9.kp D9 k20
      have e20 := k20 _ _ e9 npd
      have z20 := k20 _ _ s9 nsa
      have D20 := D19.same s20
      have ovw : Over (tfD kvs) ws := fun c hc => (sgns c).mpr (wc c hc)
      have wle : ∀ c ∈ ws, lett c = true := fun c hc => sgl c (wc c hc)
      have dsm : ∀ d ∈ ds, d.natAbs ≤ 10 ^ 60 := fun d hd => Nat.le_of_lt (of_decide_eq_true (di d hd))
      refine ⟨_, rfl, sa, rfl, ⟨_, SqL.of z20⟩, for_list (K := K) (xs := sg.map chV) (fun j σ H' => ∃ y12, σ = [some (.ref l), some (.ref sa), some (.ref ma), some (.ref pd), some (.ref b), some (.int (0 + (i : Int))), some (.str (sOf zs)), some (.ref t1), some (.ref ro), some (.ref t4), some (.int r2), some (.ref to), y12, x13] ∧ Same H20 H')
        ⟨_, rfl, Same.refl _⟩ (fun j σ H' _ q => by obtain ⟨_, _, q⟩ := q; exact SqL.of (q _ _ z20)) ?_ ?_⟩
      · rintro j x σ H21 hx ⟨y12, rfl, s21⟩
        rw [List.getElem?_map] at hx
        obtain ⟨c, hc, rfl⟩ := Option.map_eq_some_iff.mp hx
        have cm := List.mem_of_getElem? hc
        have oc : Over (tfD kvs) [c] := fun d hd => by
          rw [List.mem_singleton.mp hd]
          exact (sgns c).mpr cm
        have fa2 : FrontArg C H21 b to kvs ws ds L := ⟨B20.same s21, fo.same s21, wL, ovw, wl', dlw, wle, di⟩
        refine ⟨_, rfl, _, rfl, _, rfl, b, to, kvs, ws, ds, c, L, rfl, fa2, oc, sgl c cm, fun t6 m6 H22 st6 sa6 s22 => ?_⟩
        have mb := stepR_small good st6 dsm
        have db := stepD_small (L := L) (l := ws) (c := c) mb dsm
        have swl := stepW_len (L := L) (l := ws) (c := c)
        have sdl := stepD_len (L := L) (l := ws) (ds := ds) (c := c) (m := m6)
        have shs2 : Shw (dStep (stepW L ws c) (stepD L ws ds c m6) m6) 3 40000 := shw_step (by omega) (fun d hd => by
          rcases stepW_mem hd with h | rfl
          · exact wle d h
          · exact sgl d cm) (by omega) (fun d hd => Nat.lt_of_le_of_lt (db d hd) (by decide +kernel)) (Nat.lt_of_le_of_lt mb (by decide +kernel))
        dsimp only [tNil]
        refine repr_shw (dp_step sa6) shs2 (by decide) (by decide) ?_
        refine ⟨_, rfl, _, rfl, _, rfl, pd, to, kvs, ws, ds, c, L, rfl, s22 _ _ (s21 _ _ e20), tar, nkv, (fo.same s21).same s22, wL, oc, wl', dlw, fun t7 m7 H23 st7 sa7 s23 => ?_⟩
        have em7 := st7.uniq st6
        subst em7
        dsimp only [tNil]
        refine repr_shw (dp_step sa7) shs2 (by decide) (by decide) ?_
        exact ⟨rfl, false, ne_self, _, rfl, (s21.trans s22).trans s23⟩
      · rintro σ H21 ⟨y12, rfl, s21⟩
        exact ⟨_, _, _, _, _, _, _, _, _, rfl, (k7.trans (k79.trans k20)).trans (.of s21), (D20.same s21).le (by omega)⟩
    · rintro σ H7 ⟨x5, x6, x7, x8, x9, x10, x11, x12, x13, rfl, k7, D7⟩
      have B7 := B6.kp D6 k7
      have e7 := k7 _ _ e6 npd
      obtain ⟨_, _, _, dx', _, _, _, _, _, _, A7⟩ := B7.ex
      refine ⟨_, rfl, b, dx', _, rfl, A7.ob, b, kvs, rfl, B7, fun p ys H8 hp pmy soy e8 s8 => ?_⟩
      dsimp only [tNil]
      have al := (ap_parts av).2.1
      have small : ∀ e ∈ psOf kvs ys, e.1.length ≤ 10 ∧ (∀ c ∈ cs e.1, c < 128) ∧ 0 ≤ e.2 ∧ e.2 ≤ 99 := fun e he => by
        obtain ⟨y, hy, rfl⟩ := List.mem_map.mp he
        have hk := pmy.mem_iff.mp hy
        obtain ⟨q1, q2, q3⟩ := keyStrs_piece al y hk
        obtain ⟨_, q4, q5⟩ := price_of_key al hk
        refine ⟨by show y.length ≤ 10; rw [← cs_len]; omega, fun c hc => ?_, by show (0 : Int) ≤ priceIn kvs y; omega, q5⟩
        have := q3 c hc
        unfold lett at this
        rw [Bool.and_eq_true] at this
        have := of_decide_eq_true this.2
        omega
      have ylen : ys.length ≤ 12 := by
        have h := congrArg List.length (keys_of al)
        rw [List.length_map, List.length_map] at h
        have := (ap_parts av).1.2
        rw [pmy.length_eq]
        omega
      obtain ⟨sh1, sh2⟩ := show_dict (ks := psOf kvs ys) (by unfold psOf; rw [List.length_map]; omega) small
      refine ⟨p, psOf kvs ys, rfl, .inl e8, sh1, sh2, ?_⟩
      obtain ⟨ks, ek⟩ := lift_ent (kvs := kvs) fun kv hkv => by
        obtain ⟨z, q, e, _⟩ := tar.mem kv hkv
        exact ⟨z, q, e⟩
      have nk : (ks.map (·.1)).Nodup := nd_ent (by rw [← ek]; exact nd)
      have kn : ks.length < 64 := by
        have := (ap_parts av).1.2
        rw [ek, List.length_map] at this
        omega
      have pk : (psOf kvs ys).Perm ks := by
        have h := ps_perm (ks := ks) (ys := ys) (by rw [← ek]; exact al) (by rw [← ek]; exact nd) (by rw [← ek]; exact pmy)
        rwa [← ek] at h
      have e7' : H8 pd = some (.dK (ks.map entS)) := by
        rw [← ek]
        exact s8 _ _ e7
      refine ⟨_, rfl, .inr (.inr (.inl ⟨rfl, .inl ⟨_, e7'⟩⟩)), pd, _, rfl, rfl, .inl e7', fun r hr => ?_⟩
      refine ⟨r, pd, ks, rfl, upd_same, .inl (same_new hr _ _ e7'), nk, kn, fun H9 q ps s9 pp sp q9 t9 => ?_⟩
      refine ⟨q, (ps.map fun z => ((z.1, entS z.2) : Addr × (Key × V))).map (·.1), (ps.map fun z => ((z.1, entS z.2) : Addr × (Key × V))).map (·.2), rfl, SqL.of (by rw [q9, List.map_map, List.map_map]; rfl), paired_of (F := fun (p : Addr) (kv : Key × V) => SqT K H9 p [kV kv.1, kv.2]) (ps := ps.map fun z => ((z.1, entS z.2) : Addr × (Key × V))) (fun p hp => by
        obtain ⟨z, hz, rfl⟩ := List.mem_map.mp hp
        exact SqT.of (t9 z hz)), fun pe hpe => ?_⟩
      have eps : psOf kvs ys = ps.map (·.2) := pairs_eq (by rw [(pk.map (·.1)).nodup_iff]; exact nk) (so_ps soy) sp (pk.trans pp.symm)
      have emk : mergeK [] ((ps.map fun z => ((z.1, entS z.2) : Addr × (Key × V))).map (·.2)) = (psOf kvs ys).map entS := by
        have e1 : (ps.map fun z => ((z.1, entS z.2) : Addr × (Key × V))).map (·.2) = (psOf kvs ys).map entS := by
          rw [eps, List.map_map, List.map_map]
          rfl
        rw [e1, merge_nd (kvs := [])]
        · rfl
        · rw [List.nil_append]
          have e2 : ((psOf kvs ys).map entS).map (·.1) = ((psOf kvs ys).map (·.1)).map (Sum.inr : Str → Key) := by
            rw [List.map_map, List.map_map]
            rfl
          rw [e2]
          refine List.pairwise_map.mpr (List.Pairwise.imp (R := fun a b : Str => a ≠ b) (fun h q => h (Sum.inr.inj q)) ?_)
          exact ((pk.map (·.1)).nodup_iff).mpr nk
      rw [emk]
      refine ⟨pe, psOf kvs ys, rfl, .inl upd_same, sh1, sh2, rfl, ?_⟩
      rw [is_self]
      exact k _ (((((kD.trans k7).trans (.of s8)).new hr).trans (.of s9)).new hpe) (((((D7.same s8).new hr).same s9).new hpe).le (by omega))
theorem sc_law : FnScope ["script", "spot", "eight", "told", "due", "great", "abba", "text"] ["script"] (defScope s_law) := ⟨rfl, rfl, rfl, by decide +kernel, rfl, by decide +kernel, by decide +kernel⟩
theorem ok_law {f : Addr} {fd : FuncData} (F : Fun K "law" "law" s_law f fd) (T : Txt K mg C) (c_Book : C8.Mak P w K mg base 5 "Book" C (spBook C K) []) (c_front_of : HasO P w K mg base CX0 5 "front_of" ["book", "text"] (spFrontIn C)) (c_next_front : HasO P w K mg base CX0 7 "next_front" ["book", "front", "sign"] (spNext C)) (c__law_right : Has P w K mg base CX0 10 "_law_right" ["reel"] (spRight 1000)) (c__law_reel : Has P w K mg base CX0 1 "_law_reel" ["script", "spot"] (spDice K)) : FnG P w K mg base CX0 12 f fd ["script"] (spLaw K) := by
  refine fn_g0 F sc_law (fun vs H Q E h => ?_) (fun cdv A outer s H vs Q E hg hr h => ?_)
  · obtain ⟨a, ns, rfl, _⟩ := h
    rfl
  · have hu := hu_of hr
    obtain ⟨a, ns, rfl, hS, hn, k⟩ := h
    refine ⟨_, (pss_cons (ps_for PassesOwn.never rfl (pi_range1 (by rfl) T.b_range (pa_cons (pe_callB (call_max2 rfl) (by rfl) T.b_max (by decide +kernel) (pa_cons pe_int (pa_cons (pe_callB (call_min2 rfl) (by rfl) T.b_min (by decide +kernel) (pa_cons pe_int (pa_cons (pe_callB (g_len_seq K) (by rfl) T.b_len (by decide +kernel) (pa_cons (pv 0) pa_nil)) pa_nil))) pa_nil))) pa_nil)) (pg_name (i := 1) sc_law.nd rfl (Or.inl rfl)) (pss_one (ps_if (pt_not (pt_val (pe_has c__law_right hg (hr.mono (by decide)) pass0 (pa_cons (pe_has c__law_reel hg (hr.mono (by decide)) pass0 (pa_cons (pv 0) (pa_cons (pv 1) pa_nil))) pa_nil)))) (pss_one (ps_ret pe_bl)) pss_nil)))
      (pss_cons (ps_set (i := 2) sc_law.nd rfl (Or.inr rfl) (C8.pe_mk c_Book hr (by decide) (by rfl) (pa_cons (pe_disp (pps_cons pe_str pe_int (pps_cons pe_str pe_int (pps_cons pe_str pe_int (pps_cons pe_str pe_int (pps_cons pe_str pe_int pps_nil))))) (by rfl) (by rfl) (fun z => by cases z) (by decide)) pa_nil)))
      (pss_cons (ps_setLc (i := 3) (own := [("text", 7)]) rfl sc_law.nd rfl rfl (sw_true rfl rfl rfl (by decide +kernel)) (g_tuple K (pe_tup (pa_cons pe_str (pa_cons pe_str (pa_cons pe_str (pa_cons pe_str (pa_cons pe_str (pa_cons (pe_op op_mulS pe_str pe_int) (pa_cons (pe_op op_mulS pe_str pe_int) pa_nil))))))))) (blkOk_by (own := [("text", 7)]) (N := ["script", "spot", "eight", "told", "due", "great", "abba", "text"]) (sc := defScope s_law) (by decide +kernel)) (fun _ _ _ _ _ => (pg_name (i := 7) sc_law.nd rfl (Or.inl rfl))) (fun _ _ _ _ _ => pts_nil) (fun _ _ _ _ _ => (pe_hasO c_front_of (hr.mono (by decide)) pass0 (pa_cons (pv 2) (pa_cons (pv 7) pa_nil)))))
      (pss_cons (ps_set (i := 4) sc_law.nd rfl (Or.inl rfl) (pe_lst (pa_cons (pe_tup (pa_cons pe_str (pa_cons (pe_tup pa_nil) pa_nil))) (pa_cons (pe_tup (pa_cons pe_str (pa_cons (pe_tup (pa_cons (pe_un un_neg pe_int) pa_nil)) pa_nil))) (pa_cons (pe_tup (pa_cons pe_str (pa_cons (pe_tup (pa_cons pe_int pa_nil)) pa_nil))) (pa_cons (pe_tup (pa_cons pe_str (pa_cons (pe_tup (pa_cons (pe_un un_neg pe_int) pa_nil)) pa_nil))) (pa_cons (pe_tup (pa_cons pe_str (pa_cons (pe_tup (pa_cons pe_int pa_nil)) pa_nil))) (pa_cons (pe_tup (pa_cons pe_str (pa_cons (pe_tup (pa_cons (pe_un un_neg pe_int) pa_nil)) pa_nil))) (pa_cons (pe_tup (pa_cons pe_str (pa_cons (pe_tup (pa_cons (pe_un un_neg pe_int) pa_nil)) pa_nil))) pa_nil)))))))))
      (pss_cons (ps_if (PW.pt (pw_or (pt_cmpR (g_neD K hr.units) (pv 3) (pv 4) (nomark _)) (pw_or1 (pt_cmpR (g_neD K hr.units) (pe_hasO c_next_front (hr.mono (by decide)) pass0 (pa_cons (pv 2) (pa_cons (pe_tup (pa_cons pe_str (pa_cons (pe_tup (pa_cons pe_int pa_nil)) pa_nil))) (pa_cons pe_str pa_nil)))) (pe_tup (pa_cons (pe_tup (pa_cons pe_str (pa_cons (pe_tup (pa_cons (pe_un un_neg pe_int) pa_nil)) pa_nil))) (pa_cons pe_int pa_nil))) (nomark _))))) (pss_one (ps_ret pe_bl)) pss_nil)
      (pss_cons (ps_set (i := 5) sc_law.nd rfl (Or.inl rfl) (pe_op op_powW pe_int pe_int))
      (pss_cons (ps_set (i := 3) sc_law.nd rfl (Or.inl rfl) (pe_lst (pa_cons (pe_hasO c_next_front (hr.mono (by decide)) pass0 (pa_cons (pv 2) (pa_cons (pe_tup (pa_cons pe_str (pa_cons (pe_tup (pa_cons (pv 5) pa_nil)) pa_nil))) (pa_cons pe_str pa_nil)))) (pa_cons (pe_hasO c_next_front (hr.mono (by decide)) pass0 (pa_cons (pv 2) (pa_cons (pe_tup (pa_cons pe_str (pa_cons (pe_tup (pa_cons (pe_op op_sub pe_int (pv 5)) pa_nil)) pa_nil))) (pa_cons pe_str pa_nil)))) pa_nil))))
      (pss_cons (ps_if (pt_cmpR (g_neD K hr.units) (pv 3) (pe_lst (pa_cons (pe_tup (pa_cons (pe_tup (pa_cons pe_str (pa_cons (pe_tup (pa_cons (pe_un un_neg pe_int) pa_nil)) pa_nil))) (pa_cons pe_int pa_nil))) (pa_cons (pe_tup (pa_cons (pe_tup (pa_cons pe_str (pa_cons (pe_tup (pa_cons (pe_op op_sub (pv 5) pe_int) pa_nil)) pa_nil))) (pa_cons (pe_op op_sub pe_int (pv 5)) pa_nil))) pa_nil))) (nomark _)) (pss_one (ps_ret pe_bl)) pss_nil)
      (pss_cons (ps_set (i := 6) sc_law.nd rfl (Or.inl rfl) (C8.pe_mk c_Book hr (by decide) (by rfl) (pa_cons (pe_disp (pps_cons pe_str pe_int (pps_cons pe_str pe_int (pps_cons pe_str pe_int (pps_cons pe_str pe_int pps_nil)))) (by rfl) (by rfl) (fun z => by cases z) (by decide)) pa_nil)))
      (pss_cons (ps_if (pt_cmpR (g_neD K hr.units) (pe_hasO c_front_of (hr.mono (by decide)) pass0 (pa_cons (pv 6) (pa_cons (pe_op op_mulS pe_str pe_int) pa_nil))) (pe_tup (pa_cons pe_str (pa_cons (pe_tup (pa_cons pe_int (pa_cons (pe_un un_neg pe_int) pa_nil))) pa_nil))) (nomark _)) (pss_one (ps_ret pe_bl)) pss_nil)
      (pss_one (ps_ret (pe_cmpR (g_eqD K hr.units) (pe_hasO c_next_front (hr.mono (by decide)) pass0 (pa_cons (pv 2) (pa_cons (pe_tup (pa_cons pe_str (pa_cons (pe_tup (pa_cons (pe_un un_neg pe_int) pa_nil)) pa_nil))) (pa_cons pe_str pa_nil)))) (pe_tup (pa_cons (pe_tup (pa_cons pe_str (pa_cons (pe_tup (pa_cons pe_int pa_nil)) pa_nil))) (pa_cons (pe_un un_neg pe_int) pa_nil))) (nomark _)))))))))))))), ?_⟩
    obtain ⟨J, hJ, j1, j8⟩ : ∃ J : Int, (if (if ((ns.map V.int).length : Int) < 6 then ((ns.map V.int).length : Int) else 6) > 1 then (if ((ns.map V.int).length : Int) < 6 then ((ns.map V.int).length : Int) else 6) else 1) = J ∧ 1 ≤ J ∧ J ≤ 6 := ⟨_, rfl, cells_bound (n := (ns.map V.int).length) (m := 6) (by decide)⟩
    refine ⟨_, rfl, _, _, rfl, .inl hS, _, _, rfl, _, _, rfl, J, congrArg (fun i => [V.int i]) hJ, by omega, by omega, for_range (lo := 0) (n := J.toNat) (fun i σ H' => ∃ v, σ = [some (.ref a), v, none, none, none, none, none, none] ∧ Same H H') ⟨_, rfl, Same.refl H⟩ ?_ ?_⟩
    · rintro i σ H1 hi ⟨v, rfl, s1⟩
      refine ⟨_, rfl, _, rfl, a, ns, _, rfl, s1.seq hS, hn, by omega, by omega, fun l H2 hl s2 D2 => ?_⟩
      have fl : H l = none := s1.free hl
      refine ⟨l, 2 ^ 60 - 1000, rfl, D2.le (by omega), fun H4 kp4 D4 => ⟨true, rfl, ?_⟩⟩
      exact ⟨_, rfl, kp4.sameOf (s1.trans s2) fl⟩
    · rintro σ H1 ⟨v, rfl, s1⟩
      simp only [litX.1, litX.2.1, litX.2.2.1, litX.2.2.2.1, litX.2.2.2.2.1, litX.2.2.2.2.2.1, litX.2.2.2.2.2.2.1, litX.2.2.2.2.2.2.2.1, litX.2.2.2.2.2.2.2.2.1, litX.2.2.2.2.2.2.2.2.2.1, litX.2.2.2.2.2.2.2.2.2.2]
      -- the book of eight
      refine fun pd hpd => ⟨upd_same, eightK, rfl, by decide, ?_⟩
      have e2 : (upd (upd H1 pd (.dK [])) pd (.dK (mergeK [] eightK))) pd = some (.dK eightK) := upd_same
      have s2 : Same H1 (upd (upd H1 pd (.dK [])) pd (.dK (mergeK [] eightK))) := same_mut (same_new hpd) hpd
      generalize (upd (upd H1 pd (.dK [])) pd (.dK (mergeK [] eightK))) = H2 at e2 s2 ⊢
      intro b dx hb hdx hne
      refine made_book hb hdx e2 eight_av eight_nd fun H3 s3 B3 => ⟨rfl, ?_⟩
      -- its fronts
      refine ⟨_, _, rfl, rfl, by decide, by decide, by decide, by decide +kernel, ?_⟩
      rw [reps8.1]
      refine ⟨_, _, rfl, rfl, by decide, by decide, by decide, by decide +kernel, ?_⟩
      rw [reps8.2]
      refine ⟨by show 7 ≤ sizeLine; decide, fun tt htt => ?_⟩
      have tt4 : (upd H3 tt (.tup [.str (sOf []), .str (sOf [120]), .str (sOf [120, 97]), .str (sOf [120, 97, 97]), .str (sOf [120, 97, 97, 120]), .str (sOf (List.replicate 40 120)), .str (sOf (List.replicate 41 97))])) tt = some (.tup (texts8.map fun t => V.str (sOf t))) := upd_same
      have s4 : Same H3 (upd H3 tt (.tup [.str (sOf []), .str (sOf [120]), .str (sOf [120, 97]), .str (sOf [120, 97, 97]), .str (sOf [120, 97, 97, 120]), .str (sOf (List.replicate 40 120)), .str (sOf (List.replicate 41 97))])) := same_new htt
      refine ⟨tt, rfl, ⟨_, SqT.of tt4⟩, fun D hD => ?_⟩
      generalize (upd H3 tt (.tup [.str (sOf []), .str (sOf [120]), .str (sOf [120, 97]), .str (sOf [120, 97, 97]), .str (sOf [120, 97, 97, 120]), .str (sOf (List.replicate 40 120)), .str (sOf (List.replicate 41 97))])) = H4 at tt4 s4 hD ⊢
      have l8 : texts8.length = 7 := rfl
      refine lc_it (walk_tupF (K := K) (fun t => V.str (sOf t)) texts8) (fun j H' => ∃ ts : List Addr, ts.length = j ∧ H' D = some (.lst (ts.map V.ref)) ∧ (∀ (i : Nat) (t : Addr) (f : List Nat × List Int), ts[i]? = some t → fronts8[i]? = some f → FrontAt H' t f.1 f.2) ∧ Same H4 H')
        ⟨[], rfl, upd_same, fun i t f h => by simp at h, same_new hD⟩ (fun j H' _ q => by obtain ⟨_, _, _, _, q⟩ := q; exact SqT.of (q _ _ tt4)) ?_ ?_
      · rintro j x H5 H6 hj ⟨ts, tl, d5, f5, s5⟩ ⟨rfl, t, ht, rfl⟩
        obtain ⟨o1, o2, o3⟩ := over8 t (List.mem_of_getElem? ht)
        obtain ⟨f, hf, fw, fdd⟩ := front8 ht
        refine ⟨wipe_set, _, rfl, _, rfl, b, eightK, sOf t, rfl, (B3.same s4).same s5, by rw [cs_sOf]; exact o1, by rw [sOf_len]; omega, isText_of (by rw [cs_sOf]; omega) (by rw [cs_sOf]; exact o3), fun L p H7 wL fp s7 => ?_⟩
        have eL := wL.uniq eight_wd
        subst eL
        rw [cs_sOf, fw, fdd] at fp
        refine ⟨_, s7 _ _ d5, by rw [List.length_map]; exact small1000' (by omega), ts ++ [p], by rw [List.length_append, tl]; rfl, by rw [upd_same, List.map_append]; rfl, fun i q g hq hg => ?_, same_mut (s5.trans s7) hD⟩
        rcases Nat.lt_or_ge i ts.length with h | h
        · rw [List.getElem?_append_left h] at hq
          exact ((f5 i q g hq hg).same s7).updL (s7 _ _ d5)
        · rw [List.getElem?_append_right h] at hq
          have e0 : i - ts.length = 0 := by
            rcases Nat.eq_zero_or_pos (i - ts.length) with h0 | h0
            · exact h0
            · rw [List.getElem?_eq_none (by simp; omega)] at hq
              cases hq
          rw [e0] at hq
          cases hq
          have ej : i = j := by omega
          subst ej
          rw [hf] at hg
          cases hg
          exact fp.updL (s7 _ _ d5)
      rintro H5 ⟨ts, tl, d5, f5, s5⟩
      have B5 := (B3.same s4).same s5
      refine ⟨by show 0 ≤ sizeLine; decide, fun u0 hu0 => ⟨by show 2 ≤ sizeLine; decide, fun t0 ht0 => ?_⟩⟩
      have q0 : FrontAt (upd (upd H5 u0 (.tup [])) t0 (.tup [.str (sOf []), .ref u0])) t0 [] [] := ⟨u0, upd_same, same_new ht0 _ _ upd_same⟩
      have r0 : Same H5 (upd (upd H5 u0 (.tup [])) t0 (.tup [.str (sOf []), .ref u0])) := (same_new hu0).trans (same_new ht0)
      generalize (upd (upd H5 u0 (.tup [])) t0 (.tup [.str (sOf []), .ref u0])) = G0 at q0 r0 ⊢
      refine ⟨_, rfl, by show 1 ≤ sizeLine; decide, fun u1 hu1 => ⟨by show 2 ≤ sizeLine; decide, fun t1 ht1 => ?_⟩⟩
      have q1 : FrontAt (upd (upd G0 u1 (.tup [.int (-1)])) t1 (.tup [.str (sOf [120]), .ref u1])) t1 [120] [(-1)] := ⟨u1, upd_same, same_new ht1 _ _ upd_same⟩
      have r1 : Same G0 (upd (upd G0 u1 (.tup [.int (-1)])) t1 (.tup [.str (sOf [120]), .ref u1])) := (same_new hu1).trans (same_new ht1)
      generalize (upd (upd G0 u1 (.tup [.int (-1)])) t1 (.tup [.str (sOf [120]), .ref u1])) = G1 at q1 r1 ⊢
      refine ⟨by show 1 ≤ sizeLine; decide, fun u2 hu2 => ⟨by show 2 ≤ sizeLine; decide, fun t2 ht2 => ?_⟩⟩
      have q2 : FrontAt (upd (upd G1 u2 (.tup [.int (0)])) t2 (.tup [.str (sOf [97]), .ref u2])) t2 [97] [(0)] := ⟨u2, upd_same, same_new ht2 _ _ upd_same⟩
      have r2 : Same G1 (upd (upd G1 u2 (.tup [.int (0)])) t2 (.tup [.str (sOf [97]), .ref u2])) := (same_new hu2).trans (same_new ht2)
      generalize (upd (upd G1 u2 (.tup [.int (0)])) t2 (.tup [.str (sOf [97]), .ref u2])) = G2 at q2 r2 ⊢
      refine ⟨_, rfl, by show 1 ≤ sizeLine; decide, fun u3 hu3 => ⟨by show 2 ≤ sizeLine; decide, fun t3 ht3 => ?_⟩⟩
      have q3 : FrontAt (upd (upd G2 u3 (.tup [.int (-1)])) t3 (.tup [.str (sOf [97]), .ref u3])) t3 [97] [(-1)] := ⟨u3, upd_same, same_new ht3 _ _ upd_same⟩
      have r3 : Same G2 (upd (upd G2 u3 (.tup [.int (-1)])) t3 (.tup [.str (sOf [97]), .ref u3])) := (same_new hu3).trans (same_new ht3)
      generalize (upd (upd G2 u3 (.tup [.int (-1)])) t3 (.tup [.str (sOf [97]), .ref u3])) = G3 at q3 r3 ⊢
      refine ⟨by show 1 ≤ sizeLine; decide, fun u4 hu4 => ⟨by show 2 ≤ sizeLine; decide, fun t4 ht4 => ?_⟩⟩
      have q4 : FrontAt (upd (upd G3 u4 (.tup [.int (0)])) t4 (.tup [.str (sOf [120]), .ref u4])) t4 [120] [(0)] := ⟨u4, upd_same, same_new ht4 _ _ upd_same⟩
      have r4 : Same G3 (upd (upd G3 u4 (.tup [.int (0)])) t4 (.tup [.str (sOf [120]), .ref u4])) := (same_new hu4).trans (same_new ht4)
      generalize (upd (upd G3 u4 (.tup [.int (0)])) t4 (.tup [.str (sOf [120]), .ref u4])) = G4 at q4 r4 ⊢
      refine ⟨_, rfl, by show 1 ≤ sizeLine; decide, fun u5 hu5 => ⟨by show 2 ≤ sizeLine; decide, fun t5 ht5 => ?_⟩⟩
      have q5 : FrontAt (upd (upd G4 u5 (.tup [.int (-1)])) t5 (.tup [.str (sOf [120]), .ref u5])) t5 [120] [(-1)] := ⟨u5, upd_same, same_new ht5 _ _ upd_same⟩
      have r5 : Same G4 (upd (upd G4 u5 (.tup [.int (-1)])) t5 (.tup [.str (sOf [120]), .ref u5])) := (same_new hu5).trans (same_new ht5)
      generalize (upd (upd G4 u5 (.tup [.int (-1)])) t5 (.tup [.str (sOf [120]), .ref u5])) = G5 at q5 r5 ⊢
      refine ⟨_, rfl, by show 1 ≤ sizeLine; decide, fun u6 hu6 => ⟨by show 2 ≤ sizeLine; decide, fun t6 ht6 => ?_⟩⟩
      have q6 : FrontAt (upd (upd G5 u6 (.tup [.int (-9)])) t6 (.tup [.str (sOf [97]), .ref u6])) t6 [97] [(-9)] := ⟨u6, upd_same, same_new ht6 _ _ upd_same⟩
      have r6 : Same G5 (upd (upd G5 u6 (.tup [.int (-9)])) t6 (.tup [.str (sOf [97]), .ref u6])) := (same_new hu6).trans (same_new ht6)
      generalize (upd (upd G5 u6 (.tup [.int (-9)])) t6 (.tup [.str (sOf [97]), .ref u6])) = G6 at q6 r6 ⊢
      have q0' := ((((((q0.same r1).same r2).same r3).same r4).same r5).same r6)
      have q1' := (((((q1.same r2).same r3).same r4).same r5).same r6)
      have q2' := ((((q2.same r3).same r4).same r5).same r6)
      have q3' := (((q3.same r4).same r5).same r6)
      have q4' := ((q4.same r5).same r6)
      have q5' := (q5.same r6)
      have q6' := q6
      have sA := ((((((r0.trans r1).trans r2).trans r3).trans r4).trans r5).trans r6)
      refine ⟨by show 7 ≤ sizeLine; decide, fun du hdu => ?_⟩
      have se := same_new hdu (o := .lst [.ref t0, .ref t1, .ref t2, .ref t3, .ref t4, .ref t5, .ref t6])
      have sE := sA.trans se
      refine ⟨_, rfl, _, rfl, ?_⟩
      refine rNeD_same (.lst (SqL.of (sE _ _ d5)) (dpAll_fronts (by rw [tl]; rfl) fun i t f h1 h2 => (f5 i t f h1 h2).same sE)) (.lst (SqL.of upd_same) (.cons (dp_front (q0'.same se)) (.cons (dp_front (q1'.same se)) (.cons (dp_front (q2'.same se)) (.cons (dp_front (q3'.same se)) (.cons (dp_front (q4'.same se)) (.cons (dp_front (q5'.same se)) (.cons (dp_front (q6'.same se)) .nil)))))))) shaped8 ⟨false, rfl, ?_⟩
      have B6 := B5.same sE
      generalize (upd G6 du (.lst [.ref t0, .ref t1, .ref t2, .ref t3, .ref t4, .ref t5, .ref t6])) = H6 at B6 ⊢
      refine ⟨_, rfl, by show 1 ≤ sizeLine; decide, fun ua hua => ⟨by show 2 ≤ sizeLine; decide, fun va hva => ?_⟩⟩
      have fa : FrontAt (upd (upd H6 ua (.tup [.int (30)])) va (.tup [.str (sOf [120]), .ref ua])) va [120] [30] := ⟨ua, upd_same, same_new hva _ _ upd_same⟩
      have sa : Same H6 (upd (upd H6 ua (.tup [.int (30)])) va (.tup [.str (sOf [120]), .ref ua])) := (same_new hua).trans (same_new hva)
      generalize (upd (upd H6 ua (.tup [.int (30)])) va (.tup [.str (sOf [120]), .ref ua])) = Ia at fa sa ⊢
      refine ⟨b, va, eightK, [120], [30], 97, 2, rfl, fa8 (B6.same sa) fa o120 rfl (by decide +kernel), o97, rfl, fun pa ma Ja sta saa sa' => ?_⟩
      have sga := step_given (w' := [97]) (d' := [-9]) (m := 9) eight_nd (by decide +kernel) (by decide +kernel) (by decide +kernel) sta saa
      have ba := (B6.same sa).same sa'
      refine ⟨_, rfl, by show 1 ≤ sizeLine; decide, fun xb hxb => ⟨by show 2 ≤ sizeLine; decide, fun yb hyb => ?_⟩⟩
      refine ⟨by show 2 ≤ sizeLine; decide, fun zb hzb => ?_⟩
      have tb : StepAt (upd (upd (upd Ja xb (.tup [.int (-9)])) yb (.tup [.str (sOf [97]), .ref xb])) zb (.tup [.ref yb, .int (9)])) zb [97] [-9] (9) := ⟨yb, upd_same, xb, same_new hzb _ _ upd_same, same_new hzb _ _ (same_new hyb _ _ upd_same)⟩
      have rb : Same Ja (upd (upd (upd Ja xb (.tup [.int (-9)])) yb (.tup [.str (sOf [97]), .ref xb])) zb (.tup [.ref yb, .int (9)])) := ((same_new hxb).trans (same_new hyb)).trans (same_new hzb)
      generalize (upd (upd (upd Ja xb (.tup [.int (-9)])) yb (.tup [.str (sOf [97]), .ref xb])) zb (.tup [.ref yb, .int (9)])) = Lb at tb rb ⊢
      have sgb : StepAt Lb pa [97] [-9] 9 := sga.same rb
      refine rNeD_same (dp_step sgb) (dp_step tb) shapedS.1 ⟨false, rfl, ?_⟩
      have B7 := ba.same rb
      -- great differences
      refine ⟨_, _, rfl, rfl, ⟨by decide, by decide +kernel⟩, ?_⟩
      dsimp only
      try rw [ten59]
      refine ⟨_, rfl, _, rfl, by show 1 ≤ sizeLine; decide, fun uc huc => ⟨by show 2 ≤ sizeLine; decide, fun vc hvc => ?_⟩⟩
      have fc : FrontAt (upd (upd Lb uc (.tup [.int (100000000000000000000000000000000000000000000000000000000000)])) vc (.tup [.str (sOf [120]), .ref uc])) vc [120] [100000000000000000000000000000000000000000000000000000000000] := ⟨uc, upd_same, same_new hvc _ _ upd_same⟩
      have sc : Same Lb (upd (upd Lb uc (.tup [.int (100000000000000000000000000000000000000000000000000000000000)])) vc (.tup [.str (sOf [120]), .ref uc])) := (same_new huc).trans (same_new hvc)
      generalize (upd (upd Lb uc (.tup [.int (100000000000000000000000000000000000000000000000000000000000)])) vc (.tup [.str (sOf [120]), .ref uc])) = Ic at fc sc ⊢
      refine ⟨b, vc, eightK, [120], [100000000000000000000000000000000000000000000000000000000000], 97, 2, rfl, fa8 (B7.same sc) fc o120 rfl (by decide +kernel), o97, rfl, fun pc mc Jc stc sac sc' => ?_⟩
      have sgc := step_given (w' := [97]) (d' := [-9]) (m := 9) eight_nd (by decide +kernel) (by decide +kernel) (by decide +kernel) stc sac
      have bc := (B7.same sc).same sc'
      refine ⟨_, rfl, _, rfl, _, _, rfl, rfl, ?_⟩
      dsimp only
      refine ⟨by show 1 ≤ sizeLine; decide, fun ud hud => ⟨by show 2 ≤ sizeLine; decide, fun vd hvd => ?_⟩⟩
      have fd : FrontAt (upd (upd Jc ud (.tup [.int (0 - 100000000000000000000000000000000000000000000000000000000000)])) vd (.tup [.str (sOf [120]), .ref ud])) vd [120] [0 - 100000000000000000000000000000000000000000000000000000000000] := ⟨ud, upd_same, same_new hvd _ _ upd_same⟩
      have sd : Same Jc (upd (upd Jc ud (.tup [.int (0 - 100000000000000000000000000000000000000000000000000000000000)])) vd (.tup [.str (sOf [120]), .ref ud])) := (same_new hud).trans (same_new hvd)
      generalize (upd (upd Jc ud (.tup [.int (0 - 100000000000000000000000000000000000000000000000000000000000)])) vd (.tup [.str (sOf [120]), .ref ud])) = Id at fd sd ⊢
      refine ⟨b, vd, eightK, [120], [0 - 100000000000000000000000000000000000000000000000000000000000], 97, 2, rfl, fa8 (bc.same sd) fd o120 rfl (by decide +kernel), o97, rfl, fun pd md Jd std sad sd' => ?_⟩
      have sgd := step_given (w' := [97]) (d' := [99999999999999999999999999999999999999999999999999999999999]) (m := -99999999999999999999999999999999999999999999999999999999999) eight_nd (by decide +kernel) (by decide +kernel) (by decide +kernel) std sad
      have bd := (bc.same sd).same sd'
      refine ⟨by show 2 ≤ sizeLine; decide, fun to hto => ?_⟩
      have a1 : (upd Jd to (.lst [.ref pc, .ref pd])) to = some (.lst [.ref pc, .ref pd]) := upd_same
      have a2 := same_new hto (o := .lst [.ref pc, .ref pd])
      have sgc2 := (sgc.same (sd.trans sd')).same a2
      have sgd2 := sgd.same a2
      have B8 := bd.same a2
      generalize (upd Jd to (.lst [.ref pc, .ref pd])) = M1 at a1 a2 sgc2 sgd2 B8 ⊢
      refine ⟨_, rfl, ?_⟩
      refine ⟨_, rfl, by show 1 ≤ sizeLine; decide, fun xe hxe => ⟨by show 2 ≤ sizeLine; decide, fun ye hye => ?_⟩⟩
      refine ⟨by show 2 ≤ sizeLine; decide, fun ze hze => ?_⟩
      have te : StepAt (upd (upd (upd M1 xe (.tup [.int (-9)])) ye (.tup [.str (sOf [97]), .ref xe])) ze (.tup [.ref ye, .int (9)])) ze [97] [-9] (9) := ⟨ye, upd_same, xe, same_new hze _ _ upd_same, same_new hze _ _ (same_new hye _ _ upd_same)⟩
      have re : Same M1 (upd (upd (upd M1 xe (.tup [.int (-9)])) ye (.tup [.str (sOf [97]), .ref xe])) ze (.tup [.ref ye, .int (9)])) := ((same_new hxe).trans (same_new hye)).trans (same_new hze)
      generalize (upd (upd (upd M1 xe (.tup [.int (-9)])) ye (.tup [.str (sOf [97]), .ref xe])) ze (.tup [.ref ye, .int (9)])) = Le at te re ⊢
      refine ⟨_, rfl, _, _, rfl, rfl, ?_⟩
      dsimp only
      refine ⟨by show 1 ≤ sizeLine; decide, fun xf hxf => ⟨by show 2 ≤ sizeLine; decide, fun yf hyf => ?_⟩⟩
      refine ⟨_, rfl, _, _, rfl, rfl, ?_⟩
      dsimp only
      refine ⟨by show 2 ≤ sizeLine; decide, fun zf hzf => ?_⟩
      have tf : StepAt (upd (upd (upd Le xf (.tup [.int (100000000000000000000000000000000000000000000000000000000000 - 1)])) yf (.tup [.str (sOf [97]), .ref xf])) zf (.tup [.ref yf, .int (1 - 100000000000000000000000000000000000000000000000000000000000)])) zf [97] [100000000000000000000000000000000000000000000000000000000000 - 1] (1 - 100000000000000000000000000000000000000000000000000000000000) := ⟨yf, upd_same, xf, same_new hzf _ _ upd_same, same_new hzf _ _ (same_new hyf _ _ upd_same)⟩
      have rf : Same Le (upd (upd (upd Le xf (.tup [.int (100000000000000000000000000000000000000000000000000000000000 - 1)])) yf (.tup [.str (sOf [97]), .ref xf])) zf (.tup [.ref yf, .int (1 - 100000000000000000000000000000000000000000000000000000000000)])) := ((same_new hxf).trans (same_new hyf)).trans (same_new hzf)
      generalize (upd (upd (upd Le xf (.tup [.int (100000000000000000000000000000000000000000000000000000000000 - 1)])) yf (.tup [.str (sOf [97]), .ref xf])) zf (.tup [.ref yf, .int (1 - 100000000000000000000000000000000000000000000000000000000000)])) = Lf at tf rf ⊢
      rw [show (100000000000000000000000000000000000000000000000000000000000 - 1 : Int) = 99999999999999999999999999999999999999999999999999999999999 by decide +kernel, show (1 - 100000000000000000000000000000000000000000000000000000000000 : Int) = -99999999999999999999999999999999999999999999999999999999999 by decide +kernel] at tf
      refine ⟨by show 2 ≤ sizeLine; decide, fun dl hdl => ?_⟩
      have a3 := same_new hdl (o := .lst [.ref ze, .ref zf])
      have a4 := (re.trans rf).trans a3
      refine rNeD_same (.lst (SqL.of (a4 _ _ a1)) (.cons (dp_step (sgc2.same a4)) (.cons (dp_step (sgd2.same a4)) .nil))) (.lst (SqL.of upd_same) (.cons (dp_step ((te.same rf).same a3)) (.cons (dp_step (tf.same a3)) .nil))) shapedS.2.2.2 ⟨false, rfl, ?_⟩
      have B9 := B8.same a4
      generalize (upd Lf dl (.lst [.ref ze, .ref zf])) = M2 at B9 ⊢
      -- the book of ab and bba
      refine fun pa2 hpa => ⟨upd_same, abbaK, rfl, by decide, ?_⟩
      have e10 : (upd (upd M2 pa2 (.dK [])) pa2 (.dK (mergeK [] abbaK))) pa2 = some (.dK abbaK) := upd_same
      have s10 : Same M2 (upd (upd M2 pa2 (.dK [])) pa2 (.dK (mergeK [] abbaK))) := same_mut (same_new hpa) hpa
      generalize (upd (upd M2 pa2 (.dK [])) pa2 (.dK (mergeK [] abbaK))) = M3 at e10 s10 ⊢
      intro b2 dx2 hb2 hdx2 hne2
      refine made_book hb2 hdx2 e10 abba_av abba_nd fun M4 s11 B11 => ⟨rfl, ?_⟩
      have B12 := (B9.same s10).same s11
      refine ⟨_, rfl, _, _, rfl, rfl, by decide, by decide, by decide, by decide +kernel, ?_⟩
      have zc : cs (sRep (sOf [97, 98]) (4000 : Int).toNat) = (List.replicate (3999 + 1) [97, 98]).flatten := by
        rw [cs_rep, cs_sOf]
        rfl
      have zl : (sRep (sOf [97, 98]) (4000 : Int).toNat).length ≤ 8000 := by
        rw [rep_len]
        decide +kernel
      have zm : ∀ c ∈ cs (sRep (sOf [97, 98]) (4000 : Int).toNat), c ∈ [97, 98] := fun c hc => by
        have := rep_mem hc
        rwa [cs_sOf] at this
      generalize sRep (sOf [97, 98]) (4000 : Int).toNat = z at zc zl zm ⊢
      have oab : Over (tfD abbaK) [97, 98] := over_ps abba_nd (by decide +kernel)
      refine ⟨b2, abbaK, z, rfl, B11, fun c hc => oab c (zm c hc), zl, isText_of (by rw [cs_len]; exact zl) (fun c hc => by
        have h := zm c hc
        simp only [List.mem_cons, List.not_mem_nil, or_false] at h
        rcases h with rfl | rfl <;> rfl), fun L t9 M5 wL f9 s12 => ?_⟩
      have eL := wL.uniq abba_wd
      subst eL
      rw [zc, (abba_front 3999).1, (abba_front 3999).2] at f9
      refine ⟨_, rfl, by show 2 ≤ sizeLine; decide, fun u9 hu9 => ⟨by show 2 ≤ sizeLine; decide, fun v9 hv9 => ?_⟩⟩
      have g9 : FrontAt (upd (upd M5 u9 (.tup [.int 0, .int (-1)])) v9 (.tup [.str (sOf [97, 98]), .ref u9])) v9 [97, 98] [0, -1] := ⟨u9, upd_same, same_new hv9 _ _ upd_same⟩
      have s13 : Same M5 (upd (upd M5 u9 (.tup [.int 0, .int (-1)])) v9 (.tup [.str (sOf [97, 98]), .ref u9])) := (same_new hu9).trans (same_new hv9)
      generalize (upd (upd M5 u9 (.tup [.int 0, .int (-1)])) v9 (.tup [.str (sOf [97, 98]), .ref u9])) = M6 at g9 s13 ⊢
      refine rNeD_same (dp_front (f9.same s13)) (dp_front g9) shapedS.2.2.1 ⟨false, rfl, ?_⟩
      have B13 := (B12.same s12).same s13
      refine ⟨_, rfl, _, rfl, by show 1 ≤ sizeLine; decide, fun ug hug => ⟨by show 2 ≤ sizeLine; decide, fun vg hvg => ?_⟩⟩
      have fg : FrontAt (upd (upd M6 ug (.tup [.int (-9)])) vg (.tup [.str (sOf [97]), .ref ug])) vg [97] [-9] := ⟨ug, upd_same, same_new hvg _ _ upd_same⟩
      have sg : Same M6 (upd (upd M6 ug (.tup [.int (-9)])) vg (.tup [.str (sOf [97]), .ref ug])) := (same_new hug).trans (same_new hvg)
      generalize (upd (upd M6 ug (.tup [.int (-9)])) vg (.tup [.str (sOf [97]), .ref ug])) = Ig at fg sg ⊢
      refine ⟨b, vg, eightK, [97], [-9], 97, 2, rfl, fa8 (B13.same sg) fg o97 rfl (by decide +kernel), o97, rfl, fun pg mg Jg stg sag sg' => ?_⟩
      have sgg := step_given (w' := [97]) (d' := [8]) (m := -8) eight_nd (by decide +kernel) (by decide +kernel) (by decide +kernel) stg sag
      have bg := (B13.same sg).same sg'
      refine ⟨by show 1 ≤ sizeLine; decide, fun xh hxh => ⟨by show 2 ≤ sizeLine; decide, fun yh hyh => ?_⟩⟩
      refine ⟨_, rfl, by show 2 ≤ sizeLine; decide, fun zh hzh => ?_⟩
      have th : StepAt (upd (upd (upd Jg xh (.tup [.int (8)])) yh (.tup [.str (sOf [97]), .ref xh])) zh (.tup [.ref yh, .int (-8)])) zh [97] [8] (-8) := ⟨yh, upd_same, xh, same_new hzh _ _ upd_same, same_new hzh _ _ (same_new hyh _ _ upd_same)⟩
      have rh : Same Jg (upd (upd (upd Jg xh (.tup [.int (8)])) yh (.tup [.str (sOf [97]), .ref xh])) zh (.tup [.ref yh, .int (-8)])) := ((same_new hxh).trans (same_new hyh)).trans (same_new hzh)
      generalize (upd (upd (upd Jg xh (.tup [.int (8)])) yh (.tup [.str (sOf [97]), .ref xh])) zh (.tup [.ref yh, .int (-8)])) = Lh at th rh ⊢
      exact rEqD_same (dp_step (sgg.same rh)) (dp_step th) shapedS.2.1 (k _)
end
theorem all_mk {l : PySem.W.OpenLaw} {w : World} {K : PySem.W.Frag} {h : Heap} {mg : Str → Option Value} {fa : Addr} {C : Addr} (X : K.In h) (G0 : h.Ns mainGlobals mg) (hfa : mg "law" = some (.ref fa))
    {f0 f1 f2 f3 f4 f5 f6 f7 f8 f9 f10 f11 f12 f13 f14 f15 f16 f17 f18 f19 f20 f21 f22 f23 f24 f25 f26 f27 f28 f29 f30 f31 f32 f33 f34 : Addr}
    {od0 an0 : Option Addr} {sl0 : Array (Option Value)} {oc0 kV0 dc0 pm0 cd0 ct0 : Value}
    {od1 an1 : Option Addr} {sl1 : Array (Option Value)} {oc1 kV1 dc1 pm1 cd1 ct1 : Value}
    {od2 an2 : Option Addr} {sl2 : Array (Option Value)} {oc2 kV2 dc2 pm2 cd2 ct2 : Value}
    {od3 an3 : Option Addr} {sl3 : Array (Option Value)} {oc3 kV3 dc3 pm3 cd3 ct3 : Value}
    {od4 an4 : Option Addr} {sl4 : Array (Option Value)} {oc4 kV4 dc4 pm4 cd4 ct4 : Value}
    {od5 an5 : Option Addr} {sl5 : Array (Option Value)} {oc5 kV5 dc5 pm5 cd5 ct5 : Value}
    {od6 an6 : Option Addr} {sl6 : Array (Option Value)} {oc6 kV6 dc6 pm6 cd6 ct6 : Value}
    {od7 an7 : Option Addr} {sl7 : Array (Option Value)} {oc7 kV7 dc7 pm7 cd7 ct7 : Value}
    {od8 an8 : Option Addr} {sl8 : Array (Option Value)} {oc8 kV8 dc8 pm8 cd8 ct8 : Value}
    {od9 an9 : Option Addr} {sl9 : Array (Option Value)} {oc9 kV9 dc9 pm9 cd9 ct9 : Value}
    {od10 an10 : Option Addr} {sl10 : Array (Option Value)} {oc10 kV10 dc10 pm10 cd10 ct10 : Value}
    {od11 an11 : Option Addr} {sl11 : Array (Option Value)} {oc11 kV11 dc11 pm11 cd11 ct11 : Value}
    {od12 an12 : Option Addr} {sl12 : Array (Option Value)} {oc12 kV12 dc12 pm12 cd12 ct12 : Value}
    {od13 an13 : Option Addr} {sl13 : Array (Option Value)} {oc13 kV13 dc13 pm13 cd13 ct13 : Value}
    {od14 an14 : Option Addr} {sl14 : Array (Option Value)} {oc14 kV14 dc14 pm14 cd14 ct14 : Value}
    {od15 an15 : Option Addr} {sl15 : Array (Option Value)} {oc15 kV15 dc15 pm15 cd15 ct15 : Value}
    {od16 an16 : Option Addr} {sl16 : Array (Option Value)} {oc16 kV16 dc16 pm16 cd16 ct16 : Value}
    {od17 an17 : Option Addr} {sl17 : Array (Option Value)} {oc17 kV17 dc17 pm17 cd17 ct17 : Value}
    {od18 an18 : Option Addr} {sl18 : Array (Option Value)} {oc18 kV18 dc18 pm18 cd18 ct18 : Value}
    {od19 an19 : Option Addr} {sl19 : Array (Option Value)} {oc19 kV19 dc19 pm19 cd19 ct19 : Value}
    {od20 an20 : Option Addr} {sl20 : Array (Option Value)} {oc20 kV20 dc20 pm20 cd20 ct20 : Value}
    {od21 an21 : Option Addr} {sl21 : Array (Option Value)} {oc21 kV21 dc21 pm21 cd21 ct21 : Value}
    {od22 an22 : Option Addr} {sl22 : Array (Option Value)} {oc22 kV22 dc22 pm22 cd22 ct22 : Value}
    {od23 an23 : Option Addr} {sl23 : Array (Option Value)} {oc23 kV23 dc23 pm23 cd23 ct23 : Value}
    {od24 an24 : Option Addr} {sl24 : Array (Option Value)} {oc24 kV24 dc24 pm24 cd24 ct24 : Value}
    {od25 an25 : Option Addr} {sl25 : Array (Option Value)} {oc25 kV25 dc25 pm25 cd25 ct25 : Value}
    {od26 an26 : Option Addr} {sl26 : Array (Option Value)} {oc26 kV26 dc26 pm26 cd26 ct26 : Value}
    {od27 an27 : Option Addr} {sl27 : Array (Option Value)} {oc27 kV27 dc27 pm27 cd27 ct27 : Value}
    {od28 an28 : Option Addr} {sl28 : Array (Option Value)} {oc28 kV28 dc28 pm28 cd28 ct28 : Value}
    {od29 an29 : Option Addr} {sl29 : Array (Option Value)} {oc29 kV29 dc29 pm29 cd29 ct29 : Value}
    {od30 an30 : Option Addr} {sl30 : Array (Option Value)} {oc30 kV30 dc30 pm30 cd30 ct30 : Value}
    {od31 an31 : Option Addr} {sl31 : Array (Option Value)} {oc31 kV31 dc31 pm31 cd31 ct31 : Value}
    {od32 an32 : Option Addr} {sl32 : Array (Option Value)} {oc32 kV32 dc32 pm32 cd32 ct32 : Value}
    {od33 an33 : Option Addr} {sl33 : Array (Option Value)} {oc33 kV33 dc33 pm33 cd33 ct33 : Value}
    {od34 an34 : Option Addr} {sl34 : Array (Option Value)} {oc34 kV34 dc34 pm34 cd34 ct34 : Value}
    (aC : PySem.W.nsIn K mainGlobals "Book" = some (some (.ref C))) (pg : PySem.W.plainGet K C Str.empty = true) (hd : PySem.W.hasDictIn K C = true) (po : PySem.W.plainOver K C = true) (sa : PySem.W.findIn K (.ref C) "__setattr__" = some (some (.builtin "object.__setattr__"))) (mk : PySem.W.makesIn K C = true) (kc : PySem.W.keepIn K (.ref C) = true)
    (iha : PySem.W.findIn K (.ref C) "__class__" = some (some (.builtin "object.__class__"))) (ihn : PySem.W.specialIn K (.builtin "object.__class__") "__get__" = some (some (.builtin "getset_descriptor.__get__"))) (iht : PySem.W.takesIn K (.builtin "object.__class__") = some true) (ihm : PySem.W.mroIn K C (.type "object") = some true)
    (n_own_prices : PySem.W.findIn K (.ref C) "own_prices" = some none)
    (n_own_pieces : PySem.W.findIn K (.ref C) "own_pieces" = some none)
    (n_own_alphabet : PySem.W.findIn K (.ref C) "own_alphabet" = some none)
    (n_own_longest : PySem.W.findIn K (.ref C) "own_longest" = some none)
    (n_own_dearest : PySem.W.findIn K (.ref C) "own_dearest" = some none)
    (a0 : PySem.W.nsIn K mainGlobals "is_integer" = some (some (.ref f0)))
    (l0 : K.lookup f0 = some ⟨oc0, od0, .func (PySem.W.fnOf "is_integer" "is_integer" (defArgs s_is_integer) (defBody s_is_integer) (defScope s_is_integer) .none kV0 dc0 pm0 an0 cd0 ct0), sl0⟩) (c0 : PySem.W.codeIn K cd0 "is_integer" = true) (k0 : PySem.W.keepIn K (.ref f0) = true)
    (a1 : PySem.W.nsIn K mainGlobals "is_word" = some (some (.ref f1)))
    (l1 : K.lookup f1 = some ⟨oc1, od1, .func (PySem.W.fnOf "is_word" "is_word" (defArgs s_is_word) (defBody s_is_word) (defScope s_is_word) .none kV1 dc1 pm1 an1 cd1 ct1), sl1⟩) (c1 : PySem.W.codeIn K cd1 "is_word" = true) (k1 : PySem.W.keepIn K (.ref f1) = true)
    (a2 : PySem.W.nsIn K mainGlobals "is_text" = some (some (.ref f2)))
    (l2 : K.lookup f2 = some ⟨oc2, od2, .func (PySem.W.fnOf "is_text" "is_text" (defArgs s_is_text) (defBody s_is_text) (defScope s_is_text) .none kV2 dc2 pm2 an2 cd2 ct2), sl2⟩) (c2 : PySem.W.codeIn K cd2 "is_text" = true) (k2 : PySem.W.keepIn K (.ref f2) = true)
    (a3 : PySem.W.nsIn K mainGlobals "is_piece" = some (some (.ref f3)))
    (l3 : K.lookup f3 = some ⟨oc3, od3, .func (PySem.W.fnOf "is_piece" "is_piece" (defArgs s_is_piece) (defBody s_is_piece) (defScope s_is_piece) .none kV3 dc3 pm3 an3 cd3 ct3), sl3⟩) (c3 : PySem.W.codeIn K cd3 "is_piece" = true) (k3 : PySem.W.keepIn K (.ref f3) = true)
    (a4 : PySem.W.nsIn K mainGlobals "is_integer_within" = some (some (.ref f4)))
    (l4 : K.lookup f4 = some ⟨oc4, od4, .func (PySem.W.fnOf "is_integer_within" "is_integer_within" (defArgs s_is_integer_within) (defBody s_is_integer_within) (defScope s_is_integer_within) .none kV4 dc4 pm4 an4 cd4 ct4), sl4⟩) (c4 : PySem.W.codeIn K cd4 "is_integer_within" = true) (k4 : PySem.W.keepIn K (.ref f4) = true)
    (a5 : PySem.W.nsIn K mainGlobals "is_price" = some (some (.ref f5)))
    (l5 : K.lookup f5 = some ⟨oc5, od5, .func (PySem.W.fnOf "is_price" "is_price" (defArgs s_is_price) (defBody s_is_price) (defScope s_is_price) .none kV5 dc5 pm5 an5 cd5 ct5), sl5⟩) (c5 : PySem.W.codeIn K cd5 "is_price" = true) (k5 : PySem.W.keepIn K (.ref f5) = true)
    (a6 : PySem.W.nsIn K mainGlobals "are_prices" = some (some (.ref f6)))
    (l6 : K.lookup f6 = some ⟨oc6, od6, .func (PySem.W.fnOf "are_prices" "are_prices" (defArgs s_are_prices) (defBody s_are_prices) (defScope s_are_prices) .none kV6 dc6 pm6 an6 cd6 ct6), sl6⟩) (c6 : PySem.W.codeIn K cd6 "are_prices" = true) (k6 : PySem.W.keepIn K (.ref f6) = true)
    (a7 : PySem.W.findIn K (.ref C) "__init__" = some (some (.ref f7))) (i7 : PySem.W.isFn K (.ref f7) = true)
    (l7 : K.lookup f7 = some ⟨oc7, od7, .func (PySem.W.fnOf "__init__" "Book.__init__" (defArgs s_Book___init__) (defBody s_Book___init__) (defScope s_Book___init__) .none kV7 dc7 pm7 an7 cd7 ct7), sl7⟩) (c7 : PySem.W.codeIn K cd7 "Book.__init__" = true) (k7 : PySem.W.keepIn K (.ref f7) = true)
    (a8 : PySem.W.nsIn K mainGlobals "prices_along" = some (some (.ref f8)))
    (l8 : K.lookup f8 = some ⟨oc8, od8, .func (PySem.W.fnOf "prices_along" "prices_along" (defArgs s_prices_along) (defBody s_prices_along) (defScope s_prices_along) .none kV8 dc8 pm8 an8 cd8 ct8), sl8⟩) (c8 : PySem.W.codeIn K cd8 "prices_along" = true) (k8 : PySem.W.keepIn K (.ref f8) = true)
    (a9 : PySem.W.nsIn K mainGlobals "require_book" = some (some (.ref f9)))
    (l9 : K.lookup f9 = some ⟨oc9, od9, .func (PySem.W.fnOf "require_book" "require_book" (defArgs s_require_book) (defBody s_require_book) (defScope s_require_book) .none kV9 dc9 pm9 an9 cd9 ct9), sl9⟩) (c9 : PySem.W.codeIn K cd9 "require_book" = true) (k9 : PySem.W.keepIn K (.ref f9) = true)
    (a10 : PySem.W.nsIn K mainGlobals "is_text_over" = some (some (.ref f10)))
    (l10 : K.lookup f10 = some ⟨oc10, od10, .func (PySem.W.fnOf "is_text_over" "is_text_over" (defArgs s_is_text_over) (defBody s_is_text_over) (defScope s_is_text_over) .none kV10 dc10 pm10 an10 cd10 ct10), sl10⟩) (c10 : PySem.W.codeIn K cd10 "is_text_over" = true) (k10 : PySem.W.keepIn K (.ref f10) = true)
    (a11 : PySem.W.nsIn K mainGlobals "require_text" = some (some (.ref f11)))
    (l11 : K.lookup f11 = some ⟨oc11, od11, .func (PySem.W.fnOf "require_text" "require_text" (defArgs s_require_text) (defBody s_require_text) (defScope s_require_text) .none kV11 dc11 pm11 an11 cd11 ct11), sl11⟩) (c11 : PySem.W.codeIn K cd11 "require_text" = true) (k11 : PySem.W.keepIn K (.ref f11) = true)
    (a12 : PySem.W.findIn K (.ref C) "accepts" = some (some (.ref f12))) (i12 : PySem.W.isFn K (.ref f12) = true)
    (l12 : K.lookup f12 = some ⟨oc12, od12, .func (PySem.W.fnOf "accepts" "Book.accepts" (defArgs s_Book_accepts) (defBody s_Book_accepts) (defScope s_Book_accepts) .none kV12 dc12 pm12 an12 cd12 ct12), sl12⟩) (c12 : PySem.W.codeIn K cd12 "Book.accepts" = true) (k12 : PySem.W.keepIn K (.ref f12) = true)
    {pr13 : Addr} {re13 : List Value} (a13 : PySem.W.findIn K (.ref C) "prices" = some (some (.ref pr13))) (pg13 : PySem.W.specialIn K (.ref pr13) "__get__" = some (some (.builtin "property.__get__"))) (pt13 : PySem.W.takesIn K (.ref pr13) = some true) (rc13 : PySem.W.recIn K pr13 "property" = some (.ref f13 :: re13))
    (l13 : K.lookup f13 = some ⟨oc13, od13, .func (PySem.W.fnOf "prices" "Book.prices" (defArgs s_Book_prices) (defBody s_Book_prices) (defScope s_Book_prices) .none kV13 dc13 pm13 an13 cd13 ct13), sl13⟩) (c13 : PySem.W.codeIn K cd13 "Book.prices" = true) (k13 : PySem.W.keepIn K (.ref f13) = true)
    (a14 : PySem.W.nsIn K mainGlobals "front_in" = some (some (.ref f14)))
    (l14 : K.lookup f14 = some ⟨oc14, od14, .func (PySem.W.fnOf "front_in" "front_in" (defArgs s_front_in) (defBody s_front_in) (defScope s_front_in) .none kV14 dc14 pm14 an14 cd14 ct14), sl14⟩) (c14 : PySem.W.codeIn K cd14 "front_in" = true) (k14 : PySem.W.keepIn K (.ref f14) = true)
    (a15 : PySem.W.nsIn K mainGlobals "step_in" = some (some (.ref f15)))
    (l15 : K.lookup f15 = some ⟨oc15, od15, .func (PySem.W.fnOf "step_in" "step_in" (defArgs s_step_in) (defBody s_step_in) (defScope s_step_in) .none kV15 dc15 pm15 an15 cd15 ct15), sl15⟩) (c15 : PySem.W.codeIn K cd15 "step_in" = true) (k15 : PySem.W.keepIn K (.ref f15) = true)
    (a16 : PySem.W.nsIn K mainGlobals "has_front_form" = some (some (.ref f16)))
    (l16 : K.lookup f16 = some ⟨oc16, od16, .func (PySem.W.fnOf "has_front_form" "has_front_form" (defArgs s_has_front_form) (defBody s_has_front_form) (defScope s_has_front_form) .none kV16 dc16 pm16 an16 cd16 ct16), sl16⟩) (c16 : PySem.W.codeIn K cd16 "has_front_form" = true) (k16 : PySem.W.keepIn K (.ref f16) = true)
    (a17 : PySem.W.nsIn K mainGlobals "require_front" = some (some (.ref f17)))
    (l17 : K.lookup f17 = some ⟨oc17, od17, .func (PySem.W.fnOf "require_front" "require_front" (defArgs s_require_front) (defBody s_require_front) (defScope s_require_front) .none kV17 dc17 pm17 an17 cd17 ct17), sl17⟩) (c17 : PySem.W.codeIn K cd17 "require_front" = true) (k17 : PySem.W.keepIn K (.ref f17) = true)
    (a18 : PySem.W.nsIn K mainGlobals "require_sign" = some (some (.ref f18)))
    (l18 : K.lookup f18 = some ⟨oc18, od18, .func (PySem.W.fnOf "require_sign" "require_sign" (defArgs s_require_sign) (defBody s_require_sign) (defScope s_require_sign) .none kV18 dc18 pm18 an18 cd18 ct18), sl18⟩) (c18 : PySem.W.codeIn K cd18 "require_sign" = true) (k18 : PySem.W.keepIn K (.ref f18) = true)
    (a19 : PySem.W.nsIn K mainGlobals "front_of" = some (some (.ref f19)))
    (l19 : K.lookup f19 = some ⟨oc19, od19, .func (PySem.W.fnOf "front_of" "front_of" (defArgs s_front_of) (defBody s_front_of) (defScope s_front_of) .none kV19 dc19 pm19 an19 cd19 ct19), sl19⟩) (c19 : PySem.W.codeIn K cd19 "front_of" = true) (k19 : PySem.W.keepIn K (.ref f19) = true)
    (a20 : PySem.W.nsIn K mainGlobals "next_front" = some (some (.ref f20)))
    (l20 : K.lookup f20 = some ⟨oc20, od20, .func (PySem.W.fnOf "next_front" "next_front" (defArgs s_next_front) (defBody s_next_front) (defScope s_next_front) .none kV20 dc20 pm20 an20 cd20 ct20), sl20⟩) (c20 : PySem.W.codeIn K cd20 "next_front" = true) (k20 : PySem.W.keepIn K (.ref f20) = true)
    (a21 : PySem.W.nsIn K mainGlobals "_law_reel" = some (some (.ref f21)))
    (l21 : K.lookup f21 = some ⟨oc21, od21, .func (PySem.W.fnOf "_law_reel" "_law_reel" (defArgs s__law_reel) (defBody s__law_reel) (defScope s__law_reel) .none kV21 dc21 pm21 an21 cd21 ct21), sl21⟩) (c21 : PySem.W.codeIn K cd21 "_law_reel" = true) (k21 : PySem.W.keepIn K (.ref f21) = true)
    (a22 : PySem.W.nsIn K mainGlobals "_law_spin" = some (some (.ref f22)))
    (l22 : K.lookup f22 = some ⟨oc22, od22, .func (PySem.W.fnOf "_law_spin" "_law_spin" (defArgs s__law_spin) (defBody s__law_spin) (defScope s__law_spin) .none kV22 dc22 pm22 an22 cd22 ct22), sl22⟩) (c22 : PySem.W.codeIn K cd22 "_law_spin" = true) (k22 : PySem.W.keepIn K (.ref f22) = true)
    (a23 : PySem.W.nsIn K mainGlobals "_law_pick" = some (some (.ref f23)))
    (l23 : K.lookup f23 = some ⟨oc23, od23, .func (PySem.W.fnOf "_law_pick" "_law_pick" (defArgs s__law_pick) (defBody s__law_pick) (defScope s__law_pick) .none kV23 dc23 pm23 an23 cd23 ct23), sl23⟩) (c23 : PySem.W.codeIn K cd23 "_law_pick" = true) (k23 : PySem.W.keepIn K (.ref f23) = true)
    (a24 : PySem.W.nsIn K mainGlobals "_law_shuffled" = some (some (.ref f24)))
    (l24 : K.lookup f24 = some ⟨oc24, od24, .func (PySem.W.fnOf "_law_shuffled" "_law_shuffled" (defArgs s__law_shuffled) (defBody s__law_shuffled) (defScope s__law_shuffled) .none kV24 dc24 pm24 an24 cd24 ct24), sl24⟩) (c24 : PySem.W.codeIn K cd24 "_law_shuffled" = true) (k24 : PySem.W.keepIn K (.ref f24) = true)
    (a25 : PySem.W.nsIn K mainGlobals "_law_letters" = some (some (.ref f25)))
    (l25 : K.lookup f25 = some ⟨oc25, od25, .func (PySem.W.fnOf "_law_letters" "_law_letters" (defArgs s__law_letters) (defBody s__law_letters) (defScope s__law_letters) .none kV25 dc25 pm25 an25 cd25 ct25), sl25⟩) (c25 : PySem.W.codeIn K cd25 "_law_letters" = true) (k25 : PySem.W.keepIn K (.ref f25) = true)
    (a26 : PySem.W.nsIn K mainGlobals "_law_word" = some (some (.ref f26)))
    (l26 : K.lookup f26 = some ⟨oc26, od26, .func (PySem.W.fnOf "_law_word" "_law_word" (defArgs s__law_word) (defBody s__law_word) (defScope s__law_word) .none kV26 dc26 pm26 an26 cd26 ct26), sl26⟩) (c26 : PySem.W.codeIn K cd26 "_law_word" = true) (k26 : PySem.W.keepIn K (.ref f26) = true)
    (a27 : PySem.W.nsIn K mainGlobals "_law_prices" = some (some (.ref f27)))
    (l27 : K.lookup f27 = some ⟨oc27, od27, .func (PySem.W.fnOf "_law_prices" "_law_prices" (defArgs s__law_prices) (defBody s__law_prices) (defScope s__law_prices) .none kV27 dc27 pm27 an27 cd27 ct27), sl27⟩) (c27 : PySem.W.codeIn K cd27 "_law_prices" = true) (k27 : PySem.W.keepIn K (.ref f27) = true)
    (a28 : PySem.W.nsIn K mainGlobals "_law_cheap" = some (some (.ref f28)))
    (l28 : K.lookup f28 = some ⟨oc28, od28, .func (PySem.W.fnOf "_law_cheap" "_law_cheap" (defArgs s__law_cheap) (defBody s__law_cheap) (defScope s__law_cheap) .none kV28 dc28 pm28 an28 cd28 ct28), sl28⟩) (c28 : PySem.W.codeIn K cd28 "_law_cheap" = true) (k28 : PySem.W.keepIn K (.ref f28) = true)
    (a29 : PySem.W.nsIn K mainGlobals "_law_wide" = some (some (.ref f29)))
    (l29 : K.lookup f29 = some ⟨oc29, od29, .func (PySem.W.fnOf "_law_wide" "_law_wide" (defArgs s__law_wide) (defBody s__law_wide) (defScope s__law_wide) .none kV29 dc29 pm29 an29 cd29 ct29), sl29⟩) (c29 : PySem.W.codeIn K cd29 "_law_wide" = true) (k29 : PySem.W.keepIn K (.ref f29) = true)
    (a30 : PySem.W.nsIn K mainGlobals "_law_front" = some (some (.ref f30)))
    (l30 : K.lookup f30 = some ⟨oc30, od30, .func (PySem.W.fnOf "_law_front" "_law_front" (defArgs s__law_front) (defBody s__law_front) (defScope s__law_front) .none kV30 dc30 pm30 an30 cd30 ct30), sl30⟩) (c30 : PySem.W.codeIn K cd30 "_law_front" = true) (k30 : PySem.W.keepIn K (.ref f30) = true)
    (a31 : PySem.W.nsIn K mainGlobals "_law_step" = some (some (.ref f31)))
    (l31 : K.lookup f31 = some ⟨oc31, od31, .func (PySem.W.fnOf "_law_step" "_law_step" (defArgs s__law_step) (defBody s__law_step) (defScope s__law_step) .none kV31 dc31 pm31 an31 cd31 ct31), sl31⟩) (c31 : PySem.W.codeIn K cd31 "_law_step" = true) (k31 : PySem.W.keepIn K (.ref f31) = true)
    (a32 : PySem.W.nsIn K mainGlobals "_law_large" = some (some (.ref f32)))
    (l32 : K.lookup f32 = some ⟨oc32, od32, .func (PySem.W.fnOf "_law_large" "_law_large" (defArgs s__law_large) (defBody s__law_large) (defScope s__law_large) .none kV32 dc32 pm32 an32 cd32 ct32), sl32⟩) (c32 : PySem.W.codeIn K cd32 "_law_large" = true) (k32 : PySem.W.keepIn K (.ref f32) = true)
    (a33 : PySem.W.nsIn K mainGlobals "_law_right" = some (some (.ref f33)))
    (l33 : K.lookup f33 = some ⟨oc33, od33, .func (PySem.W.fnOf "_law_right" "_law_right" (defArgs s__law_right) (defBody s__law_right) (defScope s__law_right) .none kV33 dc33 pm33 an33 cd33 ct33), sl33⟩) (c33 : PySem.W.codeIn K cd33 "_law_right" = true) (k33 : PySem.W.keepIn K (.ref f33) = true)
    (a34 : PySem.W.nsIn K mainGlobals "law" = some (some (.ref f34)))
    (l34 : K.lookup f34 = some ⟨oc34, od34, .func (PySem.W.fnOf "law" "law" (defArgs s_law) (defBody s_law) (defScope s_law) .none kV34 dc34 pm34 an34 cd34 ct34), sl34⟩) (c34 : PySem.W.codeIn K cd34 "law" = true) (k34 : PySem.W.keepIn K (.ref f34) = true)
    (z_abs : PySem.W.nsIn K mainGlobals "abs" = some none)
    (z_all : PySem.W.nsIn K mainGlobals "all" = some none)
    (z_bool : PySem.W.nsIn K mainGlobals "bool" = some none)
    (z_dict : PySem.W.nsIn K mainGlobals "dict" = some none)
    (z_int : PySem.W.nsIn K mainGlobals "int" = some none)
    (z_isinstance : PySem.W.nsIn K mainGlobals "isinstance" = some none)
    (z_len : PySem.W.nsIn K mainGlobals "len" = some none)
    (z_list : PySem.W.nsIn K mainGlobals "list" = some none)
    (z_max : PySem.W.nsIn K mainGlobals "max" = some none)
    (z_min : PySem.W.nsIn K mainGlobals "min" = some none)
    (z_range : PySem.W.nsIn K mainGlobals "range" = some none)
    (z_repr : PySem.W.nsIn K mainGlobals "repr" = some none)
    (z_sorted : PySem.W.nsIn K mainGlobals "sorted" = some none)
    (z_str : PySem.W.nsIn K mainGlobals "str" = some none)
    (z_tuple : PySem.W.nsIn K mainGlobals "tuple" = some none)
    {t_MAX_ALPHABET : Tok} (y_MAX_ALPHABET : PySem.W.nsIn K mainGlobals "MAX_ALPHABET" = some (some (.int 4 t_MAX_ALPHABET)))
    {t_MAX_PIECES : Tok} (y_MAX_PIECES : PySem.W.nsIn K mainGlobals "MAX_PIECES" = some (some (.int 12 t_MAX_PIECES)))
    {t_MAX_PRICE : Tok} (y_MAX_PRICE : PySem.W.nsIn K mainGlobals "MAX_PRICE" = some (some (.int 99 t_MAX_PRICE)))
    {t_PIECE_SIGNS : Tok} (y_PIECE_SIGNS : PySem.W.nsIn K mainGlobals "PIECE_SIGNS" = some (some (.int 5 t_PIECE_SIGNS)))
    {t_TEXT_SIGNS : Tok} (y_TEXT_SIGNS : PySem.W.nsIn K mainGlobals "TEXT_SIGNS" = some (some (.int 8000 t_TEXT_SIGNS)))
    : ∃ fd : FuncData, (∀ (s : Shared) (v : Value), BindsTo s fd ⟨[v], []⟩ [("script", v)]) ∧ ∀ base : Heap, K.In base → base.Ns mainGlobals mg → FnG l.prog w K mg base CX0 12 fa fd ["script"] (spLaw K) := by
  have e := hfa.symm.trans (PySem.W.mg_of X G0 a34)
  cases e
  have T : Txt K mg C := ⟨⟨pg, hd, po, sa⟩, ⟨⟨pg, hd, po, sa⟩, iha, ihn, iht, ihm, if_pos (beq_self_eq_true _)⟩, n_own_prices, n_own_pieces, n_own_alphabet, n_own_longest, n_own_dearest, PySem.W.mg_of X G0 aC, PySem.W.mg_none_of X G0 z_abs, PySem.W.mg_none_of X G0 z_all, PySem.W.mg_none_of X G0 z_bool, PySem.W.mg_none_of X G0 z_dict, PySem.W.mg_none_of X G0 z_int, PySem.W.mg_none_of X G0 z_isinstance, PySem.W.mg_none_of X G0 z_len, PySem.W.mg_none_of X G0 z_list, PySem.W.mg_none_of X G0 z_max, PySem.W.mg_none_of X G0 z_min, PySem.W.mg_none_of X G0 z_range, PySem.W.mg_none_of X G0 z_repr, PySem.W.mg_none_of X G0 z_sorted, PySem.W.mg_none_of X G0 z_str, PySem.W.mg_none_of X G0 z_tuple, ⟨_, PySem.W.mg_of X G0 y_MAX_ALPHABET⟩, ⟨_, PySem.W.mg_of X G0 y_MAX_PIECES⟩, ⟨_, PySem.W.mg_of X G0 y_MAX_PRICE⟩, ⟨_, PySem.W.mg_of X G0 y_PIECE_SIGNS⟩, ⟨_, PySem.W.mg_of X G0 y_TEXT_SIGNS⟩⟩
  have F0 := fun_mk (st := s_is_integer) l0 c0 k0
  have b0 := F0.binds (ps := ["value"]) fun _ _ _ _ _ _ us hl => match us, hl with | [_], _ => rfl
  have F1 := fun_mk (st := s_is_word) l1 c1 k1
  have b1 := F1.binds (ps := ["value"]) fun _ _ _ _ _ _ us hl => match us, hl with | [_], _ => rfl
  have F2 := fun_mk (st := s_is_text) l2 c2 k2
  have b2 := F2.binds (ps := ["value"]) fun _ _ _ _ _ _ us hl => match us, hl with | [_], _ => rfl
  have F3 := fun_mk (st := s_is_piece) l3 c3 k3
  have b3 := F3.binds (ps := ["value"]) fun _ _ _ _ _ _ us hl => match us, hl with | [_], _ => rfl
  have F4 := fun_mk (st := s_is_integer_within) l4 c4 k4
  have b4 := F4.binds (ps := ["value", "least", "most"]) fun _ _ _ _ _ _ us hl => match us, hl with | [_, _, _], _ => rfl
  have F5 := fun_mk (st := s_is_price) l5 c5 k5
  have b5 := F5.binds (ps := ["value"]) fun _ _ _ _ _ _ us hl => match us, hl with | [_], _ => rfl
  have F6 := fun_mk (st := s_are_prices) l6 c6 k6
  have b6 := F6.binds (ps := ["value"]) fun _ _ _ _ _ _ us hl => match us, hl with | [_], _ => rfl
  have F7 := fun_mk (st := s_Book___init__) l7 c7 k7
  have b7 := F7.binds (ps := ["self", "prices"]) fun _ _ _ _ _ _ us hl => match us, hl with | [_, _], _ => rfl
  have F8 := fun_mk (st := s_prices_along) l8 c8 k8
  have b8 := F8.binds (ps := ["book", "text"]) fun _ _ _ _ _ _ us hl => match us, hl with | [_, _], _ => rfl
  have F9 := fun_mk (st := s_require_book) l9 c9 k9
  have b9 := F9.binds (ps := ["value"]) fun _ _ _ _ _ _ us hl => match us, hl with | [_], _ => rfl
  have F10 := fun_mk (st := s_is_text_over) l10 c10 k10
  have b10 := F10.binds (ps := ["book", "value"]) fun _ _ _ _ _ _ us hl => match us, hl with | [_, _], _ => rfl
  have F11 := fun_mk (st := s_require_text) l11 c11 k11
  have b11 := F11.binds (ps := ["book", "value"]) fun _ _ _ _ _ _ us hl => match us, hl with | [_, _], _ => rfl
  have F12 := fun_mk (st := s_Book_accepts) l12 c12 k12
  have b12 := F12.binds (ps := ["self", "value"]) fun _ _ _ _ _ _ us hl => match us, hl with | [_, _], _ => rfl
  have F13 := fun_mk (st := s_Book_prices) l13 c13 k13
  have b13 := F13.binds (ps := ["self"]) fun _ _ _ _ _ _ us hl => match us, hl with | [_], _ => rfl
  have F14 := fun_mk (st := s_front_in) l14 c14 k14
  have b14 := F14.binds (ps := ["book", "text"]) fun _ _ _ _ _ _ us hl => match us, hl with | [_, _], _ => rfl
  have F15 := fun_mk (st := s_step_in) l15 c15 k15
  have b15 := F15.binds (ps := ["book", "front", "sign"]) fun _ _ _ _ _ _ us hl => match us, hl with | [_, _, _], _ => rfl
  have F16 := fun_mk (st := s_has_front_form) l16 c16 k16
  have b16 := F16.binds (ps := ["book", "value"]) fun _ _ _ _ _ _ us hl => match us, hl with | [_, _], _ => rfl
  have F17 := fun_mk (st := s_require_front) l17 c17 k17
  have b17 := F17.binds (ps := ["book", "value"]) fun _ _ _ _ _ _ us hl => match us, hl with | [_, _], _ => rfl
  have F18 := fun_mk (st := s_require_sign) l18 c18 k18
  have b18 := F18.binds (ps := ["book", "value"]) fun _ _ _ _ _ _ us hl => match us, hl with | [_, _], _ => rfl
  have F19 := fun_mk (st := s_front_of) l19 c19 k19
  have b19 := F19.binds (ps := ["book", "text"]) fun _ _ _ _ _ _ us hl => match us, hl with | [_, _], _ => rfl
  have F20 := fun_mk (st := s_next_front) l20 c20 k20
  have b20 := F20.binds (ps := ["book", "front", "sign"]) fun _ _ _ _ _ _ us hl => match us, hl with | [_, _, _], _ => rfl
  have F21 := fun_mk (st := s__law_reel) l21 c21 k21
  have b21 := F21.binds (ps := ["script", "spot"]) fun _ _ _ _ _ _ us hl => match us, hl with | [_, _], _ => rfl
  have F22 := fun_mk (st := s__law_spin) l22 c22 k22
  have b22 := F22.binds (ps := ["reel", "many"]) fun _ _ _ _ _ _ us hl => match us, hl with | [_, _], _ => rfl
  have F23 := fun_mk (st := s__law_pick) l23 c23 k23
  have b23 := F23.binds (ps := ["reel", "items"]) fun _ _ _ _ _ _ us hl => match us, hl with | [_, _], _ => rfl
  have F24 := fun_mk (st := s__law_shuffled) l24 c24 k24
  have b24 := F24.binds (ps := ["reel", "items"]) fun _ _ _ _ _ _ us hl => match us, hl with | [_, _], _ => rfl
  have F25 := fun_mk (st := s__law_letters) l25 c25 k25
  have b25 := F25.binds (ps := ["reel", "many"]) fun _ _ _ _ _ _ us hl => match us, hl with | [_, _], _ => rfl
  have F26 := fun_mk (st := s__law_word) l26 c26 k26
  have b26 := F26.binds (ps := ["reel", "signs", "many"]) fun _ _ _ _ _ _ us hl => match us, hl with | [_, _, _], _ => rfl
  have F27 := fun_mk (st := s__law_prices) l27 c27 k27
  have b27 := F27.binds (ps := ["reel", "signs", "most", "size", "menu"]) fun _ _ _ _ _ _ us hl => match us, hl with | [_, _, _, _, _], _ => rfl
  have F28 := fun_mk (st := s__law_cheap) l28 c28 k28
  have b28 := F28.binds (ps := ["prices", "text"]) fun _ _ _ _ _ _ us hl => match us, hl with | [_, _], _ => rfl
  have F29 := fun_mk (st := s__law_wide) l29 c29 k29
  have b29 := F29.binds (ps := ["prices"]) fun _ _ _ _ _ _ us hl => match us, hl with | [_], _ => rfl
  have F30 := fun_mk (st := s__law_front) l30 c30 k30
  have b30 := F30.binds (ps := ["prices", "text"]) fun _ _ _ _ _ _ us hl => match us, hl with | [_, _], _ => rfl
  have F31 := fun_mk (st := s__law_step) l31 c31 k31
  have b31 := F31.binds (ps := ["prices", "front", "sign"]) fun _ _ _ _ _ _ us hl => match us, hl with | [_, _, _], _ => rfl
  have F32 := fun_mk (st := s__law_large) l32 c32 k32
  have b32 := F32.binds (ps := ["reel"]) fun _ _ _ _ _ _ us hl => match us, hl with | [_], _ => rfl
  have F33 := fun_mk (st := s__law_right) l33 c33 k33
  have b33 := F33.binds (ps := ["reel"]) fun _ _ _ _ _ _ us hl => match us, hl with | [_], _ => rfl
  have F34 := fun_mk (st := s_law) l34 c34 k34
  refine ⟨PySem.W.fnOf "law" "law" (defArgs s_law) (defBody s_law) (defScope s_law) .none kV34 dc34 pm34 an34 cd34 ct34, fun s v => .of_eq rfl, fun base _ _ => ?_⟩
  have h_is_integer : HasO l.prog w K mg base CX0 1 "is_integer" ["value"] (spIsI K isInteger) := .mk' F0 (PySem.W.mg_of X G0 a0) b0 (ok_is_integer F0 T)
  have h_is_word : HasO l.prog w K mg base CX0 1 "is_word" ["value"] (spIs K isWord) := .mk' F1 (PySem.W.mg_of X G0 a1) b1 (ok_is_word F1 T)
  have h_is_text : HasO l.prog w K mg base CX0 2 "is_text" ["value"] (spIs K isText) := .mk' F2 (PySem.W.mg_of X G0 a2) b2 (ok_is_text F2 T h_is_word)
  have h_is_piece : HasO l.prog w K mg base CX0 2 "is_piece" ["value"] (spIs K isPiece) := .mk' F3 (PySem.W.mg_of X G0 a3) b3 (ok_is_piece F3 T h_is_word)
  have h_is_integer_within : HasO l.prog w K mg base CX0 2 "is_integer_within" ["value", "least", "most"] (spWithin K) := .mk' F4 (PySem.W.mg_of X G0 a4) b4 (ok_is_integer_within F4 T h_is_integer)
  have h_is_price : HasO l.prog w K mg base CX0 3 "is_price" ["value"] (spIsI K isPrice) := .mk' F5 (PySem.W.mg_of X G0 a5) b5 (ok_is_price F5 T h_is_integer_within)
  have h_are_prices : HasO l.prog w K mg base CX0 4 "are_prices" ["value"] (spArePrices K) := .mk' F6 (PySem.W.mg_of X G0 a6) b6 (ok_are_prices F6 T h_is_piece h_is_price)
  have h_Book : C8.Mak l.prog w K mg base 5 "Book" C (spBook C K) [] := ⟨_, _, ["self", "prices"], [], ⟨mk, a7, i7, kc⟩, ok_Book___init__ F7 T h_are_prices, PySem.W.mg_of X G0 aC, b7, .nil⟩
  have h_prices_along : HasO l.prog w K mg base CX0 2 "prices_along" ["book", "text"] (spAlong C) := .mk' F8 (PySem.W.mg_of X G0 a8) b8 (ok_prices_along F8 T)
  have h_require_book : HasO l.prog w K mg base CX0 1 "require_book" ["value"] (spReqBook C) := .mk' F9 (PySem.W.mg_of X G0 a9) b9 (ok_require_book F9 T)
  have h_is_text_over : HasO l.prog w K mg base CX0 3 "is_text_over" ["book", "value"] (spTextOver C) := .mk' F10 (PySem.W.mg_of X G0 a10) b10 (ok_is_text_over F10 T h_is_text)
  have h_require_text : HasO l.prog w K mg base CX0 4 "require_text" ["book", "value"] (spReqText C) := .mk' F11 (PySem.W.mg_of X G0 a11) b11 (ok_require_text F11 T h_is_text_over)
  have h_Book_accepts : C8.Met l.prog w K mg base 4 C "accepts" (spTextOver C) [] := ⟨_, _, ["self", "value"], [], ⟨pg, hd, po, sa⟩, ⟨a12, i12, k12⟩, ok_Book_accepts F12 T h_is_text_over, b12, .nil⟩
  have h_Book_prices : HasP l.prog w K mg base 1 C "prices" (spPrices C) := ⟨pr13, _, _, ⟨pg, hd, po, sa⟩, ⟨a13, pg13, pt13, ⟨_, rc13⟩⟩, ok_Book_prices F13 T, b13⟩
  have h_front_in : HasO l.prog w K mg base CX0 3 "front_in" ["book", "text"] (spFrontIn C) := .mk' F14 (PySem.W.mg_of X G0 a14) b14 (ok_front_in F14 T h_prices_along)
  have h_step_in : HasO l.prog w K mg base CX0 2 "step_in" ["book", "front", "sign"] (spStepIn C) := .mk' F15 (PySem.W.mg_of X G0 a15) b15 (ok_step_in F15 T)
  have h_has_front_form : HasO l.prog w K mg base CX0 5 "has_front_form" ["book", "value"] (spForm C) := .mk' F16 (PySem.W.mg_of X G0 a16) b16 (ok_has_front_form F16 T h_Book_accepts h_is_integer)
  have h_require_front : HasO l.prog w K mg base CX0 6 "require_front" ["book", "value"] (spReqFront C) := .mk' F17 (PySem.W.mg_of X G0 a17) b17 (ok_require_front F17 T h_has_front_form)
  have h_require_sign : HasO l.prog w K mg base CX0 1 "require_sign" ["book", "value"] (spReqSign C) := .mk' F18 (PySem.W.mg_of X G0 a18) b18 (ok_require_sign F18 T)
  have h_front_of : HasO l.prog w K mg base CX0 5 "front_of" ["book", "text"] (spFrontIn C) := .mk' F19 (PySem.W.mg_of X G0 a19) b19 (ok_front_of F19 T h_require_book h_require_text h_front_in)
  have h_next_front : HasO l.prog w K mg base CX0 7 "next_front" ["book", "front", "sign"] (spNext C) := .mk' F20 (PySem.W.mg_of X G0 a20) b20 (ok_next_front F20 T h_require_book h_require_front h_require_sign h_step_in)
  have h__law_reel : Has l.prog w K mg base CX0 1 "_law_reel" ["script", "spot"] (spDice K) := .mk' F21 (PySem.W.mg_of X G0 a21) b21 (ok__law_reel F21 T)
  have h__law_spin : Has l.prog w K mg base CX0 1 "_law_spin" ["reel", "many"] (spRoll) := .mk' F22 (PySem.W.mg_of X G0 a22) b22 (ok__law_spin F22 T)
  have h__law_pick : Has l.prog w K mg base CX0 2 "_law_pick" ["reel", "items"] (spPick K) := .mk' F23 (PySem.W.mg_of X G0 a23) b23 (ok__law_pick F23 T h__law_spin)
  have h__law_shuffled : Has l.prog w K mg base CX0 2 "_law_shuffled" ["reel", "items"] (spShuf K) := .mk' F24 (PySem.W.mg_of X G0 a24) b24 (ok__law_shuffled F24 T h__law_spin)
  have h__law_letters : Has l.prog w K mg base CX0 3 "_law_letters" ["reel", "many"] (spLett K) := .mk' F25 (PySem.W.mg_of X G0 a25) b25 (ok__law_letters F25 T h__law_shuffled)
  have h__law_word : Has l.prog w K mg base CX0 3 "_law_word" ["reel", "signs", "many"] (spLetters K) := .mk' F26 (PySem.W.mg_of X G0 a26) b26 (ok__law_word F26 T h__law_pick)
  have h__law_prices : Has l.prog w K mg base CX0 4 "_law_prices" ["reel", "signs", "most", "size", "menu"] (spPrices20 K) := .mk' F27 (PySem.W.mg_of X G0 a27) b27 (ok__law_prices F27 T h__law_spin h__law_pick h__law_word)
  have h__law_cheap : Has l.prog w K mg base CX0 2 "_law_cheap" ["prices", "text"] (spCheap) := .mk' F28 (PySem.W.mg_of X G0 a28) b28 (ok__law_cheap F28 T)
  have h__law_wide : Has l.prog w K mg base CX0 1 "_law_wide" ["prices"] (spWide) := .mk' F29 (PySem.W.mg_of X G0 a29) b29 (ok__law_wide F29 T)
  have h__law_front : Has l.prog w K mg base CX0 3 "_law_front" ["prices", "text"] (spLawFront) := .mk' F30 (PySem.W.mg_of X G0 a30) b30 (ok__law_front F30 T h__law_cheap h__law_wide)
  have h__law_step : Has l.prog w K mg base CX0 3 "_law_step" ["prices", "front", "sign"] (spLawStep) := .mk' F31 (PySem.W.mg_of X G0 a31) b31 (ok__law_step F31 T h__law_wide)
  have h__law_large : Has l.prog w K mg base CX0 3 "_law_large" ["reel"] (spLarge) := .mk' F32 (PySem.W.mg_of X G0 a32) b32 (ok__law_large F32 T h__law_pick h__law_spin)
  have h__law_right : Has l.prog w K mg base CX0 10 "_law_right" ["reel"] (spRight 1000) := .mk' F33 (PySem.W.mg_of X G0 a33) b33 (ok__law_right F33 T h_Book h_Book_prices h__law_pick h__law_prices h__law_letters h__law_word h_front_of h__law_cheap h__law_spin h__law_front h__law_wide h_next_front h__law_large h__law_step)
  exact ok_law F34 T h_Book h_front_of h_next_front h__law_right h__law_reel
end K20
open PySem PySem.W PyProof.Rows
set_option maxRecDepth 100000 in
set_option maxHeartbeats 0 in
theorem PySem.Challenge.cw_cutbehind_k20_fronts_of_texts_holds : PySem.Challenge.rw_cutbehind_k20_fronts_of_texts.Holds := by
  w_on; o_law; k_head; (case hw => w_witness2)
  k_fill
  refine G.walk_g (l := PySem.Challenge.rw_cutbehind_k20_fronts_of_texts) (n := 63) (k := 12) (x := "script") (sp := fun K => G.spLaw K) rfl (by decide) rfl ⟨rfl, by decide, by decide⟩ (fun w h Y => PySem.W.kIn_of Y) ?F (fun K H a ns hl _ hS => ⟨a, ns, rfl, hS, hl, fun _ => rfl⟩)
  case F =>
    intro w mg fa h KX G0 hmg
    refine' K20.all_mk (l := PySem.Challenge.rw_cutbehind_k20_fronts_of_texts) KX G0 hmg ?aC ?pg ?hd ?po ?sa ?mk ?kc ?iha ?ihn ?iht ?ihm ?n_own_prices ?n_own_pieces ?n_own_alphabet ?n_own_longest ?n_own_dearest ?a0 ?l0 ?c0 ?k0 ?a1 ?l1 ?c1 ?k1 ?a2 ?l2 ?c2 ?k2 ?a3 ?l3 ?c3 ?k3 ?a4 ?l4 ?c4 ?k4 ?a5 ?l5 ?c5 ?k5 ?a6 ?l6 ?c6 ?k6 ?a7 ?i7 ?l7 ?c7 ?k7 ?a8 ?l8 ?c8 ?k8 ?a9 ?l9 ?c9 ?k9 ?a10 ?l10 ?c10 ?k10 ?a11 ?l11 ?c11 ?k11 ?a12 ?i12 ?l12 ?c12 ?k12 ?a13 ?pg13 ?pt13 ?rc13 ?l13 ?c13 ?k13 ?a14 ?l14 ?c14 ?k14 ?a15 ?l15 ?c15 ?k15 ?a16 ?l16 ?c16 ?k16 ?a17 ?l17 ?c17 ?k17 ?a18 ?l18 ?c18 ?k18 ?a19 ?l19 ?c19 ?k19 ?a20 ?l20 ?c20 ?k20 ?a21 ?l21 ?c21 ?k21 ?a22 ?l22 ?c22 ?k22 ?a23 ?l23 ?c23 ?k23 ?a24 ?l24 ?c24 ?k24 ?a25 ?l25 ?c25 ?k25 ?a26 ?l26 ?c26 ?k26 ?a27 ?l27 ?c27 ?k27 ?a28 ?l28 ?c28 ?k28 ?a29 ?l29 ?c29 ?k29 ?a30 ?l30 ?c30 ?k30 ?a31 ?l31 ?c31 ?k31 ?a32 ?l32 ?c32 ?k32 ?a33 ?l33 ?c33 ?k33 ?a34 ?l34 ?c34 ?k34 ?z_abs ?z_all ?z_bool ?z_dict ?z_int ?z_isinstance ?z_len ?z_list ?z_max ?z_min ?z_range ?z_repr ?z_sorted ?z_str ?z_tuple ?y_MAX_ALPHABET ?y_MAX_PIECES ?y_MAX_PRICE ?y_PIECE_SIGNS ?y_TEXT_SIGNS
    (case aC => k_is)
    (case pg => k_is)
    (case hd => k_is)
    (case po => k_is)
    (case sa => k_is)
    (case mk => k_is)
    (case kc => k_is)
    (case iha => k_is)
    (case ihn => k_is)
    (case iht => k_is)
    (case ihm => k_is)
    (case n_own_prices => k_is)
    (case n_own_pieces => k_is)
    (case n_own_alphabet => k_is)
    (case n_own_longest => k_is)
    (case n_own_dearest => k_is)
    (case a0 => k_is)
    (case l0 => k_is)
    (case c0 => k_is)
    (case k0 => k_is)
    (case a1 => k_is)
    (case l1 => k_is)
    (case c1 => k_is)
    (case k1 => k_is)
    (case a2 => k_is)
    (case l2 => k_is)
    (case c2 => k_is)
    (case k2 => k_is)
    (case a3 => k_is)
    (case l3 => k_is)
    (case c3 => k_is)
    (case k3 => k_is)
    (case a4 => k_is)
    (case l4 => k_is)
    (case c4 => k_is)
    (case k4 => k_is)
    (case a5 => k_is)
    (case l5 => k_is)
    (case c5 => k_is)
    (case k5 => k_is)
    (case a6 => k_is)
    (case l6 => k_is)
    (case c6 => k_is)
    (case k6 => k_is)
    (case a7 => k_is)
    (case i7 => k_is)
    (case l7 => k_is)
    (case c7 => k_is)
    (case k7 => k_is)
    (case a8 => k_is)
    (case l8 => k_is)
    (case c8 => k_is)
    (case k8 => k_is)
    (case a9 => k_is)
    (case l9 => k_is)
    (case c9 => k_is)
    (case k9 => k_is)
    (case a10 => k_is)
    (case l10 => k_is)
    (case c10 => k_is)
    (case k10 => k_is)
    (case a11 => k_is)
    (case l11 => k_is)
    (case c11 => k_is)
    (case k11 => k_is)
    (case a12 => k_is)
    (case i12 => k_is)
    (case l12 => k_is)
    (case c12 => k_is)
    (case k12 => k_is)
    (case a13 => k_is)
    (case pg13 => k_is)
    (case pt13 => k_is)
    (case rc13 => k_is)
    (case l13 => k_is)
    (case c13 => k_is)
    (case k13 => k_is)
    (case a14 => k_is)
    (case l14 => k_is)
    (case c14 => k_is)
    (case k14 => k_is)
    (case a15 => k_is)
    (case l15 => k_is)
    (case c15 => k_is)
    (case k15 => k_is)
    (case a16 => k_is)
    (case l16 => k_is)
    (case c16 => k_is)
    (case k16 => k_is)
    (case a17 => k_is)
    (case l17 => k_is)
    (case c17 => k_is)
    (case k17 => k_is)
    (case a18 => k_is)
    (case l18 => k_is)
    (case c18 => k_is)
    (case k18 => k_is)
    (case a19 => k_is)
    (case l19 => k_is)
    (case c19 => k_is)
    (case k19 => k_is)
    (case a20 => k_is)
    (case l20 => k_is)
    (case c20 => k_is)
    (case k20 => k_is)
    (case a21 => k_is)
    (case l21 => k_is)
    (case c21 => k_is)
    (case k21 => k_is)
    (case a22 => k_is)
    (case l22 => k_is)
    (case c22 => k_is)
    (case k22 => k_is)
    (case a23 => k_is)
    (case l23 => k_is)
    (case c23 => k_is)
    (case k23 => k_is)
    (case a24 => k_is)
    (case l24 => k_is)
    (case c24 => k_is)
    (case k24 => k_is)
    (case a25 => k_is)
    (case l25 => k_is)
    (case c25 => k_is)
    (case k25 => k_is)
    (case a26 => k_is)
    (case l26 => k_is)
    (case c26 => k_is)
    (case k26 => k_is)
    (case a27 => k_is)
    (case l27 => k_is)
    (case c27 => k_is)
    (case k27 => k_is)
    (case a28 => k_is)
    (case l28 => k_is)
    (case c28 => k_is)
    (case k28 => k_is)
    (case a29 => k_is)
    (case l29 => k_is)
    (case c29 => k_is)
    (case k29 => k_is)
    (case a30 => k_is)
    (case l30 => k_is)
    (case c30 => k_is)
    (case k30 => k_is)
    (case a31 => k_is)
    (case l31 => k_is)
    (case c31 => k_is)
    (case k31 => k_is)
    (case a32 => k_is)
    (case l32 => k_is)
    (case c32 => k_is)
    (case k32 => k_is)
    (case a33 => k_is)
    (case l33 => k_is)
    (case c33 => k_is)
    (case k33 => k_is)
    (case a34 => k_is)
    (case l34 => k_is)
    (case c34 => k_is)
    (case k34 => k_is)
    (case z_abs => k_is)
    (case z_all => k_is)
    (case z_bool => k_is)
    (case z_dict => k_is)
    (case z_int => k_is)
    (case z_isinstance => k_is)
    (case z_len => k_is)
    (case z_list => k_is)
    (case z_max => k_is)
    (case z_min => k_is)
    (case z_range => k_is)
    (case z_repr => k_is)
    (case z_sorted => k_is)
    (case z_str => k_is)
    (case z_tuple => k_is)
    (case y_MAX_ALPHABET => k_is)
    (case y_MAX_PIECES => k_is)
    (case y_MAX_PRICE => k_is)
    (case y_PIECE_SIGNS => k_is)
    (case y_TEXT_SIGNS => k_is)
#print axioms PySem.Challenge.cw_cutbehind_k20_fronts_of_texts_holds
