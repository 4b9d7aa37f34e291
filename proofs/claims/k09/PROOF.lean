import PyProof.Rows.All
import Wide.All
import OpenK.AllK
import Wide.FinOn
import PyProof.EqAt
import PyProof.EqKinds
import PyProof.TupleCall
import HandS.ForMost
import HandS.Wide
import HandS.IsInst
import HandS.Walk
import HandS.Style
import HandS.More
import HandS.TupAny
import HandS.TupMul
import HandS.DictComp
import HandS.ListItems
import HandS.Property
import KE.KDictCopyH
import HandS.Codes
import HandS.DictTup
import KE.KSortTup
import PyProof.Rows.SortKeyStr
import HandS.OwnEq
import HandS.Deep
import KE.KOpsOwn
import KE.KDictWalk
import KE.KDictExact
import HandS.Small
import PySem.Challenge.RW_cutbehind_k09_whole_least_books
set_option Elab.async false
set_option linter.all false
set_option maxRecDepth 100000
set_option maxHeartbeats 4000000
/-! The part that every claim shares: defs that are run where no repr is under way (FnG), and rules for what the hand layer lacks. -/
namespace G
open PySem PySem.Spec PyProof.Rows L2
/-! ### a def's promise where no guarded builtin is running -/
structure FnG (P : Program) (w : World) (K : PySem.W.Frag) (mg : Str → Option Value) (base : Heap) (CX : CXT) (k : Nat) (f : Addr) (fd : FuncData) (ps : List Str) (sp : Sp) : Prop where
  cnt : ∀ {vs H Q E}, sp vs H Q E → vs.length = ps.length
  go : ∀ {A : Around} {outer : List Env} {s : Shared} {H : Hp} {args : Args} {us : List Value} {vs : List V} {Q : VK} {E : XK}, A.guards = some [] → Room k A → Env0 P w K mg base A outer s H →
    BindsTo s fd args (ps.zip us) → Vals vs us → sp vs H Q E → codeAny (model P w) A (.call (.ref f) args) (CR CX outer P w H s Q E) s
section
variable {P : Program} {w : World} {K : PySem.W.Frag} {mg : Str → Option Value} {base : Heap} {CX : CXT} {k : Nat} {f : Addr} {fd : FuncData} {ps : List Str} {sp : Sp}
theorem FnG.of (F : FnOk P w K mg base CX k f fd ps sp) : FnG P w K mg base CX k f fd ps sp :=
  ⟨fun h => F.len _ _ _ _ h, fun {A outer s H args us vs Q E} _ hr e0 hb hv hs => F.run A outer s H args us vs Q E hr e0 hb hv hs⟩
theorem FnG.mono {j : Nat} (F : FnG P w K mg base CX j f fd ps sp) (h : j ≤ k) : FnG P w K mg base CX k f fd ps sp :=
  ⟨F.cnt, fun hg hr => F.go hg (hr.mono h)⟩
end
/-- the rule for a def of the text, by its body; the body's reader is told that nothing guarded runs -/
theorem fn_g {CX : CXT} {P : Program} {w : World} {K : PySem.W.Frag} {mg : Str → Option Value} {base : Heap} {k : Nat} {f : Addr} {x qual : Str} {st : Stmt} {fd : FuncData} {N ps : List Str} {sp : Sp}
    (F : Fun K x qual st f fd) (S : FnScope N ps (defScope st)) (cnt : ∀ vs H Q E, sp vs H Q E → vs.length = ps.length)
    (body : ∀ (cdv : Value) (A : Around) (outer : List Env) (s : Shared) (H : Hp) (vs : List V) (Q : VK) (E : XK), (A.deeper (envOfC qual (defScope st) s.heap.objs.size f cdv)).guards = some [] →
      Room k (A.deeper (envOfC qual (defScope st) s.heap.objs.size f cdv)) → sp vs H Q E →
      ∃ t, PSs (cxOf CX P w K mg base N qual (defScope st) f cdv A outer s H E) (defBody st) t ∧ t { nx := fun _ H' => Q .non H', rt := Q } (start N vs) H) :
    FnG P w K mg base CX (k + 1) f fd ps sp := by
  obtain ⟨oc, od, kV, doc, pm, an, cdv, ct, osl, hfd, look, code⟩ := F.ex
  subst hfd
  refine ⟨fun h => cnt _ _ _ _ h, ?_⟩
  intro A outer s H args us vs Q E hg room env0 hbind hvals want
  have kin : K.In s.heap := env0.mod.kin.keeps fun b o q => (env0.bs b o q).1
  have nolim : s.heap.NoLimit := env0.mod.nolimit.keeps fun b o q => (env0.bs b o q).1
  have kinds : ∀ y ∈ ps.zip us, (defScope st).names.lookup y.1 = some .local ∨ ((defScope st).names.lookup y.1 = some .cell ∧ ((cellsFrom (s.heap.objs.size + 1) (defScope st).names []).lookup y.1).isSome = true) := by
    rintro ⟨n, v⟩ hy
    cases S.par n (List.of_mem_zip hy).1 with
    | inl q => exact Or.inl q
    | inr q => exact Or.inr ⟨q, PySem.W.cellsFrom_some _ _ _ (Or.inl q)⟩
  refine codeAny_call_function room.depth (kin _ _ look) rfl S.co S.gen rfl (PySem.W.codeRec_of kin code) (hbind _ _ _ _ ?_)
  refine wpAny_newFunctionEnv_cells S.kind kinds ?_
  intro env he s1 z
  subst he
  refine ⟨nolim.keeps z.toInCall.keep, codeAny_func ?_⟩
  obtain ⟨t, ht, hq⟩ := body cdv A outer s H vs Q E hg (room.deeper _) want
  have I0 := inv_start (CX := CX) (P := P) (w := w) (mg := mg) (base := base) (qual := qual) (E := E) S room.hd env0 (cnt _ _ _ _ want) hvals z
  refine wpAny_mono (ht.run [] s1 (start N vs) H _ I0 hq) ?_ (fun _ _ q => q)
  intro fl s' hs
  cases fl with
  | ret u =>
    obtain ⟨v, σ', H', J, rv, q⟩ := hs
    exact ⟨v, H', J.os, J.bare, J.base, J.hok, rv, q⟩
  | next =>
    obtain ⟨σ', H', J, q⟩ := hs
    exact ⟨V.non, H', J.os, J.bare, J.base, J.hok, rfl, q⟩
  | brk => exact hs.elim fun _ z => z.elim fun _ z => False.elim z.2
  | cont => exact hs.elim fun _ z => z.elim fun _ z => False.elim z.2
/-- a def that lets nothing out -/
theorem fn_g0 {P : Program} {w : World} {K : PySem.W.Frag} {mg : Str → Option Value} {base : Heap} {k : Nat} {f : Addr} {x qual : Str} {st : Stmt} {fd : FuncData} {N ps : List Str} {sp : Sp}
    (F : Fun K x qual st f fd) (S : FnScope N ps (defScope st)) (cnt : ∀ vs H Q E, sp vs H Q E → vs.length = ps.length)
    (body : ∀ (cdv : Value) (A : Around) (outer : List Env) (s : Shared) (H : Hp) (vs : List V) (Q : VK) (E : XK), (A.deeper (envOfC qual (defScope st) s.heap.objs.size f cdv)).guards = some [] →
      Room k (A.deeper (envOfC qual (defScope st) s.heap.objs.size f cdv)) → sp vs H Q E →
      ∃ t, PSs (cxOf CX0 P w K mg base N qual (defScope st) f cdv A outer s H E).nox (defBody st) t ∧ t { nx := fun _ H' => Q .non H', rt := Q } (start N vs) H) :
    FnG P w K mg base CX0 (k + 1) f fd ps sp := fn_g F S cnt fun cdv A outer s H vs Q E hg hr h => by
  obtain ⟨t, ht, hq⟩ := body cdv A outer s H vs Q E hg hr h
  exact ⟨t, ht.nox, hq⟩

/-! ### a def as its callers use it -/
structure Has (P : Program) (w : World) (K : PySem.W.Frag) (mg : Str → Option Value) (base : Heap) (CX : CXT) (k : Nat) (x : Str) (ps : List Str) (sp : Sp) : Prop where
  ex : ∃ f fd, FnG P w K mg base CX k f fd ps sp ∧ mg x = some (.ref f) ∧ PySem.W.keepIn K (.ref f) = true ∧ Binds K fd ps []
theorem Has.mono {P : Program} {w : World} {K : PySem.W.Frag} {mg : Str → Option Value} {base : Heap} {CX : CXT} {j k : Nat} {x : Str} {ps : List Str} {sp : Sp} (F : Has P w K mg base CX j x ps sp) (h : j ≤ k) : Has P w K mg base CX k x ps sp := by
  obtain ⟨f, fd, G, r⟩ := F.ex
  exact ⟨f, fd, G.mono h, r⟩
theorem Has.mk' {P : Program} {w : World} {K : PySem.W.Frag} {mg : Str → Option Value} {base : Heap} {CX : CXT} {k : Nat} {x qual : Str} {ps : List Str} {sp : Sp} {f : Addr} {fd : FuncData} {st : Stmt} (F : Fun K x qual st f fd) (hm : mg x = some (.ref f)) (hb : Binds K fd ps [])
    (G : FnG P w K mg base CX k f fd ps sp) : Has P w K mg base CX k x ps sp := ⟨f, fd, G, hm, F.kp, hb⟩
section
variable {X : Cx} {CX : CXT} {k : Nat} {x : Str} {ps : List Str} {sp : Sp} {E : XK} {p pos : Pos} {e : Expr} {es : List Expr} {t : TA}
theorem run_g {f : Addr} {fd : FuncData} {pins : List (Addr × Obj)} {σ : L2.St} {H : Hp} {s : Shared} {Q : VK} {us : List Value} {vs : List V} (F : FnG X.prog X.w X.K X.mg X.base CX k f fd ps sp) (hg : X.A.guards = some []) (hr : Room k X.A) (hb : Binds X.K fd ps []) (hx : Passes CX X E)
    (I : Inv X pins σ H s) (r : Vals vs us) (h : sp vs H Q E) : wpAny (model X.prog X.w) X.A (call (.ref f) us) (EP X pins σ Q) X.xe s := by
  have hl : (us ++ []).length = ps.length := by
    rw [List.append_nil, ← r.length]
    exact F.cnt h
  have hb' := hb s us I.kIn hl
  rw [List.append_nil] at hb'
  refine wpAny_call (codeAny_mono (F.go hg hr I.env0 hb' r h) ?_)
  intro res s' q
  cases res with
  | error err => exact hx pins σ H s err s' I q
  | ok fl =>
    cases fl with
    | ret u => exact I.after q
    | next => exact q.elim
    | brk => exact q.elim
    | cont => exact q.elim
theorem pe_has (F : Has X.prog X.w X.K X.mg X.base CX k x ps sp) (hg : X.A.guards = some []) (hr : Room k X.A) (hx : Passes CX X E) (ha : PA X (e :: es) t) (hl : Gl X x := by rfl)
    (hdb : (x == ("__debug__" : Str)) = false := by decide) (he : starEach (e :: es) X.env = (false, eval e X.env) :: starEach es X.env := by rfl) (hpl : (backTo pos (starEach es X.env)).any (·.1) = false := by rfl) :
    PE X (.Call (.Name x p) (e :: es) [] pos) (tCall sp [] E t) := by
  obtain ⟨f, fd, G, hm, hk, hb⟩ := F.ex
  constructor
  intro pins s σ H Q I h
  refine wpAny_Call_Name_kw (ld_glob I hl hm ?_ hdb)
  refine PySem.W.callWith_K (h₀ := X.base) I.ok.mod.kin hk (thn (ha.run pos pins s σ H _ I h) ?_) he hpl
  rintro us s1 ⟨vs, H1, I1, r, q⟩
  refine ⟨I1.kIn, run_g G hg hr hb hx I1 r ?_⟩
  have q' : sp (vs ++ []) H1 Q E := q
  rw [List.append_nil] at q'
  exact q'
theorem pe_has0 (F : Has X.prog X.w X.K X.mg X.base CX k x ps sp) (hg : X.A.guards = some []) (hr : Room k X.A) (hx : Passes CX X E) (hl : Gl X x := by rfl) (hdb : (x == ("__debug__" : Str)) = false := by decide) :
    PE X (.Call (.Name x p) [] [] pos) (tCall sp [] E tNil) := by
  obtain ⟨f, fd, G, hm, hk, hb⟩ := F.ex
  constructor
  intro pins s σ H Q I h
  refine wpAny_Call_Name_kw (ld_glob I hl hm ?_ hdb)
  exact PySem.W.callWith_K0 I.kIn hk (run_g (us := []) (vs := []) G hg hr hb hx I .nil h)
end

/-! ### rules for ints of any size, texts, lists, repr -/
section
variable {X : Cx}
def CPowW (i j : Int) : Prop := 0 ≤ j ∧ (Builtin.Int.intBits i : Int) * j ≤ 2 ^ 27
theorem op_powW : OpR X (binaryOp .Pow) (rI CPowW fun i j => .int (i ^ j.toNat)) := by
  intro pins s σ H x y v u Q I rx ry h
  obtain ⟨i, j, rfl, rfl, ⟨h1, h2⟩, q⟩ := h
  obtain ⟨t1, rfl⟩ := rx
  obtain ⟨t2, rfl⟩ := ry
  exact pow_int h1 h2 ⟨V.int _, H, I.tok _, ⟨_, rfl⟩, q⟩
/-- a text said n times, n at least 2 -/
def sRep (z : Str) (n : Nat) : Str := ⟨(List.replicate n z.cps).foldl (· ++ ·) #[]⟩
def rMulS : R2 := fun x y H Q => ∃ (z : Str) (n : Int), x = .str z ∧ y = .int n ∧ 1 < n ∧ n < 2 ^ 40 ∧ 0 < z.length ∧ z.length * n.toNat ≤ sizeLine ∧ Q (.str (sRep z n.toNat)) H
theorem op_mulS : OpR X (binaryOp .Mult) rMulS := by
  intro pins s σ H x y v u Q I rx ry h
  obtain ⟨z, n, rfl, rfl, h1, h2, h3, h4, q⟩ := h
  obtain ⟨t1, rfl⟩ := rx
  obtain ⟨t2, rfl⟩ := ry
  have hz : sizeLine = 16777216 := sizeLine_eq
  have c0 : ¬ n < 1 := by omega
  have c1 : (n == 1 || z.length == 0) = false := by
    have a : (n == 1) = false := beq_eq_false_iff_ne.mpr (by omega)
    have b : (z.length == 0) = false := beq_eq_false_iff_ne.mpr (by omega)
    rw [a, b]
    rfl
  have h5 : (z.length * n.toNat : Nat) ≤ 16777216 := by rw [← hz]; exact h4
  refine PySem.P.mul_str ?_ ?_ ?_ ?_
  · have a : ¬ n < -(2 ^ 63 : Int) := by omega
    have b : ¬ n ≥ 2 ^ 63 := by omega
    rw [decide_eq_false a, decide_eq_false b]
    rfl
  · intro _ _ hgt
    have hn0 : (0 : Int) < n := by omega
    have e1 : (z.length : Int) ≤ 16777216 := by
      have : z.length * 1 ≤ z.length * n.toNat := Nat.mul_le_mul_left _ (by omega)
      omega
    have e2 : (8388608 : Int) ≤ (2 ^ 63 - 1) / n := by
      rw [Int.le_ediv_iff_mul_le hn0]
      have : 8388608 * n < 8388608 * 2 ^ 40 := by omega
      have e3 : (8388608 : Int) * 2 ^ 40 = 2 ^ 63 := by decide
      omega
    have e4 : (z.length : Int) ≤ 8388608 := by
      have : z.length * 2 ≤ z.length * n.toNat := Nat.mul_le_mul_left _ (by omega)
      omega
    omega
  · intro _ _
    unfold Builtin.Str.tooLong
    have : ¬ (z.length * n.toNat) > sizeLine := by omega
    simpa using this
  · rw [if_neg c0, c1]
    exact ⟨by
      show (sRep z n.toNat).length ≤ sizeLine
      exact fits_reps (by unfold Builtin.Str.tooLong; simpa using (show ¬ (z.length * n.toNat) > sizeLine by omega)), ⟨V.str _, H, I.tok _, ⟨_, rfl⟩, q⟩⟩

/-- the signs of a text, each a text -/
def signsV (z : Str) : List V := z.cps.toList.map fun c => V.str ⟨#[c]⟩
def rListS : List V → Hp → VK → Prop := fun xs H Q => ∃ z : Str, xs = [.str z] ∧ z.length ≤ sizeLine ∧ ∀ p, H p = none → Q (.ref p) (upd H p (.lst (signsV z)))
theorem vals_at : ∀ (xs : List V) (us : List Value), us.length = xs.length → (∀ (j : Nat) (u : Value), us[j]? = some u → ∃ x, xs[j]? = some x ∧ RelV x u) → Vals xs us
  | [], [], _, _ => .nil
  | [], _ :: _, n, _ => by cases n
  | _ :: _, [], n, _ => by cases n
  | x :: xs, u :: us, n, at' => by
    obtain ⟨y, ey, ry⟩ := at' 0 u rfl
    cases ey
    refine .cons ry (vals_at xs us (Nat.succ.inj n) ?_)
    intro j v hv
    exact at' (j + 1) v hv
theorem call_list_str (hc : X.calm = true) : CallR X (.type "list") rListS := by
  intro pins s σ H xs us Q I r h
  obtain ⟨z, rfl, hz, q⟩ := h
  obtain ⟨u, rfl, t, rfl⟩ := vals1 r
  refine PySem.call_list_str (I.ok.hd hc) z t ?_ hz
  intro h' tk acc c' keeps at' items
  have lenA : acc.toList.length = (signsV z).length := by
    unfold signsV
    rw [List.length_map, Array.length_toList, Array.length_toList]
    exact items.1
  have va : Vals (signsV z) acc.toList := vals_at _ _ lenA fun j u hu => by
    have hj : acc[j]? = some u := by simpa using hu
    obtain ⟨c, tk2, e1, rfl⟩ := items.2 j u hj
    refine ⟨V.str ⟨#[c]⟩, ?_, ⟨tk2, rfl⟩⟩
    unfold signsV
    have e2 : z.cps.toList[j]? = some c := by simpa using e1
    rw [List.getElem?_map, e2]
    rfl
  have lz : (signsV z).length ≤ sizeLine := by
    unfold signsV
    rw [List.length_map, Array.length_toList]
    exact hz
  refine ⟨.ref s.heap.objs.size, _, I.laid (t' := tk) (o := .lst (signsV z)) keeps (Nat.le_refl _) ?_, rfl, q _ (I.hok.fresh (Nat.le_refl _))⟩
  exact ⟨lz, acc.toList, c', va, by simpa using at'⟩

/-- repr of data of any depth (no dict within) -/
def rRepr (K : PySem.W.Frag) : List V → Hp → VK → Prop := fun xs H Q => ∃ x d, xs = [x] ∧ Dp K H x d ∧ d.showable = true ∧ d.hasDict = false ∧ d.depth ≤ 60 ∧ d.shown.length ≤ sizeLine ∧ Q (.str d.shown) H
theorem call_repr (hg : X.A.guards = some []) (hu : X.A.units + 64 < cLine) : CallR X (.builtin "repr") (rRepr X.K) := by
  intro pins s σ H xs us Q I r h
  obtain ⟨x, d, rfl, hd, hs, hD, hdep, hz, q⟩ := h
  obtain ⟨u, rfl, rx⟩ := vals1 r
  obtain ⟨as, rd⟩ := Dp.reads I d x u hd rx
  have fin : ∀ h' t tk, (∀ b o, s.heap.get? b = some o → h'.get? b = some o) → EP X pins σ Q (.str d.shown t) { s with heap := h', toks := tk } := fun h' t tk keeps =>
    ⟨V.str d.shown, H, I.kept keeps, ⟨t, rfl⟩, q⟩
  cases rd with
  | none =>
    simp only [PyData.shown] at fin
    exact PySem.P.repr_of_none (fin _ _ _ fun _ _ e => e)
  | bool b =>
    simp only [PyData.shown] at fin
    exact PySem.P.repr_of_bool (fin _ _ _ fun _ _ e => e)
  | int i t =>
    simp only [PyData.shown] at fin
    exact PySem.P.repr_of_int (by simpa [PyData.showable] using hs) (fin _ _ _ fun _ _ e => e)
  | str z t =>
    simp only [PyData.shown] at fin hz
    exact PySem.P.repr_of_str (fin _ _ _ fun _ _ e => e) hz
  | list a b c e => exact repr_of_reads' (.list a b c e) hs (PyData.noDict_hsm hD) hg (by omega) (fun _ _ e => e) fin hz
  | tuple a b c e => exact repr_of_reads' (.tuple a b c e) hs (PyData.noDict_hsm hD) hg (by omega) (fun _ _ e => e) fin hz
  | dict a b c e f => cases hD
end

/-! ### the end of a law row, for a law that is run where nothing guarded runs -/
theorem end_g {P : Program} {w : World} {K : PySem.W.Frag} {mg mb : Str → Option Value} {k : Nat} {fa a : Addr} {fd : FuncData} {x : Str} {sp : Sp} {s₁ : Shared} {vs : List Value} {ns : List Int}
    (kin : K.In s₁.heap) (nsM : s₁.heap.Ns mainGlobals mg) (nsB : s₁.heap.Ns builtinsNs mb) (plainB : ∀ x : Str, x ≠ "__name__" → mb x = bootBuiltins x) (nolim : s₁.heap.NoLimit) (gens : s₁.gens = #[])
    (at' : s₁.heap.get? a = some { cls := .type "list", data := .seq vs.toArray }) (areI : IntsAre vs ns) (short : ns.length ≤ sizeLine) (room : Room k callerA)
    (F : ∀ base : Heap, K.In base → base.Ns mainGlobals mg → FnG P w K mg base CX0 k fa fd [x] sp) (bind : ∀ (s : Shared) (u : Value), BindsTo s fd ⟨[u], []⟩ [(x, u)])
    (prom : ∀ H : Hp, Only H → SqL K H a (ns.map V.int) → sp [.ref a] H (fun v _ => v = .bl true) fun _ _ _ => False) :
    codeAny (model P w) callerA (.call (.ref fa) ⟨[.ref a], []⟩) (fun r s' => r = .ok (.ret (.bool true)) ∧ OldK s₁.heap s'.heap ∧ s'.os = s₁.os ∧ AllBare s'.gens) s₁ := by
  have hv := vals_ints areI
  have hlen := areI.length
  have go : ∀ H : Hp, Only H → SqL K H a (ns.map V.int) → HOk P w H s₁.heap → (∀ b, H b ≠ none → b = a) → (H a ≠ none → K.lookup a = none) →
      codeAny (model P w) callerA (.call (.ref fa) ⟨[.ref a], []⟩) (fun r s' => r = .ok (.ret (.bool true)) ∧ OldK s₁.heap s'.heap ∧ s'.os = s₁.os ∧ AllBare s'.gens) s₁ := by
    intro H only sq hok one notK
    have dictFree : ∀ {b : Addr} {o : Obj} {es : Array DictEntry} {ep : Nat}, s₁.heap.get? b = some o → o.data = .dict es ep → H b = none := by
      intro b o es ep e d
      match hb : H b with
      | none => rfl
      | some u =>
        have eb := one b (by rw [hb]; exact fun z => by cases z)
        rw [eb, at'] at e
        cases e
        exact absurd d (fun z => by cases z)
    have nsT : ∀ {b : Addr} {m : Str → Option Value}, s₁.heap.Ns b m → (hidT s₁.heap H).Ns b m := by
      rintro b m ⟨o, es, ep, e, d, rest⟩
      exact ⟨o, es, ep, hidT_get e (dictFree e d), d, rest⟩
    have kinT : K.In (hidT s₁.heap H) := by
      intro b o e
      refine hidT_get (kin b o e) ?_
      match hb : H b with
      | none => rfl
      | some u =>
        have nz : H b ≠ none := by rw [hb]; exact fun z => by cases z
        have eb := one b nz
        rw [eb] at nz e
        rw [notK nz] at e
        cases e
    have modT : Mod K mg (hidT s₁.heap H) := by
      refine ⟨kinT, nsT nsM, ⟨mb, nsT nsB, plainB⟩, ?_⟩
      obtain ⟨mc, l1, l2⟩ := nolim
      exact ⟨mc, nsT l1, l2⟩
    have start0 : Env0 P w K mg (hidT s₁.heap H) callerA [] s₁ H :=
      ⟨rfl, modT, fun _ _ e => of_hidT e, Nat.le_of_eq (hidT_size _ _), trivial, fun _ z => (List.not_mem_nil z).elim, hok, .of_eq gens⟩
    have ran := (F _ kinT (nsT nsM)).go (args := ⟨[.ref a], []⟩) (us := [.ref a]) (vs := [.ref a]) rfl room start0 (bind s₁ (.ref a)) (.cons rfl .nil) (prom H only sq)
    refine codeAny_mono ran ?_
    intro r s' h
    match r, h with
    | .ok (.ret u), ⟨v, H', os, bare, un, hok', rel, val⟩ =>
      have val' : v = .bl true := val
      subst val'
      have eu : u = Value.bool true := rel
      subst eu
      refine ⟨rfl, OldK.of_keep ?_, os, bare⟩
      intro b o e
      match hb : H b with
      | none => exact un.keep b o e hb (fun z => (List.not_mem_nil z).elim) (fun z => (List.not_mem_nil z).elim)
      | some _ =>
        rcases only b with z | ⟨ob, xs, z⟩
        · rw [hb] at z
          cases z
        · have old := (hok b _ z).1
          have new := (hok' b _ (un.frzs b ob _ z)).1
          rw [e] at old
          cases old
          exact new
    | .ok .next, z => exact False.elim z
    | .ok .brk, z => exact False.elim z
    | .ok .cont, z => exact False.elim z
    | .error _, z => exact False.elim z
  match hk : K.lookup a with
  | some o =>
    have e := kin a o hk
    rw [at'] at e
    cases e
    refine go (fun _ => none) (fun _ => Or.inl rfl) (Or.inr ⟨_, vs.toArray, _, hk, rfl, rfl, rfl, ?_, by simpa using hv⟩) (fun _ _ z => by cases z) (fun _ z => absurd rfl z) fun z => absurd rfl z
    rw [List.size_toArray, hlen]
    exact short
  | none =>
    let H1 : Hp := fun b => if b = a then some (.frz { cls := .type "list", data := .seq vs.toArray } (.lst (ns.map V.int))) else none
    have here : H1 a = some (.frz { cls := .type "list", data := .seq vs.toArray } (.lst (ns.map V.int))) := if_pos rfl
    have away : ∀ {b}, b ≠ a → H1 b = none := fun hb => if_neg hb
    refine go H1 (fun b => ?_) (Or.inl (Or.inr ⟨_, here⟩)) (fun b u z => ?_) (fun b z => ?_) fun _ => hk
    · by_cases hb : b = a
      · rw [hb]
        exact Or.inr ⟨_, _, here⟩
      · exact Or.inl (away hb)
    · by_cases hb : b = a
      · rw [hb] at z ⊢
        rw [here] at z
        cases z
        exact ⟨at', by rw [List.length_map]; exact short, vs, _, hv, at'⟩
      · rw [away hb] at z
        cases z
    · by_cases hb : b = a
      · exact hb
      · exact absurd (away hb) z
theorem walk_g {l : PySem.W.OpenLaw} {n k : Nat} {q : Program} {loose : List Str} {XP : (Str → Option Value) → Heap → Prop} {YP : World → Heap → Prop} {d : DefRec} {K : Params → PySem.W.Frag} {sp : PySem.W.Frag → Sp} {x : Str}
    (many : l.most = some n) (fits : n ≤ sizeLine) (plain : d.params.defaults = []) (room : Room k callerA) (hY : ∀ (w : World) (h : Heap), YP w h → (K w.params).In h)
    (F : ∀ (w : World) (mg : Str → Option Value) (fa : Addr) (h : Heap), (K w.params).In h → h.Ns mainGlobals mg → mg d.name = some (.ref fa) →
      ∃ fd : FuncData, (∀ (s : Shared) (u : Value), BindsTo s fd ⟨[u], []⟩ [(x, u)]) ∧ ∀ base : Heap, (K w.params).In base → base.Ns mainGlobals mg → FnG l.prog w (K w.params) mg base CX0 k fa fd [x] (sp (K w.params)))
    (prom : ∀ (K : PySem.W.Frag) (H : Hp) (a : Addr) (ns : List Int), ns.length ≤ n → Only H → SqL K H a (ns.map V.int) → sp K [.ref a] H (fun v _ => v = .bl true) fun _ _ _ => False) :
    PySem.W.WalkO q loose XP YP l.row.toRowW d [] (fun f vs => PySem.call f vs) := by
  refine Att.attach_call many plain ?_
  intro w s₀ s₁ mg mb fa o pm cd doc a vs ns G Y ho hd hcd hmg hobj hints hlen hgens
  obtain ⟨fd, bind, hF⟩ := F w mg fa _ (hY w _ Y) G.T.g hmg
  exact end_g (hY w _ Y) G.T.g G.T.b G.T.builtins G.T.nolimit hgens hobj hints (Nat.le_trans hlen fits) room hF bind fun H only sq => prom _ H a ns hlen only sq
end G
/-! The layer's rules with the written part K named, so that they serve within a comprehension. -/
namespace G
open PySem PySem.Spec PyProof.Rows L2
section
variable {X : Cx} (K : PySem.W.Frag)
theorem g_ix_list (e : X.K = K := by rfl) : IxR X (rIxL K) := by
  subst e
  exact ix_list
theorem g_ix_tup (e : X.K = K := by rfl) : IxR X (rIxT K) := by
  subst e
  exact ix_tup
theorem g_ix_seq (e : X.K = K := by rfl) : IxR X (rIx K) := by
  subst e
  exact ix_seq
def rLenQ : List V → Hp → VK → Prop := fun xs H Q => ∃ p ys, xs = [.ref p] ∧ (SqL K H p ys ∨ SqT K H p ys) ∧ Q (.int (ys.length : Int)) H
theorem g_len_seq (e : X.K = K := by rfl) : CallR X (.builtin "len") (rLenQ K) := by
  subst e
  exact call_len_seq
def rLenG : List V → Hp → VK → Prop := fun xs H Q => ∃ x n, xs = [x] ∧ LenV K x H n ∧ Q (.int (n : Int)) H
theorem g_len (e : X.K = K := by rfl) : CallR X (.builtin "len") (rLenG K) := by
  subst e
  exact call_len
def rListQ : List V → Hp → VK → Prop := fun xs H Q => ∃ p ys, xs = [.ref p] ∧ (SqL K H p ys ∨ SqT K H p ys) ∧ ∀ l, H l = none → Q (.ref l) (upd H l (.lst ys))
theorem g_list_of (e : X.K = K := by rfl) : CallR X (.type "list") (rListQ K) := by
  subst e
  exact call_list_of
def rListAny : List V → Hp → VK → Prop := fun xs H Q => rListS xs H Q ∨ rListQ K xs H Q
theorem g_list_any (hc : X.calm = true) (e : X.K = K := by rfl) : CallR X (.type "list") (rListAny K) := fun pins s σ H xs us Q I r h => by
  rcases h with h | h
  · exact call_list_str hc pins s σ H xs us Q I r h
  · exact g_list_of K e pins s σ H xs us Q I r h
def rDictP : List V → Hp → VK → Prop := fun xs H Q => ∃ (a : Addr) (ps : List Addr) (kvs : List (Key × V)), xs = [.ref a] ∧ SqL K H a (ps.map V.ref) ∧ Paired (fun p kv => SqT K H p [kV kv.1, kv.2]) ps kvs ∧ ∀ p, H p = none → Q (.ref p) (upd H p (.dK (mergeK [] kvs)))
theorem g_dictP (hc : X.calm = true) (e : X.K = K := by rfl) : CallR X (.type "dict") (rDictP K) := by
  subst e
  exact call_dictP hc
def rTupQ : List V → Hp → VK → Prop := fun xs H Q => ∃ p ys, xs = [.ref p] ∧ ((SqL K H p ys ∧ ∀ l, H l = none → Q (.ref l) (upd H l (.tup ys))) ∨ (SqT K H p ys ∧ Q (.ref p) H))
theorem g_tuple_of (e : X.K = K := by rfl) : CallR X (.type "tuple") (rTupQ K) := by
  subst e
  exact call_tuple_of
theorem g_isi (e : X.K = K := by rfl) : CallR X (.builtin "isinstance") (rIsi K) := by
  subst e
  exact call_isi
theorem g_isiT (e : X.K = K := by rfl) : CallR X (.builtin "isinstance") (rIsiT K) := by
  subst e
  exact call_isiT
theorem g_all (hc : X.calm = true) (e : X.K = K := by rfl) : CallR X (.builtin "all") (rAll K) := by
  subst e
  exact cr_all hc
theorem g_any (hc : X.calm = true) (e : X.K = K := by rfl) : CallR X (.builtin "any") (rAny K) := by
  subst e
  exact cr_any hc
theorem g_sum (hc : X.calm = true) (e : X.K = K := by rfl) : CallR X (.builtin "sum") (rSum K) := by
  subst e
  exact cr_sum hc
theorem g_max (hc : X.calm = true) (e : X.K = K := by rfl) : CallR X (.builtin "max") (rMax K) := by
  subst e
  exact cr_max hc
theorem g_min (hc : X.calm = true) (e : X.K = K := by rfl) : CallR X (.builtin "min") (rMin K) := by
  subst e
  exact cr_min hc
theorem g_sortedS (e : X.K = K := by rfl) : CallR X (.builtin "sorted") (rSortedS K) := by
  subst e
  exact cr_sortedS
theorem g_in_seq (e : X.K = K := by rfl) : OpR X (compareOp .In) (rIn K false) := by
  subst e
  exact op_in_seq
theorem g_notIn_seq (e : X.K = K := by rfl) : OpR X (compareOp .NotIn) (rIn K true) := by
  subst e
  exact op_notIn_seq
theorem g_eqD (hu : X.A.units + 64 < cLine) (e : X.K = K := by rfl) : OpR X (compareOp .Eq) (rEqD K) := by
  subst e
  exact op_eqD hu
theorem g_neD (hu : X.A.units + 64 < cLine) (e : X.K = K := by rfl) : OpR X (compareOp .NotEq) (rNeD K) := by
  subst e
  exact op_neD hu
theorem g_sl_list (e : X.K = K := by rfl) : SlR X (rSlL K) := by
  subst e
  exact sl_list
theorem g_sl_tup (e : X.K = K := by rfl) : SlR X (rSlA K) := by
  subst e
  exact sl_tupA
theorem g_repr (hg : X.A.guards = some []) (hu : X.A.units + 64 < cLine) (e : X.K = K := by rfl) : CallR X (.builtin "repr") (rRepr K) := by
  subst e
  exact call_repr hg hu
theorem g_fld {x : Expr} {f : Str} {pos : Pos} {ta : TE} (he : PE X x ta) (hb : attributeBase x f X.env (eval x X.env) = eval x X.env := by rfl) (e : X.K = K := by rfl) : PE X (.Attribute x f pos) (tFld K ta f) := by
  subst e
  exact pe_fld he hb
theorem g_list {tg l : Expr} {tl : TE} (hl : PE X l tl) (e : X.K = K := by rfl) : PI X tg l (iList K tl) := by
  subst e
  exact pi_list hl
theorem g_tuple {tg l : Expr} {tl : TE} (hl : PE X l tl) (e : X.K = K := by rfl) : PI X tg l (iTup K tl) := by
  subst e
  exact pi_tup hl
theorem g_tup {es : List Expr} {k : Nat} {t : TGs} {n : Nat} {pos : Pos} (hc : X.calm = true) (h : PGs X es t) (hn : (assignEach es X.env).length = n := by rfl) (hst : (assignEach es X.env).findIdx? (·.1) = none := by rfl) (e : X.K = K := by rfl) :
    PG X (.Tuple es k pos) (gTup K n t) := by
  subst e
  exact pg_tup hc h hn hst
/-- sep.join(a list or a tuple of texts) -/
def rJoin : V → List V → Hp → VK → Prop := fun x xs H Q => ∃ a p, ∃ ys : List Str, x = .str a ∧ xs = [.ref p] ∧ (SqL K H p (ys.map V.str) ∨ SqT K H p (ys.map V.str)) ∧ (ys.map (·.length)).sum + ys.length * a.length ≤ 16777216 ∧ Q (.str (Txt.join a ys)) H
theorem g_join {o x : Expr} {to te : TE} {apos pos : Pos} (ho : PE X o to) (he : PE X x te) (hs : starEach [x] X.env = [(false, eval x X.env)] := by rfl) (hbase : attributeBase o "join" X.env (eval o X.env) = eval o X.env := by rfl) (hline : (apos.endLine == pos.line) = true := by rfl) (e : X.K = K := by rfl) :
    PE X (.Call (.Attribute o "join" apos) [x] [] pos) (tM1 (rJoin K) to te) := by
  subst e
  exact pe_join ho he hs hbase hline
theorem g_bm0 {T name id : String} {o : Expr} {to : TE} {r : V → List V → Hp → VK → Prop} {apos cpos : Pos} (pa : PlainAttrs T) (slot : Slot T name id) (hty : typeOf (.builtin id) = pure (.type "method_descriptor")) (hm : MtR X id r) (ho : PE X o to)
    (hb : attributeBase o name X.env (eval o X.env) = eval o X.env := by rfl) (hl : (apos.endLine == cpos.line) = true := by rfl) (e : X.K = K := by rfl) : PE X (.Call (.Attribute o name apos) [] [] cpos) (tBM0 K T r to) := by
  subst e
  exact pe_bm0 pa slot hty hm ho hb hl
theorem g_bm {T name id : String} {o x : Expr} {xs : List Expr} {to : TE} {t : TA} {r : V → List V → Hp → VK → Prop} {apos cpos : Pos} (pa : PlainAttrs T) (slot : Slot T name id) (hty : typeOf (.builtin id) = pure (.type "method_descriptor")) (hm : MtR X id r) (ho : PE X o to) (ha : PA X (x :: xs) t)
    (hb : attributeBase o name X.env (eval o X.env) = eval o X.env := by rfl) (hf : ((backTo cpos (starEach (x :: xs) X.env)).all (fun y => !y.1) && (backToKw cpos (keywordEach [] X.env)).all (fun y => y.1.isSome) &&
      decide ((x :: xs).length + ([] : List Keyword).length + (if ([] : List Keyword).isEmpty then 0 else 1) < 30)) = true := by rfl)
    (hl : (apos.endLine == cpos.line) = true := by rfl) (hs : starEach (x :: xs) X.env = (false, eval x X.env) :: starEach xs X.env := by rfl) (hp : (backTo cpos (starEach xs X.env)).any (·.1) = false := by rfl) (e : X.K = K := by rfl) :
    PE X (.Call (.Attribute o name apos) (x :: xs) [] cpos) (tBM K T r to t) := by
  subst e
  exact pe_bm pa slot hty hm ho ha hb hf hl hs hp
end
end G
namespace G
open PySem PySem.Spec PyProof.Rows L2
theorem itT {c : Bool} {A B : Prop} (hc : c = true) (h : A) : if c = true then A else B := by
  rw [if_pos hc]
  exact h
theorem itF {c : Bool} {A B : Prop} (hc : c = false) (h : B) : if c = true then A else B := by
  rw [hc, if_neg Bool.false_ne_true]
  exact h
/-- an if on a Bool that is not known -/
theorem itB {c : Bool} {A B : Prop} (h1 : c = true → A) (h2 : c = false → B) : if c = true then A else B := by
  cases c
  · exact itF rfl (h2 rfl)
  · exact itT rfl (h1 rfl)
/-! ### kinds of values -/
def isStr : V → Bool | .str _ => true | _ => false
def isBl : V → Bool | .bl _ => true | _ => false
def isIntB : V → Bool | .int _ => true | .bl _ => true | _ => false
def Tyd (K : PySem.W.Frag) (H : Hp) (x : V) : Prop := ∃ t, TyX K H x t ∧ PySem.W.kitOne K t (.type "str") = some (isStr x) ∧ PySem.W.kitOne K t (.type "int") = some (isIntB x) ∧ PySem.W.kitOne K t (.type "bool") = some (isBl x)
section
variable {K : PySem.W.Frag} {H : Hp} {x : V}
theorem tyd_of {T : String} {a b c : Bool} (h : TyX K H x (.type T)) (ha : kitB T "str" = some a) (hb : kitB T "int" = some b) (hc : kitB T "bool" = some c) (ea : isStr x = a) (eb : isIntB x = b) (ec : isBl x = c) : Tyd K H x :=
  ⟨_, h, by rw [ea]; exact kit_ty ha, by rw [eb]; exact kit_ty hb, by rw [ec]; exact kit_ty hc⟩
theorem tyd_non  : Tyd K H .non := tyd_of (a := false) (b := false) (c := false) (.base .non) (by decide +kernel) (by decide +kernel) (by decide +kernel) rfl rfl rfl
theorem tyd_bl (b : Bool) : Tyd K H (.bl b) := tyd_of (a := false) (b := true) (c := true) (.base (.bl b)) (by decide +kernel) (by decide +kernel) (by decide +kernel) rfl rfl rfl
theorem tyd_int (i : Int) : Tyd K H (.int i) := tyd_of (a := false) (b := true) (c := false) (.base (.int i)) (by decide +kernel) (by decide +kernel) (by decide +kernel) rfl rfl rfl
theorem tyd_str (z : Str) : Tyd K H (.str z) := tyd_of (a := true) (b := false) (c := false) (.base (.str z)) (by decide +kernel) (by decide +kernel) (by decide +kernel) rfl rfl rfl
theorem tyd_lst {a : Addr} {xs : List V} (h : H a = some (.lst xs)) : Tyd K H (.ref a) := tyd_of (a := false) (b := false) (c := false) (.base (.lst h)) (by decide +kernel) (by decide +kernel) (by decide +kernel) rfl rfl rfl
theorem tyd_tup {a : Addr} {xs : List V} (h : H a = some (.tup xs)) : Tyd K H (.ref a) := tyd_of (a := false) (b := false) (c := false) (.base (.tup h)) (by decide +kernel) (by decide +kernel) (by decide +kernel) rfl rfl rfl
theorem tyd_dK {a : Addr} {kvs : List (Key × V)} (h : H a = some (.dK kvs)) : Tyd K H (.ref a) := tyd_of (a := false) (b := false) (c := false) (.base (.dK h)) (by decide +kernel) (by decide +kernel) (by decide +kernel) rfl rfl rfl
end
/-! ### texts as lists of codes -/
abbrev cs (z : Str) : List Nat := z.cps.toList
theorem cs_len (z : Str) : (cs z).length = z.length := by
  show z.cps.toList.length = z.cps.size
  simp
theorem str_ext {x y : Str} (h : cs x = cs y) : x = y := by
  obtain ⟨a⟩ := x
  obtain ⟨b⟩ := y
  have : a = b := Array.toList_inj.mp h
  rw [this]
theorem cs_app (x y : Str) : cs (x ++ y) = cs x ++ cs y := by
  show (x.cps ++ y.cps).toList = _
  simp
def lett (c : Nat) : Bool := decide (97 ≤ c) && decide (c ≤ 122)
def isWord : V → Bool | .str z => !(cs z).isEmpty && (cs z).all lett | _ => false
def isSign : V → Bool | .str z => decide ((cs z).length = 1) && (cs z).all lett | _ => false
def isText : V → Bool | .str z => decide ((cs z).length ≤ 8000) && (cs z).all lett | _ => false
def isPiece : V → Bool | .str z => decide (1 ≤ (cs z).length) && decide ((cs z).length ≤ 5) && (cs z).all lett | _ => false
def isInteger : V → Bool | .int i => decide (i.natAbs < 10 ^ 60) | _ => false
theorem lt_one {a b : Nat} : decide (([a] : List Nat) < [b]) = decide (a < b) := by
  by_cases h : a < b
  · rw [decide_eq_true h, decide_eq_true (List.cons_lt_cons_iff.mpr (Or.inl h))]
  · rw [decide_eq_false h, decide_eq_false (fun z => ?_)]
    rcases List.cons_lt_cons_iff.mp z with z | ⟨_, z⟩
    · exact h z
    · cases z
theorem lett_eq (c : Nat) : (!decide (([c] : List Nat) < [97])) = decide (97 ≤ c) ∧ (!decide (([122] : List Nat) < [c])) = decide (c ≤ 122) := by
  rw [lt_one, lt_one]
  constructor
  · by_cases h : c < 97
    · rw [decide_eq_true h, decide_eq_false (by omega)]
      rfl
    · rw [decide_eq_false h, decide_eq_true (by omega)]
      rfl
  · by_cases h : 122 < c
    · rw [decide_eq_true h, decide_eq_false (by omega)]
      rfl
    · rw [decide_eq_false h, decide_eq_true (by omega)]
      rfl
theorem abs_lt (i : Int) : decide ((if i < 0 then -i else i) < (10 : Int) ^ (60 : Int).toNat) = isInteger (.int i) := by
  show _ = decide (i.natAbs < 10 ^ 60)
  have e : (10 : Int) ^ (60 : Int).toNat = ((10 ^ 60 : Nat) : Int) := by decide +kernel
  rw [e]
  generalize (10 ^ 60 : Nat) = m
  by_cases h : i.natAbs < m
  · rw [decide_eq_true h, decide_eq_true]
    split <;> omega
  · rw [decide_eq_false h, decide_eq_false]
    split <;> omega
def szV : V → Prop | .str z => z.length ≤ 100000 | _ => True
theorem fits_sz {n : Nat} (h : n ≤ 100000) : n ≤ sizeLine := Nat.le_trans h (by decide)
theorem same_new {H : Hp} {p : Addr} {o : HO} (h : H p = none) : Same H (upd H p o) := fun b u e => by
  rw [upd_ne (ne_of_none e h)]
  exact e
/-- is_integer, is_word and the like: any value, told by a function on values -/
def spIs (K : PySem.W.Frag) (p : V → Bool) : Sp := fun vs H Q _ => ∃ x, vs = [x] ∧ Tyd K H x ∧ szV x ∧ ∀ H', Same H H' → Q (.bl (p x)) H'
theorem v_str_ne {z : Str} : (!decide (V.str z = V.str "")) = !(cs z).isEmpty := by
  by_cases h : cs z = []
  · have e : z = "" := str_ext (by rw [h]; rfl)
    rw [e]
    rfl
  · have e : V.str z ≠ V.str "" := fun q => h (by rw [V.str.inj q]; rfl)
    rw [decide_eq_false e]
    cases hz : cs z with
    | nil => exact absurd hz h
    | cons a l => rfl
theorem v_str_eq {z : Str} : decide (V.str z = V.str "") = (cs z).isEmpty := by
  have := v_str_ne (z := z)
  cases h1 : decide (V.str z = V.str "") <;> cases h2 : (cs z).isEmpty <;> rw [h1, h2] at this <;> first | rfl | cases this
theorem lett_of {c : Nat} (h : decide (97 ≤ c) = true) : lett c = decide (c ≤ 122) := by
  unfold lett
  rw [h]
  rfl
theorem lett_no {c : Nat} (h : decide (97 ≤ c) = false) : lett c = false := by
  unfold lett
  rw [h]
  rfl
theorem one_sign {z : Str} (h : (cs z).length = 1) : ∃ c, z = ⟨#[c]⟩ := by
  match hz : cs z, h with
  | [c], _ => exact ⟨c, str_ext (by rw [hz])⟩
theorem v_len_eq {z : Str} {n : Nat} : decide (V.int (z.length : Int) = V.int (n : Int)) = decide ((cs z).length = n) := by
  rw [cs_len]
  by_cases h : z.length = n
  · rw [decide_eq_true h, decide_eq_true (by rw [h])]
  · rw [decide_eq_false h, decide_eq_false (fun q => h (by have := V.int.inj q; omega))]
theorem v_len_eq1 {z : Str} : decide (V.int (z.length : Int) = V.int 1) = decide ((cs z).length = 1) := v_len_eq (n := 1)
theorem sign_one (c : Nat) : isSign (.str ⟨#[c]⟩) = lett c := by
  show (decide (([c] : List Nat).length = 1) && ([c] : List Nat).all lett) = lett c
  simp
/-! ### a comprehension whose element changes nothing -/
theorem wipe_set {σ : L2.St} {j : Nat} {v : V} : wipe ((wipe σ [j]).set j (some v)) [j] = wipe σ [j] := by
  show ((σ.set j none).set j (some v)).set j none = σ.set j none
  rw [List.set_set, List.set_set]
theorem lcp_str {z : Str} {te : TE} {j : Nat} {σ : L2.St} {H1 : Hp} {D : Addr} {Qd : Hp → Prop} (f : Nat → V) (hz : z.length ≤ sizeLine)
    (hs : ∀ (c : Nat) (acc : List V) (N : VK), c ∈ cs z → N (f c) (upd H1 D (.lst acc)) → te ((wipe σ [j]).set j (some (.str ⟨#[c]⟩))) (upd H1 D (.lst acc)) N) (hd : Qd (upd H1 D (.lst ((cs z).map f)))) :
    ∃ W : Nat → Nat → Hp → Prop, (∃ m, W 0 m (upd H1 D (.lst []))) ∧ ∀ i m H, W i m H →
      ((Its z).stop i H ∧ Qd H) ∨ ((Its z).go i H ∧ ∃ Nx : Hp → Prop, (∀ H', Nx H' → ∃ m', m' < m ∧ W (i + 1) m' H') ∧ ∀ x H', (Its z).yld i H x H' → gName j x (wipe σ [j]) H' fun σ2 H2 => wipe σ2 [j] = wipe σ [j] ∧ tYes σ2 H2 fun b H3 =>
        if b = true then te σ2 H3 fun y H4 => ∃ acc, H4 D = some (.lst acc) ∧ acc.length < sizeLine ∧ Nx (upd H4 D (.lst (acc ++ [y]))) else Nx H3) := by
  have hl := cs_len z
  refine ⟨fun i m H => m = (cs z).length - i ∧ i ≤ (cs z).length ∧ H = upd H1 D (.lst (((cs z).take i).map f)), ⟨_, rfl, Nat.zero_le _, rfl⟩, ?_⟩
  rintro i m H ⟨rfl, hi, rfl⟩
  by_cases hlt : i < (cs z).length
  · have hlt' : i < z.cps.size := by rw [hl] at hlt; exact hlt
    refine .inr ⟨hlt', fun H' => H' = upd H1 D (.lst (((cs z).take (i + 1)).map f)), fun H' e => ⟨(cs z).length - (i + 1), by omega, rfl, hlt, e⟩, ?_⟩
    rintro x H' ⟨rfl, c, hc, rfl⟩
    have hc' : (cs z)[i]? = some c := by simpa [cs] using hc
    refine ⟨wipe_set, hs c _ _ (List.mem_of_getElem? hc') ⟨_, upd_same, ?_, ?_⟩⟩
    · rw [List.length_map, List.length_take]
      omega
    · rw [upd_upd]
      have : (cs z).take (i + 1) = (cs z).take i ++ [c] := by
        rw [List.take_add_one, hc']
        rfl
      rw [this, List.map_append]
      rfl
  · have e : i = (cs z).length := by omega
    refine .inl ⟨by show z.cps.size ≤ i; rw [e, hl]; exact Nat.le_refl _, ?_⟩
    rw [e, List.take_length]
    exact hd

/-! ### the dice of the laws: a list of three ints -/
def Big (i : Int) : Prop := 0 ≤ i ∧ i.natAbs < 2 ^ 2200
/-- dice at l, good for n further rolls -/
def Dice (H : Hp) (l : Addr) (n : Nat) : Prop := ∃ d0 d1 d2 : Int, H l = some (.lst [.int d0, .int d1, .int d2]) ∧ Big d0 ∧ Big d1 ∧ 0 ≤ d2 ∧ d2 + n ≤ 2 ^ 62
/-- all but l is as it was -/
def Kp (l : Addr) (H H' : Hp) : Prop := ∀ b o, H b = some o → b ≠ l → H' b = some o
theorem Kp.refl (l : Addr) (H : Hp) : Kp l H H := fun _ _ e _ => e
theorem Kp.trans {l : Addr} {H H1 H2 : Hp} (a : Kp l H H1) (b : Kp l H1 H2) : Kp l H H2 := fun c o e n => b c o (a c o e n) n
theorem Kp.of {l : Addr} {H H' : Hp} (a : Same H H') : Kp l H H' := fun c o e _ => a c o e
theorem Kp.upd {l : Addr} {H : Hp} {o : HO} : Kp l H (upd H l o) := fun b u e n => by
  rw [upd_ne n]
  exact e
theorem Kp.new {l p : Addr} {H H' : Hp} {o : HO} (a : Kp l H H') (h : H' p = none) : Kp l H (L2.upd H' p o) := a.trans (.of (same_new h))
/-- what was not there ahead may change -/
theorem Kp.mut {l p : Addr} {H H' : Hp} {o : HO} (a : Kp l H H') (h : H p = none) : Kp l H (L2.upd H' p o) := fun b u e n => by
  rw [upd_ne (ne_of_none e h)]
  exact a b u e n
theorem Kp.seq {K : PySem.W.Frag} {l a : Addr} {H H' : Hp} {xs : List V} (k : Kp l H H') (n : a ≠ l) (h : SqL K H a xs) : SqL K H' a xs := by
  rcases h with (h | ⟨o, h⟩) | h
  · exact Or.inl (Or.inl (k _ _ h n))
  · exact Or.inl (Or.inr ⟨o, k _ _ h n⟩)
  · exact Or.inr h
theorem Kp.tup {K : PySem.W.Frag} {l a : Addr} {H H' : Hp} {xs : List V} (k : Kp l H H') (n : a ≠ l) (h : SqT K H a xs) : SqT K H' a xs := by
  rcases h with (h | ⟨o, h⟩) | h
  · exact Or.inl (Or.inl (k _ _ h n))
  · exact Or.inl (Or.inr ⟨o, k _ _ h n⟩)
  · exact Or.inr h
theorem Dice.ne {H : Hp} {l p : Addr} {n : Nat} (d : Dice H l n) (h : H p = none) : p ≠ l := by
  obtain ⟨_, _, _, e, _⟩ := d
  exact (ne_of_none e h).symm
theorem Dice.le {H : Hp} {l : Addr} {n m : Nat} (d : Dice H l n) (h : m ≤ n) : Dice H l m := by
  obtain ⟨d0, d1, d2, e, h0, h1, h2, h3⟩ := d
  exact ⟨d0, d1, d2, e, h0, h1, h2, by omega⟩
theorem Dice.same {H H' : Hp} {l : Addr} {n : Nat} (d : Dice H l n) (s : Same H H') : Dice H' l n := by
  obtain ⟨d0, d1, d2, e, r⟩ := d
  exact ⟨d0, d1, d2, s _ _ e, r⟩
theorem Dice.upd {H : Hp} {l p : Addr} {o : HO} {n : Nat} (d : Dice H l n) (h : p ≠ l) : Dice (L2.upd H p o) l n := by
  obtain ⟨d0, d1, d2, e, r⟩ := d
  exact ⟨d0, d1, d2, by rw [upd_ne h.symm]; exact e, r⟩
theorem big_mod {x : Int} {m : Int} (h : 0 < m) (hm : m.natAbs ≤ 2 ^ 2100) : 0 ≤ x % m ∧ (x % m).natAbs < 2 ^ 2100 := by
  have h1 := Int.emod_nonneg x (by omega : m ≠ 0)
  have h2 := Int.emod_lt_of_pos x h
  refine ⟨h1, ?_⟩
  generalize (2 ^ 2100 : Nat) = M at hm
  omega
theorem pow_mono2 : (2 : Nat) ^ 2100 * 4 + 2 ^ 2100 ≤ 2 ^ 2200 := by decide +kernel
theorem big_of {x : Int} (h0 : 0 ≤ x) (h : x.natAbs < 2 ^ 2100) : Big x := ⟨h0, by
  have := pow_mono2
  generalize (2 ^ 2100 : Nat) = M at *
  generalize (2 ^ 2200 : Nat) = N at *
  omega⟩
theorem big_zero : Big 0 := ⟨Int.le_refl _, by decide +kernel⟩
theorem one_small : (131071 * 64 + 5 : Nat) ≤ 2 ^ 2100 := by decide +kernel
theorem big_seed {x b s : Int} (h0 : 0 ≤ x) (h : x.natAbs < 2 ^ 2100) (hb : 0 ≤ b ∧ b ≤ 1) (hs : 0 ≤ s ∧ s ≤ 64) : Big (2 * x + b + 131071 * s + 3) := by
  have h1 := pow_mono2
  have h2 := one_small
  refine ⟨by omega, ?_⟩
  generalize (2 ^ 2100 : Nat) = M at *
  generalize (2 ^ 2200 : Nat) = N at *
  omega
theorem big_div {x u : Int} (h : Big x) (hu : 1 ≤ u) : Big (x / u) := by
  obtain ⟨h0, h1⟩ := h
  have a := Int.ediv_nonneg h0 (by omega : (0 : Int) ≤ u)
  have b : x / u ≤ x := Int.ediv_le_self u h0
  refine ⟨a, ?_⟩
  generalize (2 ^ 2200 : Nat) = N at *
  omega
/-- an expression with two ways, joined: an int under p on both -/
theorem tif_int {t : TT} {ta tb : TE} {σ : L2.St} {H : Hp} {Q : VK} {c : Bool} (p : Int → Prop) (ht : ∀ N : Bool → Hp → Prop, N c H → t σ H N)
    (ha : c = true → ∀ N : VK, (∀ i, p i → N (.int i) H) → ta σ H N) (hb : c = false → ∀ N : VK, (∀ i, p i → N (.int i) H) → tb σ H N) (hq : ∀ i, p i → Q (.int i) H) : tIf t ta tb σ H Q := by
  refine ht _ ?_
  exact itB (fun e => ha e _ hq) (fun e => hb e _ hq)
/-- _law_dice -/
def spDice (K : PySem.W.Frag) : Sp := fun vs H Q _ => ∃ (a : Addr) (ns : List Int) (s : Int), vs = [.ref a, .int s] ∧ SqL K H a (ns.map V.int) ∧ ns.length ≤ 63 ∧ 0 ≤ s ∧ s ≤ 64 ∧ ∀ l H', H l = none → Same H H' → Dice H' l (2 ^ 60) → Q (.ref l) H'
/-- _law_roll -/
def spRoll : Sp := fun vs H Q _ => ∃ (l : Addr) (u : Int) (n : Nat), vs = [.ref l, .int u] ∧ 1 ≤ u ∧ u ≤ 2 ^ 40 ∧ Dice H l (n + 1) ∧ ∀ r H', 0 ≤ r → r < u → Kp l H H' → Dice H' l n → Q (.int r) H'
/-- what the laws pick from: a list, a tuple, a text -/
inductive Seq (K : PySem.W.Frag) (H : Hp) (l : Addr) : V → List V → Prop
  | lst {a : Addr} {ys : List V} (n : a ≠ l) (h : SqL K H a ys) : Seq K H l (.ref a) ys
  | tup {a : Addr} {ys : List V} (n : a ≠ l) (h : SqT K H a ys) : Seq K H l (.ref a) ys
  | str {z : Str} {ys : List V} (h : z.length ≤ 1000) (e : ys = signsV z) : Seq K H l (.str z) ys
theorem Seq.kp {K : PySem.W.Frag} {H H' : Hp} {l : Addr} {x : V} {ys : List V} (s : Seq K H l x ys) (k : Kp l H H') : Seq K H' l x ys := by
  cases s with
  | lst n h => exact .lst n (k.seq n h)
  | tup n h => exact .tup n (k.tup n h)
  | str h e => exact .str h e
/-- _law_pick -/
def spPick (K : PySem.W.Frag) : Sp := fun vs H Q _ => ∃ (l : Addr) (x : V) (ys : List V) (n : Nat), vs = [.ref l, x] ∧ Seq K H l x ys ∧ ys ≠ [] ∧ ys.length ≤ 1000 ∧ Dice H l (n + 1) ∧ ∀ y H', y ∈ ys → Kp l H H' → Dice H' l n → Q y H'
theorem signsV_len (z : Str) : (signsV z).length = z.length := by
  unfold signsV
  rw [List.length_map, cs_len]

abbrev ch (c : Nat) : Str := ⟨#[c]⟩
abbrev chV (c : Nat) : V := .str (ch c)
def sOf (l : List Nat) : Str := ⟨l.toArray⟩
theorem cs_sOf (l : List Nat) : cs (sOf l) = l := by simp [sOf]
theorem sOf_cs (z : Str) : sOf (cs z) = z := str_ext (cs_sOf _)
theorem sOf_len (l : List Nat) : (sOf l).length = l.length := by rw [← cs_len, cs_sOf]
theorem signsV_eq (z : Str) : signsV z = (cs z).map chV := rfl
theorem joinL_one : ∀ l : List Nat, TL.joinL [] (l.map fun c => [c]) = l
  | [] => rfl
  | [a] => rfl
  | a :: b :: r => by
    show [a] ++ ([] ++ TL.joinL [] ((b :: r).map fun c => [c])) = a :: b :: r
    rw [joinL_one (b :: r)]
    rfl
theorem join_ch (l : List Nat) : Txt.join "" (l.map ch) = sOf l := by
  refine str_ext ?_
  rw [cs_sOf, TL.join_eq]
  have h := TL.tl_join "" (l.map ch)
  rw [List.map_map] at h
  exact h.trans (joinL_one l)
theorem sum_ch (l : List Nat) : ((l.map ch).map (·.length)).sum = l.length := by
  induction l with
  | nil => rfl
  | cons a r ih =>
    rw [List.map_cons, List.map_cons, List.sum_cons, ih]
    show 1 + r.length = r.length + 1
    omega
/-- _law_letters -/
def spLetters (K : PySem.W.Frag) : Sp := fun vs H Q _ => ∃ (l : Addr) (x : V) (cl : List Nat) (m n : Nat), vs = [.ref l, x, .int (m : Int)] ∧ Seq K H l x (cl.map chV) ∧ cl ≠ [] ∧ cl.length ≤ 1000 ∧ m ≤ 10000 ∧ Dice H l (n + m) ∧
  ∀ (zs : List Nat) H', zs.length = m → (∀ c ∈ zs, c ∈ cl) → Kp l H H' → Dice H' l n → Q (.str (sOf zs)) H'

/-! ### what repr shows -/
structure Shw (d : PyData) (k n : Nat) : Prop where
  s : d.showable = true
  h : d.hasDict = false
  dp : d.depth ≤ k
  len : d.shown.length ≤ n
theorem shw_bool (b : Bool) : Shw (.bool b) 0 5 := ⟨by simp [PyData.showable], by simp [PyData.hasDict], by simp [PyData.depth], by cases b <;> simp only [PyData.shown] <;> decide +kernel⟩
theorem shw_none : Shw .none 0 4 := ⟨by simp [PyData.showable], by simp [PyData.hasDict], by simp [PyData.depth], by simp only [PyData.shown]; decide +kernel⟩
theorem shw_int {i : Int} (h : i.natAbs.log2 < 1920) : Shw (.int i) 0 1921 := ⟨by simpa [PyData.showable] using h, by simp [PyData.hasDict], by simp [PyData.depth], by simp only [PyData.shown]; exact int_text_len_1921 h⟩
theorem Shw.le {d : PyData} {k n k' n' : Nat} (a : Shw d k n) (hk : k ≤ k') (hn : n ≤ n') : Shw d k' n' := ⟨a.s, a.h, Nat.le_trans a.dp hk, Nat.le_trans a.len hn⟩
theorem shownAll_map : ∀ ds : List PyData, PyData.shownAll ds = ds.map PyData.shown
  | [] => by simp [PyData.shownAll]
  | d :: r => by simp [PyData.shownAll, shownAll_map r]
theorem textFrom_le : ∀ (ts : List Str) (k : Nat) (acc : Str) (n : Nat), (∀ t ∈ ts, t.length ≤ n) → (textFrom k acc ts).length ≤ acc.length + ts.length * (n + 2)
  | [], k, acc, n, _ => by
    show acc.length ≤ acc.length + 0 * (n + 2)
    omega
  | t :: r, k, acc, n, h => by
    have h1 := textFrom_le r (k + 1) (acc ++ (if k > 0 then ", " else "" : String) ++ t) n fun x hx => h x (List.mem_cons_of_mem _ hx)
    have h2 := h t List.mem_cons_self
    rw [strLen_append, strLen_append] at h1
    have h3 : ((if k > 0 then ", " else "" : String) : Str).length ≤ 2 := by split <;> decide +kernel
    show (textFrom (k + 1) _ r).length ≤ acc.length + (r.length + 1) * (n + 2)
    rw [Nat.add_mul]
    omega
theorem shwAll {ds : List PyData} {k n : Nat} (h : ∀ d ∈ ds, Shw d k n) : PyData.showableAll ds = true ∧ PyData.hasDictAll ds = false ∧ PyData.depthAll ds ≤ k ∧ ∀ t ∈ PyData.shownAll ds, t.length ≤ n := by
  induction ds with
  | nil => exact ⟨by simp [PyData.showableAll], by simp [PyData.hasDictAll], by simp [PyData.depthAll], by simp [PyData.shownAll]⟩
  | cons d r ih =>
    obtain ⟨a1, a2, a3, a4⟩ := h d List.mem_cons_self
    obtain ⟨b1, b2, b3, b4⟩ := ih fun x hx => h x (List.mem_cons_of_mem _ hx)
    refine ⟨by simp [PyData.showableAll, a1, b1], by simp [PyData.hasDictAll, a2, b2], ?_, ?_⟩
    · simp only [PyData.depthAll]
      omega
    · intro t ht
      simp only [PyData.shownAll] at ht
      rcases List.mem_cons.mp ht with rfl | ht
      · exact a4
      · exact b4 t ht
theorem shw_list {ds : List PyData} {k n : Nat} (h : ∀ d ∈ ds, Shw d k n) : Shw (.list ds) (k + 1) (ds.length * (n + 2) + 2) := by
  obtain ⟨b1, b2, b3, b4⟩ := shwAll h
  refine ⟨by simpa [PyData.showable] using b1, by simpa [PyData.hasDict] using b2, by simp only [PyData.depth]; omega, ?_⟩
  simp only [PyData.shown]
  unfold listText
  rw [strLen_append]
  have h1 := textFrom_le _ 0 "[" n b4
  rw [shownAll_map, List.length_map] at h1
  rw [shownAll_map]
  have h2 : ((("[" : String) : Str)).length = 1 := by decide +kernel
  have h3 : ((("]" : String) : Str)).length = 1 := by decide +kernel
  omega
/-- a list of truths as data -/
def dBools (bs : List Bool) : PyData := .list (bs.map PyData.bool)
theorem shw_bools (bs : List Bool) : Shw (dBools bs) 1 (bs.length * 7 + 2) := by
  have h := shw_list (ds := bs.map PyData.bool) (k := 0) (n := 5) fun d hd => by
    obtain ⟨b, _, rfl⟩ := List.mem_map.mp hd
    exact shw_bool b
  rw [List.length_map] at h
  exact h
theorem dpAll_bools {K : PySem.W.Frag} {H : Hp} : ∀ bs : List Bool, DpAll K H (bs.map V.bl) (bs.map PyData.bool)
  | [] => .nil
  | b :: r => .cons (.bl b) (dpAll_bools r)
theorem dp_bools {K : PySem.W.Frag} {H : Hp} {a : Addr} {bs : List Bool} (h : SqL K H a (bs.map V.bl)) : Dp K H (.ref a) (dBools bs) := .lst h (dpAll_bools bs)
/-- repr(a list of truths), as rRepr asks -/
theorem repr_bools {K : PySem.W.Frag} {H : Hp} {a : Addr} {bs : List Bool} {Q : VK} (h : H a = some (.lst (bs.map V.bl))) (hn : bs.length ≤ 1000) (q : Q (.str (dBools bs).shown) H) : rRepr K [.ref a] H Q := by
  obtain ⟨s, hd, dp, len⟩ := shw_bools bs
  exact ⟨_, dBools bs, rfl, dp_bools (SqL.of h), s, hd, by omega, Nat.le_trans len (fits_sz (by omega)), q⟩
theorem mem_all {p : V → Bool} {ys : List V} {y : V} (h : ys.all p = true) (hy : y ∈ ys) : p y = true := List.all_eq_true.mp h y hy
def vIn (lo hi : Int) : V → Bool | .int i => decide (lo ≤ i) && decide (i ≤ hi) | _ => false
theorem vIn_of {lo hi : Int} {y : V} (h : vIn lo hi y = true) : ∃ i, y = .int i ∧ lo ≤ i ∧ i ≤ hi := by
  cases y with
  | int i =>
    have h' : (decide (lo ≤ i) && decide (i ≤ hi)) = true := h
    rw [Bool.and_eq_true] at h'
    exact ⟨i, rfl, of_decide_eq_true h'.1, of_decide_eq_true h'.2⟩
  | _ => cases h
theorem pick_int {lo hi : Int} {ys : List V} {y : V} (h : ys.all (vIn lo hi) = true) (hy : y ∈ ys) : ∃ i, y = .int i ∧ lo ≤ i ∧ i ≤ hi := vIn_of (mem_all h hy)
/-- a promise of a part of a law: it is right, c rolls are made -/
def spRight (c : Nat) : Sp := fun vs H Q _ => ∃ (l : Addr) (n : Nat), vs = [.ref l] ∧ Dice H l (n + c) ∧ ∀ H', Kp l H H' → Dice H' l n → Q (.bl true) H'
/-- is_integer: of any value, no size asked -/
def spIsI (K : PySem.W.Frag) (p : V → Bool) : Sp := fun vs H Q _ => ∃ x, vs = [x] ∧ Tyd K H x ∧ ∀ H', Same H H' → Q (.bl (p x)) H'
theorem Dice.new {H : Hp} {l p : Addr} {o : HO} {n : Nat} (d : Dice H l n) (h : H p = none) : Dice (L2.upd H p o) l n := d.upd (d.ne h)
/-- what a drawn odd value is: of a known kind, as long as it stands, and no integer -/
def OddI (K : PySem.W.Frag) (l : Addr) (H : Hp) (y : V) : Prop := (∀ H', Kp l H H' → Tyd K H' y) ∧ isInteger y = false
theorem isI_near {near r : Int} (h0 : 0 ≤ near + r) (s : Int) (hs : s = 1 ∨ s = -1) : isInteger (.int ((near + r) * s)) = decide (near + r < (10 : Int) ^ (60 : Int).toNat) := by
  show decide (((near + r) * s).natAbs < 10 ^ 60) = _
  have e : (10 : Int) ^ (60 : Int).toNat = ((10 ^ 60 : Nat) : Int) := by decide +kernel
  have e2 : ((near + r) * s).natAbs = (near + r).natAbs := by
    rcases hs with rfl | rfl
    · rw [Int.mul_one]
    · rw [Int.mul_neg, Int.mul_one, Int.natAbs_neg]
  rw [e, e2]
  generalize (10 ^ 60 : Nat) = m
  by_cases h : near + r < (m : Int)
  · rw [decide_eq_true h, decide_eq_true (by omega)]
  · rw [decide_eq_false h, decide_eq_false (by omega)]
theorem log_of {i : Int} (h : i.natAbs < 2 ^ 300) : i.natAbs.log2 < 1920 := Nat.lt_of_lt_of_le (PySem.Flt.log2_lt_of (by decide) h) (by decide)
theorem reprB (bs : List Bool) (hn : bs.length ≤ 1000) : (dBools bs).showable = true ∧ (dBools bs).hasDict = false ∧ (dBools bs).depth ≤ 60 ∧ (dBools bs).shown.length ≤ sizeLine := by
  obtain ⟨s, hd, dp, len⟩ := shw_bools bs
  exact ⟨s, hd, by omega, Nat.le_trans len (fits_sz (by omega))⟩
/-! ### texts made of pieces of texts -/
theorem isText_of {z : Str} (h1 : (cs z).length ≤ 8000) (h2 : ∀ c ∈ cs z, lett c = true) : isText (.str z) = true := by
  show (decide ((cs z).length ≤ 8000) && (cs z).all lett) = true
  rw [decide_eq_true h1, List.all_eq_true.mpr h2]
  rfl
theorem isPiece_of {z : Str} (h2 : ∀ c ∈ cs z, lett c = true) : isPiece (.str z) = (decide (1 ≤ (cs z).length) && decide ((cs z).length ≤ 5)) := by
  show (decide (1 ≤ (cs z).length) && decide ((cs z).length ≤ 5) && (cs z).all lett) = _
  rw [List.all_eq_true.mpr h2, Bool.and_true]
theorem isSign_of {z : Str} (h2 : ∀ c ∈ cs z, lett c = true) : isSign (.str z) = decide ((cs z).length = 1) := by
  show (decide ((cs z).length = 1) && (cs z).all lett) = _
  rw [List.all_eq_true.mpr h2, Bool.and_true]
theorem spoilt {z : Str} {c : Nat} (hc : c ∈ cs z) (h : lett c = false) : isText (.str z) = false ∧ isPiece (.str z) = false ∧ isSign (.str z) = false ∧ isWord (.str z) = false := by
  have e : (cs z).all lett = false := by
    cases q : (cs z).all lett with
    | false => rfl
    | true =>
      rw [List.all_eq_true.mp q c hc] at h
      cases h
  refine ⟨?_, ?_, ?_, ?_⟩
  · show (_ && (cs z).all lett) = false
    rw [e, Bool.and_false]
  · show (_ && (cs z).all lett) = false
    rw [e, Bool.and_false]
  · show (_ && (cs z).all lett) = false
    rw [e, Bool.and_false]
  · show (_ && (cs z).all lett) = false
    rw [e, Bool.and_false]
theorem cs_cut (z : Str) (lo hi : Option Int) : cs (cutS z lo hi) = ((cs z).drop (HT.sIx z.length 0 lo)).take (HT.sIx z.length z.length hi - HT.sIx z.length 0 lo) := by
  unfold cutS
  simp
theorem cut_sub {z : Str} {lo hi : Option Int} {c : Nat} (h : c ∈ cs (cutS z lo hi)) : c ∈ cs z := by
  rw [cs_cut] at h
  exact List.mem_of_mem_drop (List.mem_of_mem_take h)
theorem sIx_pos {n d : Nat} {i : Int} (h : 0 ≤ i) : HT.sIx n d (some i) = min i.toNat n := by
  show (if i < 0 then _ else _) = _
  rw [if_neg (by omega)]
theorem cut_len {z : Str} {a b : Int} (ha : 0 ≤ a) (hab : a ≤ b) (hb : b ≤ z.length) : (cs (cutS z (some a) (some b))).length = (b - a).toNat := by
  rw [cs_cut, sIx_pos ha, sIx_pos (by omega), List.length_take, List.length_drop, cs_len]
  omega
theorem cut_lenFrom {z : Str} {a : Int} (ha : 0 ≤ a) (hb : a ≤ z.length) : (cs (cutS z (some a) none)).length = z.length - a.toNat := by
  rw [cs_cut, sIx_pos ha, List.length_take, List.length_drop, cs_len]
  show min (z.length - _) _ = _
  omega
theorem cut_lenTo {z : Str} {b : Int} (h0 : 0 ≤ b) (hb : b ≤ z.length) : (cs (cutS z none (some b))).length = b.toNat := by
  rw [cs_cut, sIx_pos h0, List.length_take, List.length_drop, cs_len]
  show min (min b.toNat z.length - 0) (z.length - 0) = _
  omega
theorem str_app_len (x y : Str) : (x ++ y).length = x.length + y.length := strLen_append x y
/-- two ways joined, whatever the test and the ways do -/
theorem tif_join {t : TT} {ta tb : TE} {σ : L2.St} {H : Hp} {Q : VK} (P : Hp → Prop) (R : V → Hp → Prop) (ht : ∀ N : Bool → Hp → Prop, (∀ c H1, P H1 → N c H1) → t σ H N)
    (ha : ∀ H1, P H1 → ∀ N : VK, (∀ v H2, R v H2 → N v H2) → ta σ H1 N) (hb : ∀ H1, P H1 → ∀ N : VK, (∀ v H2, R v H2 → N v H2) → tb σ H1 N) (hq : ∀ v H2, R v H2 → Q v H2) : tIf t ta tb σ H Q :=
  ht _ fun c H1 p => itB (fun _ => ha H1 p _ hq) (fun _ => hb H1 p _ hq)
/-- a <= b <= c of known ints, as a value -/
theorem chain_le {ta tb tc : TE} {σ : L2.St} {H : Hp} {Q : VK} {a b c : Int} (ha : ∀ N : VK, N (.int a) H → ta σ H N) (hb : ∀ N : VK, N (.int b) H → tb σ H N) (hc : ∀ N : VK, N (.int c) H → tc σ H N)
    (q : Q (.bl (decide (a ≤ b) && decide (b ≤ c))) H) : tChain (rI0 fun i j => .bl (decide (i ≤ j))) (rI0 fun i j => .bl (decide (i ≤ j))) ta tb tc σ H Q := by
  refine ha _ (hb _ ⟨a, b, rfl, rfl, _, rfl, ?_⟩)
  refine itB (fun e => ?_) (fun e => ?_)
  · refine hc _ ⟨b, c, rfl, rfl, ?_⟩
    rw [e] at q
    exact q
  · rw [e] at q
    exact q
theorem odd_of {z : Str} {o : Nat} (h : (cs z).all (fun c => !lett c) = true) (ho : o ∈ z.cps.toList) : lett o = false := by
  have := List.all_eq_true.mp h o ho
  simpa using this
theorem v_int_eq {a b : Int} : decide (V.int a = V.int b) = decide (a = b) := by
  by_cases h : a = b
  · rw [decide_eq_true h, decide_eq_true (by rw [h])]
  · rw [decide_eq_false h, decide_eq_false (fun q => h (V.int.inj q))]
theorem sz_of' {z : Str} (h : z.length ≤ 100000) : szV (.str z) := h
theorem sign_no {z : Str} (h : (cs z).length ≠ 1) : isSign (.str z) = false := by
  show (decide ((cs z).length = 1) && (cs z).all lett) = false
  rw [decide_eq_false h]
  rfl
theorem piece_no {z : Str} (h : 5 < (cs z).length) : isPiece (.str z) = false := by
  show (decide (1 ≤ (cs z).length) && decide ((cs z).length ≤ 5) && (cs z).all lett) = false
  rw [decide_eq_false (by omega : ¬ (cs z).length ≤ 5), Bool.and_false]
  rfl
theorem ne_self {z : Str} : V.bl (!decide (V.str z = V.str z)) = V.bl false := by
  rw [decide_eq_true rfl]
  rfl
theorem is_self {z : Str} : V.bl (decide (V.str z = V.str z)) = V.bl true := by rw [decide_eq_true rfl]
theorem foldl_cat : ∀ (n : Nat) (a acc : Array Nat), ((List.replicate n a).foldl (· ++ ·) acc).toList = acc.toList ++ (List.replicate n a.toList).flatten
  | 0, a, acc => by simp
  | n + 1, a, acc => by
    rw [List.replicate_succ, List.foldl_cons, foldl_cat n a (acc ++ a), List.replicate_succ, List.flatten_cons]
    simp
theorem cs_rep (z : Str) (n : Nat) : cs (sRep z n) = (List.replicate n (cs z)).flatten := by
  have h := foldl_cat n z.cps #[]
  rw [show (#[] : Array Nat).toList = [] from rfl, List.nil_append] at h
  exact h
theorem rep_mem {z : Str} {n c : Nat} (h : c ∈ cs (sRep z n)) : c ∈ cs z := by
  rw [cs_rep] at h
  obtain ⟨l, hl, hc⟩ := List.mem_flatten.mp h
  rw [List.eq_of_mem_replicate hl] at hc
  exact hc
theorem sum_rep : ∀ n k : Nat, (List.replicate n k).sum = n * k
  | 0, k => by simp
  | n + 1, k => by
    rw [List.replicate_succ, List.sum_cons, sum_rep n k, Nat.add_mul]
    omega
theorem rep_len (z : Str) (n : Nat) : (sRep z n).length = n * z.length := by
  rw [← cs_len, cs_rep, List.length_flatten, List.map_replicate, sum_rep, cs_len]
theorem Kp.sameOf {l : Addr} {H H1 H2 : Hp} (s : Same H H1) (k : Kp l H1 H2) (h : H l = none) : Same H H2 := fun b o e => k b o (s b o e) (ne_of_none e h)
def spLaw (K : PySem.W.Frag) : Sp := fun vs H Q _ => ∃ (a : Addr) (ns : List Int), vs = [.ref a] ∧ SqL K H a (ns.map V.int) ∧ ns.length ≤ 63 ∧ ∀ H', Q (.bl true) H'
/-- how many cells are looked at -/
theorem cells_bound {n : Nat} {m : Int} (hm : 1 ≤ m) : 1 ≤ (if (if (n : Int) < m then (n : Int) else m) > 1 then (if (n : Int) < m then (n : Int) else m) else 1) ∧ (if (if (n : Int) < m then (n : Int) else m) > 1 then (if (n : Int) < m then (n : Int) else m) else 1) ≤ m := by
  split <;> split <;> omega
theorem small1000' {n : Nat} (h : n ≤ 100000) : n < sizeLine := Nat.lt_of_le_of_lt h (by decide)
/-- _law_some: drawn items of a row, each at most once -/
def spSome (K : PySem.W.Frag) : Sp := fun vs H Q _ => ∃ (l : Addr) (x : V) (ys : List V) (m n : Nat), vs = [.ref l, x, .int (m : Int)] ∧ Seq K H l x ys ∧ ys.length ≤ 1000 ∧ m ≤ 1000 ∧ Dice H l (n + m) ∧
  ∀ p zs rest H', H p = none → (zs ++ rest).Perm ys → zs.length = min m ys.length → H' p = some (.lst zs) → Kp l H H' → Dice H' l n → Q (.ref p) H'
theorem ix_pos {n : Nat} {r : Int} (h0 : 0 ≤ r) (h1 : r < n) : seqIndex? r n = some r.toNat := (ixN_seq (n := n) (i := r) (j := r.toNat) (by unfold ixN; rw [if_pos h0, if_pos h1])).1
theorem erase_perm {α : Type} : ∀ {l : List α} {k : Nat} {y : α}, l[k]? = some y → (y :: l.eraseIdx k).Perm l
  | [], k, y, h => by simp at h
  | a :: r, 0, y, h => by
    have e : a = y := by simpa using h
    subst e
    exact List.Perm.refl _
  | a :: r, k + 1, y, h => by
    have ih := erase_perm (l := r) (k := k) (y := y) (by simpa using h)
    show (y :: a :: r.eraseIdx k).Perm (a :: r)
    exact (List.Perm.swap a y _).trans (ih.cons a)
theorem big_cut {x c : Int} (h0 : 0 ≤ x) (h : x.natAbs < 2 ^ 2100) (hc : 0 ≤ c) : Big (if x - c > 0 then x - c else 0) := by
  split
  · refine big_of (by omega) ?_
    generalize (2 ^ 2100 : Nat) = M at h ⊢
    omega
  · exact big_zero
theorem atI_neg {α : Type} {xs : List α} {j : Nat} (h : j < xs.length) : atI xs (-(j : Int) - 1) = xs[xs.length - 1 - j]? := by
  have e : ixN xs.length (-(j : Int) - 1) = some (xs.length - 1 - j) := by
    unfold ixN
    rw [if_neg (by omega), if_pos (by omega)]
    congr 1
    omega
  unfold atI
  rw [e]
  rfl
end G
namespace G
open PySem PySem.Spec PyProof.Rows L2
/-! ### comprehensions over anything that is walked, whose parts leave all that was tracked -/
section
variable {α : Type} {J : It} {G : Hp → Prop} {Y : Nat → Hp → V → Hp → Prop}
theorem take_fm {its : List α} {i : Nat} {a : α} {β : Type} (h : α → Option β) (e : its[i]? = some a) : (its.take (i + 1)).filterMap h = (its.take i).filterMap h ++ (h a).toList := by
  rw [List.take_add_one, e, List.filterMap_append]
  cases hh : h a <;> simp [hh]
theorem lcs (its : List α) (w : Walk J its.length G Y) (h : α → Option V) {g : TG} {tt : TT} {te : TE} {vs : List Nat} {σ : L2.St} {H1 : Hp} {D : Addr} {Qd : Hp → Prop} (hD : H1 D = none) (hz : its.length ≤ 1000000) (hG : ∀ H, Same H1 H → G H)
    (hs : ∀ i a x H H', its[i]? = some a → Same H1 H → Y i H x H' → ∀ (N : VK) (M : Hp → Prop), (∀ v H3, h a = some v → Same H H3 → N v H3) → (∀ H3, h a = none → Same H H3 → M H3) →
      g x (wipe σ vs) H' fun σ2 H2 => wipe σ2 vs = wipe σ vs ∧ tt σ2 H2 fun b H3 => if b = true then te σ2 H3 N else M H3)
    (hd : ∀ H, Same H1 H → H D = some (.lst (its.filterMap h)) → Qd H) :
    ∃ W : Nat → Nat → Hp → Prop, (∃ m, W 0 m (upd H1 D (.lst []))) ∧ ∀ i m H, W i m H →
      (J.stop i H ∧ Qd H) ∨ (J.go i H ∧ ∃ Nx : Hp → Prop, (∀ H', Nx H' → ∃ m', m' < m ∧ W (i + 1) m' H') ∧ ∀ x H', J.yld i H x H' → g x (wipe σ vs) H' fun σ2 H2 => wipe σ2 vs = wipe σ vs ∧ tt σ2 H2 fun b H3 =>
        if b = true then te σ2 H3 fun y H4 => ∃ acc, H4 D = some (.lst acc) ∧ acc.length < sizeLine ∧ Nx (upd H4 D (.lst (acc ++ [y]))) else Nx H3) := by
  refine lc_it w (fun i H => Same H1 H ∧ H D = some (.lst ((its.take i).filterMap h))) ⟨same_new hD, upd_same⟩ (fun i H _ p => hG H p.1) ?_ (fun H p => hd H p.1 (by rw [p.2, List.take_length]))
  rintro i x H H' hi ⟨s, e⟩ y
  obtain ⟨a, ha⟩ : ∃ a, its[i]? = some a := ⟨_, List.getElem?_eq_getElem hi⟩
  have short : ((its.take i).filterMap h).length < sizeLine := by
    have h1 := List.length_filterMap_le h (its.take i)
    rw [List.length_take] at h1
    exact Nat.lt_of_le_of_lt (by omega : _ ≤ 1000000) (by decide)
  refine hs i a x H H' ha s y _ _ (fun v H3 hv s3 => ⟨_, s3 _ _ e, short, fun b o q => ?_, ?_⟩) (fun H3 hv s3 => ⟨s.trans s3, ?_⟩)
  · rw [upd_ne (ne_of_none q hD)]
    exact s3 _ _ (s _ _ q)
  · rw [upd_same, take_fm h ha, hv]
    rfl
  · rw [s3 _ _ e, take_fm h ha, hv]
    show _ = some (HO.lst (_ ++ []))
    rw [List.append_nil]
end
/-- the pairs of a dict, each a new tuple -/
def YKV (kvs : List (Key × V)) : Nat → Hp → V → Hp → Prop := fun i H x H' => ∃ T k v, kvs[i]? = some (k, v) ∧ x = .ref T ∧ H T = none ∧ H' = upd H T (.tup [kV k, v])
theorem walk_kv {d : Addr} {o : Obj} {kvs : List (Key × V)} : Walk (Iti d o kvs) kvs.length (fun H => H d = some (.frz o (.dK kvs))) (YKV kvs) :=
  ⟨fun _ _ hi q => ⟨q, hi⟩, fun _ q => ⟨q, Nat.le_refl _⟩, fun _ _ _ _ _ _ y => y⟩
/-- the end of a body: an object that is not changed any more -/
def tFrz (t : TS) : TS := fun D σ H => t { D with nx := fun σ' H' => ∃ d u, H' d = some u ∧ Mut (some u) ∧ ∀ od, D.nx σ' (upd H' d (.frz od u)) } σ H
theorem pss_frz {X : Cx} {body : List Stmt} {t : TS} (h : PSs X body t) : PSs X body (tFrz t) := by
  refine ⟨fun pins s σ H D I hw => thn (h.run pins s σ H _ I hw) fun f s1 q => ?_⟩
  cases f with
  | next =>
    obtain ⟨σ', H', I1, d, u, hd, mu, k⟩ := q
    obtain ⟨od, I2⟩ := I1.lock hd mu
    exact ⟨σ', _, I2, k od⟩
  | brk => exact q
  | cont => exact q
  | ret v => exact q
/-! ### attributes by name -/
theorem lk_at {k : Str} {v : V} {r : List (Str × V)} : List.lookup k ((k, v) :: r) = some v := by
  have e : (k == k) = true := beq_self_eq_true k
  simp only [List.lookup, e]
theorem lk_by {k g : Str} {v : V} {r : List (Str × V)} (h : (k == g) = false) : List.lookup k ((g, v) :: r) = List.lookup k r := by
  simp only [List.lookup, h]
theorem pf_by {f g : Str} {v x : V} {r : List (Str × V)} (h : ¬ g = f) : putF f v ((g, x) :: r) = (g, x) :: putF f v r := if_neg h
/-! ### books -/
abbrev Ps := List (Str × Int)
def kvOf (ps : Ps) : List (Key × V) := ps.map fun p => (Sum.inr p.1, V.int p.2)
def lens (ps : Ps) : List Int := ps.map fun p => (p.1.length : Int)
def fees (ps : Ps) : List Int := ps.map (·.2)
def sgn (ps : Ps) : List Str := (ps.map (·.1)).filter fun z => decide (z.length = 1)
def IsMax (m : Int) (l : List Int) : Prop := m ∈ l ∧ ∀ y ∈ l, y ≤ m
def bookF (d tp ta : Addr) (L M : Int) : List (Str × V) := [("own_prices", .ref d), ("own_pieces", .ref tp), ("own_alphabet", .ref ta), ("own_longest", .int L), ("own_dearest", .int M)]
structure BookAt (C : Addr) (H : Hp) (b : Addr) (ps : Ps) (L M : Int) (dx d tp ta : Addr) (od : Obj) : Prop where
  ob : H b = some (.ins C dx (bookF d tp ta L M))
  dc : H d = some (.frz od (.dK (kvOf ps)))
  pi : H tp = some (.tup (ps.map fun p => V.str p.1))
  al : H ta = some (.tup ((sgn ps).map V.str))
  lo : IsMax L (lens ps)
  de : IsMax M (fees ps)
theorem BookAt.same {C : Addr} {H H' : Hp} {b : Addr} {ps : Ps} {L M : Int} {dx d tp ta : Addr} {od : Obj} (B : BookAt C H b ps L M dx d tp ta od) (s : Same H H') : BookAt C H' b ps L M dx d tp ta od :=
  ⟨s _ _ B.ob, s _ _ B.dc, s _ _ B.pi, s _ _ B.al, B.lo, B.de⟩
section
variable {d tp ta : Addr} {L M : Int}
theorem bf_prices : (bookF d tp ta L M).lookup ("own_prices" : Str) = some (.ref d) := lk_at
theorem bf_pieces : (bookF d tp ta L M).lookup ("own_pieces" : Str) = some (.ref tp) := (lk_by (by decide +kernel)).trans lk_at
theorem bf_alphabet : (bookF d tp ta L M).lookup ("own_alphabet" : Str) = some (.ref ta) := (lk_by (by decide +kernel)).trans ((lk_by (by decide +kernel)).trans lk_at)
theorem bf_longest : (bookF d tp ta L M).lookup ("own_longest" : Str) = some (.int L) := (lk_by (by decide +kernel)).trans ((lk_by (by decide +kernel)).trans ((lk_by (by decide +kernel)).trans lk_at))
theorem bf_dearest : (bookF d tp ta L M).lookup ("own_dearest" : Str) = some (.int M) := (lk_by (by decide +kernel)).trans ((lk_by (by decide +kernel)).trans ((lk_by (by decide +kernel)).trans ((lk_by (by decide +kernel)).trans lk_at)))
theorem bf_no {m : Str} (h1 : (m == ("own_prices" : Str)) = false) (h2 : (m == ("own_pieces" : Str)) = false) (h3 : (m == ("own_alphabet" : Str)) = false) (h4 : (m == ("own_longest" : Str)) = false) (h5 : (m == ("own_dearest" : Str)) = false) :
    (bookF d tp ta L M).lookup m = none := (lk_by h1).trans ((lk_by h2).trans ((lk_by h3).trans ((lk_by h4).trans ((lk_by h5).trans rfl))))
theorem bf_made : putF "own_dearest" (.int M) (putF "own_longest" (.int L) (putF "own_alphabet" (.ref ta) (putF "own_pieces" (.ref tp) (putF "own_prices" (.ref d) [])))) = bookF d tp ta L M := by
  show putF "own_dearest" (.int M) (putF "own_longest" (.int L) (putF "own_alphabet" (.ref ta) (putF "own_pieces" (.ref tp) [(("own_prices" : Str), .ref d)]))) = _
  rw [pf_by (by decide +kernel)]
  show putF "own_dearest" (.int M) (putF "own_longest" (.int L) (putF "own_alphabet" (.ref ta) [(("own_prices" : Str), .ref d), (("own_pieces" : Str), .ref tp)])) = _
  rw [pf_by (by decide +kernel), pf_by (by decide +kernel)]
  show putF "own_dearest" (.int M) (putF "own_longest" (.int L) [(("own_prices" : Str), .ref d), (("own_pieces" : Str), .ref tp), (("own_alphabet" : Str), .ref ta)]) = _
  rw [pf_by (by decide +kernel), pf_by (by decide +kernel), pf_by (by decide +kernel)]
  show putF "own_dearest" (.int M) [(("own_prices" : Str), .ref d), (("own_pieces" : Str), .ref tp), (("own_alphabet" : Str), .ref ta), (("own_longest" : Str), .int L)] = _
  rw [pf_by (by decide +kernel), pf_by (by decide +kernel), pf_by (by decide +kernel), pf_by (by decide +kernel)]
  rfl
end
/-! ### a def of the program as its callers use it (no word of guards) -/
structure HasO (P : Program) (w : World) (K : PySem.W.Frag) (mg : Str → Option Value) (base : Heap) (CX : CXT) (k : Nat) (x : Str) (ps : List Str) (sp : Sp) : Prop where
  ex : ∃ f fd, FnOk P w K mg base CX k f fd ps sp ∧ mg x = some (.ref f) ∧ PySem.W.keepIn K (.ref f) = true ∧ Binds K fd ps []
section
variable {P : Program} {w : World} {K : PySem.W.Frag} {mg : Str → Option Value} {base : Heap} {CX : CXT} {k : Nat} {x qual : Str} {ps : List Str} {sp : Sp}
theorem HasO.toG (F : HasO P w K mg base CX k x ps sp) : Has P w K mg base CX k x ps sp := by
  obtain ⟨f, fd, G, r⟩ := F.ex
  exact ⟨f, fd, .of G, r⟩
theorem HasO.mk' {f : Addr} {fd : FuncData} {st : Stmt} (F : Fun K x qual st f fd) (hm : mg x = some (.ref f)) (hb : Binds K fd ps []) (G : FnOk P w K mg base CX k f fd ps sp) : HasO P w K mg base CX k x ps sp := ⟨f, fd, G, hm, F.kp, hb⟩
end
section
variable {X : Cx} {CX : CXT} {k : Nat} {x : Str} {ps : List Str} {sp : Sp} {E : XK} {p pos : Pos} {e : Expr} {es : List Expr} {t : TA}
theorem pe_hasO (F : HasO X.prog X.w X.K X.mg X.base CX k x ps sp) (hr : Room k X.A) (hx : Passes CX X E) (ha : PA X (e :: es) t) (hl : Gl X x := by rfl)
    (hdb : (x == ("__debug__" : Str)) = false := by decide) (he : starEach (e :: es) X.env = (false, eval e X.env) :: starEach es X.env := by rfl) (hpl : (backTo pos (starEach es X.env)).any (·.1) = false := by rfl) :
    PE X (.Call (.Name x p) (e :: es) [] pos) (tCall sp [] E t) := by
  obtain ⟨f, fd, G, hm, hk, hb⟩ := F.ex
  exact pe_call G hr hl hm hk hb .nil hx ha hdb he hpl
end
/-! ### a dict that a walk locks -/
theorem unlock {H H' : Hp} {a : Addr} {u : HO} {od : Obj} (h : H a = some u) (s : Same (upd H a (.frz od u)) H') : Same H (upd H' a u) := fun b o e => by
  by_cases hb : b = a
  · rw [hb] at e ⊢
    rw [h] at e
    cases e
    exact upd_same
  · rw [upd_ne hb]
    exact s _ _ (by rw [upd_ne hb]; exact e)
theorem lock_ne {H : Hp} {a D : Addr} {o : HO} (h : upd H a o D = none) : D ≠ a := fun e => by
  rw [e, upd_same] at h
  cases h
theorem lock_free {H : Hp} {a D : Addr} {o : HO} (h : upd H a o D = none) : H D = none := by
  rw [upd_ne (lock_ne h)] at h
  exact h
/-- [elt for piece in a dict of texts for sign in piece], elt a value of the sign alone -/
theorem lc2_ks {kvs : List (Key × V)} {zs : List Str} {te : TE} {j1 j2 : Nat} {σ : L2.St} {H1 : Hp} {D d : Addr} {od : Obj} {Qd : Hp → Prop} (hk : kvs.map (·.1) = zs.map Sum.inr) (f : Nat → V) (hd0 : H1 d = some (.frz od (.dK kvs))) (hD : H1 D = none)
    (hz : ((zs.map cs).flatten).length ≤ 100000) (hw : ∀ v, wipe ((wipe σ [j1, j2]).set j1 (some v)) [j1, j2] = wipe σ [j1, j2])
    (hw1 : ∀ v u, wipe ((wipe ((wipe σ [j1, j2]).set j1 (some v)) [j2]).set j2 (some u)) [j2] = wipe ((wipe σ [j1, j2]).set j1 (some v)) [j2])
    (hv : ∀ v, ((wipe σ [j1, j2]).set j1 (some v))[j1]? = some (some v))
    (hs : ∀ z ∈ zs, ∀ c ∈ cs z, ∀ H, Same H1 H → ∀ N : VK, (∀ H', Same H H' → N (f c) H') → te ((wipe ((wipe σ [j1, j2]).set j1 (some (.str z))) [j2]).set j2 (some (chV c))) H N)
    (hd : ∀ H, Same H1 H → H D = some (.lst ((zs.map cs).flatten.map f)) → Qd H) :
    ∃ W : Nat → Nat → Hp → Prop, (∃ m, W 0 m (upd H1 D (.lst []))) ∧ ∀ i m H, W i m H →
      ((Itk d od kvs).stop i H ∧ Qd H) ∨ ((Itk d od kvs).go i H ∧ ∃ Nx : Hp → Prop, (∀ H', Nx H' → ∃ m', m' < m ∧ W (i + 1) m' H') ∧ ∀ x H', (Itk d od kvs).yld i H x H' → gName j1 x (wipe σ [j1, j2]) H' fun σ2 H2 => wipe σ2 [j1, j2] = wipe σ [j1, j2] ∧ tYes σ2 H2 fun b H3 =>
        if b = true then iStr (tVar j1) σ2 H3 fun J1 H4 => ∃ W1 : Nat → Nat → Hp → Prop, (∃ m, W1 0 m H4) ∧ ∀ j k H, W1 j k H →
          (J1.stop j H ∧ Nx H) ∨ (J1.go j H ∧ ∃ Nx1 : Hp → Prop, (∀ H', Nx1 H' → ∃ k', k' < k ∧ W1 (j + 1) k' H') ∧ ∀ x H', J1.yld j H x H' → gName j2 x (wipe σ2 [j2]) H' fun σ3 H5 => wipe σ3 [j2] = wipe σ2 [j2] ∧ tYes σ3 H5 fun b H6 =>
            if b = true then te σ3 H6 fun y H7 => ∃ acc, H7 D = some (.lst acc) ∧ acc.length < sizeLine ∧ Nx1 (upd H7 D (.lst (acc ++ [y]))) else Nx1 H6)
        else Nx H3) := by
  have len : kvs.length = zs.length := by
    have h := congrArg List.length hk
    rwa [List.length_map, List.length_map] at h
  have keep : ∀ {H : Hp} {o : HO}, Same H1 H → Same H1 (upd H D o) := fun s b o e => by
    rw [upd_ne (ne_of_none e hD)]
    exact s _ _ e
  have part : ∀ (i : Nat) (z : Str), zs[i]? = some z → ∀ j, ((((zs.take i).map cs).flatten.map f) ++ ((cs z).take j).map f).length ≤ 100000 := by
    intro i z hi j
    have e1 : zs = zs.take i ++ z :: zs.drop (i + 1) := by
      obtain ⟨hlt, hz'⟩ := List.getElem?_eq_some_iff.mp hi
      rw [← hz', List.getElem_cons_drop, List.take_append_drop]
    have e2 := hz
    rw [e1, List.map_append, List.flatten_append, List.map_cons, List.flatten_cons, List.length_append, List.length_append] at e2
    rw [List.length_append, List.length_map, List.length_map, List.length_take]
    omega
  refine ⟨fun i m H => m = kvs.length - i ∧ i ≤ kvs.length ∧ Same H1 H ∧ H D = some (.lst (((zs.take i).map cs).flatten.map f)), ⟨_, rfl, Nat.zero_le _, same_new hD, upd_same⟩, ?_⟩
  rintro i m H ⟨rfl, hi, s, e⟩
  have fz := s _ _ hd0
  by_cases hlt : i < kvs.length
  · refine .inr ⟨⟨fz, hlt⟩, fun H' => Same H1 H' ∧ H' D = some (.lst (((zs.take (i + 1)).map cs).flatten.map f)), fun H' q => ⟨kvs.length - (i + 1), by omega, rfl, hlt, q⟩, ?_⟩
    rintro x H' ⟨rfl, k, v, ek, rfl⟩
    obtain ⟨z, hz1⟩ : ∃ z, zs[i]? = some z := ⟨_, List.getElem?_eq_getElem (by omega)⟩
    have ez : k = Sum.inr z := by
      have h1 := congrArg (fun l => l[i]?) hk
      simp only [List.getElem?_map, ek, hz1] at h1
      exact Option.some.inj h1
    subst ez
    have hzm := List.mem_of_getElem? hz1
    refine ⟨hw _, _, hv _, z, rfl, fun j k' H' => k' = (cs z).length - j ∧ j ≤ (cs z).length ∧ Same H1 H' ∧ H' D = some (.lst ((((zs.take i).map cs).flatten.map f) ++ ((cs z).take j).map f)), ⟨_, rfl, Nat.zero_le _, s, by simpa using e⟩, ?_⟩
    rintro j k' H2 ⟨rfl, hj, s2, e2⟩
    have lz := cs_len z
    by_cases hjl : j < (cs z).length
    · refine .inr ⟨by show j < z.cps.size; rw [lz] at hjl; exact hjl, fun H' => Same H1 H' ∧ H' D = some (.lst ((((zs.take i).map cs).flatten.map f) ++ ((cs z).take (j + 1)).map f)), fun H' q => ⟨(cs z).length - (j + 1), by omega, rfl, hjl, q⟩, ?_⟩
      rintro x H3 ⟨rfl, c, hc, rfl⟩
      have hc' : (cs z)[j]? = some c := by simpa [cs] using hc
      refine ⟨hw1 _ _, hs z hzm c (List.mem_of_getElem? hc') _ s2 _ fun H4 s4 => ⟨_, s4 _ _ e2, Nat.lt_of_le_of_lt (part i z hz1 j) (by decide), keep (s2.trans s4), ?_⟩⟩
      rw [upd_same, List.append_assoc]
      congr 3
      have : (cs z).take (j + 1) = (cs z).take j ++ [c] := by
        rw [List.take_add_one, hc']
        rfl
      rw [this, List.map_append]
      rfl
    · have ej : j = (cs z).length := by omega
      subst ej
      refine .inl ⟨by show z.cps.size ≤ _; rw [lz]; exact Nat.le_refl _, s2, ?_⟩
      rw [List.take_length] at e2
      rw [e2]
      have : (zs.take (i + 1)).map cs = (zs.take i).map cs ++ [cs z] := by
        rw [List.take_add_one, hz1, List.map_append]
        rfl
      rw [this, List.flatten_append, List.map_append]
      simp
  · have ei : i = kvs.length := by omega
    subst ei
    refine .inl ⟨⟨fz, Nat.le_refl _⟩, hd H s ?_⟩
    rw [len, List.take_length] at e
    exact e
/-! ### the values of a dict, as a view -/
def vwV (d r : Addr) : HO := .ext fun h => h.IsValuesView r d
section
variable {X : Cx}
theorem mt_values : MtR X "dict.values" (fun x xs H Q => ∃ d kvs, x = .ref d ∧ xs = [] ∧ Rd H d (.dK kvs) ∧ ∀ r, H r = none → Q (.ref r) (upd H r (vwV d r))) := by
  intro pins s σ H x xs v us Q I rx rs h
  obtain ⟨d, kvs, rfl, rfl, hd, q⟩ := h
  cases rx
  cases rs
  obtain ⟨_, low, vs, _, hdo⟩ := dk_rd I.hok hd
  refine call_meetsIn PySem.F.slot_dict_values hdo.typeIs PySem.F.entry_dict_values (PySem.F.args_dict_values_1 _) (meets_dict_values (mixKind X.prog X.w) d low) ⟨⟨vs, hdo⟩, ?_⟩
  have view : (s.heap.push { cls := .type "dict_values", data := .fields #[.ref d] }).IsValuesView s.heap.objs.size d := ⟨_, Heap.get?_push_size _ rfl, rfl, rfl⟩
  refine ⟨.ref s.heap.objs.size, _, I.laid (o := vwV d s.heap.objs.size) (fun _ _ e => Heap.get?_push_of_some _ e) (Nat.le_refl _) ⟨view, ⟨_, Heap.get?_push_size _ rfl⟩, ?_⟩, rfl, q _ (I.hok.fresh (Nat.le_refl _))⟩
  rintro h1 h2 ⟨o, a, b, c⟩ k
  exact ⟨o, k o a, b, c⟩
theorem call_listVw (hc : X.calm = true) : CallR X (.type "list") (fun xs H Q => ∃ r d kvs, xs = [.ref r] ∧ H r = some (vwV d r) ∧ Rd H d (.dK kvs) ∧ ∀ p, H p = none → Q (.ref p) (upd H p (.lst (kvs.map (·.2))))) := by
  intro pins s σ H xs us Q I rs h
  obtain ⟨r, d, kvs, rfl, hr, hd, q⟩ := h
  obtain ⟨u, rfl, ru⟩ := vals1 rs
  cases ru
  obtain ⟨short, low, vs, rel, hdo⟩ := dk_rd I.hok hd
  obtain ⟨ep, at'⟩ := hdo.dictAt
  have view : s.heap.IsValuesView r d := (I.hok r _ hr).1
  have nl : kvs.length = vs.length := rel.length
  refine PySem.W.kdl_call (PySem.W.kdl_values (knd := mixKind X.prog X.w) (kvs := vs) (ep := ep)) (I.ok.hd hc) ⟨view, at'⟩ (by omega) ?_
  intro h' tk acc c' keeps new items
  have va : Vals (kvs.map (·.2)) acc.toList := vals_at _ _ (by rw [Array.length_toList, List.length_map, items.1, nl]) fun j w hw => by
    obtain ⟨k, hk⟩ := items.2 j w (by simpa using hw)
    obtain ⟨p, hp, rp⟩ : ∃ p, kvs[j]? = some p ∧ RelV p.2 w := by
      have jl : j < kvs.length := by
        have := (List.getElem?_eq_some_iff.mp hk).1
        omega
      refine ⟨kvs[j], List.getElem?_eq_getElem jl, ?_⟩
      obtain ⟨y, hy, ry⟩ := LiI.paired_get rel (List.getElem?_eq_getElem jl)
      rw [hk] at hy
      cases hy
      exact ry.2
    exact ⟨p.2, by rw [List.getElem?_map, hp]; rfl, rp⟩
  refine ⟨.ref s.heap.objs.size, _, I.laid (t' := tk) (o := .lst (kvs.map (·.2))) keeps (Nat.le_refl _) ⟨by rw [List.length_map]; exact short, acc.toList, c', va, by simpa using new⟩, rfl, q _ (I.hok.fresh (Nat.le_refl _))⟩
/-- len of a dict, locked or not -/
theorem call_lenF : CallR X (.builtin "len") (fun xs H Q => ∃ a kvs, xs = [V.ref a] ∧ Rd H a (.dK kvs) ∧ Q (.int (kvs.length : Int)) H) := by
  intro pins s σ H xs us Q I rs h
  obtain ⟨a, kvs, rfl, ha, q⟩ := h
  obtain ⟨u, rfl, ru⟩ := vals1 rs
  cases ru
  exact d_len I (by first | exact ha | exact Or.inl ha) fun t s' J => ⟨.int kvs.length, H, J, ⟨t, rfl⟩, q⟩
end
/-! ### what a dict of prices is -/
def inRange (x : V) (a b : Int) : Bool := match x with | .int i => decide (i.natAbs < 10 ^ 60) && (decide (a ≤ i) && decide (i ≤ b)) | _ => false
def isPrice (x : V) : Bool := inRange x 1 99
def keyStrs (kvs : List (Key × V)) : List Str := kvs.filterMap fun kv => match kv.1 with | .inr z => some z | .inl _ => none
def arePrices (kvs : List (Key × V)) : Bool :=
  (decide (1 ≤ (kvs.length : Int)) && decide ((kvs.length : Int) ≤ 12)) && (kvs.all fun kv => isPiece (kV kv.1) && isPrice kv.2) && decide (((keyStrs kvs).filter fun z => decide ((cs z).length = 1)).length ≤ 4) &&
    ((keyStrs kvs).map cs).flatten.all fun c => (valV kvs (Sum.inr (ch c))).isSome
/-- what was tracked is so still, or locked -/
def Sim (H H' : Hp) : Prop := ∀ b o, H b = some o → H' b = some o ∨ ∃ od, H' b = some (.frz od o)
theorem Sim.of {H H' : Hp} (s : Same H H') : Sim H H' := fun b o e => Or.inl (s b o e)
theorem Sim.lock {H : Hp} {a : Addr} {u : HO} {od : Obj} (h : H a = some u) : Sim H (upd H a (.frz od u)) := fun b o e => by
  by_cases hb : b = a
  · rw [hb] at e ⊢
    rw [h] at e
    cases e
    exact Or.inr ⟨od, upd_same⟩
  · exact Or.inl (by rw [upd_ne hb]; exact e)
theorem Sim.then {H H1 H2 : Hp} (a : Sim H H1) (s : Same H1 H2) : Sim H H2 := fun b o e => by
  rcases a b o e with h | ⟨od, h⟩
  · exact Or.inl (s _ _ h)
  · exact Or.inr ⟨od, s _ _ h⟩
theorem Sim.after {H H1 H2 : Hp} (s : Same H H1) (a : Sim H1 H2) : Sim H H2 := fun b o e => a b o (s b o e)
/-- of a known kind, as long as it stands, locked or not -/
def TydS (K : PySem.W.Frag) (H : Hp) (x : V) : Prop := ∀ H', Sim H H' → Tyd K H' x
section
variable {K : PySem.W.Frag} {H : Hp}
theorem TydS.now {x : V} (t : TydS K H x) : Tyd K H x := t H (.of (Same.refl H))
theorem TydS.same {H' : Hp} {x : V} (t : TydS K H x) (s : Same H H') : TydS K H' x := fun H2 z => t H2 (Sim.after s z)
theorem tydS_non : TydS K H .non := fun _ _ => tyd_non
theorem tydS_bl (b : Bool) : TydS K H (.bl b) := fun _ _ => tyd_bl b
theorem tydS_int (i : Int) : TydS K H (.int i) := fun _ _ => tyd_int i
theorem tydS_str (z : Str) : TydS K H (.str z) := fun _ _ => tyd_str z
theorem tydS_lst {a : Addr} {xs : List V} (h : H a = some (.lst xs)) : TydS K H (.ref a) := fun H' z => by
  rcases z a _ h with h | ⟨od, h⟩
  · exact tyd_lst h
  · exact tyd_of (a := false) (b := false) (c := false) (.base (.frz h)) (by decide +kernel) (by decide +kernel) (by decide +kernel) rfl rfl rfl
theorem tydS_tup {a : Addr} {xs : List V} (h : H a = some (.tup xs)) : TydS K H (.ref a) := fun H' z => by
  rcases z a _ h with h | ⟨od, h⟩
  · exact tyd_tup h
  · exact tyd_of (a := false) (b := false) (c := false) (.fTuple h) (by decide +kernel) (by decide +kernel) (by decide +kernel) rfl rfl rfl
theorem tydS_dK {a : Addr} {kvs : List (Key × V)} (h : H a = some (.dK kvs)) : TydS K H (.ref a) := fun H' z => by
  rcases z a _ h with h | ⟨od, h⟩
  · exact tyd_dK h
  · exact tyd_of (a := false) (b := false) (c := false) (.fDict h) (by decide +kernel) (by decide +kernel) (by decide +kernel) rfl rfl rfl
end
def KvOk (K : PySem.W.Frag) (H : Hp) (kvs : List (Key × V)) : Prop := ∀ kv ∈ kvs, szV (kV kv.1) ∧ TydS K H kv.2
theorem tyd_key {K : PySem.W.Frag} {H : Hp} (k : Key) : Tyd K H (kV k) := by
  cases k with
  | inl i => exact tyd_int i
  | inr z => exact tyd_str z
def spWithin (K : PySem.W.Frag) : Sp := fun vs H Q _ => ∃ x a b, vs = [x, .int a, .int b] ∧ Tyd K H x ∧ ∀ H', Same H H' → Q (.bl (inRange x a b)) H'
def spArePrices (K : PySem.W.Frag) : Sp := fun vs H Q _ => ∃ x, vs = [x] ∧
  ((∃ t, TyX K H x t ∧ PySem.W.kitOne K t (.type "dict") = some false ∧ ∀ H', Same H H' → Q (.bl false) H') ∨
   ∃ a kvs, x = .ref a ∧ H a = some (.dK kvs) ∧ kvs.length ≤ 1000 ∧ KvOk K H kvs ∧ ∀ H', Same H H' → Q (.bl (arePrices kvs)) H')
theorem piece_key {k : Key} (h : isPiece (kV k) = true) : ∃ z, k = Sum.inr z ∧ 1 ≤ (cs z).length ∧ (cs z).length ≤ 5 ∧ ∀ c ∈ cs z, lett c = true := by
  cases k with
  | inl i => cases h
  | inr z =>
    have h' : (decide (1 ≤ (cs z).length) && decide ((cs z).length ≤ 5) && (cs z).all lett) = true := h
    rw [Bool.and_eq_true, Bool.and_eq_true] at h'
    exact ⟨z, rfl, of_decide_eq_true h'.1.1, of_decide_eq_true h'.1.2, List.all_eq_true.mp h'.2⟩
theorem keys_of {kvs : List (Key × V)} (h : (kvs.all fun kv => isPiece (kV kv.1) && isPrice kv.2) = true) : kvs.map (·.1) = (keyStrs kvs).map Sum.inr := by
  induction kvs with
  | nil => rfl
  | cons a r ih =>
    rw [List.all_cons, Bool.and_eq_true, Bool.and_eq_true] at h
    obtain ⟨z, ez, _⟩ := piece_key h.1.1
    obtain ⟨k, v⟩ := a
    dsimp only at ez
    subst ez
    show Sum.inr z :: _ = Sum.inr z :: _
    rw [ih h.2]
    rfl
theorem keyStrs_piece {kvs : List (Key × V)} (h : (kvs.all fun kv => isPiece (kV kv.1) && isPrice kv.2) = true) : ∀ z ∈ keyStrs kvs, 1 ≤ (cs z).length ∧ (cs z).length ≤ 5 ∧ ∀ c ∈ cs z, lett c = true := by
  intro z hz
  obtain ⟨kv, hkv, e⟩ := List.mem_filterMap.mp hz
  have h1 := List.all_eq_true.mp h kv hkv
  rw [Bool.and_eq_true] at h1
  obtain ⟨y, ey, r⟩ := piece_key h1.1
  obtain ⟨k, v⟩ := kv
  dsimp only at ey e
  subst ey
  cases e
  exact r
theorem flat_len {zs : List Str} (h : ∀ z ∈ zs, (cs z).length ≤ 5) : ((zs.map cs).flatten).length ≤ 5 * zs.length := by
  induction zs with
  | nil => exact Nat.zero_le _
  | cons a r ih =>
    rw [List.map_cons, List.flatten_cons, List.length_append, List.length_cons]
    have h1 := h a List.mem_cons_self
    have h2 := ih fun z hz => h z (List.mem_cons_of_mem _ hz)
    omega
theorem singles : ∀ kvs : List (Key × V), (kvs.filterMap fun kv => match kv.1 with | .inr z => if decide ((cs z).length = 1) = true then some (V.str z) else none | .inl _ => none) = ((keyStrs kvs).filter fun z => decide ((cs z).length = 1)).map V.str
  | [] => rfl
  | (.inl i, v) :: r => singles r
  | (.inr z, v) :: r => by
    have ih := singles r
    have e : keyStrs ((Sum.inr z, v) :: r) = z :: keyStrs r := rfl
    rw [e, List.filter_cons, List.filterMap_cons]
    dsimp only
    cases h : decide ((cs z).length = 1) with
    | true =>
      rw [if_pos rfl, if_pos rfl, List.map_cons, ih]
    | false =>
      rw [if_neg Bool.false_ne_true, if_neg Bool.false_ne_true, ih]
/-! ### dict comprehensions; walks of lists and tuples told by a function -/
section
variable {α : Type} {J : It} {G : Hp → Prop} {Y : Nat → Hp → V → Hp → Prop}
theorem valV_none {κ : Type} [DecidableEq κ] {kvs : List (κ × V)} {k : κ} (h : k ∉ kvs.map (·.1)) : valV kvs k = none := by
  cases e : valV kvs k with
  | none => rfl
  | some v => exact absurd (valV_in e) h
theorem dcs (its : List α) (w : Walk J its.length G Y) (h : α → Key × V) (nd : (its.map fun a => (h a).1).Nodup) {g : TG} {tt : TT} {tk tv : TE} {vs : List Nat} {σ : L2.St} {H1 : Hp} {D : Addr} {Qd : Hp → Prop} (hD : H1 D = none) (hz : its.length ≤ 100000) (hG : ∀ H, Same H1 H → G H)
    (hs : ∀ i a x H H', its[i]? = some a → Same H1 H → Y i H x H' → ∀ (N : V → V → Hp → Prop) (M : Hp → Prop), (∀ H3, Same H H3 → N (kV (h a).1) (h a).2 H3) →
      g x (wipe σ vs) H' fun σ2 H2 => wipe σ2 vs = wipe σ vs ∧ tt σ2 H2 fun b H3 => if b = true then tk σ2 H3 fun y H4 => tv σ2 H4 fun z H5 => N y z H5 else M H3)
    (hd : ∀ H, Same H1 H → H D = some (.dK (its.map h)) → Qd H) :
    ∃ W : Nat → Nat → Hp → Prop, (∃ m, W 0 m (upd H1 D (.dK []))) ∧ ∀ i m H, W i m H →
      (J.stop i H ∧ Qd H) ∨ (J.go i H ∧ ∃ Nx : Hp → Prop, (∀ H', Nx H' → ∃ m', m' < m ∧ W (i + 1) m' H') ∧ ∀ x H', J.yld i H x H' → g x (wipe σ vs) H' fun σ2 H2 => wipe σ2 vs = wipe σ vs ∧ tt σ2 H2 fun b H3 =>
        if b = true then tk σ2 H3 fun y H4 => tv σ2 H4 fun z H5 => ∃ kvs k, y = kV k ∧ H5 D = some (.dK kvs) ∧ kvs.length < sizeLine ∧ Nx (upd H5 D (.dK (putK kvs k z))) else Nx H3) := by
  refine ⟨fun i m H => m = its.length - i ∧ i ≤ its.length ∧ Same H1 H ∧ H D = some (.dK ((its.take i).map h)), ⟨_, rfl, Nat.zero_le _, same_new hD, upd_same⟩, ?_⟩
  rintro i m H ⟨rfl, hi, s, e⟩
  by_cases hlt : i < its.length
  · obtain ⟨a, ha⟩ : ∃ a, its[i]? = some a := ⟨_, List.getElem?_eq_getElem hlt⟩
    refine .inr ⟨w.goes i H hlt (hG H s), fun H' => Same H1 H' ∧ H' D = some (.dK ((its.take (i + 1)).map h)), fun H' q => ⟨its.length - (i + 1), by omega, rfl, hlt, q⟩, ?_⟩
    intro x H' y
    refine hs i a x H H' ha s (w.yields i H x H' hlt (hG H s) y) _ _ fun H3 s3 => ⟨_, (h a).1, rfl, s3 _ _ e, ?_, fun b o q => ?_, ?_⟩
    · rw [List.length_map, List.length_take]
      exact Nat.lt_of_le_of_lt (by omega : _ ≤ 100000) (by decide)
    · rw [upd_ne (ne_of_none q hD)]
      exact s3 _ _ (s _ _ q)
    · have e1 : its.take (i + 1) = its.take i ++ [a] := by
        rw [List.take_add_one, ha]
        rfl
      have e2 : valV ((its.take i).map h) (h a).1 = none := valV_none fun m => by
        rw [List.map_map] at m
        have nd' : ((its.take (i + 1)).map fun a => (h a).1).Nodup := nd.sublist ((List.take_sublist _ _).map _)
        rw [e1, List.map_append] at nd'
        exact (List.nodup_append.mp nd').2.2 _ m _ (List.mem_singleton.mpr rfl) rfl
      rw [upd_same, putK_new _ e2, e1, List.map_append]
      rfl
  · have ei : i = its.length := by omega
    subst ei
    refine .inl ⟨w.stops H (hG H s), hd H s ?_⟩
    rw [e, List.take_length]
end
theorem walk_listF {β : Type} {K : PySem.W.Frag} {a : Addr} (f : β → V) (ys : List β) : Walk (Itl K a) ys.length (fun H => SqL K H a (ys.map f)) (fun i H x H' => H' = H ∧ ∃ b, ys[i]? = some b ∧ x = f b) := by
  have w := walk_list (K := K) (a := a) (xs := ys.map f)
  rw [List.length_map] at w
  refine w.mono (fun _ h => h) ?_
  rintro i H x H' hi _ ⟨rfl, hx⟩
  rw [List.getElem?_map] at hx
  cases e : ys[i]? with
  | none =>
    rw [e] at hx
    cases hx
  | some b =>
    rw [e] at hx
    exact ⟨rfl, b, rfl, (Option.some.inj hx).symm⟩
theorem walk_tupF {β : Type} {K : PySem.W.Frag} {a : Addr} (f : β → V) (ys : List β) : Walk (Itt K a) ys.length (fun H => SqT K H a (ys.map f)) (fun i H x H' => H' = H ∧ ∃ b, ys[i]? = some b ∧ x = f b) := by
  have w := walk_tup (K := K) (a := a) (xs := ys.map f)
  rw [List.length_map] at w
  refine w.mono (fun _ h => h) ?_
  rintro i H x H' hi _ ⟨rfl, hx⟩
  rw [List.getElem?_map] at hx
  cases e : ys[i]? with
  | none =>
    rw [e] at hx
    cases hx
  | some b =>
    rw [e] at hx
    exact ⟨rfl, b, rfl, (Option.some.inj hx).symm⟩
/-! ### a book is made -/
def priceIn (kvs : List (Key × V)) (z : Str) : Int := match valV kvs (Sum.inr z) with | some (.int p) => p | _ => 0
def psOf (kvs : List (Key × V)) (ys : List Str) : Ps := ys.map fun z => (z, priceIn kvs z)
theorem fm_some {α β : Type} (f : α → β) (l : List α) : l.filterMap (fun a => some (f a)) = l.map f := by
  rw [List.filterMap_eq_map']
theorem price_of_key {kvs : List (Key × V)} (h : (kvs.all fun kv => isPiece (kV kv.1) && isPrice kv.2) = true) {z : Str} (hz : z ∈ keyStrs kvs) : valV kvs (Sum.inr z) = some (.int (priceIn kvs z)) ∧ 1 ≤ priceIn kvs z ∧ priceIn kvs z ≤ 99 := by
  have hm : (Sum.inr z : Key) ∈ kvs.map (·.1) := by
    rw [keys_of h]
    exact List.mem_map.mpr ⟨z, hz, rfl⟩
  cases e : valV kvs (Sum.inr z : Key) with
  | none => exact absurd hm (valV_not e)
  | some v =>
    obtain ⟨kv, hkv, e1⟩ : ∃ kv ∈ kvs, kv.2 = v := by
      unfold valV at e
      cases e2 : kvs.find? (fun kv => decide (kv.1 = (Sum.inr z : Key))) with
      | none =>
        rw [e2] at e
        cases e
      | some kv =>
        rw [e2] at e
        exact ⟨kv, List.mem_of_find?_eq_some e2, Option.some.inj e⟩
    have h1 := List.all_eq_true.mp h kv hkv
    rw [Bool.and_eq_true] at h1
    have h2 := h1.2
    rw [e1] at h2
    cases v with
    | int p =>
      have h3 : (decide (p.natAbs < 10 ^ 60) && (decide (1 ≤ p) && decide (p ≤ 99))) = true := h2
      rw [Bool.and_eq_true, Bool.and_eq_true] at h3
      have e3 : priceIn kvs z = p := by
        unfold priceIn
        rw [e]
      rw [e3]
      exact ⟨rfl, of_decide_eq_true h3.2.1, of_decide_eq_true h3.2.2⟩
    | _ => cases h2
theorem ap_parts {kvs : List (Key × V)} (h : arePrices kvs = true) : (1 ≤ kvs.length ∧ kvs.length ≤ 12) ∧ (kvs.all fun kv => isPiece (kV kv.1) && isPrice kv.2) = true ∧ ((keyStrs kvs).filter fun z => decide ((cs z).length = 1)).length ≤ 4 ∧
    (((keyStrs kvs).map cs).flatten.all fun c => (valV kvs (Sum.inr (ch c))).isSome) = true := by
  unfold arePrices at h
  rw [Bool.and_eq_true, Bool.and_eq_true, Bool.and_eq_true, Bool.and_eq_true] at h
  obtain ⟨⟨⟨⟨a, b⟩, c⟩, d⟩, e⟩ := h
  have a' := of_decide_eq_true a
  have b' := of_decide_eq_true b
  exact ⟨⟨by omega, by omega⟩, c, of_decide_eq_true d, e⟩
theorem not_there {H H' : Hp} {a : Addr} (s : Same H H') (h : H' a = none) : H a = none := by
  cases e : H a with
  | none => rfl
  | some o =>
    rw [s _ _ e] at h
    cases h
theorem nd_of_map {α β : Type} {f : α → β} {l : List α} (h : (l.map f).Nodup) : l.Nodup := List.Pairwise.of_map f (fun _ _ n e => n (congrArg f e)) h
theorem nd_map {α β : Type} {f : α → β} (hf : ∀ a b, f a = f b → a = b) {l : List α} (h : l.Nodup) : (l.map f).Nodup := List.Pairwise.map f (fun a b n e => n (hf a b e)) h
section
variable {x y z u v : V}
theorem pf2 : putF "own_pieces" y [(("own_prices" : Str), x)] = [(("own_prices" : Str), x), ("own_pieces", y)] := by
  rw [pf_by (by decide +kernel)]
  rfl
theorem pf3 : putF "own_alphabet" z [(("own_prices" : Str), x), ("own_pieces", y)] = [(("own_prices" : Str), x), ("own_pieces", y), ("own_alphabet", z)] := by
  rw [pf_by (by decide +kernel), pf_by (by decide +kernel)]
  rfl
theorem pf4 : putF "own_longest" u [(("own_prices" : Str), x), ("own_pieces", y), ("own_alphabet", z)] = [(("own_prices" : Str), x), ("own_pieces", y), ("own_alphabet", z), ("own_longest", u)] := by
  rw [pf_by (by decide +kernel), pf_by (by decide +kernel), pf_by (by decide +kernel)]
  rfl
theorem pf5 : putF "own_dearest" v [(("own_prices" : Str), x), ("own_pieces", y), ("own_alphabet", z), ("own_longest", u)] = [(("own_prices" : Str), x), ("own_pieces", y), ("own_alphabet", z), ("own_longest", u), ("own_dearest", v)] := by
  rw [pf_by (by decide +kernel), pf_by (by decide +kernel), pf_by (by decide +kernel), pf_by (by decide +kernel)]
  rfl
end
theorem sgn_fm (kvs : List (Key × V)) (ys : List Str) : (ys.filterMap fun z => if decide ((cs z).length = 1) = true then some (V.str z) else none) = (sgn (psOf kvs ys)).map V.str := by
  induction ys with
  | nil => rfl
  | cons z r ih =>
    have e : sgn (psOf kvs (z :: r)) = if decide (z.length = 1) = true then z :: sgn (psOf kvs r) else sgn (psOf kvs r) := by
      unfold sgn psOf
      rw [List.map_cons, List.map_cons, List.filter_cons]
    rw [e, List.filterMap_cons, cs_len, ih]
    cases decide (z.length = 1) <;> rfl
theorem kv_keys (ps : Ps) : (kvOf ps).map (fun kv => kV kv.1) = ps.map fun p => V.str p.1 := by
  unfold kvOf
  rw [List.map_map]
  rfl
theorem kv_vals (ps : Ps) : (kvOf ps).map (·.2) = (fees ps).map V.int := by
  unfold kvOf fees
  rw [List.map_map, List.map_map]
  rfl
/-- Book.__init__ on a right dict -/
def spBook (C : Addr) (K : PySem.W.Frag) : Sp := fun vs H Q _ => ∃ (b dx a : Addr) (kvs : List (Key × V)), vs = [.ref b, .ref a] ∧ H b = some (.ins C dx []) ∧ H a = some (.dK kvs) ∧ KvOk K H kvs ∧ arePrices kvs = true ∧ (kvs.map (·.1)).Nodup ∧
  ∀ H' ys L M d tp ta od, ys.Perm (keyStrs kvs) → sortedS ys = true → BookAt C H' b (psOf kvs ys) L M dx d tp ta od → (∀ c o, H c = some o → c ≠ b → H' c = some o) → Q .non H'
end G
/-! Cheapest prices, in plain Lean: cuts by a tariff, the least fee. -/
namespace G
open PySem PySem.Spec PyProof.Rows L2
abbrev Tf := Str → Option Int
def Cut (F : Tf) (l : List Nat) (c : Ps) : Prop := (∀ p ∈ c, F p.1 = some p.2) ∧ (c.map fun p => cs p.1).flatten = l
def fee (c : Ps) : Int := (c.map (·.2)).sum
def Least (F : Tf) (l : List Nat) (m : Int) : Prop := (∃ c, Cut F l c ∧ fee c = m) ∧ ∀ c, Cut F l c → m ≤ fee c
def Over (F : Tf) (l : List Nat) : Prop := ∀ c ∈ l, ∃ p, F (ch c) = some p
structure Good (F : Tf) : Prop where
  pos : ∀ z p, F z = some p → 1 ≤ p ∧ p ≤ 99
  len : ∀ z p, F z = some p → 1 ≤ (cs z).length ∧ (cs z).length ≤ 5
  cov : ∀ z p, F z = some p → Over F (cs z)
open Classical in
noncomputable def lp (F : Tf) (l : List Nat) : Int := if h : ∃ m, Least F l m then h.choose else 0
section
variable {F F1 F2 : Tf} {l a b : List Nat} {m n : Int} {c d : Ps} {z : Str} {p : Int}
theorem Least.uniq (h : Least F l m) (k : Least F l n) : m = n := by
  obtain ⟨⟨c, hc, rfl⟩, hm⟩ := h
  obtain ⟨⟨d, hd, rfl⟩, hn⟩ := k
  have := hm d hd
  have := hn c hc
  omega
theorem lp_of (h : Least F l m) : lp F l = m := by
  have hx : ∃ m, Least F l m := ⟨m, h⟩
  unfold lp
  rw [dif_pos hx]
  exact hx.choose_spec.uniq h
theorem fee_app : fee (c ++ d) = fee c + fee d := by
  unfold fee
  rw [List.map_append, List.sum_append]
theorem Cut.app (h : Cut F a c) (k : Cut F b d) : Cut F (a ++ b) (c ++ d) := by
  refine ⟨fun p hp => ?_, ?_⟩
  · rcases List.mem_append.mp hp with q | q
    · exact h.1 p q
    · exact k.1 p q
  · rw [List.map_append, List.flatten_append, h.2, k.2]
theorem Cut.one (h : F z = some p) : Cut F (cs z) [(z, p)] := ⟨fun q hq => by rw [List.mem_singleton.mp hq]; exact h, by simp⟩
theorem Cut.nil : Cut F [] [] := ⟨fun _ h => (List.not_mem_nil h).elim, rfl⟩
theorem fee_one : fee [(z, p)] = p := by simp [fee]
theorem fee_nil : fee [] = 0 := rfl
theorem fee_cons {q : Str × Int} : fee (q :: c) = q.2 + fee c := rfl
theorem fee_pos (G : Good F) : ∀ c : Ps, (∀ p ∈ c, F p.1 = some p.2) → 0 ≤ fee c
  | [], _ => Int.le_refl _
  | q :: r, h => by
    have h1 := (G.pos _ _ (h q List.mem_cons_self)).1
    have h2 := fee_pos G r fun p hp => h p (List.mem_cons_of_mem _ hp)
    rw [fee_cons]
    omega
theorem cut_ex (o : Over F l) : ∃ c, Cut F l c := by
  induction l with
  | nil => exact ⟨[], Cut.nil⟩
  | cons x r ih =>
    obtain ⟨c, hc⟩ := ih fun y hy => o y (List.mem_cons_of_mem _ hy)
    obtain ⟨p, hp⟩ := o x List.mem_cons_self
    exact ⟨_, (Cut.one hp).app hc⟩
theorem least_ex (G : Good F) (o : Over F l) : ∃ m, Least F l m := by
  obtain ⟨c0, h0⟩ := cut_ex o
  have go : ∀ n : Nat, ∀ c, Cut F l c → (fee c).toNat = n → ∃ m, Least F l m := by
    intro n
    induction n using Nat.strongRecOn with
    | ind n ih =>
      intro c hc hn
      by_cases hx : ∃ d, Cut F l d ∧ fee d < fee c
      · obtain ⟨d, hd, lt⟩ := hx
        have := fee_pos G d hd.1
        exact ih (fee d).toNat (by omega) d hd rfl
      · refine ⟨fee c, ⟨c, hc, rfl⟩, fun d hd => ?_⟩
        by_cases q : fee c ≤ fee d
        · exact q
        · exact absurd ⟨d, hd, by omega⟩ hx
  exact go _ c0 h0 rfl
theorem lp_least (G : Good F) (o : Over F l) : Least F l (lp F l) := by
  obtain ⟨m, h⟩ := least_ex G o
  rw [lp_of h]
  exact h
theorem lp_nil (G : Good F) : lp F [] = 0 := lp_of ⟨⟨[], Cut.nil, rfl⟩, fun c hc => fee_pos G c hc.1⟩
theorem lp_le (G : Good F) (h : Cut F l c) (o : Over F l) : lp F l ≤ fee c := (lp_least G o).2 c h
theorem lp_cut (G : Good F) (o : Over F l) : ∃ c, Cut F l c ∧ fee c = lp F l := (lp_least G o).1
theorem Over.app (h : Over F a) (k : Over F b) : Over F (a ++ b) := fun c hc => by
  rcases List.mem_append.mp hc with q | q
  · exact h c q
  · exact k c q
theorem Over.left (h : Over F (a ++ b)) : Over F a := fun c hc => h c (List.mem_append_left _ hc)
theorem Over.right (h : Over F (a ++ b)) : Over F b := fun c hc => h c (List.mem_append_right _ hc)
theorem Over.take (h : Over F l) (i : Nat) : Over F (l.take i) := fun c hc => h c (List.mem_of_mem_take hc)
theorem Over.drop (h : Over F l) (i : Nat) : Over F (l.drop i) := fun c hc => h c (List.mem_of_mem_drop hc)
theorem lp_add (G : Good F) (ha : Over F a) (hb : Over F b) : lp F (a ++ b) ≤ lp F a + lp F b := by
  obtain ⟨c, hc, e1⟩ := lp_cut G ha
  obtain ⟨d, hd, e2⟩ := lp_cut G hb
  have := lp_le G (hc.app hd) (ha.app hb)
  rw [fee_app, e1, e2] at this
  exact this
theorem lp_piece (G : Good F) (h : F z = some p) : lp F (cs z) ≤ p := by
  have := lp_le G (Cut.one h) (G.cov z p h)
  rwa [fee_one] at this
theorem lp_app (G : Good F) (ha : Over F a) (h : F z = some p) : lp F (a ++ cs z) ≤ lp F a + p := by
  have h1 := lp_add G ha (G.cov z p h)
  have h2 := lp_piece G h
  omega
/-- the last piece of a cheapest cut -/
theorem lp_last (G : Good F) (o : Over F l) (ne : l ≠ []) : ∃ z p a, F z = some p ∧ l = a ++ cs z ∧ lp F l = lp F a + p := by
  obtain ⟨c, hc, e⟩ := lp_cut G o
  have nc : c ≠ [] := fun q => ne (by rw [← hc.2, q]; rfl)
  obtain ⟨d, q, rfl⟩ : ∃ d q, c = d ++ [q] := ⟨c.dropLast, c.getLast nc, (List.dropLast_concat_getLast nc).symm⟩
  have hq := hc.1 q (List.mem_append_right _ (List.mem_singleton.mpr rfl))
  have hl : l = (d.map fun p => cs p.1).flatten ++ cs q.1 := by
    rw [← hc.2, List.map_append, List.flatten_append]
    simp
  have hd : Cut F (d.map fun p => cs p.1).flatten d := ⟨fun p hp => hc.1 p (List.mem_append_left _ hp), rfl⟩
  have oa : Over F (d.map fun p => cs p.1).flatten := by
    rw [hl] at o
    exact o.left
  refine ⟨q.1, q.2, _, hq, hl, ?_⟩
  have h1 := lp_le G hd oa
  have h2 := lp_app G oa hq
  rw [← hl] at h2
  rw [fee_app] at e
  have h3 : fee [q] = q.2 := fee_one (z := q.1)
  rw [h3] at e
  omega
/-- one step of the row of cheapest prices -/
theorem lp_step (G : Good F) (o : Over F l) (ne : l ≠ []) {ys : List Int} (hin : ∀ y ∈ ys, ∃ z p a, F z = some p ∧ l = a ++ cs z ∧ y = lp F a + p)
    (hall : ∀ z p a, F z = some p → l = a ++ cs z → lp F a + p ∈ ys) (hm : m ∈ ys) (hl : ∀ y ∈ ys, m ≤ y) : m = lp F l := by
  obtain ⟨z, p, a, h1, h2, h3⟩ := lp_last G o ne
  have h4 := hl _ (hall z p a h1 h2)
  obtain ⟨z', p', a', h5, h6, h7⟩ := hin m hm
  have h8 := lp_app G (a := a') (by rw [h6] at o; exact o.left) h5
  rw [← h6] at h8
  omega
/-- dearer on no piece, dearer on no text -/
theorem lp_mono (G1 : Good F1) (G2 : Good F2) (h : ∀ z p, F2 z = some p → Over F1 (cs z) ∧ lp F1 (cs z) ≤ p) (o1 : Over F1 l) (o2 : Over F2 l) : lp F1 l ≤ lp F2 l := by
  obtain ⟨c, hc, e⟩ := lp_cut G2 o2
  rw [← e]
  have go : ∀ (c : Ps) (l : List Nat), Cut F2 l c → Over F1 l → lp F1 l ≤ fee c := by
    intro c
    induction c with
    | nil =>
      intro l hc _
      rw [← hc.2]
      exact Int.le_of_eq (lp_nil G1)
    | cons q r ih =>
      intro l hc ol
      have hl : l = cs q.1 ++ (r.map fun p => cs p.1).flatten := hc.2.symm
      rw [hl] at ol ⊢
      obtain ⟨h1, h2⟩ := h _ _ (hc.1 q List.mem_cons_self)
      have h3 := ih _ ⟨fun p hp => hc.1 p (List.mem_cons_of_mem _ hp), rfl⟩ ol.right
      have h4 := lp_add G1 ol.left ol.right
      rw [fee_cons]
      omega
  exact go c l hc o1
end
/-- the tariff of a dict -/
def tfD (kvs : List (Key × V)) : Tf := fun z => match valV kvs (Sum.inr z) with | some (.int p) => some p | _ => none
theorem tf_some {kvs : List (Key × V)} {z : Str} {p : Int} : tfD kvs z = some p ↔ valV kvs (Sum.inr z) = some (.int p) := by
  unfold tfD
  constructor
  · intro h
    split at h
    · rename_i q e
      rw [e, Option.some.inj h]
    · cases h
  · intro h
    rw [h]
theorem ks_mem {kvs : List (Key × V)} {z : Str} : z ∈ keyStrs kvs ↔ (Sum.inr z : Key) ∈ kvs.map (·.1) := by
  unfold keyStrs
  rw [List.mem_filterMap, List.mem_map]
  constructor
  · rintro ⟨⟨k, v⟩, h1, h2⟩
    cases k with
    | inl i => cases h2
    | inr y =>
      cases h2
      exact ⟨_, h1, rfl⟩
  · rintro ⟨⟨k, v⟩, h1, h2⟩
    dsimp only at h2
    subst h2
    exact ⟨_, h1, rfl⟩
theorem good_of {kvs : List (Key × V)} (av : arePrices kvs = true) : Good (tfD kvs) := by
  obtain ⟨_, al, _, fs⟩ := ap_parts av
  have key : ∀ {z p}, tfD kvs z = some p → z ∈ keyStrs kvs := fun h => ks_mem.mpr (valV_in (tf_some.mp h))
  refine ⟨fun z p h => ?_, fun z p h => ?_, fun z p h c hc => ?_⟩
  · obtain ⟨h1, h2, h3⟩ := price_of_key al (key h)
    rw [tf_some.mp h] at h1
    have : p = priceIn kvs z := V.int.inj (Option.some.inj h1)
    rw [this]
    exact ⟨h2, h3⟩
  · obtain ⟨h1, h2, _⟩ := keyStrs_piece al z (key h)
    exact ⟨h1, h2⟩
  · have h1 := List.all_eq_true.mp fs c (List.mem_flatten.mpr ⟨cs z, List.mem_map.mpr ⟨z, key h, rfl⟩, hc⟩)
    have h2 : (Sum.inr (ch c) : Key) ∈ kvs.map (·.1) := by
      cases e : valV kvs (Sum.inr (ch c)) with
      | none =>
        rw [e] at h1
        cases h1
      | some v => exact valV_in e
    exact ⟨_, tf_some.mpr (price_of_key al (ks_mem.mpr h2)).1⟩

theorem valV_mem {kvs : List (Key × V)} {k : Key} {v : V} (h : valV kvs k = some v) : (k, v) ∈ kvs := by
  unfold valV at h
  cases e : kvs.find? (fun kv => decide (kv.1 = k)) with
  | none =>
    rw [e] at h
    cases h
  | some kv =>
    rw [e] at h
    have h1 : kv.2 = v := Option.some.inj h
    have h2 : kv.1 = k := by simpa using List.find?_some e
    have h3 := List.mem_of_find?_eq_some e
    rw [← h1, ← h2]
    exact h3
/-- a dict of texts and prices -/
structure Tar (kvs : List (Key × V)) : Prop where
  good : Good (tfD kvs)
  mem : ∀ kv ∈ kvs, ∃ z p, kv = (Sum.inr z, V.int p) ∧ tfD kvs z = some p
  len : kvs.length ≤ 1000
theorem tar_of {kvs : List (Key × V)} (av : arePrices kvs = true) (nd : (kvs.map (·.1)).Nodup) : Tar kvs := by
  obtain ⟨⟨n1, n2⟩, al, _, fs⟩ := ap_parts av
  refine ⟨good_of av, fun kv hkv => ?_, by omega⟩
  have h1 := List.all_eq_true.mp al kv hkv
  rw [Bool.and_eq_true] at h1
  obtain ⟨z, ez, _⟩ := piece_key h1.1
  have h3 := val_nodup nd kv hkv
  rw [ez] at h3
  have hz : z ∈ keyStrs kvs := ks_mem.mpr (List.mem_map.mpr ⟨kv, hkv, ez⟩)
  obtain ⟨h4, _⟩ := price_of_key al hz
  rw [h4] at h3
  refine ⟨z, priceIn kvs z, ?_, tf_some.mpr h4⟩
  rw [Option.some.inj h3, ← ez]
theorem val_fun {g : Str → Int} : ∀ {ys : List Str} {z : Str}, valV (ys.map fun y => ((Sum.inr y : Key), V.int (g y))) (Sum.inr z) = if z ∈ ys then some (.int (g z)) else none
  | [], z => by
    rw [if_neg (List.not_mem_nil)]
    rfl
  | y :: r, z => by
    by_cases h : y = z
    · subst h
      rw [if_pos List.mem_cons_self, List.map_cons, valV_pos rfl]
    · rw [List.map_cons, valV_neg (fun e => h (Sum.inr.inj e)), val_fun]
      by_cases q : z ∈ r
      · rw [if_pos q, if_pos (List.mem_cons_of_mem _ q)]
      · rw [if_neg q, if_neg fun m => ?_]
        rcases List.mem_cons.mp m with e | e
        · exact h e.symm
        · exact q e
theorem kvOf_ps {kvs : List (Key × V)} {ys : List Str} : kvOf (psOf kvs ys) = ys.map fun y => ((Sum.inr y : Key), V.int (priceIn kvs y)) := by
  unfold kvOf psOf
  rw [List.map_map]
  rfl
theorem tf_psOf {kvs : List (Key × V)} {ys : List Str} (al : (kvs.all fun kv => isPiece (kV kv.1) && isPrice kv.2) = true) (pm : ys.Perm (keyStrs kvs)) : tfD (kvOf (psOf kvs ys)) = tfD kvs := by
  funext z
  unfold tfD
  rw [kvOf_ps, val_fun]
  by_cases h : z ∈ ys
  · rw [if_pos h, (price_of_key al (pm.mem_iff.mp h)).1]
  · rw [if_neg h, valV_none fun m => h (pm.mem_iff.mpr (ks_mem.mpr m))]
theorem tar_book {kvs : List (Key × V)} {ys : List Str} (av : arePrices kvs = true) (pm : ys.Perm (keyStrs kvs)) : Tar (kvOf (psOf kvs ys)) := by
  obtain ⟨⟨n1, n2⟩, al, _, fs⟩ := ap_parts av
  have e := tf_psOf al pm
  refine ⟨by rw [e]; exact good_of av, fun kv hkv => ?_, ?_⟩
  · rw [kvOf_ps] at hkv
    obtain ⟨y, hy, rfl⟩ := List.mem_map.mp hkv
    refine ⟨y, _, rfl, ?_⟩
    rw [e]
    exact tf_some.mpr (price_of_key al (pm.mem_iff.mp hy)).1
  · have h := congrArg List.length (keys_of al)
    rw [List.length_map, List.length_map] at h
    rw [kvOf_ps, List.length_map, pm.length_eq]
    omega
/-- a book as Book(prices) made it -/
structure Book1 (C : Addr) (H : Hp) (b : Addr) (kvs : List (Key × V)) : Prop where
  av : arePrices kvs = true
  nd : (kvs.map (·.1)).Nodup
  ex : ∃ ys L M dx d tp ta od, ys.Perm (keyStrs kvs) ∧ sortedS ys = true ∧ BookAt C H b (psOf kvs ys) L M dx d tp ta od
theorem Book1.same {C : Addr} {H H' : Hp} {b : Addr} {kvs : List (Key × V)} (B : Book1 C H b kvs) (s : Same H H') : Book1 C H' b kvs := by
  obtain ⟨ys, L, M, dx, d, tp, ta, od, h1, h2, h3⟩ := B.ex
  exact ⟨B.av, B.nd, ys, L, M, dx, d, tp, ta, od, h1, h2, h3.same s⟩
theorem kvOk_of {K : PySem.W.Frag} {H : Hp} {kvs : List (Key × V)} (al : (kvs.all fun kv => isPiece (kV kv.1) && isPrice kv.2) = true) : KvOk K H kvs := by
  intro kv hkv
  have h1 := List.all_eq_true.mp al kv hkv
  rw [Bool.and_eq_true] at h1
  obtain ⟨z, ez, _, h2, _⟩ := piece_key h1.1
  constructor
  · rw [ez]
    show z.length ≤ 100000
    rw [← cs_len]
    omega
  · have h3 := h1.2
    generalize kv.2 = v at h3
    cases v with
    | int p => exact tydS_int p
    | _ => cases h3
/-- Book(prices), as pe_mk asks -/
theorem made_book {C a x dx : Addr} {K : PySem.W.Frag} {H : Hp} {kvs : List (Key × V)} {Q : VK} {E : XK} (hx : H x = none) (hdx : H dx = none) (ha : H a = some (.dK kvs)) (av : arePrices kvs = true) (nd : (kvs.map (·.1)).Nodup) (q : ∀ H', Same H H' → Book1 C H' x kvs → Q .non H') :
    spBook C K (.ref x :: ([.ref a] ++ [])) (upd (upd H dx (.own x)) x (.ins C dx [])) Q E := by
  refine ⟨x, dx, a, kvs, rfl, upd_same, ?_, kvOk_of (ap_parts av).2.1, av, nd, ?_⟩
  · rw [upd_ne (ne_of_none ha hx), upd_ne (ne_of_none ha hdx)]
    exact ha
  · intro H' ys L M d tp ta od pm so B k
    refine q H' (fun c o e => k c o ?_ (ne_of_none e hx)) ⟨av, nd, ys, L, M, dx, d, tp, ta, od, pm, so, B⟩
    rw [upd_ne (ne_of_none e hx), upd_ne (ne_of_none e hdx)]
    exact e
/-! ### ends of texts -/
theorem ends_iff {x y : Str} : Txt.endswith x y = true ↔ ∃ a, cs x = a ++ cs y := by
  have l1 := cs_len x
  have l2 := cs_len y
  unfold Txt.endswith
  rw [StrLaws.subAt_eq, Nat.zero_add, Bool.and_eq_true, decide_eq_true_eq, beq_iff_eq]
  constructor
  · rintro ⟨h1, h2⟩
    refine ⟨(cs x).take (x.length - y.length), ?_⟩
    have h3 : ((cs x).drop (x.length - y.length)).take y.length = (cs x).drop (x.length - y.length) := List.take_of_length_le (by rw [List.length_drop]; omega)
    have h4 : (cs x).drop (x.length - y.length) = cs y := h3.symm.trans h2
    rw [← h4, List.take_append_drop]
  · rintro ⟨a, h⟩
    have h0 := congrArg List.length h
    rw [List.length_append] at h0
    refine ⟨by omega, ?_⟩
    show ((cs x).drop (x.length - y.length)).take y.length = cs y
    have e : x.length - y.length = a.length := by omega
    rw [h, e, List.drop_left, List.take_of_length_le (by omega)]
/-! ### rows of cheapest prices -/
noncomputable def rowV (F : Tf) (l : List Nat) (n : Nat) : List V := (List.range n).map fun j => V.int (lp F (l.take j))
theorem rowV_len {F : Tf} {l : List Nat} {n : Nat} : (rowV F l n).length = n := by
  unfold rowV
  rw [List.length_map, List.length_range]
theorem rowV_at {F : Tf} {l : List Nat} {n j : Nat} (h : j < n) : (rowV F l n)[j]? = some (.int (lp F (l.take j))) := by
  unfold rowV
  rw [List.getElem?_map, List.getElem?_range h]
  rfl
theorem rowV_succ {F : Tf} {l : List Nat} {n : Nat} : rowV F l (n + 1) = rowV F l n ++ [.int (lp F (l.take n))] := by
  unfold rowV
  rw [List.range_succ, List.map_append]
  rfl
theorem rowV_one {F : Tf} {l : List Nat} (G : Good F) : rowV F l 1 = [.int 0] := by
  show [V.int (lp F (l.take 0))] = _
  rw [List.take_zero, lp_nil G]
theorem atI_last {α : Type} {xs : List α} {v : α} : atI (xs ++ [v]) (-1) = some v := by
  have e : ixN (xs ++ [v]).length (-1) = some xs.length := by
    rw [List.length_append, List.length_singleton]
    unfold ixN
    rw [if_neg (by omega), if_pos (by omega)]
    congr 1
    omega
  unfold atI
  rw [e]
  show (xs ++ [v])[xs.length]? = some v
  simp
noncomputable def candG (F : Tf) (l : List Nat) (e : Nat) (st : Str) : Key × V → Option Int := fun kv => match kv with
  | (.inr y, .int p) => if Txt.endswith st y = true then some (lp F (l.take (e - y.length)) + p) else none
  | _ => none
theorem cand_min {kvs : List (Key × V)} {l : List Nat} {e : Nat} {st : Str} (T : Tar kvs) (ov : Over (tfD kvs) l) (hst : cs st = l.take e) (he : 1 ≤ e) (hel : e ≤ l.length) :
    0 < (kvs.filterMap (candG (tfD kvs) l e st)).length ∧ ∀ m ∈ kvs.filterMap (candG (tfD kvs) l e st), (∀ y ∈ kvs.filterMap (candG (tfD kvs) l e st), m ≤ y) → m = lp (tfD kvs) (l.take e) := by
  have le : (l.take e).length = e := by
    rw [List.length_take]
    omega
  have ne : l.take e ≠ [] := fun q => by
    rw [q] at le
    simp at le
    omega
  have ove : Over (tfD kvs) (l.take e) := ov.take e
  have part : ∀ {a : List Nat} {y : Str}, l.take e = a ++ cs y → a = l.take (e - y.length) := by
    intro a y h
    have h1 := congrArg List.length h
    rw [List.length_append, le, cs_len] at h1
    have h2 : (l.take e).take (e - y.length) = a := by
      rw [h, List.take_append_of_le_length (by omega), List.take_of_length_le (by omega)]
    rw [← h2, List.take_take]
    congr 1
    omega
  have hin : ∀ y ∈ kvs.filterMap (candG (tfD kvs) l e st), ∃ z p a, tfD kvs z = some p ∧ l.take e = a ++ cs z ∧ y = lp (tfD kvs) a + p := by
    intro y hy
    obtain ⟨kv, hkv, g⟩ := List.mem_filterMap.mp hy
    obtain ⟨z, p, rfl, hp⟩ := T.mem kv hkv
    have g' : (if Txt.endswith st z = true then some (lp (tfD kvs) (l.take (e - z.length)) + p) else none) = some y := g
    by_cases q : Txt.endswith st z = true
    · rw [if_pos q] at g'
      obtain ⟨a, ha⟩ := ends_iff.mp q
      rw [hst] at ha
      refine ⟨z, p, a, hp, ha, ?_⟩
      rw [part ha]
      exact (Option.some.inj g').symm
    · rw [if_neg q] at g'
      cases g'
  have hall : ∀ z p a, tfD kvs z = some p → l.take e = a ++ cs z → lp (tfD kvs) a + p ∈ kvs.filterMap (candG (tfD kvs) l e st) := by
    intro z p a hp ha
    refine List.mem_filterMap.mpr ⟨(Sum.inr z, V.int p), valV_mem (tf_some.mp hp), ?_⟩
    show (if Txt.endswith st z = true then some (lp (tfD kvs) (l.take (e - z.length)) + p) else none) = _
    rw [if_pos (ends_iff.mpr ⟨a, by rw [hst]; exact ha⟩), ← part ha]
  constructor
  · obtain ⟨z, p, a, h1, h2, _⟩ := lp_last T.good ove ne
    exact List.length_pos_of_mem (hall z p a h1 h2)
  · intro m hm hl
    exact lp_step T.good ove ne hin hall hm hl
theorem fm_int {α : Type} {g : α → Option Int} {l : List α} : l.filterMap (fun a => (g a).map V.int) = (l.filterMap g).map V.int := by
  rw [List.map_filterMap]
theorem same_mut {H H' : Hp} {a : Addr} {o : HO} (s : Same H H') (h : H a = none) : Same H (upd H' a o) := fun b u e => by
  rw [upd_ne (ne_of_none e h)]
  exact s _ _ e
theorem cs_cutTo {z : Str} {i : Nat} (h : i ≤ z.length) : cs (cutS z none (some (i : Int))) = (cs z).take i := by
  rw [cs_cut, sIx_pos (by omega)]
  show ((cs z).drop 0).take (min (Int.toNat (i : Int)) z.length - 0) = _
  rw [List.drop_zero, Int.toNat_natCast]
  congr 1
  omega
noncomputable def costF (F : Tf) (l : List Nat) (s : Nat) : Option Int := (F (sOf (l.drop s))).map fun p => lp F (l.take s) + p
noncomputable def costs (F : Tf) (l : List Nat) : List Int := (List.range (l.length - (l.length - 5))).filterMap fun i => costF F l (l.length - 5 + i)
theorem cost_min {F : Tf} {l : List Nat} (G : Good F) (o : Over F l) (ne : l ≠ []) : 0 < (costs F l).length ∧ ∀ m ∈ costs F l, (∀ y ∈ costs F l, m ≤ y) → m = lp F l := by
  have hin : ∀ y ∈ costs F l, ∃ z p a, F z = some p ∧ l = a ++ cs z ∧ y = lp F a + p := by
    intro y hy
    obtain ⟨i, hi, g⟩ := List.mem_filterMap.mp hy
    have g' : (F (sOf (l.drop (l.length - 5 + i)))).map (fun p => lp F (l.take (l.length - 5 + i)) + p) = some y := g
    cases e : F (sOf (l.drop (l.length - 5 + i))) with
    | none =>
      rw [e] at g'
      cases g'
    | some p =>
      rw [e] at g'
      exact ⟨_, p, l.take (l.length - 5 + i), e, by rw [cs_sOf, List.take_append_drop], (Option.some.inj g').symm⟩
  have hall : ∀ z p a, F z = some p → l = a ++ cs z → lp F a + p ∈ costs F l := by
    intro z p a hp ha
    obtain ⟨n1, n2⟩ := G.len z p hp
    have hl := congrArg List.length ha
    rw [List.length_append] at hl
    have e1 : l.length - 5 + (a.length - (l.length - 5)) = a.length := by omega
    refine List.mem_filterMap.mpr ⟨a.length - (l.length - 5), List.mem_range.mpr (by omega), ?_⟩
    show costF F l (l.length - 5 + (a.length - (l.length - 5))) = _
    rw [e1]
    unfold costF
    have e2 : l.drop a.length = cs z := by rw [ha, List.drop_left]
    have e3 : l.take a.length = a := by rw [ha, List.take_left]
    rw [e2, e3, sOf_cs, hp]
    rfl
  constructor
  · obtain ⟨z, p, a, h1, h2, _⟩ := lp_last G o ne
    exact List.length_pos_of_mem (hall z p a h1 h2)
  · intro m hm hl
    exact lp_step G o ne hin hall hm hl
theorem tar_val {kvs : List (Key × V)} (T : Tar kvs) (z : Str) : valV kvs (Sum.inr z) = (tfD kvs z).map V.int := by
  cases e : valV kvs (Sum.inr z : Key) with
  | none =>
    unfold tfD
    rw [e]
    rfl
  | some v =>
    obtain ⟨y, p, e1, e2⟩ := T.mem _ (valV_mem e)
    have e3 : z = y := Sum.inr.inj (congrArg Prod.fst e1)
    subst e3
    rw [e2]
    have e4 : v = V.int p := congrArg Prod.snd e1
    rw [e4]
    rfl
theorem cs_cutAB {z : Str} {a b : Nat} (hab : a ≤ b) (hb : b ≤ z.length) : cs (cutS z (some (a : Int)) (some (b : Int))) = ((cs z).take b).drop a := by
  have e1 : min a z.length = a := by omega
  have e2 : min b z.length = b := by omega
  rw [cs_cut, sIx_pos (by omega), sIx_pos (by omega), Int.toNat_natCast, Int.toNat_natCast, List.drop_take, e1, e2]
theorem cs_cutFrom {z : Str} {a : Nat} (h : a ≤ z.length) : cs (cutS z (some (a : Int)) none) = (cs z).drop a := by
  rw [cs_cut, sIx_pos (by omega), Int.toNat_natCast]
  have e : min a z.length = a := by omega
  rw [e]
  show ((cs z).drop a).take (z.length - a) = _
  exact List.take_of_length_le (by rw [List.length_drop, cs_len]; omega)
theorem max0 (n : Nat) : (if (n : Int) - 5 > 0 then (n : Int) - 5 else 0) = ((n - 5 : Nat) : Int) := by split <;> omega
/-- _law_least, of a dict that is locked or not -/
def spLawLeast : Sp := fun vs H Q _ => ∃ d kvs z, vs = [.ref d, .str z] ∧ Rd H d (.dK kvs) ∧ Tar kvs ∧ Over (tfD kvs) (cs z) ∧ z.length ≤ 10000 ∧ ∀ H', Same H H' → Q (.int (lp (tfD kvs) (cs z))) H'
theorem fm_range_succ {α : Type} {g : Nat → Option α} {j : Nat} : (List.range (j + 1)).filterMap g = (List.range j).filterMap g ++ (g j).toList := by
  rw [List.range_succ, List.filterMap_append]
  congr 1
theorem rd_same {H H' : Hp} {d : Addr} {u : HO} (r : Rd H d u) (s : Same H H') : Rd H' d u := by
  rcases r with h | ⟨od, h⟩
  · exact .inl (s _ _ h)
  · exact .inr ⟨od, s _ _ h⟩
/-! ### tables of cheapest prices -/
structure TblOk (F : Tf) (S : Str → Prop) (kf : List (Key × V)) : Prop where
  val : ∀ z, S z → valV kf (Sum.inr z) = some (.int (lp F (cs z)))
  key : ∀ kv ∈ kf, ∃ z, kv.1 = Sum.inr z ∧ S z
theorem TblOk.congr {F : Tf} {S S' : Str → Prop} {kf : List (Key × V)} (T : TblOk F S kf) (h : ∀ z, S z ↔ S' z) : TblOk F S' kf :=
  ⟨fun z hz => T.val z ((h z).mpr hz), fun kv hkv => (T.key kv hkv).imp fun z q => ⟨q.1, (h z).mp q.2⟩⟩
theorem put_mem {kvs : List (Key × V)} {k : Key} {v : V} {kv : Key × V} (h : kv ∈ putK kvs k v) : kv.1 = k ∨ kv ∈ kvs := by
  unfold putK at h
  by_cases q : (kvs.any fun kv => decide (kv.1 = k)) = true
  · rw [if_pos q] at h
    obtain ⟨x, hx, rfl⟩ := List.mem_map.mp h
    by_cases e : x.1 = k
    · rw [if_pos e]
      exact Or.inl e
    · rw [if_neg e]
      exact Or.inr hx
  · rw [if_neg q] at h
    rcases List.mem_append.mp h with h | h
    · exact Or.inr h
    · rw [List.mem_singleton.mp h]
      exact Or.inl rfl
theorem put_len {kvs : List (Key × V)} {k : Key} {v : V} : (putK kvs k v).length ≤ kvs.length + 1 := by
  unfold putK
  split
  · rw [List.length_map]
    omega
  · rw [List.length_append]
    exact Nat.le_refl _
theorem TblOk.put {F : Tf} {S : Str → Prop} {kf : List (Key × V)} (T : TblOk F S kf) (y : Str) : TblOk F (fun z => S z ∨ z = y) (putK kf (Sum.inr y) (.int (lp F (cs y)))) := by
  refine ⟨fun z hz => ?_, fun kv hkv => ?_⟩
  · rw [valV_put]
    by_cases e : z = y
    · subst e
      rw [if_pos rfl]
    · rw [if_neg fun q => e (Sum.inr.inj q)]
      exact T.val z (hz.resolve_right e)
  · rcases put_mem hkv with h | h
    · exact ⟨y, h, Or.inr rfl⟩
    · obtain ⟨z, h1, h2⟩ := T.key kv h
      exact ⟨z, h1, Or.inl h2⟩
def tv (t : List Nat) : V := .str (sOf t)
def grow (sg : List Nat) (ts : List (List Nat)) : List (List Nat) := ts.flatMap fun t => sg.map fun c => t ++ [c]
def layerL (sg : List Nat) : Nat → List (List Nat)
  | 0 => [[]]
  | n + 1 => grow sg (layerL sg n)
theorem grow_len {sg : List Nat} : ∀ {ts : List (List Nat)}, (grow sg ts).length = ts.length * sg.length
  | [] => by simp [grow]
  | t :: r => by
    have ih := grow_len (sg := sg) (ts := r)
    unfold grow at ih ⊢
    rw [List.flatMap_cons, List.length_append, ih, List.length_map, List.length_cons, Nat.add_mul]
    omega
theorem layer_len {sg : List Nat} (n : Nat) : (layerL sg n).length = sg.length ^ n := by
  induction n with
  | zero => rfl
  | succ n ih => rw [layerL, grow_len, ih, Nat.pow_succ]
theorem layer_le {sg : List Nat} {n : Nat} (h4 : sg.length ≤ 4) (h8 : n ≤ 8) : (layerL sg n).length ≤ 65536 := by
  rw [layer_len]
  calc sg.length ^ n ≤ 4 ^ n := Nat.pow_le_pow_left h4 n
    _ ≤ 4 ^ 8 := Nat.pow_le_pow_right (by decide) h8
    _ = 65536 := by decide
theorem layer_mem {sg : List Nat} : ∀ {n : Nat} {t : List Nat}, t ∈ layerL sg n ↔ t.length = n ∧ ∀ c ∈ t, c ∈ sg
  | 0, t => by
    show t ∈ [[]] ↔ _
    rw [List.mem_singleton]
    constructor
    · rintro rfl
      exact ⟨rfl, fun _ h => (List.not_mem_nil h).elim⟩
    · rintro ⟨h, _⟩
      exact List.eq_nil_of_length_eq_zero h
  | n + 1, t => by
    show t ∈ grow sg (layerL sg n) ↔ _
    unfold grow
    rw [List.mem_flatMap]
    constructor
    · rintro ⟨u, hu, h⟩
      obtain ⟨c, hc, rfl⟩ := List.mem_map.mp h
      obtain ⟨h1, h2⟩ := layer_mem.mp hu
      refine ⟨by rw [List.length_append, h1]; rfl, fun d hd => ?_⟩
      rcases List.mem_append.mp hd with q | q
      · exact h2 d q
      · rw [List.mem_singleton.mp q]
        exact hc
    · rintro ⟨h1, h2⟩
      have ne : t ≠ [] := fun e => by
        rw [e] at h1
        cases h1
      refine ⟨t.dropLast, layer_mem.mpr ⟨by rw [List.length_dropLast, h1]; rfl, fun c hc => h2 c (List.dropLast_subset t hc)⟩, List.mem_map.mpr ⟨t.getLast ne, h2 _ (List.getLast_mem ne), List.dropLast_concat_getLast ne⟩⟩
def InAll (sg : List Nat) (n : Nat) (z : Str) : Prop := (cs z).length ≤ n ∧ ∀ c ∈ cs z, c ∈ sg
theorem inAll_zero {F : Tf} {sg : List Nat} (G : Good F) : TblOk F (InAll sg 0) [(Sum.inr (sOf []), .int 0)] := by
  refine ⟨fun z hz => ?_, fun kv hkv => ?_⟩
  · have e : z = sOf [] := str_ext (List.eq_nil_of_length_eq_zero (Nat.le_zero.mp hz.1))
    rw [e, valV_pos rfl, cs_sOf, lp_nil G]
  · rw [List.mem_singleton.mp hkv]
    exact ⟨_, rfl, Nat.le_refl _, fun c h => (List.not_mem_nil (a := c) h).elim⟩
theorem inAll_succ {sg : List Nat} {n : Nat} {z : Str} : InAll sg n z ∨ z ∈ (layerL sg (n + 1)).map sOf ↔ InAll sg (n + 1) z := by
  constructor
  · rintro (⟨h1, h2⟩ | h)
    · exact ⟨by omega, h2⟩
    · obtain ⟨t, ht, rfl⟩ := List.mem_map.mp h
      obtain ⟨h1, h2⟩ := layer_mem.mp ht
      exact ⟨by rw [cs_sOf]; omega, by rw [cs_sOf]; exact h2⟩
  · rintro ⟨h1, h2⟩
    rcases Nat.lt_or_ge n (cs z).length with h | h
    · exact Or.inr (List.mem_map.mpr ⟨cs z, layer_mem.mpr ⟨by omega, h2⟩, sOf_cs z⟩)
    · exact Or.inl ⟨h, h2⟩
theorem grow_take {sg : List Nat} {ts : List (List Nat)} {j : Nat} {t : List Nat} (h : ts[j]? = some t) : grow sg (ts.take (j + 1)) = grow sg (ts.take j) ++ sg.map fun c => t ++ [c] := by
  rw [List.take_add_one, h]
  unfold grow
  rw [List.flatMap_append]
  simp
theorem emp : Str.ofString "" = sOf [] := str_ext (by rfl)
theorem tv_at {ts : List (List Nat)} {j : Nat} {x : V} (h : (ts.map tv)[j]? = some x) : ∃ t, ts[j]? = some t ∧ x = tv t := by
  rw [List.getElem?_map] at h
  cases e : ts[j]? with
  | none =>
    rw [e] at h
    cases h
  | some t =>
    rw [e] at h
    exact ⟨t, rfl, (Option.some.inj h).symm⟩
theorem tv_app (t : List Nat) (c : Nat) : V.str (sOf t ++ ch c) = tv (t ++ [c]) := by
  unfold tv
  congr 1
  exact str_ext (by rw [cs_app, cs_sOf, cs_sOf])
theorem tbl_take {F : Tf} {S : Str → Prop} {kf : List (Key × V)} {ts : List (List Nat)} {j : Nat} {t : List Nat} (h : ts[j]? = some t) (T : TblOk F (fun z => S z ∨ z ∈ (ts.take j).map sOf) kf) :
    TblOk F (fun z => S z ∨ z ∈ (ts.take (j + 1)).map sOf) (putK kf (Sum.inr (sOf t)) (.int (lp F t))) := by
  have h1 := T.put (sOf t)
  rw [cs_sOf] at h1
  refine h1.congr fun z => ?_
  rw [List.take_add_one, h, List.map_append, List.mem_append]
  show (S z ∨ _) ∨ z = sOf t ↔ S z ∨ _ ∨ z ∈ [sOf t]
  rw [List.mem_singleton, or_assoc]
/-- _law_all -/
def spAll (K : PySem.W.Frag) : Sp := fun vs H Q _ => ∃ d kvs sa sg n, vs = [.ref d, .ref sa, .int ((n : Nat) : Int)] ∧ H d = some (.dK kvs) ∧ Tar kvs ∧ SqL K H sa (sg.map chV) ∧ (∀ c ∈ sg, ∃ p, tfD kvs (ch c) = some p) ∧ sg.length ≤ 4 ∧ n ≤ 8 ∧
  ∀ fo kf H', H fo = none → H' fo = some (.dK kf) → TblOk (tfD kvs) (InAll sg n) kf → kf.length ≤ 600000 → Same H H' → Q (.ref fo) H'
/-! ### dicts of prices while they are made -/
theorem keys_nd' {kvs : List (Key × V)} (nd : (kvs.map (·.1)).Nodup) (al : (kvs.all fun kv => isPiece (kV kv.1) && isPrice kv.2) = true) : (keyStrs kvs).Nodup := by
  rw [keys_of al] at nd
  exact nd_of_map nd
structure PrOk (sg : List Nat) (kvs : List (Key × V)) : Prop where
  mem : ∀ kv ∈ kvs, ∃ z p, kv = (Sum.inr z, V.int p) ∧ (1 ≤ (cs z).length ∧ (cs z).length ≤ 5) ∧ (∀ c ∈ cs z, c ∈ sg) ∧ 1 ≤ p ∧ p ≤ 99
  nd : (kvs.map (·.1)).Nodup
theorem PrOk.nil {sg : List Nat} : PrOk sg [] := ⟨fun _ h => (List.not_mem_nil h).elim, List.nodup_nil⟩
theorem put_keys {kvs : List (Key × V)} {k : Key} {v : V} : (putK kvs k v).map (·.1) = if (valV kvs k).isSome = true then kvs.map (·.1) else kvs.map (·.1) ++ [k] := by
  unfold putK
  rw [valV_any]
  split
  · rw [List.map_map]
    refine List.map_congr_left fun kv _ => ?_
    show (if kv.1 = k then (kv.1, v) else kv).1 = kv.1
    split <;> rfl
  · rw [List.map_append]
    rfl
theorem put_val_mem {kvs : List (Key × V)} {k : Key} {v : V} {kv : Key × V} (h : kv ∈ putK kvs k v) : kv = (k, v) ∨ kv ∈ kvs := by
  unfold putK at h
  by_cases q : (kvs.any fun kv => decide (kv.1 = k)) = true
  · rw [if_pos q] at h
    obtain ⟨x, hx, rfl⟩ := List.mem_map.mp h
    by_cases e : x.1 = k
    · rw [if_pos e, e]
      exact Or.inl rfl
    · rw [if_neg e]
      exact Or.inr hx
  · rw [if_neg q] at h
    rcases List.mem_append.mp h with h | h
    · exact Or.inr h
    · exact Or.inl (List.mem_singleton.mp h)
theorem PrOk.put {sg : List Nat} {kvs : List (Key × V)} (P : PrOk sg kvs) {z : Str} {p : Int} (h1 : 1 ≤ (cs z).length ∧ (cs z).length ≤ 5) (h2 : ∀ c ∈ cs z, c ∈ sg) (h3 : 1 ≤ p ∧ p ≤ 99) : PrOk sg (putK kvs (Sum.inr z) (.int p)) := by
  refine ⟨fun kv hkv => ?_, ?_⟩
  · rcases put_val_mem hkv with h | h
    · exact ⟨z, p, h, h1, h2, h3⟩
    · exact P.mem kv h
  · rw [put_keys]
    split
    · exact P.nd
    · rename_i q
      refine List.nodup_append.mpr ⟨P.nd, by simp, fun a ha b hb e => ?_⟩
      rw [List.mem_singleton.mp hb] at e
      rw [e] at ha
      refine q ?_
      cases e2 : valV kvs (Sum.inr z : Key) with
      | none => exact absurd ha (valV_not e2)
      | some v => rfl
theorem PrOk.merge {sg : List Nat} : ∀ {more kvs : List (Key × V)}, PrOk sg kvs → (∀ kv ∈ more, ∃ z p, kv = (Sum.inr z, V.int p) ∧ (1 ≤ (cs z).length ∧ (cs z).length ≤ 5) ∧ (∀ c ∈ cs z, c ∈ sg) ∧ 1 ≤ p ∧ p ≤ 99) →
    PrOk sg (mergeK kvs more) ∧ (mergeK kvs more).length ≤ kvs.length + more.length
  | [], kvs, P, _ => ⟨P, Nat.le_refl _⟩
  | a :: r, kvs, P, h => by
    obtain ⟨z, p, rfl, h1, h2, h3⟩ := h a List.mem_cons_self
    obtain ⟨q1, q2⟩ := PrOk.merge (more := r) (P.put h1 h2 h3) fun kv hkv => h kv (List.mem_cons_of_mem _ hkv)
    refine ⟨q1, Nat.le_trans q2 ?_⟩
    have := put_len (kvs := kvs) (k := Sum.inr z) (v := .int p)
    rw [List.length_cons]
    omega
theorem merge_has {k : Key} : ∀ {more kvs : List (Key × V)}, (k ∈ more.map (·.1) ∨ (valV kvs k).isSome = true) → (valV (mergeK kvs more) k).isSome = true
  | [], kvs, h => by
    rcases h with h | h
    · simp at h
    · exact h
  | a :: r, kvs, h => by
    refine merge_has (more := r) (kvs := putK kvs a.1 a.2) ?_
    rw [valV_put]
    by_cases e : k = a.1
    · exact Or.inr (by rw [if_pos e]; rfl)
    · rw [if_neg e]
      rcases h with h | h
      · rcases List.mem_cons.mp h with h | h
        · exact absurd h e
        · exact Or.inl h
      · exact Or.inr h
theorem nd_sub_len {α : Type} [BEq α] [LawfulBEq α] : ∀ {l1 l2 : List α}, l1.Nodup → (∀ a ∈ l1, a ∈ l2) → l1.length ≤ l2.length
  | [], _, _, _ => Nat.zero_le _
  | a :: r, l2, nd, h => by
    obtain ⟨h1, h2⟩ := List.nodup_cons.mp nd
    have h3 := nd_sub_len (l1 := r) (l2 := l2.erase a) h2 fun b hb => by
      have nb : b ≠ a := fun e => h1 (e ▸ hb)
      exact (List.mem_erase_of_ne nb).mpr (h b (List.mem_cons_of_mem _ hb))
    have h4 := h a List.mem_cons_self
    rw [List.length_erase_of_mem h4] at h3
    have := List.length_pos_of_mem h4
    rw [List.length_cons]
    omega
theorem PrOk.tf {sg : List Nat} {kvs : List (Key × V)} (P : PrOk sg kvs) {z : Str} : z ∈ keyStrs kvs ↔ ∃ p, tfD kvs z = some p := by
  rw [ks_mem]
  constructor
  · intro h
    obtain ⟨kv, hkv, e⟩ := List.mem_map.mp h
    obtain ⟨y, p, rfl, _⟩ := P.mem kv hkv
    have h2 := val_nodup P.nd _ hkv
    dsimp only at e h2
    cases e
    exact ⟨p, tf_some.mpr h2⟩
  · rintro ⟨p, h⟩
    exact valV_in (tf_some.mp h)
/-- a dict of prices over the signs sg, all of them in it -/
theorem PrOk.right {sg : List Nat} {kvs : List (Key × V)} (P : PrOk sg kvs) (hs : ∀ c ∈ sg, (valV kvs (Sum.inr (ch c))).isSome = true) (hl : ∀ c ∈ sg, lett c = true) (n4 : sg.length ≤ 4) (n0 : 1 ≤ sg.length) (n12 : kvs.length ≤ 12) :
    arePrices kvs = true ∧ ∀ c, (∃ p, tfD kvs (ch c) = some p) ↔ c ∈ sg := by
  have al : (kvs.all fun kv => isPiece (kV kv.1) && isPrice kv.2) = true := by
    rw [List.all_eq_true]
    intro kv hkv
    obtain ⟨z, p, rfl, h1, h2, h3⟩ := P.mem kv hkv
    rw [Bool.and_eq_true]
    refine ⟨?_, ?_⟩
    · show isPiece (.str z) = true
      rw [isPiece_of fun c hc => hl c (h2 c hc), decide_eq_true h1.1, decide_eq_true h1.2]
      rfl
    · show (decide (p.natAbs < 10 ^ 60) && (decide (1 ≤ p) && decide (p ≤ 99))) = true
      rw [decide_eq_true (by omega : p.natAbs < 10 ^ 60), decide_eq_true h3.1, decide_eq_true h3.2]
      rfl
  have key : ∀ {z}, z ∈ keyStrs kvs → (∀ c ∈ cs z, c ∈ sg) := by
    intro z hz
    obtain ⟨kv, hkv, e⟩ := List.mem_map.mp (ks_mem.mp hz)
    obtain ⟨y, p, rfl, _, h2, _⟩ := P.mem kv hkv
    dsimp only at e
    cases e
    exact h2
  refine ⟨?_, fun c => ⟨fun ⟨p, h⟩ => key (ks_mem.mpr (valV_in (tf_some.mp h))) c (by simp [cs]), fun h => ?_⟩⟩
  · unfold arePrices
    have e1 : 1 ≤ kvs.length := by
      cases sg with
      | nil => simp at n0
      | cons c r =>
        have := hs c List.mem_cons_self
        cases kvs with
        | nil => cases this
        | cons a r => simp
    have e3 : ((keyStrs kvs).filter fun z => decide ((cs z).length = 1)).length ≤ 4 := by
      refine Nat.le_trans (nd_sub_len (l2 := sg.map ch) ((keys_nd' P.nd al).filter _) fun z hz => ?_) (by rw [List.length_map]; exact n4)
      obtain ⟨h1, h2⟩ := List.mem_filter.mp hz
      obtain ⟨c, rfl⟩ := G.one_sign (z := z) (by simpa using h2)
      exact List.mem_map.mpr ⟨c, key h1 c (by simp [cs]), rfl⟩
    have e4 : (((keyStrs kvs).map cs).flatten.all fun c => (valV kvs (Sum.inr (ch c))).isSome) = true := by
      rw [List.all_eq_true]
      intro c hc
      obtain ⟨l, hl, hcl⟩ := List.mem_flatten.mp hc
      obtain ⟨z, hz, rfl⟩ := List.mem_map.mp hl
      exact hs c (key hz c hcl)
    rw [decide_eq_true (by omega : 1 ≤ (kvs.length : Int)), decide_eq_true (by omega : (kvs.length : Int) ≤ 12), al, decide_eq_true e3, e4]
    rfl
  · have h1 := hs c h
    cases e : valV kvs (Sum.inr (ch c) : Key) with
    | none =>
      rw [e] at h1
      cases h1
    | some v =>
      have h2 := P.tf.mp (ks_mem.mpr (valV_in e))
      exact h2
theorem kp_free {l a : Addr} {H H' : Hp} (k : Kp l H H') (n : a ≠ l) (h : H' a = none) : H a = none := by
  cases e : H a with
  | none => rfl
  | some o =>
    rw [k a o e n] at h
    cases h
theorem paired_of {α β : Type} {F : α → β → Prop} : ∀ {ps : List (α × β)}, (∀ p ∈ ps, F p.1 p.2) → Paired F (ps.map (·.1)) (ps.map (·.2))
  | [], _ => .nil
  | p :: r, h => .cons (h p List.mem_cons_self) (paired_of fun q hq => h q (List.mem_cons_of_mem _ hq))
theorem lift_map {α : Type} {f : α → V} {P : α → Prop} : ∀ {zs : List V}, (∀ v ∈ zs, ∃ w, v = f w ∧ P w) → ∃ ws : List α, zs = ws.map f ∧ ∀ w ∈ ws, P w
  | [], _ => ⟨[], rfl, fun _ h => (List.not_mem_nil h).elim⟩
  | v :: r, h => by
    obtain ⟨w, rfl, hw⟩ := h v List.mem_cons_self
    obtain ⟨ws, rfl, hws⟩ := lift_map (zs := r) fun u hu => h u (List.mem_cons_of_mem _ hu)
    refine ⟨w :: ws, rfl, fun u hu => ?_⟩
    rcases List.mem_cons.mp hu with rfl | hu
    · exact hw
    · exact hws u hu
def PairOk (sg : List Nat) (kv : Key × V) : Prop := ∃ z p, kv = (Sum.inr z, V.int p) ∧ (1 ≤ (cs z).length ∧ (cs z).length ≤ 5) ∧ (∀ c ∈ cs z, c ∈ sg) ∧ 1 ≤ p ∧ p ≤ 99
/-- a word of the menu -/
def Word (sg w : List Nat) : Prop := 2 ≤ w.length ∧ w.length ≤ 5 ∧ ∀ c ∈ w, c ∈ sg
theorem Word.piece {sg w : List Nat} (h : Word sg w) : (1 ≤ (cs (sOf w)).length ∧ (cs (sOf w)).length ≤ 5) ∧ ∀ c ∈ cs (sOf w), c ∈ sg := by
  obtain ⟨h1, h2, h3⟩ := h
  rw [cs_sOf]
  exact ⟨⟨by omega, h2⟩, h3⟩
/-! ### what is sorted -/
theorem so_pw : ∀ {ys : List Str}, sortedS ys = true → ys.Pairwise fun a b => cs a ≤ cs b
  | [], _ => .nil
  | [x], _ => by simp
  | x :: y :: r, h => by
    have h' : (!ltCps y.cps.toList x.cps.toList && risingS y r) = true := h
    rw [Bool.and_eq_true] at h'
    have ih := so_pw (ys := y :: r) h'.2
    have h1 : cs x ≤ cs y := by
      have h2 := h'.1
      rw [ltCps_eq] at h2
      exact List.not_lt.mp (by simpa using h2)
    refine List.Pairwise.cons (fun b hb => ?_) ih
    rcases List.mem_cons.mp hb with rfl | hb
    · exact h1
    · exact List.le_trans h1 ((List.pairwise_cons.mp ih).1 b hb)
theorem so_eq {ys zs : List Str} (h1 : ys.Pairwise fun a b => cs a ≤ cs b) (h2 : zs.Pairwise fun a b => cs a ≤ cs b) (p : ys.Perm zs) : ys = zs := p.eq_of_pairwise (fun a b _ _ h k => str_ext (List.le_antisymm h k)) h1 h2
def SameSigns (F1 F2 : Tf) : Prop := ∀ c, (∃ p, F1 (ch c) = some p) ↔ ∃ p, F2 (ch c) = some p
theorem sgn_ps {kvs : List (Key × V)} {ys : List Str} : sgn (psOf kvs ys) = ys.filter fun z => decide (z.length = 1) := by
  unfold sgn psOf
  rw [List.map_map]
  congr 1
  exact List.map_id' ys
theorem tf_key {kvs : List (Key × V)} {z : Str} (al : (kvs.all fun kv => isPiece (kV kv.1) && isPrice kv.2) = true) : z ∈ keyStrs kvs ↔ ∃ p, tfD kvs z = some p :=
  ⟨fun h => ⟨_, tf_some.mpr (price_of_key al h).1⟩, fun ⟨p, h⟩ => ks_mem.mpr (valV_in (tf_some.mp h))⟩
theorem keys_nd {kvs : List (Key × V)} (al : (kvs.all fun kv => isPiece (kV kv.1) && isPrice kv.2) = true) (nd : (kvs.map (·.1)).Nodup) : (keyStrs kvs).Nodup := by
  rw [keys_of al] at nd
  exact nd_of_map nd
theorem sgn_eq {kvs1 kvs2 : List (Key × V)} {ys1 ys2 : List Str} (al1 : (kvs1.all fun kv => isPiece (kV kv.1) && isPrice kv.2) = true) (al2 : (kvs2.all fun kv => isPiece (kV kv.1) && isPrice kv.2) = true)
    (nd1 : (kvs1.map (·.1)).Nodup) (nd2 : (kvs2.map (·.1)).Nodup) (pm1 : ys1.Perm (keyStrs kvs1)) (pm2 : ys2.Perm (keyStrs kvs2)) (so1 : sortedS ys1 = true) (so2 : sortedS ys2 = true) (ss : SameSigns (tfD kvs1) (tfD kvs2)) :
    sgn (psOf kvs1 ys1) = sgn (psOf kvs2 ys2) := by
  rw [sgn_ps, sgn_ps]
  refine so_eq ((so_pw so1).filter _) ((so_pw so2).filter _) ?_
  refine (List.perm_ext_iff_of_nodup ((pm1.nodup_iff.mpr (keys_nd al1 nd1)).filter _) ((pm2.nodup_iff.mpr (keys_nd al2 nd2)).filter _)).mpr fun z => ?_
  rw [List.mem_filter, List.mem_filter, pm1.mem_iff, pm2.mem_iff, tf_key al1, tf_key al2]
  constructor
  · rintro ⟨h1, h2⟩
    obtain ⟨c, rfl⟩ := one_sign (z := z) (by rw [cs_len]; simpa using h2)
    exact ⟨(ss c).mp h1, h2⟩
  · rintro ⟨h1, h2⟩
    obtain ⟨c, rfl⟩ := one_sign (z := z) (by rw [cs_len]; simpa using h2)
    exact ⟨(ss c).mpr h1, h2⟩
/-! ### tuples of texts as data -/
theorem dpAll_strs {K : PySem.W.Frag} {H : Hp} : ∀ zs : List Str, DpAll K H (zs.map V.str) (zs.map PyData.str)
  | [] => .nil
  | z :: r => .cons (.str z) (dpAll_strs r)
theorem strOk_lett {z : Str} (h : ∀ c ∈ cs z, lett c = true) : PyData.strOk z = true := by
  show z.cps.all (fun c => decide (c < 0x110000)) = true
  rw [Array.all_eq_true_iff_forall_mem]
  intro c hc
  have h1 := h c (by simpa [cs] using hc)
  unfold lett at h1
  rw [Bool.and_eq_true] at h1
  have := of_decide_eq_true h1.2
  exact decide_eq_true (by omega)
theorem shaped_strs {zs : List Str} (h : ∀ z ∈ zs, ∀ c ∈ cs z, lett c = true) : SeqAt.shaped (.tuple (zs.map PyData.str)) = true := by
  have h1 : ∀ l : List Str, (∀ z ∈ l, ∀ c ∈ cs z, lett c = true) → PyData.canLayAll0 (l.map PyData.str) = true := by
    intro l hl
    induction l with
    | nil => rfl
    | cons a r ih => simp [PyData.canLayAll0, PyData.canLay0, strOk_lett (hl a List.mem_cons_self), ih fun z hz => hl z (List.mem_cons_of_mem _ hz)]
  have h2 : ∀ l : List Str, PyData.depthAll (l.map PyData.str) = 0 := by
    intro l
    induction l with
    | nil => simp [PyData.depthAll]
    | cons a r ih => simp [PyData.depthAll, PyData.depth, ih]
  unfold SeqAt.shaped
  rw [Bool.and_eq_true]
  refine ⟨by simpa [PyData.canLay0] using h1 zs h, decide_eq_true ?_⟩
  simp only [PyData.depth, h2]
  omega
theorem eqv_strs {zs : List Str} (h : ∀ z ∈ zs, ∀ c ∈ cs z, lett c = true) : PyData.eqv (.tuple (zs.map PyData.str)) (.tuple (zs.map PyData.str)) = true :=
  SeqAt.eqv_refl _ (SeqAt.canLay_of_shaped (shaped_strs h))
/-! ### promises of cutbehind.base.compared -/
def NoDear (F1 F2 : Tf) : Prop := ∀ z p, F2 z = some p → lp F1 (cs z) ≤ p
/-- what dearer_in returns -/
def DearR (F1 F2 : Tf) (r : V) : Prop := (r = .non ∧ NoDear F1 F2) ∨ ∃ z p, r = .str z ∧ F2 z = some p ∧ p < lp F1 (cs z) ∧ ∀ z' p', F2 z' = some p' → cs z' < cs z → lp F1 (cs z') ≤ p'
def spReqBook (C : Addr) : Sp := fun vs H Q _ => ∃ b dx fs, vs = [.ref b] ∧ H b = some (.ins C dx fs) ∧ Q .non H
def Two (C : Addr) (H : Hp) (vs : List V) (k1 k2 : List (Key × V)) : Prop := ∃ b1 b2, vs = [.ref b1, .ref b2] ∧ Book1 C H b1 k1 ∧ Book1 C H b2 k2 ∧ SameSigns (tfD k1) (tfD k2)
def spReqCmp (C : Addr) : Sp := fun vs H Q _ => ∃ k1 k2, Two C H vs k1 k2 ∧ ∀ H', Same H H' → Q .non H'
def spDearer (C : Addr) : Sp := fun vs H Q _ => ∃ k1 k2, Two C H vs k1 k2 ∧ ∀ r H', Same H H' → DearR (tfD k1) (tfD k2) r → Q r H'
def spNowhere (C : Addr) : Sp := fun vs H Q _ => ∃ k1 k2, Two C H vs k1 k2 ∧ ∀ b H', Same H H' → (b = true ↔ NoDear (tfD k1) (tfD k2)) → Q (.bl b) H'
def spAsCheap (C : Addr) : Sp := fun vs H Q _ => ∃ k1 k2, Two C H vs k1 k2 ∧ ∀ b H', Same H H' → (b = true ↔ NoDear (tfD k1) (tfD k2) ∧ NoDear (tfD k2) (tfD k1)) → Q (.bl b) H'
theorem dear_non {F1 F2 : Tf} {r : V} (d : DearR F1 F2 r) : decide (r = .non) = true ↔ NoDear F1 F2 := by
  rw [decide_eq_true_eq]
  rcases d with ⟨h1, h2⟩ | ⟨z, p, h1, h2, h3, _⟩
  · exact ⟨fun _ => h2, fun _ => h1⟩
  · refine ⟨fun e => ?_, fun n => ?_⟩
    · rw [h1] at e
      cases e
    · have := n z p h2
      omega
theorem SameSigns.symm {F1 F2 : Tf} (h : SameSigns F1 F2) : SameSigns F2 F1 := fun c => (h c).symm
/-! ### lists of texts as data; heaps with a lock -/
theorem shaped_lstrs {zs : List Str} (h : ∀ z ∈ zs, ∀ c ∈ cs z, lett c = true) : SeqAt.shaped (.list (zs.map PyData.str)) = true := by
  have h1 := shaped_strs h
  unfold SeqAt.shaped at h1 ⊢
  simpa [PyData.canLay0, PyData.depth] using h1
theorem eqv_nil (zs : List Str) : PyData.eqv (.list (zs.map PyData.str)) (.list []) = zs.isEmpty := by cases zs <;> simp [PyData.eqv, PyData.eqvAll]
theorem rd_lock {H : Hp} {a b : Addr} {u v : HO} {od : Obj} (h : H a = some u) (k : H b = some v) : Rd (upd H b (.frz od v)) a u := by
  by_cases e : a = b
  · subst e
    rw [h] at k
    cases k
    exact .inr ⟨od, upd_same⟩
  · exact .inl (by rw [upd_ne e]; exact h)
theorem repr_bool {K : PySem.W.Frag} {H : Hp} {b : Bool} {Q : VK} (q : Q (.str (PyData.bool b).shown) H) : rRepr K [.bl b] H Q :=
  ⟨_, .bool b, rfl, .bl b, (shw_bool b).s, (shw_bool b).h, Nat.le_trans (shw_bool b).dp (by omega), Nat.le_trans (shw_bool b).len (fits_sz (by omega)), q⟩
/-- x == [] for a list of texts -/
theorem eq_nil {K : PySem.W.Frag} {H : Hp} {a p : Addr} {zs : List Str} {Q : VK} (h : SqL K H a (zs.map V.str)) (hp : H p = some (.lst [])) (hl : ∀ z ∈ zs, ∀ c ∈ cs z, lett c = true) (q : Q (.bl zs.isEmpty) H) : rEqD K (.ref a) (.ref p) H Q := by
  refine ⟨.list (zs.map PyData.str), .list [], .lst h (dpAll_strs zs), .lst (SqL.of hp) .nil, shaped_lstrs hl, by decide, ?_⟩
  rw [eqv_nil]
  exact q
/-! ### books under changes of lists; which texts are dearer -/
theorem Book1.keep {C : Addr} {H H' : Hp} {b : Addr} {kvs : List (Key × V)} (B : Book1 C H b kvs) (h : ∀ a o, H a = some o → (∀ xs, o ≠ .lst xs) → H' a = some o) : Book1 C H' b kvs := by
  obtain ⟨ys, L, M, dx, d, tp, ta, od, h1, h2, A⟩ := B.ex
  exact ⟨B.av, B.nd, ys, L, M, dx, d, tp, ta, od, h1, h2, h _ _ A.ob (fun _ e => by cases e), h _ _ A.dc (fun _ e => by cases e), h _ _ A.pi (fun _ e => by cases e), h _ _ A.al (fun _ e => by cases e), A.lo, A.de⟩
theorem Book1.updL {C : Addr} {H : Hp} {a b : Addr} {kvs : List (Key × V)} {xs : List V} {o : HO} (B : Book1 C H b kvs) (h : H a = some (.lst xs)) : Book1 C (upd H a o) b kvs :=
  B.keep fun c u e n => by
    rw [upd_ne fun q => ?_]
    · exact e
    · rw [q, h] at e
      exact n xs (Option.some.inj e).symm
theorem Book1.kp {C : Addr} {H H' : Hp} {l b : Addr} {kvs : List (Key × V)} {n : Nat} (B : Book1 C H b kvs) (D : Dice H l n) (k : Kp l H H') : Book1 C H' b kvs := by
  obtain ⟨d0, d1, d2, h, _⟩ := D
  refine B.keep fun c u e n => k c u e fun q => ?_
  rw [q, h] at e
  exact n _ (Option.some.inj e).symm
noncomputable def dearG (F1 F2 : Tf) : Key × V → Option Str := fun kv => match kv.1 with
  | .inr z => if lp F2 (cs z) < lp F1 (cs z) then some z else none
  | .inl _ => none
theorem Tar.mono {k1 k2 : List (Key × V)} (t1 : Tar k1) (t2 : Tar k2) (ss : SameSigns (tfD k1) (tfD k2)) (h : NoDear (tfD k1) (tfD k2)) {l : List Nat} (o : Over (tfD k1) l) : lp (tfD k1) l ≤ lp (tfD k2) l :=
  lp_mono t1.good t2.good (fun z p hz => ⟨fun c hc => (ss c).mpr (t2.good.cov z p hz c hc), h z p hz⟩) o fun c hc => (ss c).mp (o c hc)
theorem dear_iff {k1 k2 kf : List (Key × V)} {S : Str → Prop} (T : TblOk (tfD k1) S kf) (t1 : Tar k1) (t2 : Tar k2) (ss : SameSigns (tfD k1) (tfD k2)) (hS : ∀ z, S z → Over (tfD k1) (cs z)) (hk : ∀ z p, tfD k2 z = some p → S z) :
    kf.filterMap (dearG (tfD k1) (tfD k2)) = [] ↔ NoDear (tfD k1) (tfD k2) := by
  rw [List.filterMap_eq_nil_iff]
  constructor
  · intro h z p hz
    have h1 := h _ (valV_mem (T.val z (hk z p hz)))
    have h2 : (if lp (tfD k2) (cs z) < lp (tfD k1) (cs z) then some z else none) = none := h1
    have h3 := lp_piece t2.good hz
    by_cases q : lp (tfD k2) (cs z) < lp (tfD k1) (cs z)
    · rw [if_pos q] at h2
      cases h2
    · omega
  · intro n kv hkv
    obtain ⟨z, ez, hz⟩ := T.key kv hkv
    unfold dearG
    rw [ez]
    show (if lp (tfD k2) (cs z) < lp (tfD k1) (cs z) then some z else none) = none
    have := t1.mono t2 ss n (hS z hz)
    rw [if_neg (by omega)]
theorem nodear_trans {k0 k1 k2 : List (Key × V)} (t0 : Tar k0) (t1 : Tar k1) (t2 : Tar k2) (s01 : SameSigns (tfD k0) (tfD k1)) (s12 : SameSigns (tfD k1) (tfD k2)) (h : NoDear (tfD k0) (tfD k1)) (k : NoDear (tfD k1) (tfD k2)) : NoDear (tfD k0) (tfD k2) := by
  intro z p hz
  have h1 := k z p hz
  have h2 := t0.mono t1 s01 h (l := cs z) fun c hc => (s01 c).mpr ((s12 c).mpr (t2.good.cov z p hz c hc))
  omega
theorem nodear_self {k : List (Key × V)} (t : Tar k) : NoDear (tfD k) (tfD k) := fun z p hz => lp_piece t.good hz
theorem fm_str {α : Type} {g : α → Option Str} {l : List α} : l.filterMap (fun a => (g a).map V.str) = (l.filterMap g).map V.str := by
  rw [List.map_filterMap]
theorem tandv {ta tb : TE} {σ : L2.St} {H : Hp} {Q : VK} {a b : Bool} (ha : ∀ N : VK, N (.bl a) H → ta σ H N) (hb : ∀ N : VK, N (.bl b) H → tb σ H N) (q : Q (.bl (a && b)) H) : tAndV ta tb σ H Q := by
  refine ha _ ⟨a, rfl, ?_⟩
  refine itB (fun e => hb _ ?_) (fun e => ?_)
  · rw [e] at q
    exact q
  · rw [e] at q
    exact q
/-! ### the row of prices_along -/
theorem best_end {F : Tf} {l : List Nat} {L : Nat} {m : Int} (G : Good F) (o : Over F l) (ne : l ≠ []) (hL : ∀ z p, F z = some p → (cs z).length ≤ L) (hm : ∃ s, s < l.length ∧ costF F l s = some m)
    (hb : ∀ s y, l.length - L ≤ s → s < l.length → costF F l s = some y → m ≤ y) : m = lp F l := by
  refine lp_step G o ne (ys := (List.range l.length).filterMap (costF F l)) ?_ ?_ ?_ ?_
  · intro y hy
    obtain ⟨s, hs, g⟩ := List.mem_filterMap.mp hy
    have g' : (F (sOf (l.drop s))).map (fun p => lp F (l.take s) + p) = some y := g
    cases e : F (sOf (l.drop s)) with
    | none =>
      rw [e] at g'
      cases g'
    | some p =>
      rw [e] at g'
      exact ⟨_, p, l.take s, e, by rw [cs_sOf, List.take_append_drop], (Option.some.inj g').symm⟩
  · intro z p a hp ha
    have hn := (G.len z p hp).1
    have hl := congrArg List.length ha
    rw [List.length_append] at hl
    refine List.mem_filterMap.mpr ⟨a.length, List.mem_range.mpr (by omega), ?_⟩
    unfold costF
    have e2 : l.drop a.length = cs z := by rw [ha, List.drop_left]
    have e3 : l.take a.length = a := by rw [ha, List.take_left]
    rw [e2, e3, sOf_cs, hp]
    rfl
  · obtain ⟨s, hs, e⟩ := hm
    exact List.mem_filterMap.mpr ⟨s, List.mem_range.mpr hs, e⟩
  · intro y hy
    obtain ⟨s, hs, g⟩ := List.mem_filterMap.mp hy
    have hs' := List.mem_range.mp hs
    refine hb s y ?_ hs' g
    have g' : (F (sOf (l.drop s))).map (fun p => lp F (l.take s) + p) = some y := g
    cases e : F (sOf (l.drop s)) with
    | none =>
      rw [e] at g'
      cases g'
    | some p =>
      have := hL _ _ e
      rw [cs_sOf, List.length_drop] at this
      omega
theorem maxN (n m : Nat) : (if (n : Int) - (m : Int) > 0 then (n : Int) - (m : Int) else 0) = ((n - m : Nat) : Int) := by split <;> omega
/-- prices_along -/
def spAlong (C : Addr) : Sp := fun vs H Q _ => ∃ b kvs z, vs = [.ref b, .str z] ∧ Book1 C H b kvs ∧ Over (tfD kvs) (cs z) ∧ z.length ≤ 10000 ∧ ∀ p H', H p = none → H' p = some (.lst (rowV (tfD kvs) (cs z) (z.length + 1))) → Same H H' → Q (.ref p) H'
/-! ### properties -/
structure HasP (P : Program) (w : World) (K : PySem.W.Frag) (mg : Str → Option Value) (base : Heap) (k : Nat) (C : Addr) (f : Str) (sp : Sp) : Prop where
  ex : ∃ p g fd, Cls K C ∧ PropOf K C f p g ∧ FnOk P w K mg base CX0 k g fd ["self"] sp ∧ Binds K fd ["self"] []
theorem pe_prp {X : Cx} {k j : Nat} {C : Addr} {f : Str} {sp : Sp} {e : Expr} {pos : Pos} {ta : TE} (c : HasP X.prog X.w X.K X.mg X.base k C f sp) (hr : Room j X.A) (hk : k + 1 ≤ j) (he : PE X e ta)
    (hab : attributeBase e f X.env (eval e X.env) = eval e X.env := by rfl) : PE X (.Attribute e f pos) (tProp C sp [] C8.E0 ta) := by
  obtain ⟨p, g, fd, hc, hp, F, hb⟩ := c.ex
  exact pe_prop he hc hp F (hr.mono hk) hb .nil pass0 hab
/-! ### texts over a book -/
theorem inV_str {z : Str} : ∀ {zs : List Str}, inV (.str z) (zs.map V.str) = decide (z ∈ zs)
  | [] => by simp [inV]
  | a :: r => by
    have ih := inV_str (z := z) (zs := r)
    unfold inV at ih ⊢
    rw [List.map_cons, List.any_cons, ih]
    have e : eqV (.str a) (.str z) = decide (z = a) := by
      by_cases h : z = a
      · subst h
        simp [eqV]
      · have h' : ¬ a = z := fun q => h q.symm
        simp [eqV, h, h']
    rw [e]
    by_cases h : z = a <;> simp [h]
theorem flat_strs (zs : List Str) : (zs.map V.str).all flatV = true := by
  rw [List.all_map, List.all_eq_true]
  intro z _
  rfl
theorem sgn_mem {kvs : List (Key × V)} {ys : List Str} (al : (kvs.all fun kv => isPiece (kV kv.1) && isPrice kv.2) = true) (pm : ys.Perm (keyStrs kvs)) {c : Nat} : ch c ∈ sgn (psOf kvs ys) ↔ ∃ p, tfD kvs (ch c) = some p := by
  rw [sgn_ps, List.mem_filter, pm.mem_iff, tf_key al]
  exact ⟨fun h => h.1, fun h => ⟨h, rfl⟩⟩
def overB (kvs : List (Key × V)) (z : Str) : Bool := isText (.str z) && (cs z).all fun c => (tfD kvs (ch c)).isSome
theorem overB_true {kvs : List (Key × V)} {z : Str} (h1 : isText (.str z) = true) (h2 : Over (tfD kvs) (cs z)) : overB kvs z = true := by
  unfold overB
  rw [h1, Bool.true_and, List.all_eq_true]
  intro c hc
  obtain ⟨p, hp⟩ := h2 c hc
  rw [hp]
  rfl
/-- is_text_over, accepts -/
def spTextOver (C : Addr) : Sp := fun vs H Q _ => ∃ b kvs z, vs = [.ref b, .str z] ∧ Book1 C H b kvs ∧ z.length ≤ 100000 ∧ ∀ H', Same H H' → Q (.bl (overB kvs z)) H'
/-- require_text -/
def spReqText (C : Addr) : Sp := fun vs H Q _ => ∃ b kvs z, vs = [.ref b, .str z] ∧ Book1 C H b kvs ∧ z.length ≤ 100000 ∧ overB kvs z = true ∧ ∀ H', Same H H' → Q .non H'
/-- prices -/
def spPrices (C : Addr) : Sp := fun vs H Q _ => ∃ b kvs, vs = [.ref b] ∧ Book1 C H b kvs ∧ ∀ p ys H', H p = none → ys.Perm (keyStrs kvs) → sortedS ys = true → H' p = some (.dK (kvOf (psOf kvs ys))) → Same H H' → Q (.ref p) H'
/-- least_price, of a dict that is not changed -/
def spLeastPrice : Sp := fun vs H Q _ => ∃ d od kvs z, vs = [.ref d, .str z] ∧ H d = some (.frz od (.dK kvs)) ∧ Tar kvs ∧ Over (tfD kvs) (cs z) ∧ z.length ≤ 10000 ∧ ∀ H', Same H H' → Q (.int (lp (tfD kvs) (cs z))) H'
theorem rNe_nil {K : PySem.W.Frag} {H : Hp} {a p : Addr} {zs : List Str} {Q : VK} (h : SqL K H a (zs.map V.str)) (hp : H p = some (.lst [])) (hl : ∀ z ∈ zs, ∀ c ∈ cs z, lett c = true) (q : Q (.bl (!zs.isEmpty)) H) : rNeD K (.ref a) (.ref p) H Q := by
  refine ⟨.list (zs.map PyData.str), .list [], .lst h (dpAll_strs zs), .lst (SqL.of hp) .nil, shaped_lstrs hl, by decide, ?_⟩
  rw [eqv_nil]
  exact q
end G
/-! sorted(d.items()) of a dict from texts to ints. -/
namespace G
open PySem PySem.W PySem.Spec PyProof.Rows
/-- the text that stands first in a tuple -/
def txK (h : Heap) (v : Value) : Str := DT.txOf (DT.seqAt0 h (DT.refOf (some v)))
def PairTI (h : Heap) (v : Value) (y : Str) (n : Int) : Prop := ∃ a t u, v = .ref a ∧ IsTup h a #[.str y t, .int n u]
theorem PairTI.tx {h : Heap} {v : Value} {y : Str} {n : Int} (x : PairTI h v y n) : txK h v = y := by
  obtain ⟨a, t, u, rfl, i⟩ := x
  have e := DT.seqAt0_of i
  unfold txK
  show DT.txOf (DT.seqAt0 h a) = y
  rw [e]
  rfl
theorem firstsTI {h : Heap} {M : Str → Int} : ∀ vs : List Value, (∀ v ∈ vs, ∃ y, PairTI h v y (M y)) → ∃ fs : List Value, KatTups h vs fs ∧ fs.length = vs.length ∧ ∀ f ∈ fs, ∃ y t, f = Value.str y t
  | [], _ => ⟨[], KatTups.nil, rfl, fun _ z => (List.not_mem_nil z).elim⟩
  | v :: r, x => by
    obtain ⟨fs, k, hl, hi⟩ := firstsTI r fun u hu => x u (List.mem_cons_of_mem _ hu)
    obtain ⟨y, a, t, u, rfl, ⟨o, ho, hc, n, hd⟩⟩ := x v List.mem_cons_self
    refine ⟨.str y t :: fs, KatTups.cons ho hc hd rfl k, congrArg (· + 1) hl, fun f hf => ?_⟩
    rcases List.mem_cons.mp hf with rfl | hf
    · exact ⟨y, t, rfl⟩
    · exact hi f hf
section
variable {prog : Program} {w : World} {A : Around} {E : Value → Shared → Prop} {s : Shared}
theorem kindTI {vs : List Value} {ρ : Str → Int} {M : Str → Int} (h2 : 2 ≤ vs.length) (x : ∀ v ∈ vs, ∃ y, PairTI s.heap v y (M y))
    (hρ : ∀ v ∈ vs, ∀ u ∈ vs, decide ((txK s.heap v).cps.toList < (txK s.heap u).cps.toList) = decide (ρ (txK s.heap v) < ρ (txK s.heap u))) (Q : SortKind → Shared → Prop)
    (h : ∀ κ, _root_.TS.Cmp prog w A s κ (pairsOf vs) (fun v => ρ (txK s.heap v)) → Q κ s) : wpAny (model prog w) A (keyKind' vs.toArray) Q E s := by
  obtain ⟨fs, k, hl, hi⟩ := firstsTI vs x
  refine kat_kind (T := Value.type "str") k (by omega) (fun f hf => ?_) rfl (h _ ?_)
  · obtain ⟨y, t, rfl⟩ := hi f hf
    exact .now
  · have hb : (Value.type "str" != Value.type "tuple") = true := by first | rfl | decide | simp
    rw [hb]
    intro p q hp hq Q' E' hQ
    rw [pairsOf_toList] at hp hq
    have mp := (mem_zip_self hp).2
    have mq := (mem_zip_self hq).2
    obtain ⟨y, py⟩ := x _ mp
    obtain ⟨z, pz⟩ := x _ mq
    have hQ1 : Q' (decide (ρ (txK s.heap p.1) < ρ (txK s.heap q.1))) s := hQ
    rw [← hρ _ mp _ mq, py.tx, pz.tx] at hQ1
    obtain ⟨a, t, u, e1, ⟨o, ho, _, n, hd⟩⟩ := py
    obtain ⟨b, t', u', e2, ⟨o', ho', _, n', hd'⟩⟩ := pz
    rw [e1, e2]
    refine kat_lt ho hd ho' hd' ?_
    show KatLex prog w A true false Q' [(Value.str y t, Value.str z t'), (Value.int (M y) u, Value.int (M z) u')] 0 s
    refine kat_cons (SeqAt.EqAt.str_str y t z t' _ _ _ _ ?_)
    refine kat_go (fun e0 => ?_) (fun e0 => ?_)
    · have e : y = z := by simpa using e0
      subst e
      have irr : decide (y.cps.toList < y.cps.toList) = false := decide_eq_false (List.lt_irrefl _)
      rw [irr] at hQ1
      refine kat_yes (kat_cons (SeqAt.EqAt.int_int (M y) u (M y) u' _ _ _ _ ?_))
      refine kat_go (fun _ => kat_yes (kat_nil hQ1)) (fun e1' => ?_)
      simp at e1'
    · refine kat_no ?_
      show wpAny _ _ (oneLt' true _ _) _ _ _
      exact oneLt_str hQ1
end
/-! ### the rank of a text among some -/
def rankOf (ks : List Str) (y : Str) : Int := (ks.countP fun k => decide (cs k < cs y) : Nat)
theorem countP_le {α : Type} {p q : α → Bool} : ∀ {l : List α}, (∀ a ∈ l, p a = true → q a = true) → l.countP p ≤ l.countP q
  | [], _ => Nat.le_refl _
  | a :: r, h => by
    have ih := countP_le (l := r) fun b hb => h b (List.mem_cons_of_mem _ hb)
    rw [List.countP_cons, List.countP_cons]
    have := h a List.mem_cons_self
    by_cases e : p a = true
    · rw [if_pos e, if_pos (this e)]
      omega
    · rw [if_neg e]
      split <;> omega
theorem countP_lt {α : Type} {p q : α → Bool} {x : α} : ∀ {l : List α}, (∀ a ∈ l, p a = true → q a = true) → x ∈ l → p x = false → q x = true → l.countP p < l.countP q
  | [], _, hx, _, _ => (List.not_mem_nil hx).elim
  | a :: r, h, hx, h1, h2 => by
    have hr : ∀ b ∈ r, p b = true → q b = true := fun b hb => h b (List.mem_cons_of_mem _ hb)
    rw [List.countP_cons, List.countP_cons]
    rcases List.mem_cons.mp hx with rfl | hx
    · have ih := countP_le hr
      rw [if_neg (by rw [h1]; exact Bool.false_ne_true), if_pos h2]
      omega
    · have ih := countP_lt hr hx h1 h2
      have := h a List.mem_cons_self
      by_cases e : p a = true
      · rw [if_pos e, if_pos (this e)]
        omega
      · rw [if_neg e]
        split <;> omega
theorem rank_lt {ks : List Str} {y z : Str} (hy : y ∈ ks) (hz : z ∈ ks) : decide (cs y < cs z) = decide (rankOf ks y < rankOf ks z) := by
  unfold rankOf
  by_cases h : cs y < cs z
  · have h1 := countP_lt (p := fun k => decide (cs k < cs y)) (q := fun k => decide (cs k < cs z)) (l := ks) (fun a _ ha => decide_eq_true (List.lt_trans (of_decide_eq_true ha) h)) hy (decide_eq_false (List.lt_irrefl _)) (decide_eq_true h)
    rw [decide_eq_true h, decide_eq_true (by omega)]
  · have h1 := countP_le (p := fun k => decide (cs k < cs z)) (q := fun k => decide (cs k < cs y)) (l := ks) fun a _ ha => by
      by_cases q : cs a < cs y
      · exact decide_eq_true q
      · exact absurd (List.lt_of_le_of_lt (List.not_lt.mp q) (of_decide_eq_true ha)) h
    rw [decide_eq_false h, decide_eq_false (by omega)]
theorem rank_le {ks : List Str} {y z : Str} (hy : y ∈ ks) (hz : z ∈ ks) (h : rankOf ks y ≤ rankOf ks z) : cs y ≤ cs z := by
  have h1 := rank_lt hz hy
  rw [decide_eq_false (by omega : ¬ rankOf ks z < rankOf ks y)] at h1
  exact List.not_lt.mp (of_decide_eq_false h1)
/-! ### the rule -/
theorem pairs_get {prog : Program} {w : World} {K : Type} [DecidableEq K] {knd : KeyKind prog w K} : ∀ {es : List DictEntry} {kvs : List (K × Value)} {j : Nat} {e : DictEntry}, Pairs knd es kvs → es[j]? = some e → ∃ kv, kvs[j]? = some kv ∧ knd.is kv.1 e.key = true ∧ e.val = kv.2
  | _, _, _, _, .nil, h => by simp at h
  | _, _, 0, _, .cons h1 h2 _, h => by
    cases h
    exact ⟨_, rfl, h1, h2⟩
  | _, _, j + 1, _, .cons _ _ t, h => pairs_get (j := j) t (by simpa using h)
theorem pairs_len {prog : Program} {w : World} {K : Type} [DecidableEq K] {knd : KeyKind prog w K} : ∀ {es : List DictEntry} {kvs : List (K × Value)}, Pairs knd es kvs → es.length = kvs.length
  | _, _, .nil => rfl
  | _, _, .cons _ _ t => congrArg (· + 1) (pairs_len t)
abbrev entS (e : Str × Int) : L2.Key × L2.V := (Sum.inr e.1, L2.V.int e.2)
/-- d.items(), d locked or not -/
theorem mt_itemsK {X : L2.Cx} : L2.MtR X "dict.items" (fun x xs H Q => ∃ d kvs, x = .ref d ∧ xs = [] ∧ L2.Rd H d (.dK kvs) ∧ ∀ r, H r = none → Q (.ref r) (L2.upd H r (L2.DX.itemsO r d))) := by
  intro pins s σ H x xs v us Q I rx rs h
  obtain ⟨d, kvs, rfl, rfl, hd, q⟩ := h
  cases rx
  cases rs
  obtain ⟨_, low, vs, _, o, es, ep, ho, hx, hdat, _⟩ := L2.dk_rd I.hok hd
  refine DT.callItems (es := es) (ep := ep) low ⟨o, ho, hx, hdat⟩ ?_
  exact ⟨.ref s.heap.objs.size, _, I.laid (t' := s.toks) (o := L2.DX.itemsO s.heap.objs.size d) (fun _ _ e => Heap.get?_push_of_some _ e) (Nat.le_refl _) (L2.DX.itemsO_ok (Heap.get?_push_size _ rfl)), rfl, q _ (I.hok.fresh (Nat.le_refl _))⟩
/-- sorted(d.items()), d from texts to ints -/
def rSortTI : List L2.V → L2.Hp → L2.VK → Prop := fun vs H Q => ∃ (p a : Addr) (ks : List (Str × Int)), vs = [.ref p] ∧ H p = some (L2.DX.itemsO p a) ∧ L2.Rd H a (.dK (ks.map entS)) ∧ (ks.map (·.1)).Nodup ∧ ks.length < 64 ∧
  ∀ (H' : L2.Hp) (l : Addr) (ps : List (Addr × Str × Int)), L2.Same H H' → (ps.map (·.2)).Perm ks → (ps.map (·.2)).Pairwise (fun e f => cs e.1 ≤ cs f.1) → H' l = some (.lst (ps.map fun z => L2.V.ref z.1)) → (∀ z ∈ ps, H' z.1 = some (.tup [.str z.2.1, .int z.2.2])) → Q (.ref l) H'
def valS (ks : List (Str × Int)) (y : Str) : Int := ((ks.find? fun e => decide (e.1 = y)).map (·.2)).getD 0
theorem valS_of : ∀ {ks : List (Str × Int)} {e : Str × Int}, (ks.map (·.1)).Nodup → e ∈ ks → valS ks e.1 = e.2
  | [], _, _, h => (List.not_mem_nil h).elim
  | a :: r, e, nd, h => by
    obtain ⟨n1, n2⟩ := List.nodup_cons.mp nd
    unfold valS
    rw [List.find?_cons]
    rcases List.mem_cons.mp h with rfl | h
    · rw [decide_eq_true rfl]
      rfl
    · have ne : ¬ a.1 = e.1 := fun q => n1 (by
      show a.1 ∈ _
      rw [q]
      exact List.mem_map.mpr ⟨e, h, rfl⟩)
      rw [decide_eq_false ne]
      exact valS_of n2 h
open L2 in
theorem cr_sortTI {X : Cx} (hc : X.calm = true) : CallR X (.builtin "sorted") rSortTI := by
  intro pins s σ H xs us Q I r h
  obtain ⟨p, a, ks, rfl, hp, ha, nk, h64, q⟩ := h
  obtain rfl := Vals.ref1 r
  have view : s.heap.IsItemsView p a := (show ObjOk X.prog X.w H s.heap p (DX.itemsO p a) from I.hok p _ hp).1
  obtain ⟨_, low, ws, kv, o, es, ep, ho, hx, hdat, _, prs, _⟩ := dk_rd I.hok ha
  have n1 : ks.length = ws.length := by
    have := Paired.length kv
    rwa [List.length_map] at this
  have n2 : es.size = ws.length := by
    have := pairs_len prs
    rwa [Array.length_toList] at this
  refine DT.sortedI (es := es) (ep := ep) (I.ok.hd hc) view ⟨o, ho, hx, hdat⟩ (by rw [sizeLine_eq]; omega) fun g tk as hk hlt hl hG => ?_
  have nas : as.length = ks.length := by omega
  have nd : as.Nodup := List.Pairwise.imp (fun h => Nat.ne_of_lt h) hG.rise
  have made : ∀ (j : Nat) (b : Addr), as[j]? = some b → ∃ (e : Str × Int) (t u : Tok), ks[j]? = some e ∧ g.get? b = some { cls := .type "tuple", data := .seq #[Value.str e.1 t, Value.int e.2 u] } := by
    intro j b hj
    obtain ⟨en, he, hg⟩ := hG.pairs j b hj
    obtain ⟨kw, hw, h1, h2⟩ := pairs_get (j := j) prs (by rw [Array.getElem?_toList]; exact he)
    obtain ⟨e0, he0, r1, r2⟩ := DX.pget kv hw
    rw [List.getElem?_map] at he0
    cases hkj : ks[j]? with
    | none =>
      rw [hkj] at he0
      cases he0
    | some e =>
      rw [hkj] at he0
      cases he0
      have rk : RelV (kV (Sum.inr e.1)) en.key := relV_key (show keyIs (Sum.inr e.1) en.key = true by rw [show (Sum.inr e.1 : L2.Key) = kw.1 from r1]; exact h1)
      obtain ⟨t, ek⟩ := rk
      have rv : RelV (V.int e.2) en.val := by
        rw [h2]
        exact r2
      obtain ⟨u, ev⟩ := rv
      refine ⟨e, t, u, rfl, ?_⟩
      rw [hg, ek, ev]
  -- the heap while the sort asks
  have lo : (g.push { cls := .type "list", data := .seq (as.map Value.ref).toArray }).get? g.objs.size = some (seqObj "list" (as.map Value.ref).toArray 0) := Heap.get?_push_size _ rfl
  have up : ∀ b o, g.get? b = some o → (g.push { cls := .type "list", data := .seq (as.map Value.ref).toArray }).get? b = some o := fun b o e => Heap.get?_push_of_some _ e
  have off : ∀ b o, g.get? b = some o → b ≠ g.objs.size := fun b o e => Nat.ne_of_lt (Heap.lt_size e)
  generalize g.push { cls := .type "list", data := .seq (as.map Value.ref).toArray } = m at lo up ⊢
  have pin : ∀ (j : Nat) (b : Addr), as[j]? = some b → ∃ e : Str × Int, ks[j]? = some e ∧ PairTI (_root_.TS.midHeap m g.objs.size (as.map Value.ref)) (.ref b) e.1 (valS ks e.1) := by
    intro j b hj
    obtain ⟨e, t, u, he, hg⟩ := made j b hj
    refine ⟨e, he, b, t, u, rfl, ⟨_, _root_.TS.midHeap_old (off _ _ hg) (up _ _ hg), rfl, 0, ?_⟩⟩
    rw [valS_of nk (List.mem_of_getElem? he)]
  have tx : ∀ (j : Nat) (b : Addr) (e : Str × Int), as[j]? = some b → ks[j]? = some e → txK (_root_.TS.midHeap m g.objs.size (as.map Value.ref)) (.ref b) = e.1 := by
    intro j b e hj he
    obtain ⟨e', he', hp'⟩ := pin j b hj
    rw [he] at he'
    cases he'
    exact hp'.tx
  have each : ∀ v ∈ as.map Value.ref, ∃ (j : Nat) (b : Addr) (e : Str × Int), v = .ref b ∧ as[j]? = some b ∧ ks[j]? = some e := by
    intro v hv
    obtain ⟨b, hb, rfl⟩ := List.mem_map.mp hv
    obtain ⟨j, hj⟩ := List.mem_iff_getElem?.mp hb
    obtain ⟨e, _, _, he, _⟩ := made j b hj
    exact ⟨j, b, e, rfl, hj, he⟩
  have inK : ∀ {j : Nat} {e : Str × Int}, ks[j]? = some e → e.1 ∈ ks.map (·.1) := fun h => List.mem_map.mpr ⟨_, List.mem_of_getElem? h, rfl⟩
  refine wpAny_call_entry PyProof.Rows.slot_list_sort ⟨_, lo, rfl⟩ PyProof.Rows.entry_list_sort (SK.plain_sort (s := { s with heap := m, toks := tk })
    (r := fun v => rankOf (ks.map (·.1)) (txK (_root_.TS.midHeap m g.objs.size (as.map Value.ref)) v)) lo (by rw [List.length_map]; omega) (fun two Qk hQk => ?_) fun ps out o1 o2 o3 => ⟨.none, rfl, ?_⟩) (PyProof.Rows.args_list_sort _)
  · refine kindTI (s := { s with heap := _root_.TS.midHeap m g.objs.size (as.map Value.ref), toks := tk }) (ρ := rankOf (ks.map (·.1))) (M := valS ks) two (fun v hv => ?_) (fun v hv u hu => ?_) Qk hQk
    · obtain ⟨j, b, e, rfl, hj, _⟩ := each v hv
      obtain ⟨e', _, hp'⟩ := pin j b hj
      exact ⟨e'.1, hp'⟩
    · obtain ⟨j, b, e, rfl, hj, he⟩ := each v hv
      obtain ⟨j', b', e', rfl, hj', he'⟩ := each u hu
      dsimp only
      rw [tx j b e hj he, tx j' b' e' hj' he']
      exact rank_lt (inK he) (inK he')
  · show EP X pins σ Q (.ref g.objs.size) { s with heap := sortedHeap m g.objs.size (as.map Value.ref) out, toks := tk }
    obtain ⟨zs, pz, ez⟩ := perm_lift (fun z : Addr × Str × Int => (Value.ref z.1, Value.ref z.1)) o2 (as.zip ks) (DX.zip_self Value.ref as ks nas)
    have idx : ∀ z ∈ zs, ∃ j : Nat, as[j]? = some z.1 ∧ ks[j]? = some z.2 := by
      intro z hz
      obtain ⟨j, hj⟩ := List.mem_iff_getElem?.mp (pz.mem_iff.mp hz)
      exact ⟨j, List.getElem?_zip_eq_some.mp hj⟩
    have eout : out.toList = zs.map fun z => Value.ref z.1 := by
      rw [o1, ← ez, List.map_map]
      rfl
    have perm : (zs.map (·.2)).Perm ks := by
      have e := pz.map (·.2)
      rwa [show (as.zip ks).map (·.2) = ks from List.map_snd_zip (by omega)] at e
    have srt : (zs.map (·.2)).Pairwise (fun e f => cs e.1 ≤ cs f.1) := by
      rw [← ez, List.pairwise_map] at o3
      rw [List.pairwise_map]
      refine List.Pairwise.imp_of_mem (fun {x y} hx hy h => ?_) o3
      obtain ⟨j, j1, j2⟩ := idx x hx
      obtain ⟨i, i1, i2⟩ := idx y hy
      dsimp only at h
      rw [tx j _ _ j1 j2, tx i _ _ i1 i2] at h
      exact rank_le (inK j2) (inK i2) h
    have keepM : ∀ b o, b ≠ g.objs.size → m.get? b = some o → (sortedHeap m g.objs.size (as.map Value.ref) out).get? b = some o := fun b o hb e => (PyProof.Rows.sortedHeap_old hb (Heap.lt_size e)).trans e
    have keepS : ∀ b o, s.heap.get? b = some o → (sortedHeap m g.objs.size (as.map Value.ref) out).get? b = some o := fun b o e => keepM b o (off _ _ (hk b o e)) (up _ _ (hk b o e))
    obtain ⟨ce, hce⟩ := PyProof.Rows.sortedHeap_at (vs := as.map Value.ref) (out := out) lo
    have J1 : Inv X pins σ H { s with heap := sortedHeap m g.objs.size (as.map Value.ref) out, toks := tk } := I.kept (t' := tk) keepS
    have free : H g.objs.size = none := I.hok.fresh (Nat.le_of_lt hlt)
    have zlen : (zs.map fun z => V.ref z.1).length ≤ sizeLine := by
      have e := perm.length_eq
      rw [List.length_map] at e
      rw [List.length_map, sizeLine_eq]
      omega
    have J2 : Inv X pins σ (upd H g.objs.size (.lst (zs.map fun z => V.ref z.1))) { s with heap := sortedHeap m g.objs.size (as.map Value.ref) out, toks := tk } :=
      J1.take (h' := sortedHeap m g.objs.size (as.map Value.ref) out) (t' := tk) (fun b ob _ e => e) (I.fpOk (Nat.le_of_lt hlt) free) ⟨zlen, out.toList, ce, by rw [eout]; exact vals_maps (fun z : Addr × Str × Int => V.ref z.1) (fun z => Value.ref z.1) zs fun _ _ => rfl, hce⟩
    obtain ⟨H2, J3, kp, tups⟩ := DX.takeT (P := fun b xs => ∃ (j : Nat) (e : Str × Int), as[j]? = some b ∧ ks[j]? = some e ∧ xs = [V.str e.1, V.int e.2]) I as _ J2 nd fun b hb => by
      obtain ⟨j, hj⟩ := List.mem_iff_getElem?.mp hb
      obtain ⟨e, t, u, he, hg⟩ := made j b hj
      have low' : s.heap.objs.size ≤ b := Nat.le_of_lt (hG.above b hb)
      refine ⟨low', ?_, [V.str e.1, V.int e.2], ⟨j, e, hj, he, rfl⟩, fun H3 => ⟨by show 2 ≤ sizeLine; decide, [Value.str e.1 t, Value.int e.2 u], .cons ⟨t, rfl⟩ (.cons ⟨u, rfl⟩ .nil), ⟨_, keepM _ _ (off _ _ hg) (up _ _ hg), rfl, 0, rfl⟩⟩⟩
      rw [upd_ne (off _ _ hg)]
      exact I.hok.fresh low'
    have same : Same H H2 := fun b o e => kp b o (by rw [upd_ne (ne_of_none e free)]; exact e)
    refine ⟨.ref g.objs.size, H2, J3, rfl, q H2 g.objs.size zs same perm srt (kp _ _ upd_same) fun z hz => ?_⟩
    obtain ⟨i, i1, i2⟩ := idx z hz
    obtain ⟨xs, ⟨j, e, j1, j2, rfl⟩, hH⟩ := tups z.1 (List.mem_of_getElem? i1)
    have eij : i = j := (List.getElem?_inj (List.getElem?_eq_some_iff.mp i1).1 nd).mp (i1.trans j1.symm)
    subst eij
    rw [i2] at j2
    cases j2
    exact hH
/-! ### repr of a dict from texts to ints -/
def dDict (ks : List (Str × Int)) : PyData := .dict (ks.map fun e => (PyData.str e.1, PyData.int e.2))
theorem reads_ks {prog : Program} {w : World} {h : Heap} : ∀ {ks : List (Str × Int)} {es : List DictEntry} {ws : List (L2.Key × Value)}, Pairs (L2.mixKind prog w) es ws → L2.KV (ks.map entS) ws →
    ReadsAll h (es.map (·.key)) (ks.map fun e => PyData.str e.1) [] ∧ ReadsAll h (es.map (·.val)) (ks.map fun e => PyData.int e.2) []
  | [], _, _, .nil, _ => ⟨.nil, .nil⟩
  | [], _, _, .cons _ _ _, kv => by cases kv
  | _ :: _, _, _, .nil, kv => by cases kv
  | e :: r, _, _, .cons h1 h2 t, kv => by
    cases kv with
    | cons hd tl =>
      obtain ⟨i1, i2⟩ := reads_ks (h := h) t tl
      obtain ⟨r1, r2⟩ := hd
      obtain ⟨tk, ek⟩ : L2.RelV (L2.kV (Sum.inr e.1)) _ := L2.relV_key (show L2.keyIs (Sum.inr e.1) _ = true by rw [show (Sum.inr e.1 : L2.Key) = _ from r1]; exact h1)
      obtain ⟨u, ev⟩ : L2.RelV (L2.V.int e.2) _ := by
        rw [← h2] at r2
        exact r2
      refine ⟨?_, ?_⟩
      · rw [List.map_cons, List.map_cons, ek]
        exact ReadsAll.cons (as := []) (bs := []) (.str _ _) i1
      · rw [List.map_cons, List.map_cons, ev]
        exact ReadsAll.cons (as := []) (bs := []) (.int _ _) i2
theorem depth_kv : ∀ ks : List (Str × Int), PyData.depthKv (ks.map fun e => (PyData.str e.1, PyData.int e.2)) = 0
  | [] => by simp [PyData.depthKv]
  | e :: r => by simp [PyData.depthKv, PyData.depth, depth_kv r]
theorem piled_le {n : Nat} : ∀ {ts : List Str}, (∀ t ∈ ts, t.length ≤ n) → piled ts ≤ ts.length * (n + 2)
  | [], _ => by simp [piled]
  | t :: r, h => by
    have h1 := h t List.mem_cons_self
    have h2 := piled_le (ts := r) fun u hu => h u (List.mem_cons_of_mem _ hu)
    have e : piled (t :: r) = t.length + 2 + piled r := by simp [piled]
    rw [e, List.length_cons, Nat.add_mul]
    omega
/-- a dict of pieces and prices may be shown -/
theorem show_dict {ks : List (Str × Int)} (hl : ks.length ≤ 100) (h : ∀ e ∈ ks, e.1.length ≤ 10 ∧ (∀ c ∈ cs e.1, c < 128) ∧ 0 ≤ e.2 ∧ e.2 ≤ 99) : (dDict ks).showable = true ∧ (dDict ks).shown.length ≤ sizeLine := by
  constructor
  · have : ∀ l : List (Str × Int), (∀ e ∈ l, 0 ≤ e.2 ∧ e.2 ≤ 99) → PyData.showableKv (l.map fun e => (PyData.str e.1, PyData.int e.2)) = true := by
      intro l hl
      induction l with
      | nil => simp [PyData.showableKv]
      | cons a r ih =>
        have h1 := hl a List.mem_cons_self
        have h2 : a.2.natAbs.log2 < 1920 := Nat.lt_of_lt_of_le (PySem.Flt.log2_lt_of (k := 7) (by decide) (by omega)) (by decide)
        simp [PyData.showableKv, PyData.showable, h2, ih fun e he => hl e (List.mem_cons_of_mem _ he)]
    unfold dDict
    simp only [PyData.showable]
    exact this ks fun e he => (h e he).2.2
  · have each : ∀ t ∈ PyData.shownKv (ks.map fun e => (PyData.str e.1, PyData.int e.2)), t.length ≤ 2100 := by
      intro t ht
      have gen : ∀ l : List (Str × Int), t ∈ PyData.shownKv (l.map fun e => (PyData.str e.1, PyData.int e.2)) → ∃ e ∈ l, t = reprText e.1 ++ ": " ++ toString e.2 := by
        intro l
        induction l with
        | nil => intro h; simp [PyData.shownKv] at h
        | cons a r ih =>
          intro h
          simp only [List.map_cons, PyData.shownKv, PyData.shown, List.mem_cons] at h
          rcases h with h | h
          · exact ⟨a, List.mem_cons_self, h⟩
          · obtain ⟨e, he, q⟩ := ih h
            exact ⟨e, List.mem_cons_of_mem _ he, q⟩
      obtain ⟨e, he, rfl⟩ := gen ks ht
      obtain ⟨l1, l2, l3, l4⟩ := h e he
      have r1 := StrLaws.reprText_len e.1 fun c hc => Nat.lt_of_lt_of_le (l2 c hc) (by decide)
      have r2 := int_text_len_1921 (i := e.2) (Nat.lt_of_lt_of_le (PySem.Flt.log2_lt_of (k := 7) (by decide) (by omega)) (by decide))
      have r3 : ((": " : String) : Str).length = 2 := by decide +kernel
      rw [strLen_append, strLen_append, r3]
      omega
    unfold dDict
    simp only [PyData.shown]
    unfold dictText
    rw [strLen_append, strLen_append]
    have c1 : (("{" : String) : Str).length = 1 := by decide +kernel
    have c2 : (("}" : String) : Str).length = 1 := by decide +kernel
    have c3 := piled_le each
    have c4 : (PyData.shownKv (ks.map fun e => (PyData.str e.1, PyData.int e.2))).length = ks.length := by
      generalize ks = l
      induction l with
      | nil => simp [PyData.shownKv]
      | cons a r ih => simp [PyData.shownKv, ih]
    rw [c4] at c3
    have c5 : (Str.join ", " (PyData.shownKv (ks.map fun e => (PyData.str e.1, PyData.int e.2)))).length ≤ piled (PyData.shownKv (ks.map fun e => (PyData.str e.1, PyData.int e.2))) := by
      by_cases q : PyData.shownKv (ks.map fun e => (PyData.str e.1, PyData.int e.2)) = []
      · rw [q]
        decide +kernel
      · have := join_length_add _ q
        omega
    have c6 : ks.length * (2100 + 2) ≤ 100 * 2102 := Nat.mul_le_mul_right _ hl
    rw [c1, c2]
    exact Nat.le_trans (by omega : _ ≤ 1000000) (by decide)
def rReprD : List L2.V → L2.Hp → L2.VK → Prop := fun xs H Q => ∃ a ks, xs = [.ref a] ∧ L2.Rd H a (.dK (ks.map entS)) ∧ (dDict ks).showable = true ∧ (dDict ks).shown.length ≤ sizeLine ∧ Q (.str (dDict ks).shown) H
theorem call_reprD {X : L2.Cx} (hg : X.A.guards = some []) (hu : X.A.units + 64 < cLine) : L2.CallR X (.builtin "repr") rReprD := by
  intro pins s σ H xs us Q I r h
  obtain ⟨a, ks, rfl, ha, hs, hz, q⟩ := h
  obtain rfl := L2.Vals.ref1 r
  obtain ⟨_, low, ws, kv, o, es, ep, ho, hx, hdat, _, prs, _⟩ := L2.dk_rd I.hok ha
  obtain ⟨k1, k2⟩ := reads_ks (h := s.heap) prs kv
  have rd : Reads s.heap (.ref a) (dDict ks) [a] := by
    refine Reads.dict (as := []) (bs := []) ho hx.1 hdat ?_ ?_
    · rw [List.map_map]
      exact k1
    · rw [List.map_map]
      exact k2
  have dep : (dDict ks).depth ≤ 10 := by
    unfold dDict
    simp only [PyData.depth, depth_kv]
    omega
  refine repr_of_reads' rd hs (fun _ hm => ?_) hg (by omega) (fun _ _ e => e) (fun h' u tk keeps => ⟨L2.V.str (dDict ks).shown, H, I.kept keeps, ⟨u, rfl⟩, q⟩) hz
  rw [List.mem_singleton.mp hm] at low
  simp at low
/-- dict(pairs) without double keys -/
theorem merge_nd : ∀ {more kvs : List (L2.Key × L2.V)}, ((kvs ++ more).map (·.1)).Nodup → L2.mergeK kvs more = kvs ++ more
  | [], kvs, _ => by rw [List.append_nil]; rfl
  | a :: r, kvs, h => by
    have no : L2.valV kvs a.1 = none := valV_none fun m => by
      rw [List.map_append, List.map_cons] at h
      exact (List.nodup_append.mp h).2.2 _ m _ List.mem_cons_self rfl
    show L2.mergeK (L2.putK kvs a.1 a.2) r = _
    rw [L2.putK_new _ no, merge_nd (by rw [List.append_assoc]; exact h), List.append_assoc]
    rfl
/-- two lists of pairs, both ascending by their texts, with the same pairs -/
theorem pairs_eq {xs ys : List (Str × Int)} (nd : (xs.map (·.1)).Nodup) (hx : xs.Pairwise fun e f => cs e.1 ≤ cs f.1) (hy : ys.Pairwise fun e f => cs e.1 ≤ cs f.1) (p : xs.Perm ys) : xs = ys := by
  refine p.eq_of_pairwise (fun a b ha hb h1 h2 => ?_) hx hy
  have e : a.1 = b.1 := str_ext (List.le_antisymm h1 h2)
  have hb' := p.mem_iff.mpr hb
  have v1 := valS_of nd ha
  have v2 := valS_of nd hb'
  rw [e] at v1
  exact Prod.ext e (v1.symm.trans v2)
theorem lift_ent : ∀ {kvs : List (L2.Key × L2.V)}, (∀ kv ∈ kvs, ∃ z p, kv = (Sum.inr z, L2.V.int p)) → ∃ ks : List (Str × Int), kvs = ks.map entS
  | [], _ => ⟨[], rfl⟩
  | kv :: r, h => by
    obtain ⟨z, p, rfl⟩ := h kv List.mem_cons_self
    obtain ⟨ks, rfl⟩ := lift_ent (kvs := r) fun x hx => h x (List.mem_cons_of_mem _ hx)
    exact ⟨(z, p) :: ks, rfl⟩
theorem keys_ent : ∀ ks : List (Str × Int), keyStrs (ks.map entS) = ks.map (·.1)
  | [] => rfl
  | e :: r => congrArg (e.1 :: ·) (keys_ent r)
theorem nd_ent {ks : List (Str × Int)} (nd : ((ks.map entS).map (·.1)).Nodup) : (ks.map (·.1)).Nodup := by
  have e : (ks.map entS).map (·.1) = (ks.map (·.1)).map (Sum.inr : Str → L2.Key) := by
    rw [List.map_map, List.map_map]
    rfl
  rw [e] at nd
  exact List.Pairwise.imp (fun h q => h (congrArg _ q)) (List.pairwise_map.mp nd)
theorem ps_perm {ks : List (Str × Int)} {ys : List Str} (al : ((ks.map entS).all fun kv => isPiece (L2.kV kv.1) && isPrice kv.2) = true) (nd : ((ks.map entS).map (·.1)).Nodup) (pm : ys.Perm (keyStrs (ks.map entS))) : (psOf (ks.map entS) ys).Perm ks := by
  rw [keys_ent] at pm
  have h1 := pm.map fun y => (y, priceIn (ks.map entS) y)
  refine h1.trans ?_
  rw [List.map_map]
  have h2 : ks.map ((fun y => (y, priceIn (ks.map entS) y)) ∘ (·.1)) = ks := by
    conv => rhs; rw [← List.map_id ks]
    refine List.map_congr_left fun e he => ?_
    have h3 := L2.val_nodup nd _ (List.mem_map.mpr ⟨e, he, rfl⟩)
    have hk : e.1 ∈ keyStrs (ks.map entS) := by
      rw [keys_ent]
      exact List.mem_map.mpr ⟨e, he, rfl⟩
    have h4 := (price_of_key al hk).1
    rw [show L2.valV (ks.map entS) (Sum.inr e.1) = some (L2.V.int e.2) from h3] at h4
    have h5 := L2.V.int.inj (Option.some.inj h4)
    show (e.1, priceIn (ks.map entS) e.1) = e
    rw [← h5]
  rw [h2]
theorem so_ps {kvs : List (L2.Key × L2.V)} {ys : List Str} (h : sortedS ys = true) : (psOf kvs ys).Pairwise fun e f => cs e.1 ≤ cs f.1 := List.pairwise_map.mpr (so_pw h)
theorem ps_keys {kvs : List (L2.Key × L2.V)} {ys : List Str} : (psOf kvs ys).map (·.1) = ys := by
  unfold psOf
  rw [List.map_map]
  exact List.map_id' ys
end G
/-! Own operators: in, ==, | & - of a class's instances, by the promise of the method. -/
namespace G
open PySem PySem.Spec PyProof.Rows L2
open L2 (St)
/-- the promise of a method that returns a truth -/
def backB (Q : VK) : VK := fun r H => ∃ b, r = .bl b ∧ Q (.bl b) H
def rInO (C : Addr) (sp : Sp) : R2 := fun x y H Q => ∃ a dx fs, y = .ref a ∧ H a = some (.ins C dx fs) ∧ sp [.ref a, x] H (backB Q) C8.E0
def rNotInO (C : Addr) (sp : Sp) : R2 := fun x y H Q => ∃ a dx fs, y = .ref a ∧ H a = some (.ins C dx fs) ∧ sp [.ref a, x] H (fun r H' => ∃ b, r = .bl b ∧ Q (.bl (!b)) H') C8.E0
section
variable {X : Cx} {k j : Nat} {C : Addr} {sp : Sp}
theorem met_run {m : Str} {pins : List (Addr × Obj)} {σ : L2.St} {H : Hp} {s : Shared} {Q : VK} {us : List Value} {vs : List V} (c : C8.Met X.prog X.w X.K X.mg X.base k C m sp []) (hr : Room j X.A) (hk : k ≤ j) (I : Inv X pins σ H s) (r : Vals vs us) (h : sp vs H Q C8.E0) :
    ∃ f : Addr, PySem.W.findIn X.K (.ref C) m = some (some (.ref f)) ∧ PySem.W.isFn X.K (.ref f) = true ∧ wpAny (model X.prog X.w) X.A (call (.ref f) us) (EP X pins σ Q) X.xe s := by
  obtain ⟨f, fd, ps, ds, hc, hm, F, b, d⟩ := c.ex
  refine ⟨f, hm.at_, hm.fn, ?_⟩
  have e : vs ++ ([] : List V) = vs := List.append_nil vs
  exact run_fn F (hr.mono hk) b d C8.pass0 I r (by rw [e]; exact h)
theorem op_inO (c : C8.Met X.prog X.w X.K X.mg X.base k C "__contains__" sp []) (hr : Room j X.A) (hk : k ≤ j) : OpR X (compareOp .In) (rInO C sp) := by
  intro pins s σ H x y v u Q I rx ry h
  obtain ⟨a, dx, fs, rfl, ha, q⟩ := h
  cases ry
  obtain ⟨mA, J, _⟩ := ins_get I.hok ha
  obtain ⟨od, J, _⟩ := J.look
  obtain ⟨m, hF⟩ := I.fr
  obtain ⟨f, h1, h2, h3⟩ := met_run (us := [.ref a, v]) (vs := [.ref a, x]) c hr hk I (.cons rfl (.cons rx .nil)) q
  refine PySem.W.in_K hF I.ok.mod.kin J h1 h2 (wpAny_mono h3 (fun r s' hq => ?_) fun _ _ e => e)
  obtain ⟨z, H', I', rz, b, rfl, q⟩ := hq
  cases rz
  exact wpAny_truthy_bool ⟨.bl b, H', I', rfl, q⟩
theorem op_notInO (c : C8.Met X.prog X.w X.K X.mg X.base k C "__contains__" sp []) (hr : Room j X.A) (hk : k ≤ j) : OpR X (compareOp .NotIn) (rNotInO C sp) := by
  intro pins s σ H x y v u Q I rx ry h
  obtain ⟨a, dx, fs, rfl, ha, q⟩ := h
  cases ry
  obtain ⟨mA, J, _⟩ := ins_get I.hok ha
  obtain ⟨od, J, _⟩ := J.look
  obtain ⟨m, hF⟩ := I.fr
  obtain ⟨f, h1, h2, h3⟩ := met_run (us := [.ref a, v]) (vs := [.ref a, x]) c hr hk I (.cons rfl (.cons rx .nil)) q
  refine PySem.W.notIn_K hF I.ok.mod.kin J h1 h2 (wpAny_mono h3 (fun r s' hq => ?_) fun _ _ e => e)
  obtain ⟨z, H', I', rz, b, rfl, q⟩ := hq
  cases rz
  exact wpAny_truthy_bool ⟨.bl (!b), H', I', rfl, q⟩
/-- == of two instances of one class -/
def rEqO (C : Addr) (sp : Sp) : R2 := fun x y H Q => ∃ a dx fs b dy gs, x = .ref a ∧ y = .ref b ∧ H a = some (.ins C dx fs) ∧ H b = some (.ins C dy gs) ∧ sp [.ref a, .ref b] H (backB Q) C8.E0
theorem op_eqO (c : C8.Met X.prog X.w X.K X.mg X.base k C "__eq__" sp []) (hr : Room j X.A) (hk : k ≤ j) (hu : X.A.units < cLine) : OpR X (compareOp .Eq) (rEqO C sp) := by
  intro pins s σ H x y v u Q I rx ry h
  obtain ⟨a, dx, fs, b, dy, gs, rfl, rfl, ha, hb, q⟩ := h
  cases rx
  cases ry
  obtain ⟨_, J, _⟩ := ins_get I.hok ha
  obtain ⟨_, J', _⟩ := ins_get I.hok hb
  obtain ⟨_, J, _⟩ := J.look
  obtain ⟨_, J', _⟩ := J'.look
  obtain ⟨m, hF⟩ := I.fr
  obtain ⟨f, h1, h2, h3⟩ := met_run (us := [.ref a, .ref b]) (vs := [.ref a, .ref b]) c hr hk I (.cons rfl (.cons rfl .nil)) q
  refine PySem.W.cmp_K (op := .Eq) (tb := .ref C) hu hF I.ok.mod.kin J J'.type (by simp [PySem.W.notFirst]) h1 h2 (wpAny_mono h3 (fun r s' hq => ?_) fun _ _ e => e)
  obtain ⟨z, H', I', rz, b', rfl, q⟩ := hq
  cases rz
  exact ⟨.bl b', H', I', rfl, q⟩
end
end G
/-! Needless pieces; books made of parts of books. -/
namespace G
open PySem PySem.Spec PyProof.Rows L2
/-! ### books by their signs -/
structure Sgs (kvs : List (Key × V)) (sg : List Nat) : Prop where
  ok : PrOk sg kvs
  n1 : 1 ≤ sg.length
  n4 : sg.length ≤ 4
  lt : ∀ c ∈ sg, lett c = true
  tf : ∀ c, (∃ q, tfD kvs (ch c) = some q) ↔ c ∈ sg
theorem sgs_of {kvs : List (Key × V)} (av : arePrices kvs = true) (nd : (kvs.map (·.1)).Nodup) : ∃ sg, Sgs kvs sg := by
  obtain ⟨⟨n1, n2⟩, al, n4, _⟩ := ap_parts av
  have tar := tar_of av nd
  have mem : ∀ c, c ∈ (((keyStrs kvs).filter fun z => decide ((cs z).length = 1)).map cs).flatten ↔ ch c ∈ keyStrs kvs := fun c => by
    rw [List.mem_flatten]
    constructor
    · rintro ⟨l, hl, hc⟩
      obtain ⟨z, hz, rfl⟩ := List.mem_map.mp hl
      obtain ⟨h1, h2⟩ := List.mem_filter.mp hz
      obtain ⟨d, rfl⟩ := G.one_sign (z := z) (by simpa using h2)
      have e : c = d := by simpa [cs] using hc
      rw [e]
      exact h1
    · intro h
      exact ⟨[c], List.mem_map.mpr ⟨ch c, List.mem_filter.mpr ⟨h, rfl⟩, rfl⟩, List.mem_cons_self⟩
  have len : (((keyStrs kvs).filter fun z => decide ((cs z).length = 1)).map cs).flatten.length = ((keyStrs kvs).filter fun z => decide ((cs z).length = 1)).length := by
    rw [List.length_flatten, List.map_map]
    have : ∀ l : List Str, (∀ z ∈ l, (cs z).length = 1) → (l.map (List.length ∘ cs)).sum = l.length := by
      intro l h
      induction l with
      | nil => rfl
      | cons a r ih =>
        rw [List.map_cons, List.sum_cons, ih fun z hz => h z (List.mem_cons_of_mem _ hz), List.length_cons]
        have := h a List.mem_cons_self
        show (cs a).length + _ = _
        omega
    exact this _ fun z hz => by simpa using (List.mem_filter.mp hz).2
  have tf : ∀ c, (∃ q, tfD kvs (ch c) = some q) ↔ c ∈ (((keyStrs kvs).filter fun z => decide ((cs z).length = 1)).map cs).flatten := fun c => by
    rw [mem, tf_key al]
  refine ⟨_, ⟨fun kv hkv => ?_, nd⟩, ?_, by rw [len]; exact n4, fun c hc => ?_, tf⟩
  · obtain ⟨z, p, rfl, hp⟩ := tar.mem kv hkv
    exact ⟨z, p, rfl, tar.good.len z p hp, fun c hc => (tf c).mp (tar.good.cov z p hp c hc), tar.good.pos z p hp⟩
  · cases kvs with
    | nil => simp at n1
    | cons a r =>
      obtain ⟨z, p, rfl, hp⟩ := tar.mem a List.mem_cons_self
      have h1 := (tar.good.len z p hp).1
      obtain ⟨c, hc⟩ : ∃ c, c ∈ cs z := by
        cases e : cs z with
        | nil =>
          rw [e] at h1
          simp at h1
        | cons c _ => exact ⟨c, List.mem_cons_self⟩
      exact List.length_pos_of_mem ((tf c).mp (tar.good.cov z p hp c hc))
  · exact (keyStrs_piece al (ch c) ((mem c).mp hc)).2.2 c (by simp [cs])
/-- some of a book's pieces, all signs among them -/
theorem ap_sub {kvs kvs' : List (Key × V)} (av : arePrices kvs = true) (nd : (kvs.map (·.1)).Nodup) (nd' : (kvs'.map (·.1)).Nodup) (sub : ∀ kv ∈ kvs', kv ∈ kvs) (one : ∀ c, (∃ q, tfD kvs (ch c) = some q) → ∃ q, tfD kvs' (ch c) = some q) (len : kvs'.length ≤ 12) :
    arePrices kvs' = true ∧ ∀ c, (∃ q, tfD kvs' (ch c) = some q) ↔ ∃ q, tfD kvs (ch c) = some q := by
  obtain ⟨sg, S⟩ := sgs_of av nd
  have P : PrOk sg kvs' := ⟨fun kv h => S.ok.mem kv (sub kv h), nd'⟩
  obtain ⟨h1, h2⟩ := P.right (fun c hc => by
    obtain ⟨q, hq⟩ := one c ((S.tf c).mpr hc)
    rw [tf_some.mp hq]
    rfl) S.lt S.n4 S.n1 len
  exact ⟨h1, fun c => by rw [h2 c, S.tf c]⟩
theorem tf_put {kvs : List (Key × V)} {z y : Str} {p : Int} : tfD (putK kvs (Sum.inr z) (.int p)) y = if y = z then some p else tfD kvs y := by
  unfold tfD
  rw [valV_put]
  by_cases h : y = z
  · subst h
    rw [if_pos rfl, if_pos rfl]
  · rw [if_neg (fun e => h (Sum.inr.inj e)), if_neg h]
/-- a further piece, or another price -/
theorem ap_put {kvs : List (Key × V)} {z : Str} {p : Int} (av : arePrices kvs = true) (nd : (kvs.map (·.1)).Nodup) (len : kvs.length ≤ 11) (lz : 1 ≤ (cs z).length ∧ (cs z).length ≤ 5) (ov : Over (tfD kvs) (cs z)) (hp : 1 ≤ p ∧ p ≤ 99) :
    arePrices (putK kvs (Sum.inr z) (.int p)) = true ∧ ((putK kvs (Sum.inr z) (.int p)).map (·.1)).Nodup := by
  obtain ⟨sg, S⟩ := sgs_of av nd
  have P : PrOk sg (putK kvs (Sum.inr z) (.int p)) := S.ok.put lz (fun c hc => (S.tf c).mp (ov c hc)) hp
  have h1 := put_len (kvs := kvs) (k := Sum.inr z) (v := .int p)
  refine ⟨(P.right (fun c hc => ?_) S.lt S.n4 S.n1 (by omega)).1, P.nd⟩
  rw [valV_put]
  split
  · rfl
  · obtain ⟨q, hq⟩ := (S.tf c).mpr hc
    rw [tf_some.mp hq]
    rfl
/-! ### needless pieces -/
def remF (F : Tf) (z : Str) : Tf := fun y => if y = z then none else F y
def Needless (F : Tf) (z : Str) : Prop := ∃ p, F z = some p ∧ 1 < (cs z).length ∧ lp (remF F z) (cs z) ≤ p
theorem rem_good {F : Tf} (G : Good F) {z : Str} (hz : 1 < (cs z).length) : Good (remF F z) := by
  have sub : ∀ {y p}, remF F z y = some p → F y = some p := fun {y p} h => by
    unfold remF at h
    split at h
    · cases h
    · exact h
  refine ⟨fun y p h => G.pos y p (sub h), fun y p h => G.len y p (sub h), fun y p h c hc => ?_⟩
  obtain ⟨q, hq⟩ := G.cov y p (sub h) c hc
  refine ⟨q, ?_⟩
  unfold remF
  rw [if_neg fun e => ?_]
  · exact hq
  · rw [← e] at hz
    exact absurd (show 1 < 1 from hz) (by decide)
theorem rem_over {F : Tf} {z : Str} {l : List Nat} (hz : 1 < (cs z).length) (o : Over F l) : Over (remF F z) l := fun c hc => by
  obtain ⟨q, hq⟩ := o c hc
  refine ⟨q, ?_⟩
  unfold remF
  rw [if_neg fun e => ?_]
  · exact hq
  · rw [← e] at hz
    exact absurd (show 1 < 1 from hz) (by decide)
/-! ### dict comprehensions with a test -/
section
variable {α : Type} {J : It} {G : Hp → Prop} {Y : Nat → Hp → V → Hp → Prop}
theorem dcsF (its : List α) (w : Walk J its.length G Y) (keep : α → Bool) (h : α → Key × V) (nd : (its.map fun a => (h a).1).Nodup) {g : TG} {tt : TT} {tk tv : TE} {vs : List Nat} {σ : L2.St} {H1 : Hp} {D : Addr} {Qd : Hp → Prop} (hD : H1 D = none) (hz : its.length ≤ 100000) (hG : ∀ H, Same H1 H → G H)
    (hs : ∀ i a x H H', its[i]? = some a → Same H1 H → Y i H x H' → ∀ (N : V → V → Hp → Prop) (M : Hp → Prop), (∀ H3, keep a = true → Same H H3 → N (kV (h a).1) (h a).2 H3) → (∀ H3, keep a = false → Same H H3 → M H3) →
      g x (wipe σ vs) H' fun σ2 H2 => wipe σ2 vs = wipe σ vs ∧ tt σ2 H2 fun b H3 => if b = true then tk σ2 H3 fun y H4 => tv σ2 H4 fun z H5 => N y z H5 else M H3)
    (hd : ∀ H, Same H1 H → H D = some (.dK ((its.filter keep).map h)) → Qd H) :
    ∃ W : Nat → Nat → Hp → Prop, (∃ m, W 0 m (upd H1 D (.dK []))) ∧ ∀ i m H, W i m H →
      (J.stop i H ∧ Qd H) ∨ (J.go i H ∧ ∃ Nx : Hp → Prop, (∀ H', Nx H' → ∃ m', m' < m ∧ W (i + 1) m' H') ∧ ∀ x H', J.yld i H x H' → g x (wipe σ vs) H' fun σ2 H2 => wipe σ2 vs = wipe σ vs ∧ tt σ2 H2 fun b H3 =>
        if b = true then tk σ2 H3 fun y H4 => tv σ2 H4 fun z H5 => ∃ kvs k, y = kV k ∧ H5 D = some (.dK kvs) ∧ kvs.length < sizeLine ∧ Nx (upd H5 D (.dK (putK kvs k z))) else Nx H3) := by
  refine ⟨fun i m H => m = its.length - i ∧ i ≤ its.length ∧ Same H1 H ∧ H D = some (.dK (((its.take i).filter keep).map h)), ⟨_, rfl, Nat.zero_le _, same_new hD, upd_same⟩, ?_⟩
  rintro i m H ⟨rfl, hi, s, e⟩
  by_cases hlt : i < its.length
  · obtain ⟨a, ha⟩ : ∃ a, its[i]? = some a := ⟨_, List.getElem?_eq_getElem hlt⟩
    refine .inr ⟨w.goes i H hlt (hG H s), fun H' => Same H1 H' ∧ H' D = some (.dK (((its.take (i + 1)).filter keep).map h)), fun H' q => ⟨its.length - (i + 1), by omega, rfl, hlt, q⟩, ?_⟩
    intro x H' y
    have e1 : its.take (i + 1) = its.take i ++ [a] := by
      rw [List.take_add_one, ha]
      rfl
    refine hs i a x H H' ha s (w.yields i H x H' hlt (hG H s) y) _ _ (fun H3 kp s3 => ⟨_, (h a).1, rfl, s3 _ _ e, ?_, fun b o q => ?_, ?_⟩) fun H3 kp s3 => ⟨s.trans s3, ?_⟩
    · have h1 := List.length_filter_le keep (its.take i)
      rw [List.length_take] at h1
      rw [List.length_map]
      exact Nat.lt_of_le_of_lt (by omega : _ ≤ 100000) (by decide)
    · rw [upd_ne (ne_of_none q hD)]
      exact s3 _ _ (s _ _ q)
    · have e2 : valV (((its.take i).filter keep).map h) (h a).1 = none := valV_none fun m => by
        rw [List.map_map] at m
        have nd' : ((its.take (i + 1)).map fun a => (h a).1).Nodup := nd.sublist ((List.take_sublist _ _).map _)
        rw [e1, List.map_append] at nd'
        obtain ⟨b, hb, eb⟩ := List.mem_map.mp m
        exact (List.nodup_append.mp nd').2.2 _ (List.mem_map.mpr ⟨b, (List.mem_filter.mp hb).1, eb⟩) _ (List.mem_singleton.mpr rfl) rfl
      rw [upd_same, putK_new _ e2, e1, List.filter_append, List.map_append]
      have : [a].filter keep = [a] := by simp [kp]
      rw [this]
      rfl
    · have : [a].filter keep = [] := by simp [kp]
      rw [e1, List.filter_append, this, List.append_nil]
      exact s3 _ _ e
  · have ei : i = its.length := by omega
    subst ei
    refine .inl ⟨w.stops H (hG H s), hd H s ?_⟩
    rw [e, List.take_length]
end
noncomputable def needB (kvs : List (Key × V)) (z : Str) : Bool := decide (1 < (cs z).length) && decide (lp (remF (tfD kvs) z) (cs z) ≤ priceIn kvs z)
def others (kvs : List (Key × V)) (ys : List Str) (z : Str) : List (Key × V) := (ys.filter fun y => !decide (y = z)).map fun y => (Sum.inr y, .int (priceIn kvs y))
theorem tf_others {kvs : List (Key × V)} {ys : List Str} {z : Str} (al : (kvs.all fun kv => isPiece (kV kv.1) && isPrice kv.2) = true) (pm : ys.Perm (keyStrs kvs)) : tfD (others kvs ys z) = remF (tfD kvs) z := by
  funext y
  have e := congrFun (tf_psOf al pm) y
  unfold tfD at e ⊢
  rw [kvOf_ps, val_fun] at e
  unfold others remF
  rw [val_fun]
  by_cases h : y = z
  · rw [if_pos h, if_neg (fun q => by simpa [h] using (List.mem_filter.mp q).2)]
  · rw [if_neg h]
    by_cases m : y ∈ ys
    · rw [if_pos m] at e
      rw [if_pos (List.mem_filter.mpr ⟨m, by simp [h]⟩)]
      exact e
    · rw [if_neg m] at e
      rw [if_neg fun q => m (List.mem_filter.mp q).1]
      exact e
theorem tar_others {kvs : List (Key × V)} {ys : List Str} {z : Str} (av : arePrices kvs = true) (pm : ys.Perm (keyStrs kvs)) (ndy : ys.Nodup) (len : ys.length ≤ 1000) (hz : 1 < (cs z).length) : Tar (others kvs ys z) := by
  obtain ⟨_, al, _, _⟩ := ap_parts av
  have e := tf_others (z := z) al pm
  refine ⟨by rw [e]; exact rem_good (good_of av) hz, fun kv hkv => ?_, ?_⟩
  · obtain ⟨y, hy, rfl⟩ := List.mem_map.mp hkv
    refine ⟨y, priceIn kvs y, rfl, ?_⟩
    unfold tfD others
    rw [val_fun, if_pos hy]
  · unfold others
    rw [List.length_map]
    exact Nat.le_trans (List.length_filter_le _ _) len
theorem ne_key {y z : Str} {b : Bool} (q : (!decide (V.str y = kV (Sum.inr z))) = b) : (!decide (y = z)) = b := by
  rw [← q]
  have e : decide (V.str y = kV (Sum.inr z)) = decide (y = z) := decide_eq_decide.mpr ⟨fun h => V.str.inj h, fun h => congrArg V.str h⟩
  rw [e]
def partK (kvs : List (Key × V)) (ys : List Str) (q : Str → Bool) : List (Key × V) := (ys.filter q).map fun y => (Sum.inr y, .int (priceIn kvs y))
theorem tf_part {kvs : List (Key × V)} {ys : List Str} {q : Str → Bool} (al : (kvs.all fun kv => isPiece (kV kv.1) && isPrice kv.2) = true) (pm : ys.Perm (keyStrs kvs)) (z : Str) : tfD (partK kvs ys q) z = if q z = true then tfD kvs z else none := by
  have e := congrFun (tf_psOf al pm) z
  unfold tfD at e ⊢
  rw [kvOf_ps, val_fun] at e
  unfold partK
  rw [val_fun]
  by_cases h : q z = true
  · rw [if_pos h]
    by_cases m : z ∈ ys
    · rw [if_pos m] at e
      rw [if_pos (List.mem_filter.mpr ⟨m, h⟩)]
      exact e
    · rw [if_neg m] at e
      rw [if_neg fun w => m (List.mem_filter.mp w).1]
      exact e
  · rw [if_neg h, if_neg fun w => h (List.mem_filter.mp w).2]
theorem part_book {kvs : List (Key × V)} {ys : List Str} {q : Str → Bool} (av : arePrices kvs = true) (nd : (kvs.map (·.1)).Nodup) (pm : ys.Perm (keyStrs kvs)) (one : ∀ c, (∃ p, tfD kvs (ch c) = some p) → q (ch c) = true) :
    arePrices (partK kvs ys q) = true ∧ ((partK kvs ys q).map (·.1)).Nodup := by
  obtain ⟨⟨_, n2⟩, al, _, _⟩ := ap_parts av
  have ndy : ys.Nodup := pm.nodup_iff.mpr (keys_nd al nd)
  have ly : ys.length ≤ 12 := by
    have h := congrArg List.length (keys_of al)
    rw [List.length_map, List.length_map] at h
    rw [pm.length_eq]
    omega
  have nd' : ((partK kvs ys q).map (·.1)).Nodup := by
    unfold partK
    rw [List.map_map]
    exact List.pairwise_map.mpr (List.Pairwise.imp (R := fun a b : Str => a ≠ b) (fun h e => h (Sum.inr.inj e)) (ndy.filter _))
  refine ⟨(ap_sub av nd nd' (fun kv hkv => ?_) (fun c hc => ?_) ?_).1, nd'⟩
  · obtain ⟨y, hy, rfl⟩ := List.mem_map.mp hkv
    exact valV_mem (price_of_key al (pm.mem_iff.mp (List.mem_filter.mp hy).1)).1
  · obtain ⟨p, hp⟩ := hc
    exact ⟨p, by rw [tf_part al pm, if_pos (one c ⟨p, hp⟩)]; exact hp⟩
  · unfold partK
    rw [List.length_map]
    exact Nat.le_trans (List.length_filter_le _ _) ly
theorem need_sign {F : Tf} {c : Nat} : ¬ Needless F (ch c) := fun ⟨_, _, h, _⟩ => absurd (show 1 < 1 from h) (by decide)
/-! ### promises -/
def spNeedIn (C : Addr) : Sp := fun vs H Q _ => ∃ b kvs, vs = [.ref b] ∧ Book1 C H b kvs ∧ ∀ p (zs : List Str) H', H p = none → H' p = some (.lst (zs.map V.str)) → (∀ z, z ∈ zs ↔ Needless (tfD kvs) z) → (zs.Pairwise (fun y z => cs y ≤ cs z) ∧ zs.Nodup) → Same H H' → Q (.ref p) H'
def spNeed (C : Addr) : Sp := fun vs H Q _ => ∃ b kvs, vs = [.ref b] ∧ Book1 C H b kvs ∧ ∀ p (zs : List Str) H', H p = none → H' p = some (.tup (zs.map V.str)) → (∀ z, z ∈ zs ↔ Needless (tfD kvs) z) → (zs.Pairwise (fun y z => cs y ≤ cs z) ∧ zs.Nodup) → Same H H' → Q (.ref p) H'
def spLeast (C : Addr) : Sp := fun vs H Q _ => ∃ b kvs, vs = [.ref b] ∧ Book1 C H b kvs ∧ ∀ p kvs' H', Book1 C H' p kvs' → (∀ z q, tfD kvs' z = some q ↔ tfD kvs z = some q ∧ ¬ Needless (tfD kvs) z) → Same H H' → Q (.ref p) H'
def spResult (C : Addr) : Sp := fun vs H Q _ => ∃ d kvs, vs = [.ref d] ∧ H d = some (.dK kvs) ∧ arePrices kvs = true ∧ (kvs.map (·.1)).Nodup ∧ ∀ p H', Book1 C H' p kvs → Same H H' → Q (.ref p) H'
def spWith (C : Addr) : Sp := fun vs H Q _ => ∃ b kvs z p, vs = [.ref b, .str z, .int p] ∧ Book1 C H b kvs ∧ kvs.length ≤ 11 ∧ (1 ≤ (cs z).length ∧ (cs z).length ≤ 5) ∧ Over (tfD kvs) (cs z) ∧ (1 ≤ p ∧ p ≤ 99) ∧
  ∀ b' kvs' H', Book1 C H' b' kvs' → (∀ y, tfD kvs' y = if y = z then some p else tfD kvs y) → kvs'.length ≤ kvs.length + 1 → Same H H' → Q (.ref b') H'
/-- own in, of a text -/
def spHasKey (C : Addr) : Sp := fun vs H Q _ => ∃ b kvs z, vs = [.ref b, .str z] ∧ Book1 C H b kvs ∧ z.length ≤ 8000 ∧ ∀ H', Same H H' → Q (.bl (tfD kvs z).isSome) H'
/-! ### name = {k: v for ..}, the name a local -/
section
variable {X : L2.Cx}
abbrev AllBlk (X : L2.Cx) (scope : Scope) (P : L2.Cx → Prop) : Prop := ∀ (s : Shared) (H : L2.Hp) (C : Addr) (cl : List (Str × Addr)) (fp : List Addr), P (X.blk s H scope (compEnvC scope cl C X.env) fp)
theorem ps_setDc {i : Nat} {y : Str} {py : Pos} {kx vx tg iter : Expr} {ifs : List Expr} {scope : Scope} {own : List (Str × Nat)} {pos spos : Pos} {wi : TI} {g : TG} {tt : TT} {tk tv : TE} (hc : X.calm = true) (hN : X.N.Nodup) (hy : X.N[i]? = some y) (hyl : X.env.scope.names.lookup y = some .local)
    (hsw : swapsWith (.DictComp kx vx [⟨tg, iter, ifs, 0⟩] scope pos) (some (.Name y py)) spos.line X.env = pure true) (hi : PI X tg iter wi) (ok : BlkOk X.N X.env.scope scope own)
    (hg : AllBlk X scope fun B => PG B tg g) (ht : AllBlk X scope fun B => PTs B ifs tt) (hk : AllBlk X scope fun B => PE B kx tk) (he : AllBlk X scope fun B => PE B vx tv)
    (hs : ∀ x, foldedSetIterable iter X.env x = pure x := by intro _; rfl) : PS X (.Assign [.Name y py] (.DictComp kx vx [⟨tg, iter, ifs, 0⟩] scope pos) spos) (tAsg (tDc wi g tt tk tv (own.map (·.2))) (gName i)) := by
  refine ⟨fun pins s σ H D I h => ?_⟩
  rw [exec_Assign_Name_used _ _ _ _ hsw]
  refine wpAny_bind (wpAny_standAt (wpAny_bind ?_))
  show wpAny _ X.A (do let _ ← comprehension (.DictComp kx vx [⟨tg, iter, ifs, 0⟩] scope pos) scope X.env (firstIterPos [⟨tg, iter, ifs, 0⟩] pos) newDict false (eval iter X.env) (some (assign (.Name y py) X.env))) _ _ s
  have h : tDc wi g tt tk tv (own.map (·.2)) σ H (fun x H1 => gName i x σ H1 D.nx) := h
  refine wpAny_bind (thn (dc_core (Qf := fun _ s' => SP X pins D .next s') hc hN I hi ok hg ht hk he hs h fun L C s' m H' I' q hn f => ?_) fun _ s' hq => wpAny_pure (wpAny_pure hq))
  show wpAny _ _ (assign (.Name y py) X.env (.ref L)) _ _ _
  refine wpAny_assign_Name (store_ok2 (v := V.ref L) I' hN hy (.inl hyl) rfl (fun s2 I2 ⟨a, sb, ha⟩ => ?_) (.inr hyl))
  obtain ⟨f0, f1, f2, f3, f4, f5⟩ := f
  have other : C ≠ a := by
    rcases ha with z | z
    · rw [z]
      exact f1
    · exact fun e => f4 y a z e.symm
  exact ⟨m, hn.sameBut sb other, fun h3 sb3 => ⟨_, H', I2.turned (t' := s2.toks) (fun b o hb e => (sb3.2 b hb).trans e) f0 f1 f3 f4 f5, q⟩⟩
theorem sw_trueD {kx vx : Expr} {gs : List Comprehension} {scope : Scope} {pos py : Pos} {y : Str} {l : Nat} {env : Env} (hk : env.scope.kind = .function) (hy : env.scope.names.lookup y = some .local) (hl : (py.line == pos.line) = true)
    (ha : (scope.names.any fun (n, k) => n == y && (k == .local || k == .cell)) = false) : swapsWith (.DictComp kx vx gs scope pos) (some (.Name y py)) l env = pure true := by
  have kind : env.kindOf y = some .local := hy
  have fn : env.blockKind = .function := by
    unfold Env.blockKind
    rw [hk]
    rfl
  unfold swapsWith
  simp only [fn, kind, ha, Expr.pos, hl]
  rfl
end
end G
/-! All cuts of a text, as lists of pieces. -/
namespace G
open PySem PySem.Spec PyProof.Rows L2
def IsCut (F : Tf) (l : List Nat) (c : List Str) : Prop := (∀ y ∈ c, ∃ p, F y = some p) ∧ (c.map cs).flatten = l
/-- a list of objects that are just the cuts -/
structure CutsAt (H : Hp) (F : Tf) (l : List Nat) (ws : List (Addr × List Str)) : Prop where
  at_ : ∀ w ∈ ws, H w.1 = some (.tup (w.2.map V.str))
  all : ∀ c, (∃ w ∈ ws, w.2 = c) ↔ IsCut F l c
  len : ws.length ≤ 2 ^ l.length
theorem CutsAt.same {H H' : Hp} {F : Tf} {l : List Nat} {ws : List (Addr × List Str)} (C : CutsAt H F l ws) (s : Same H H') : CutsAt H' F l ws := ⟨fun w hw => s _ _ (C.at_ w hw), C.all, C.len⟩
theorem cut_nil {F : Tf} (G : Good F) {c : List Str} : IsCut F [] c ↔ c = [] := by
  constructor
  · rintro ⟨h1, h2⟩
    cases c with
    | nil => rfl
    | cons y r =>
      obtain ⟨p, hp⟩ := h1 y List.mem_cons_self
      have h3 := (G.len y p hp).1
      have h4 := congrArg List.length h2
      rw [List.map_cons, List.flatten_cons, List.length_append] at h4
      have h5 : (cs y).length + (r.map cs).flatten.length = 0 := h4
      omega
  · rintro rfl
    exact ⟨fun _ h => (List.not_mem_nil h).elim, rfl⟩
/-- the cuts that end with a piece that begins ahead of s -/
def CutTo (F : Tf) (l : List Nat) (s : Nat) (c : List Str) : Prop := ∃ a y, a < s ∧ (∃ p, F y = some p) ∧ (cs y) = l.drop a ∧ ∃ d, IsCut F (l.take a) d ∧ c = d ++ [y]
theorem cut_to {F : Tf} (G : Good F) {l : List Nat} (ne : l ≠ []) {c : List Str} : CutTo F l l.length c ↔ IsCut F l c := by
  constructor
  · rintro ⟨a, y, ha, hy, e, d, ⟨h1, h2⟩, rfl⟩
    refine ⟨fun z hz => ?_, ?_⟩
    · rcases List.mem_append.mp hz with h | h
      · exact h1 z h
      · rw [List.mem_singleton.mp h]
        exact hy
    · rw [List.map_append, List.flatten_append, h2]
      show _ ++ [cs y].flatten = _
      rw [List.flatten_singleton, e, List.take_append_drop]
  · rintro ⟨h1, h2⟩
    have nc : c ≠ [] := fun q => ne (by rw [← h2, q]; rfl)
    obtain ⟨d, y, rfl⟩ : ∃ d y, c = d ++ [y] := ⟨c.dropLast, c.getLast nc, (List.dropLast_concat_getLast nc).symm⟩
    rw [List.map_append, List.flatten_append] at h2
    have h2' : (d.map cs).flatten ++ cs y = l := by
      rw [← h2]
      show _ = _ ++ [cs y].flatten
      rw [List.flatten_singleton]
    obtain ⟨p, hp⟩ := h1 y (List.mem_append_right _ List.mem_cons_self)
    have n1 := (G.len y p hp).1
    have e : l.length = (d.map cs).flatten.length + (cs y).length := by rw [← h2', List.length_append]
    refine ⟨(d.map cs).flatten.length, y, by omega, ⟨p, hp⟩, ?_, d, ⟨fun z hz => h1 z (List.mem_append_left _ hz), ?_⟩, rfl⟩
    · rw [← h2', List.drop_left]
    · rw [← h2', List.take_left]
theorem cut_zero {F : Tf} {l : List Nat} {c : List Str} : ¬ CutTo F l 0 c := fun ⟨_, _, h, _⟩ => absurd h (Nat.not_lt_zero _)
theorem cut_succ {F : Tf} {l : List Nat} {s : Nat} {c : List Str} : CutTo F l (s + 1) c ↔ CutTo F l s c ∨ ∃ y, (∃ p, F y = some p) ∧ cs y = l.drop s ∧ ∃ d, IsCut F (l.take s) d ∧ c = d ++ [y] := by
  constructor
  · rintro ⟨a, y, ha, r⟩
    rcases Nat.lt_or_ge a s with h | h
    · exact Or.inl ⟨a, y, h, r⟩
    · have e : a = s := by omega
      subst e
      exact Or.inr ⟨y, r⟩
  · rintro (⟨a, y, ha, r⟩ | ⟨y, r⟩)
    · exact ⟨a, y, by omega, r⟩
    · exact ⟨s, y, by omega, r⟩
def spCuts : Sp := fun vs H Q _ => ∃ d kvs z, vs = [.ref d, .str z] ∧ H d = some (.dK kvs) ∧ Tar kvs ∧ z.length ≤ 5 ∧
  ∀ p ws H', H' p = some (.lst (ws.map fun w : Addr × List Str => V.ref w.1)) → CutsAt H' (tfD kvs) (cs z) ws → Same H H' → Q (.ref p) H'
/-! ### the cheapest cut -/
def sumOf (F : Tf) (c : List Str) : Int := (c.map fun y => (F y).getD 0).sum
theorem fee_sum {F : Tf} : ∀ {c : Ps}, (∀ p ∈ c, F p.1 = some p.2) → sumOf F (c.map (·.1)) = fee c
  | [], _ => rfl
  | q :: r, h => by
    have h1 := h q List.mem_cons_self
    have ih := fee_sum (c := r) fun p hp => h p (List.mem_cons_of_mem _ hp)
    rw [fee_cons, ← ih]
    show ((F q.1).getD 0 :: (r.map (·.1)).map fun y => (F y).getD 0).sum = _
    rw [List.sum_cons, h1]
    rfl
theorem cut_iff {F : Tf} {l : List Nat} {d : List Str} : IsCut F l d ↔ ∃ c, Cut F l c ∧ c.map (·.1) = d := by
  constructor
  · rintro ⟨h1, h2⟩
    refine ⟨d.map fun y => (y, (F y).getD 0), ⟨fun p hp => ?_, ?_⟩, ?_⟩
    · obtain ⟨y, hy, rfl⟩ := List.mem_map.mp hp
      obtain ⟨q, hq⟩ := h1 y hy
      rw [hq]
      rfl
    · rw [List.map_map]
      exact h2
    · rw [List.map_map]
      exact List.map_id' d
  · rintro ⟨c, ⟨h1, h2⟩, rfl⟩
    refine ⟨fun y hy => ?_, ?_⟩
    · obtain ⟨p, hp, rfl⟩ := List.mem_map.mp hy
      exact ⟨p.2, h1 p hp⟩
    · rw [List.map_map]
      exact h2
/-- the least of all sums is the cheapest price -/
theorem cuts_min {F : Tf} {l : List Nat} {H : Hp} {ws : List (Addr × List Str)} (G : Good F) (o : Over F l) (C : CutsAt H F l ws) : 0 < (ws.map fun w => sumOf F w.2).length ∧ ∀ m, m ∈ ws.map (fun w => sumOf F w.2) → (∀ y ∈ ws.map (fun w => sumOf F w.2), m ≤ y) → m = lp F l := by
  have mem : ∀ c, Cut F l c → fee c ∈ ws.map fun w => sumOf F w.2 := fun c hc => by
    obtain ⟨w, hw, e⟩ := (C.all _).mpr (cut_iff.mpr ⟨c, hc, rfl⟩)
    exact List.mem_map.mpr ⟨w, hw, by rw [e, fee_sum hc.1]⟩
  constructor
  · obtain ⟨c, hc, _⟩ := lp_cut G o
    exact List.length_pos_of_mem (mem c hc)
  · intro m hm hle
    refine (lp_of ⟨?_, fun c hc => hle _ (mem c hc)⟩).symm
    obtain ⟨w, hw, rfl⟩ := List.mem_map.mp hm
    obtain ⟨c, hc, e⟩ := cut_iff.mp ((C.all w.2).mp ⟨w, hw, rfl⟩)
    exact ⟨c, hc, by rw [← e, fee_sum hc.1]⟩
theorem unpaired {α β : Type} {F : α → β → Prop} {as : List α} {bs : List β} (h : Paired F as bs) : ∃ ps : List (α × β), ps.map (·.1) = as ∧ ps.map (·.2) = bs ∧ ∀ p ∈ ps, F p.1 p.2 := by
  induction h with
  | nil => exact ⟨[], rfl, rfl, fun _ h => (List.not_mem_nil h).elim⟩
  | @cons a b as bs h t ih =>
    obtain ⟨ps, h1, h2, h3⟩ := ih
    refine ⟨(a, b) :: ps, by rw [List.map_cons, h1], by rw [List.map_cons, h2], fun p hp => ?_⟩
    rcases List.mem_cons.mp hp with rfl | hp
    · exact h
    · exact h3 p hp
def Upto (kv : List (Key × V)) (up : Int) : Prop := ∀ e ∈ kv, ∀ q, e.2 = V.int q → q ≤ up
theorem Upto.put {kv : List (Key × V)} {up : Int} (h : Upto kv up) {k : Key} {p : Int} (hp : p ≤ up) : Upto (putK kv k (.int p)) up := fun e he q eq => by
  rcases put_val_mem he with e1 | h1
  · subst e1
    have := V.int.inj eq
    omega
  · exact h e h1 q eq
/-- _law_prices of these laws -/
def spPrices6 (K : PySem.W.Frag) : Sp := fun vs H Q _ => ∃ (l sa : Addr) (sg : List Nat) (many : Nat) (up : Int) (n : Nat), vs = [.ref l, .ref sa, .int (many : Int), .int up] ∧ sa ≠ l ∧ SqL K H sa (sg.map chV) ∧ 1 ≤ sg.length ∧ sg.length ≤ 4 ∧ (∀ c ∈ sg, lett c = true) ∧
  many ≤ 8 ∧ 1 ≤ up ∧ up ≤ 99 ∧ Dice H l (n + 100) ∧
  ∀ (p : Addr) (kvs : List (Key × V)) H', H p = none → p ≠ l → H' p = some (.dK kvs) → arePrices kvs = true → (kvs.map (·.1)).Nodup → (∀ c, (∃ q, tfD kvs (ch c) = some q) ↔ c ∈ sg) → kvs.length ≤ sg.length + many → (∀ z q, tfD kvs z = some q → q ≤ up) → Kp l H H' → Dice H' l n → Q (.ref p) H'
theorem g_catA {X : L2.Cx} (K : PySem.W.Frag) (e : X.K = K := by rfl) : OpR X (binaryOp .Add) (rCatA K) := by
  subst e
  exact op_catA
theorem CutsAt.updL {H : Hp} {F : Tf} {l : List Nat} {ws : List (Addr × List Str)} {D : Addr} {ys : List V} {o : HO} (C : CutsAt H F l ws) (h : H D = some (.lst ys)) : CutsAt (upd H D o) F l ws :=
  ⟨fun w hw => by
    have n : w.1 ≠ D := fun e => by
      have := C.at_ w hw
      rw [e, h] at this
      cases this
    rw [upd_ne n]
    exact C.at_ w hw, C.all, C.len⟩
theorem isCut_len {F : Tf} (G : Good F) {l : List Nat} {d : List Str} (h : IsCut F l d) (hl : l.length ≤ 1000) : d.length ≤ 1000 := by
  obtain ⟨h1, h2⟩ := h
  have h3 := congrArg List.length h2
  rw [List.length_flatten, List.map_map] at h3
  have h4 : ∀ l : List Str, (∀ y ∈ l, ∃ p, F y = some p) → l.length ≤ (l.map (List.length ∘ cs)).sum := fun l hl => by
    induction l with
    | nil => exact Nat.le_refl _
    | cons y r ih =>
      obtain ⟨p', hp'⟩ := hl y List.mem_cons_self
      have := (G.len y p' hp').1
      have := ih fun x hx => hl x (List.mem_cons_of_mem _ hx)
      rw [List.map_cons, List.sum_cons, List.length_cons]
      show _ ≤ (cs y).length + _
      omega
  have := h4 d h1
  omega
theorem _root_.G.Dice.ne_of {H : Hp} {l a : Addr} {n : Nat} {kvs : List (Key × V)} (D : Dice H l n) (h : H a = some (.dK kvs)) : a ≠ l := fun e => by
  obtain ⟨_, _, _, h2, _⟩ := D
  rw [e, h2] at h
  cases h
end G
/-! What one further piece, or another price, changes. -/
namespace G
open PySem PySem.Spec PyProof.Rows L2
def putF (F : Tf) (w : Str) (p : Int) : Tf := fun y => if y = w then some p else F y
section
variable {F : Tf} {w : Str} {p : Int} {r : V}
theorem put_at_w : putF F w p w = some p := if_pos rfl
theorem put_ne {y : Str} (h : y ≠ w) : putF F w p y = F y := if_neg h
theorem rem_put (h0 : F w = none) : remF (putF F w p) w = F := by
  funext y
  unfold remF
  by_cases h : y = w
  · rw [if_pos h, h, h0]
  · rw [if_neg h, put_ne h]
theorem fwd_iff (G : Good F) : NoDear F (putF F w p) ↔ lp F (cs w) ≤ p := by
  constructor
  · intro h
    exact h w p put_at_w
  · intro h z q hz
    by_cases e : z = w
    · subst e
      rw [put_at_w] at hz
      have e := Option.some.inj hz
      omega
    · rw [put_ne e] at hz
      exact lp_piece G hz
theorem bwd_all (Gp : Good (putF F w p)) (h0 : F w = none) : NoDear (putF F w p) F := fun z q hz => by
  have e : z ≠ w := fun e => by
    rw [e, h0] at hz
    cases hz
  exact lp_piece Gp (by rw [put_ne e]; exact hz)
theorem need_iff (h0 : F w = none) (hw : 1 < (cs w).length) : Needless (putF F w p) w ↔ lp F (cs w) ≤ p := by
  unfold Needless
  rw [rem_put h0, put_at_w]
  constructor
  · rintro ⟨q, e, _, h⟩
    have := Option.some.inj e
    omega
  · intro h
    exact ⟨p, rfl, hw, h⟩
theorem dear_fwd (G : Good F) (d : DearR F (putF F w p) r) : r = if p < lp F (cs w) then .str w else .non := by
  rcases d with ⟨h1, h2⟩ | ⟨z, q, h1, h2, h3, _⟩
  · have := (fwd_iff G).mp h2
    rw [if_neg (by omega)]
    exact h1
  · have e : z = w := by
      by_cases e : z = w
      · exact e
      · rw [put_ne e] at h2
        have := lp_piece G h2
        omega
    subst e
    rw [put_at_w] at h2
    have e := Option.some.inj h2
    rw [if_pos (by omega)]
    exact h1
theorem dear_bwd (Gp : Good (putF F w p)) (h0 : F w = none) (d : DearR (putF F w p) F r) : r = .non := by
  rcases d with ⟨h1, h2⟩ | ⟨z, q, h1, h2, h3, _⟩
  · exact h1
  · have := bwd_all Gp h0 z q h2
    omega
/-- a sign is cut in one way -/
theorem lp_sign (G : Good F) {c : Nat} {q : Int} (h : F (ch c) = some q) : lp F [c] = q := by
  have o : Over F [c] := fun d hd => ⟨q, by rw [List.mem_singleton.mp hd]; exact h⟩
  obtain ⟨z, p, a, h1, h2, h3⟩ := lp_last G o (by simp)
  have n1 := (G.len z p h1).1
  have hl := congrArg List.length h2
  rw [List.length_append, List.length_singleton] at hl
  have ea : a = [] := List.length_eq_zero_iff.mp (by omega)
  subst ea
  have ez : z = ch c := str_ext h2.symm
  subst ez
  rw [h] at h1
  have := Option.some.inj h1
  rw [h3, lp_nil G]
  omega
theorem sign_fwd (G : Good F) {c : Nat} {q : Int} (h : F (ch c) = some q) : NoDear F (putF F (ch c) p) ↔ q ≤ p := by
  rw [fwd_iff G]
  show lp F [c] ≤ p ↔ _
  rw [lp_sign G h]
theorem put_back {c : Nat} {q : Int} (h : F (ch c) = some q) : putF (putF F (ch c) p) (ch c) q = F := by
  funext y
  by_cases e : y = ch c
  · rw [e, put_at_w, h]
  · rw [put_ne e, put_ne e]
theorem sign_bwd (Gp : Good (putF F (ch c) p)) {q : Int} (h : F (ch c) = some q) : NoDear (putF F (ch c) p) F ↔ p ≤ q := by
  have e := sign_fwd (F := putF F (ch c) p) (p := q) Gp put_at_w
  rwa [put_back h] at e
end
theorem lp_most {F : Tf} (G : Good F) {B : Int} (hb : ∀ z p, F z = some p → p ≤ B) : ∀ l, Over F l → lp F l ≤ B * (l.length : Int)
  | [], _ => by
    rw [lp_nil G]
    exact Int.le_of_eq (by simp)
  | c :: r, o => by
    have o1 : Over F [c] := fun d hd => o d (by rw [List.mem_singleton.mp hd]; exact List.mem_cons_self)
    have o2 : Over F r := fun d hd => o d (List.mem_cons_of_mem _ hd)
    obtain ⟨p, hp⟩ := o c List.mem_cons_self
    have h1 := lp_sign G hp
    have h2 := hb _ _ hp
    have h3 := lp_most G hb r o2
    have h4 : lp F (c :: r) ≤ lp F [c] + lp F r := lp_add G o1 o2
    rw [List.length_cons, Int.natCast_add, Int.mul_add]
    omega
theorem lp_pos {F : Tf} (G : Good F) {l : List Nat} (o : Over F l) (ne : l ≠ []) : 1 ≤ lp F l := by
  obtain ⟨z, p, a, h1, h2, h3⟩ := lp_last G o ne
  have oa : Over F a := fun c hc => o c (by rw [h2]; exact List.mem_append_left _ hc)
  obtain ⟨d, hd, e⟩ := lp_cut G oa
  have := fee_pos G d hd.1
  have := (G.pos z p h1).1
  omega
/-! ### lists of pairs -/
def dPairs (ks : List (Str × Int)) : PyData := .list (ks.map fun e => .tuple [.str e.1, .int e.2])
theorem dp_pairs {K : PySem.W.Frag} {H : Hp} : ∀ {ps : List (Addr × Str × Int)}, (∀ z ∈ ps, H z.1 = some (.tup [.str z.2.1, .int z.2.2])) → DpAll K H (ps.map fun z => V.ref z.1) ((ps.map (·.2)).map fun e => PyData.tuple [.str e.1, .int e.2])
  | [], _ => .nil
  | z :: r, h => .cons (.tup (SqT.of (h z List.mem_cons_self)) (.cons (.str _) (.cons (.int _) .nil))) (dp_pairs fun y hy => h y (List.mem_cons_of_mem _ hy))
theorem neD_same {K : PySem.W.Frag} {H : Hp} {x y : V} {d : PyData} {Q : VK} (hx : Dp K H x d) (hy : Dp K H y d) (s : SeqAt.shaped d = true) (q : Q (.bl false) H) : rNeD K x y H Q := by
  refine ⟨d, d, hx, hy, s, s, ?_⟩
  rw [SeqAt.eqv_refl _ (SeqAt.canLay_of_shaped s)]
  exact q
theorem shaped_pairs {ks : List (Str × Int)} (h : ∀ e ∈ ks, ∀ c ∈ cs e.1, lett c = true) : SeqAt.shaped (dPairs ks) = true := by
  have h1 : ∀ l : List (Str × Int), (∀ e ∈ l, ∀ c ∈ cs e.1, lett c = true) → PyData.canLayAll0 (l.map fun e => PyData.tuple [.str e.1, .int e.2]) = true := by
    intro l hl
    induction l with
    | nil => rfl
    | cons e r ih =>
      have hs := shaped_lstrs (zs := [e.1]) fun z hz => by
        rw [List.mem_singleton.mp hz]
        exact hl e List.mem_cons_self
      have hc := SeqAt.canLay_of_shaped hs
      have h2 : PyData.canLay0 (.str e.1) = true := by
        have h3 : (PyData.canLay0 (.str e.1) && true) = true := hc
        rwa [Bool.and_true] at h3
      show (PyData.canLay0 (.tuple [.str e.1, .int e.2]) && _) = true
      rw [ih fun x hx => hl x (List.mem_cons_of_mem _ hx), Bool.and_true]
      show (PyData.canLay0 (.str e.1) && (true && true)) = true
      rw [h2]
      rfl
  have h2 : ∀ l : List (Str × Int), PyData.depthAll (l.map fun e => PyData.tuple [.str e.1, .int e.2]) ≤ 2 := by
    intro l
    induction l with
    | nil => simp [PyData.depthAll]
    | cons e r ih =>
      simp only [List.map_cons, PyData.depthAll, PyData.depth]
      omega
  unfold SeqAt.shaped dPairs
  rw [Bool.and_eq_true, decide_eq_true_eq]
  refine ⟨h1 ks h, ?_⟩
  have := h2 ks
  simp only [PyData.depth]
  omega
/-- _law_prices_of -/
def spPricesOf (C : Addr) : Sp := fun vs H Q _ => ∃ b kvs, vs = [.ref b] ∧ Book1 C H b kvs ∧ ∀ p (ps : List (Addr × Str × Int)) ys H', ys.Perm (keyStrs kvs) → sortedS ys = true → ps.map (·.2) = psOf kvs ys → H' p = some (.lst (ps.map fun z => V.ref z.1)) → (∀ z ∈ ps, H' z.1 = some (.tup [.str z.2.1, .int z.2.2])) → Same H H' → Q (.ref p) H'
/-- what the laws' parts about one book promise -/
def spPart (ok : List (Key × V) → Str → Prop) : Sp := fun vs H Q _ => ∃ (l pd : Addr) (kvs : List (Key × V)) (w : Str) (n : Nat), vs = [.ref l, .ref pd, .str w] ∧ pd ≠ l ∧ H pd = some (.dK kvs) ∧ arePrices kvs = true ∧ (kvs.map (·.1)).Nodup ∧ ok kvs w ∧ Dice H l (n + 1) ∧ ∀ H', Kp l H H' → Dice H' l n → Q (.bl true) H'
def lessK (kvs : List (Key × V)) (w : Str) : List (Key × V) := kvs.filter fun kv => !decide (kv.1 = Sum.inr w)
theorem tf_less {kvs : List (Key × V)} {w : Str} : tfD (lessK kvs w) = remF (tfD kvs) w := by
  have h : ∀ (l : List (Key × V)) (y : Str), valV (lessK l w) (Sum.inr y) = if y = w then none else valV l (Sum.inr y) := by
    intro l y
    induction l with
    | nil =>
      show (none : Option V) = _
      split <;> rfl
    | cons a r ih =>
      by_cases e : a.1 = Sum.inr w
      · have e1 : lessK (a :: r) w = lessK r w := by
          unfold lessK
          rw [List.filter_cons, if_neg (by simp [e])]
        rw [e1, ih]
        by_cases q : y = w
        · rw [if_pos q, if_pos q]
        · rw [if_neg q, if_neg q]
          unfold valV
          rw [List.find?_cons, decide_eq_false (fun z => q (Sum.inr.inj (z.symm.trans e)))]
      · have e1 : lessK (a :: r) w = a :: lessK r w := by
          unfold lessK
          rw [List.filter_cons, if_pos (by simp [e])]
        rw [e1]
        by_cases z : a.1 = Sum.inr y
        · have q : y ≠ w := fun q => e (by rw [z, q])
          rw [if_neg q]
          unfold valV
          rw [List.find?_cons, List.find?_cons, decide_eq_true z]
        · have h1 : valV (a :: lessK r w) (Sum.inr y) = valV (lessK r w) (Sum.inr y) := by
            unfold valV
            rw [List.find?_cons, decide_eq_false z]
          have h2 : valV (a :: r) (Sum.inr y) = valV r (Sum.inr y) := by
            unfold valV
            rw [List.find?_cons, decide_eq_false z]
          rw [h1, h2, ih]
  funext y
  unfold tfD remF
  rw [h]
  by_cases q : y = w
  · rw [if_pos q, if_pos q]
  · rw [if_neg q, if_neg q]
theorem less_book {kvs : List (Key × V)} {w : Str} (av : arePrices kvs = true) (nd : (kvs.map (·.1)).Nodup) (hw : 1 < (cs w).length) : arePrices (lessK kvs w) = true ∧ ((lessK kvs w).map (·.1)).Nodup := by
  have nd' : ((lessK kvs w).map (·.1)).Nodup := nd.sublist (List.filter_sublist.map _)
  refine ⟨(ap_sub av nd nd' (fun kv h => (List.mem_filter.mp h).1) (fun c hc => ?_) (Nat.le_trans (List.length_filter_le _ _) (ap_parts av).1.2)).1, nd'⟩
  obtain ⟨q, hq⟩ := hc
  refine ⟨q, ?_⟩
  rw [tf_less]
  unfold remF
  rw [if_neg fun e => ?_]
  · exact hq
  · rw [← e] at hw
    exact absurd (show 1 < 1 from hw) (by decide)
theorem bool_iff {b : Bool} {P : Prop} [Decidable P] (h : b = true ↔ P) : b = decide P := by
  by_cases q : P
  · rw [decide_eq_true q, h.mpr q]
  · rw [decide_eq_false q]
    cases b with
    | false => rfl
    | true => exact absurd (h.mp rfl) q
/-- data of a list of truths, a text or None behind them -/
theorem repr_three {K : PySem.W.Frag} {H : Hp} {a : Addr} {b1 b2 : Bool} {x : V} {d : PyData} {Q : VK} (h : H a = some (.lst [.bl b1, .bl b2, x])) (hd : Dp K H x d) (s : Shw d 0 1000) (q : Q (.str (PyData.list [.bool b1, .bool b2, d]).shown) H) : rRepr K [.ref a] H Q := by
  have S : Shw (PyData.list [.bool b1, .bool b2, d]) 1 _ := shw_list (k := 0) (n := 1000) fun e he => by
    simp only [List.mem_cons, List.not_mem_nil, or_false] at he
    rcases he with rfl | rfl | rfl
    · exact (shw_bool b1).le (Nat.le_refl _) (by omega)
    · exact (shw_bool b2).le (Nat.le_refl _) (by omega)
    · exact s
  exact ⟨_, _, rfl, .lst (SqL.of h) (.cons (.bl b1) (.cons (.bl b2) (.cons hd .nil))), S.s, S.h, Nat.le_trans S.dp (by omega), Nat.le_trans S.len (fits_sz (by show _ ≤ 100000; simp)), q⟩
theorem shw_non6 : Shw PyData.none 0 1000 := ⟨by simp [PyData.showable], by simp [PyData.hasDict], by simp [PyData.depth], by simp only [PyData.shown]; decide +kernel⟩
theorem shw_word {z : Str} (h : z.length ≤ 5) (hc : ∀ c ∈ cs z, c < 16 ^ 8) : Shw (.str z) 0 1000 :=
  ⟨by simp [PyData.showable], by simp [PyData.hasDict], by simp [PyData.depth], by simp only [PyData.shown]; exact Nat.le_trans (StrLaws.reprText_len z hc) (by omega)⟩
theorem seq_if_join {tc : TT} {ta tb tr : TS} {D : Ends} {σ : L2.St} {H : Hp} (P : L2.St → Hp → Prop) (h : ∀ N : L2.St → Hp → Prop, (∀ σ' H', P σ' H' → N σ' H') → tIfS tc ta tb { D with nx := N } σ H) (k : ∀ σ' H', P σ' H' → tr D σ' H') : tSeq (tIfS tc ta tb) tr D σ H := h _ k
def longG : Key × V → Option Str := fun kv => match kv.1 with | .inr y => if 1 < y.length then some y else none | .inl _ => none
theorem long_mem {kvs : List (Key × V)} (T : Tar kvs) {z : Str} (h : z ∈ kvs.filterMap longG) : 1 < z.length ∧ ∃ q, tfD kvs z = some q := by
  obtain ⟨kv, hkv, e⟩ := List.mem_filterMap.mp h
  obtain ⟨y, q, rfl, hq⟩ := T.mem kv hkv
  have e' : (if 1 < y.length then some y else none) = some z := e
  split at e'
  · rename_i l
    cases e'
    exact ⟨l, q, hq⟩
  · cases e'
end G
/-! != of instances that have only ==; - and others with a value of another kind. -/
namespace G
open PySem PySem.Spec PyProof.Rows L2
section
variable {prog : Program} {w : World} {A : Around} {E : Value → Shared → Prop} {s : Shared} {K : PySem.W.Frag} {x y C f : Addr} {ox : Obj} {od : Option Obj}
theorem ne_entry {Q : Fin → Shared → Prop} (X : K.In s.heap) (I : PySem.W.InstAt s.heap x ox C od) (hs : PySem.W.findIn K (.ref C) "__eq__" = some (some (.ref f))) (hf : PySem.W.isFn K (.ref f) = true) (hu : A.units < cLine)
    (h : wpAny (model prog w) A (call (.ref f) [.ref x, .ref y]) (fun v s' => ∃ b, v = .bool b ∧ Q (.done (.ret (.bool (!b)))) s') E s) : wpAny (model prog w) A (Builtin.«object.__ne__» ⟨[.ref x, .ref y], []⟩) Q E s := by
  unfold Builtin.«object.__ne__»
  repeat (first
    | with_reducible refine wpAny_cRoomFor hu ?_
    | (refine wpAny_bind (m := callSpecialIfBound? (.ref x) (Str.ofString "__eq__") [.ref y]) (PySem.W.ifBound_K X I hs hf (wpAny_mono h (fun r s' hr => ?_) fun _ _ e => e)))
    | wp_step)
  obtain ⟨b, rfl, hq⟩ := hr
  repeat (first
    | exact hq
    | exact wpAny_pure hq
    | exact wpAny_truthy_bool hq
    | (refine wpAny_bind (m := truthy (.bool _)) (wpAny_truthy_bool ?_))
    | wp_step)
theorem call_ne {Q : Value → Shared → Prop} (X : K.In s.heap) (I : PySem.W.InstAt s.heap x ox C od) (hm : PySem.W.mroIn K C (.type "object") = some true) (hs : PySem.W.findIn K (.ref C) "__eq__" = some (some (.ref f))) (hf : PySem.W.isFn K (.ref f) = true) (hu : A.in1.units < cLine)
    (h : wpAny (model prog w) A.in1 (call (.ref f) [.ref x, .ref y]) (fun v s' => ∃ b, v = .bool b ∧ Q (.bool (!b)) s') E s) : wpAny (model prog w) A (call (.builtin "object.__ne__") [.ref x, .ref y]) Q E s :=
  wpAny_call (codeAny_call_builtin F.cmp_object.ne.plain F.cmpEntry_ne (PySem.W.check_slot F.cmpKind_ne F.cmpSplit_ne (I.type.andThen (PySem.W.looks_mroIn X hm)) (F.cmpArgs_ne _ _) (ne_entry X I hs hf hu h)))
theorem bound_ne {args : List Value} {Q : Option Value → Shared → Prop} {M : Model} (X : K.In s.heap) (I : PySem.W.InstAt s.heap x ox C od) (hs : PySem.W.findIn K (.ref C) "__ne__" = some (some (.builtin "object.__ne__")))
    (h : wpAny M A (call (.builtin "object.__ne__") (.ref x :: args)) (fun v => Q (some v)) E s) : wpAny M A (callSpecialIfBound? (.ref x) "__ne__" args) Q E s := by
  simp only [callSpecialIfBound?, bindSpecialIfBound?]
  refine wpAny_holding (wpAny_bind (wpAny_bind (wpAny_bind (I.type.here ((PySem.W.looks_findIn X hs).here ?_)))))
  have go : wpAny M A (call (.builtin "object.__ne__") ([.ref x] ++ args) >>= fun v => pure (some v)) Q E s := wpAny_bind (wpAny_mono h (fun v s' q => wpAny_pure q) fun _ _ q => q)
  refine wpAny_bind (wpAny_askSetting (wpAny_ite ?_))
  split
  · exact wpAny_bind (wpAny_of_eq (F.cmp_object.ne.bind _) (wpAny_pure (by exact go)))
  · exact wpAny_tryCatch (wpAny_bind (wpAny_of_eq (F.cmp_object.ne.bind _) (wpAny_pure (by exact go))))
end
section
variable {X : L2.Cx} {k j : Nat} {C : Addr} {sp : Sp}
/-- the method run below a built-in -/
theorem met_run1 {m : Str} {pins : List (Addr × Obj)} {σ : L2.St} {H : Hp} {s : Shared} {Q : VK} {us : List Value} {vs : List V} (c : C8.Met X.prog X.w X.K X.mg X.base k C m sp []) (hr : Room j X.A) (hk : k + 1 ≤ j) (I : Inv X pins σ H s) (r : Vals vs us) (h : sp vs H Q C8.E0) :
    ∃ f : Addr, PySem.W.findIn X.K (.ref C) m = some (some (.ref f)) ∧ PySem.W.isFn X.K (.ref f) = true ∧ wpAny (model X.prog X.w) X.A.in1 (call (.ref f) us) (EP X pins σ Q) X.xe s := by
  obtain ⟨f, fd, ps, ds, hc, hm, F, b, d⟩ := c.ex
  refine ⟨f, hm.at_, hm.fn, ?_⟩
  have sb : Sub X k X.A.in1 := (Sub.in1 (n := k) ⟨hr.mono hk, rfl⟩)
  have e0 : Env0 X.prog X.w X.K X.mg X.base X.A.in1 X.stack s H := by
    have e := I.env0
    exact ⟨by rw [sb.fr]; exact e.frames, e.mod, e.bs, e.bsz, e.funs, e.frf, e.hok, e.bare⟩
  have h' : sp (vs ++ []) H Q C8.E0 := by
    rw [List.append_nil]
    exact h
  have r2 : Vals (vs ++ []) (us ++ ds) := r.append d
  have hl : (us ++ ds).length = ps.length := by
    rw [← r2.length]
    exact F.len _ _ _ _ h'
  refine wpAny_call (codeAny_mono (F.run X.A.in1 X.stack s H ⟨us, []⟩ (us ++ ds) (vs ++ []) Q C8.E0 sb.room e0 (b s us I.kIn hl) r2 h') fun r s' hq => ?_)
  cases r with
  | error e => exact C8.pass0 (E := C8.E0) pins σ H s e s' I hq
  | ok fl =>
    cases fl with
    | ret u => exact I.after hq
    | next => exact False.elim hq
    | brk => exact False.elim hq
    | cont => exact False.elim hq
def rNeO (C : Addr) (sp : Sp) : R2 := fun x y H Q => ∃ a dx fs b dy gs, x = .ref a ∧ y = .ref b ∧ H a = some (.ins C dx fs) ∧ H b = some (.ins C dy gs) ∧ sp [.ref a, .ref b] H (fun r H' => ∃ b, r = .bl b ∧ Q (.bl (!b)) H') C8.E0
theorem op_neO (c : C8.Met X.prog X.w X.K X.mg X.base k C "__eq__" sp []) (hr : Room j X.A) (hk : k + 1 ≤ j) (hu : X.A.units + 1 < cLine) (hm : PySem.W.mroIn X.K C (.type "object") = some true) (hne : PySem.W.findIn X.K (.ref C) "__ne__" = some (some (.builtin "object.__ne__"))) : OpR X (compareOp .NotEq) (rNeO C sp) := by
  intro pins s σ H x y v u Q I rx ry h
  obtain ⟨a, dx, fs, b, dy, gs, rfl, rfl, ha, hb, q⟩ := h
  cases rx
  cases ry
  obtain ⟨_, J, _⟩ := ins_get I.hok ha
  obtain ⟨_, J', _⟩ := ins_get I.hok hb
  obtain ⟨_, J, _⟩ := J.look
  obtain ⟨_, J', _⟩ := J'.look
  obtain ⟨m, hF⟩ := I.fr
  have kin := I.kIn
  obtain ⟨f, h1, h2, h3⟩ := met_run1 (us := [.ref a, .ref b]) (vs := [.ref a, .ref b]) c hr hk I (.cons rfl (.cons rfl .nil)) q
  have one : wpAny (model X.prog X.w) X.A (tryCompare (.ref a) "__ne__" (.ref b)) (fun r s' => ∃ v, r = some v ∧ EP X pins σ Q v s') X.xe s := by
    unfold tryCompare
    refine wpAny_bind (bound_ne kin J hne (call_ne kin J hm h1 h2 (show X.A.units + 1 < cLine from hu) (wpAny_mono h3 (fun r s' hq => ?_) fun _ _ e => e)))
    obtain ⟨z, H', I', rz, b', rfl, q'⟩ := hq
    cases rz
    exact ⟨b', rfl, wpAny_pure ⟨_, rfl, .bl (!b'), H', I', rfl, q'⟩⟩
  show wpAny _ _ (richCompare .NotEq (.ref a) (.ref b)) _ _ _
  unfold richCompare
  simp only [oneThing_ref]
  refine wpAny_holding (wpAny_bind (wpAny_cRoomFor (by omega) ?_))
  refine wpAny_bind (J.type.here (wpAny_bind (J'.type.here ?_)))
  split
  · rename_i q
    simp at q
  · refine wpAny_bind (wpAny_pure ?_)
    simp only [Bool.false_eq_true, if_false]
    refine wpAny_bind (wpAny_mono one (fun r s' z => ?_) fun _ _ e => e)
    obtain ⟨v, rfl, hq⟩ := z
    exact wpAny_pure hq
end
section
open PySem.W PySem.Calls
variable {prog : Program} {w : World} {A : Around} {E : Value → Shared → Prop} {s : Shared} {K : Frag} {x C f : Addr} {ox : Obj} {od : Option Obj} {T : String}
/-- an own operator whose right side is of a built-in type, wherever it lies -/
theorem bin_own {op : Operator} {b : Value} {fo ro : Option Value} {Q : Value → Shared → Prop} (X : K.In s.heap) (I : InstAt s.heap x ox C od) (hb : Looks (model prog w) s.heap (typeOf b) (.type T)) (first : selfFirst K C = true)
    (own : findIn K (.ref C) (PySem.dunder op.info.2) = some (some (.ref f))) (fn : isFn K (.ref f) = true) (back : findIn K (.ref C) (dunderR op.info.2) = some none) (tl : findIn K (.type T) (PySem.dunder op.info.2) = some fo) (tr : findIn K (.type T) (dunderR op.info.2) = some ro)
    (apart : subIn K (.type T) (.ref C) = some false) (h : wpAny (model prog w) A (call (.ref f) [.ref x, b]) (PySem.W.CmpBack Q) E s) : wpAny (model prog w) A (binaryOp op (.ref x) b) Q E s := by
  obtain ⟨cd, rest, k1, k2⟩ := ksp_first first
  rcases info : op.info with ⟨sign, nm⟩
  rw [info] at own back tl tr
  dsimp only at own back tl tr
  have go := ksp_try X I own fn h
  obtain ⟨hp, gn, dr, tk, os⟩ := s
  have a1 : Looks (model prog w) hp (typeOf (.ref x)) (.ref C) := I.type
  have a2 : Looks (model prog w) hp (typeOf b) (.type T) := hb
  have a3 : Looks (model prog w) hp (fillsNumberSlot (.ref C) nm) true := fills_K X k1 k2 own
  have a4 := ksp_fillsT (M := model prog w) X tl tr
  have a5 : Looks (model prog w) hp (isSubtype (.type T) (.ref C)) false := looks_subIn X apart
  have a6 : Looks (model prog w) hp (numberSlotInPython (.ref C) nm) true := ksp_inPy X own back (Or.inl rfl)
  have a7 : Looks (model prog w) hp (numberSlotInPython (.type T) nm) false := Looks.of_pure rfl
  have a8 : Looks (model prog w) hp (typeLookup (.type T) (dunderR nm)) ro := looks_findIn X tr
  generalize ((fo.isSome && !isSeqSlot fo) || (ro.isSome && !isSeqSlot ro)) = both at a4
  have differ : (Value.ref C == Value.type T) = false := Bool.eq_false_iff.mpr fun q => by cases beq_iff_eq.mp q
  simp only [binaryOp, info]
  unfold binaryOp1
  refine wpAny_holding (wpAny_bind (wpAny_bind (a1.at (wpAny_bind (a2.at (wpAny_bind (a3.at ?_)))))))
  simp only [differ, Bool.false_eq_true, if_false]
  cases both
  all_goals
    ksp_lk
    refine wpAny_mono go (fun r s' hr' => ?_) fun _ _ e => e
    obtain ⟨v, rfl, hq⟩ := hr'
    ksp_lk
    exact hq
end
section
variable {X : L2.Cx} {k j : Nat} {C : Addr} {sp : Sp}
def rSubO (K : PySem.W.Frag) (C : Addr) (sp : Sp) : R2 := fun x y H Q => ∃ a dx fs t xs, x = .ref a ∧ y = .ref t ∧ H a = some (.ins C dx fs) ∧ SqT K H t xs ∧ sp [.ref a, .ref t] H (fun r H' => (∃ b, r = .ref b) ∧ Q r H') C8.E0
theorem op_subO (K : PySem.W.Frag) (c : C8.Met X.prog X.w X.K X.mg X.base k C "__sub__" sp []) (hr : Room j X.A) (hk : k ≤ j) (first : PySem.W.selfFirst X.K C = true) (back : PySem.W.findIn X.K (.ref C) "__rsub__" = some none)
    (tl : PySem.W.findIn X.K (.type "tuple") "__sub__" = some none) (tr : PySem.W.findIn X.K (.type "tuple") "__rsub__" = some none) (apart : PySem.W.subIn X.K (.type "tuple") (.ref C) = some false) (e : X.K = K := by rfl) : OpR X (binaryOp .Sub) (rSubO K C sp) := by
  subst e
  intro pins s σ H x y v u Q I rx ry h
  obtain ⟨a, dx, fs, t, xs, rfl, rfl, ha, ht, q⟩ := h
  cases rx
  cases ry
  obtain ⟨_, J, _⟩ := ins_get I.hok ha
  obtain ⟨_, J, _⟩ := J.look
  obtain ⟨its, _, p1, _⟩ := I.tuple ht
  obtain ⟨f, h1, h2, h3⟩ := met_run (us := [.ref a, .ref t]) (vs := [.ref a, .ref t]) c hr hk I (.cons rfl (.cons rfl .nil)) q
  obtain ⟨ob, g1, g2, n, g3⟩ := p1
  refine bin_own (op := .Sub) I.kIn J (b := .ref t) (T := "tuple") ?_ first h1 h2 back tl tr apart (wpAny_mono h3 (fun r s' hq => ?_) fun _ _ e => e)
  · intro A Q E s' k q
    exact wpAny_typeOf_ref (k _ _ g1) (by rw [g2]; exact q)
  · obtain ⟨z, H', I', rz, ⟨b, rfl⟩, q⟩ := hq
    cases rz
    exact ⟨.ref b, H', I', rfl, q⟩
end
/-! ### == of dicts with texts and ints, different only in their sizes; not in, of data -/
def rEqDB : R2 := fun x y H Q => ∃ a b ks ls, x = .ref a ∧ y = .ref b ∧ Rd H a (.dK ks) ∧ Rd H b (.dK ls) ∧
  ((ks.length = ls.length ∧ (∀ p ∈ ks, valV ls p.1 = some p.2 ∧ flatB p.2 = true) ∧ Q (.bl true) H) ∨ (ks.length ≠ ls.length ∧ Q (.bl false) H))
section
variable {X : L2.Cx}
theorem op_eqDB (hu : X.A.units + 64 < cLine) : OpR X (compareOp .Eq) rEqDB := by
  intro pins s σ H x y v u Q I rx ry h
  obtain ⟨a, b, ks, ls, rfl, rfl, ea, eb, q⟩ := h
  cases rx
  cases ry
  obtain ⟨_, la, va, ra, da⟩ := dk_rd I.hok ea
  obtain ⟨_, lb, vb, rb, db⟩ := dk_rd I.hok eb
  have na := Paired.length ra
  have nb := Paired.length rb
  rcases q with ⟨hl, hp, q⟩ | ⟨hl, q⟩
  · exact PySem.W.keq_eq (knd := mixKind X.prog X.w) (r := true) la lb da db (by omega) (fun _ => hits_all rb ra hp) (fin_bl I q (by simp [show va.length = vb.length by omega]))
  · exact PySem.W.keq_eq (knd := mixKind X.prog X.w) (r := true) la lb da db (by omega) (fun e => absurd e (by omega)) (fin_bl I q (by simp [show ¬ va.length = vb.length by omega]))
theorem units65 {k : Nat} {A : Around} (r : Room k A) : A.units + 65 < cLine := by
  have := r.un
  omega
theorem g_notInD (K : PySem.W.Frag) (hu : X.A.units + 65 < cLine) (e : X.K = K := by rfl) : OpR X (compareOp .NotIn) (rNotInD K) := by
  subst e
  exact op_notInD hu
end
/-! ### dicts that are equal, their sizes not asked -/
def rNeDS : R2 := fun x y H Q => ∃ a b ks ls, x = .ref a ∧ y = .ref b ∧ Rd H a (.dK ks) ∧ Rd H b (.dK ls) ∧ (∀ p ∈ ks, ∃ v, valV ks p.1 = some v ∧ valV ls p.1 = some v ∧ flatB v = true) ∧ (∀ p ∈ ls, p.1 ∈ ks.map (·.1)) ∧ Q (.bl false) H
theorem kvR_keys : ∀ {ks : List (Key × V)} {vs : List (Key × Value)}, KV ks vs → ks.map (·.1) = vs.map (·.1)
  | [], _, h => by
    cases h
    rfl
  | k :: r, _, h => by
    cases h with
    | cons h1 t => rw [List.map_cons, List.map_cons, kvR_keys t, h1.1]
theorem nd_le {α : Type} [DecidableEq α] {l1 l2 : List α} (nd : l1.Nodup) (h : ∀ a ∈ l1, a ∈ l2) : l1.length ≤ l2.length := @nd_sub_len α instBEqOfDecidableEq inferInstance l1 l2 nd h
theorem op_neDS {X : L2.Cx} (hu : X.A.units + 64 < cLine) : OpR X (compareOp .NotEq) rNeDS := by
  intro pins s σ H x y v u Q I rx ry h
  obtain ⟨a, b, ks, ls, rfl, rfl, ea, eb, h0, h2, q⟩ := h
  cases rx
  cases ry
  obtain ⟨_, la, va, ra, da⟩ := dk_rd I.hok ea
  obtain ⟨_, lb, vb, rb, db⟩ := dk_rd I.hok eb
  have na := Paired.length ra
  have nb := Paired.length rb
  have nda : (ks.map (·.1)).Nodup := by
    rw [kvR_keys ra]
    obtain ⟨_, _, _, _, _, _, _, _, nd⟩ := da
    exact nd
  have ndb : (ls.map (·.1)).Nodup := by
    rw [kvR_keys rb]
    obtain ⟨_, _, _, _, _, _, _, _, nd⟩ := db
    exact nd
  have h1 : ∀ p ∈ ks, valV ls p.1 = some p.2 ∧ flatB p.2 = true := fun p hp => by
    obtain ⟨v, e1, e2, e3⟩ := h0 p hp
    rw [val_nodup nda p hp] at e1
    cases e1
    exact ⟨e2, e3⟩
  have i1 := nd_le (l2 := ls.map (·.1)) nda fun k hk => by
    obtain ⟨p, hp, rfl⟩ := List.mem_map.mp hk
    exact valV_in (h1 p hp).1
  have i2 := nd_le (l2 := ks.map (·.1)) ndb fun k hk => by
    obtain ⟨p, hp, rfl⟩ := List.mem_map.mp hk
    exact h2 p hp
  rw [List.length_map, List.length_map] at i1 i2
  exact PySem.W.keq_ne (knd := mixKind X.prog X.w) (r := true) la lb da db (by omega) (fun _ => hits_all rb ra h1) (fin_bl I q (by simp [show va.length = vb.length by omega]))
end G
/-! for pair in d.items(): the target is one name, so the pairs are kept. -/
namespace G
open PySem PySem.Spec PyProof.Rows L2
open PySem.W (KdxIt kdx_end_out)
section
variable {prog : Program} {w : World} {A : Around} {E : Value → Shared → Prop} {s : Shared}
theorem look_alive {a : Addr} {Q : Option Obj → Shared → Prop} (h : Q (s.heap.get? a) s) : wpAny (model prog w) A (loadIfAlive a) Q E s := fun _ _ _ => h
/-- the next pair, whether the last one is there or gone -/
theorem next_pair {it d a : Addr} {f : Bool} {i ep : Nat} {es : Array DictEntry} {ok ov : Value} {Q : Option Value → Shared → Prop} (hit : KdxIt s.heap it d i es.size ep ok ov a f)
    (hm : s.heap.DictRaw d es ep) (lt : i < es.size)
    (hQ : ∀ h' ok' ov' a' f', KdxIt h' it d (i + 1) es.size ep ok' ov' a' f' →
      h'.get? s.heap.objs.size = some { cls := .type "tuple", data := .seq #[es[i].key, es[i].val] } →
      (∀ b o, b ≠ it → s.heap.get? b = some o → h'.get? b = some o) → Q (some (.ref s.heap.objs.size)) { s with heap := h' }) :
    wpAny (model prog w) A (pyNext (.ref it)) Q E s := by
  obtain ⟨hp, g, dr, tk, os⟩ := s
  obtain ⟨od, hod, hcd, hdd⟩ := id hm
  have hT : Shared.TypeIs ⟨hp, g, dr, tk, os⟩ (.ref it) "dict_itemiterator" := ⟨_, hit, rfl⟩
  unfold pyNext
  refine wpAny_bind (wpAny_attempt (wpAny_callSpecial?_slot (name := Str.ofString "__next__") hT F.slot_dict_itemiterator_next
    (wpAny_call_entry F.slot_dict_itemiterator_next hT F.entry_dict_itemiterator_next ?_ (F.args_dict_itemiterator_next_1 _))))
  refine wpAny_bind (wpAny_pure ?_)
  refine wpAny_bind ?_
  refine wpAny_bind ?_
  first | refine wpAny_bind (wpAny_typeNameOfWhole_itemiter hT (wpAny_pure ?_)) | refine wpAny_bind (wpAny_typeNameOf_itemiter hT (wpAny_pure ?_))
  refine wpAny_bind (wpAny_fieldsOf hit rfl ?_)
  have own : Builtin.Dict_items.ownsTuple "dict_itemiterator" = true := by decide
  simp only [own, if_true]
  show wpAny _ _ (if (Value.ref d == Value.none) = true then _ else _) _ _ _
  rw [if_neg (show ¬ ((Value.ref d == Value.none) = true) from Bool.false_ne_true)]
  refine wpAny_bind (wpAny_pure ?_)
  refine wpAny_bind (wpAny_dictEntries hod hdd ?_)
  rw [if_neg (by simp)]
  refine wpAny_bind (wpAny_pure ?_)
  refine wpAny_bind (wpAny_dictEpoch hod hdd ?_)
  rw [if_neg (by simp)]
  refine wpAny_pure ?_
  simp only [show ¬ ((i : Int) < 0) from by omega, if_false, Int.toNat_natCast, Array.getElem?_eq_getElem lt]
  refine wpAny_bind ?_
  first | refine wpAny_bind (wpAny_typeNameOfWhole_itemiter hT (wpAny_pure ?_)) | refine wpAny_bind (wpAny_typeNameOf_itemiter hT (wpAny_pure ?_))
  refine wpAny_bind (wpAny_isOneOf_itemiter hT ?_)
  show wpAny _ _ (setField (.ref it) 3 (rawInt ((i : Int) + 1)) >>= _) _ _ ⟨hp, g, dr, tk, os⟩
  refine wpAny_bind (wpAny_setField_rec hit (by simp) fun h₁ e₁ s₁ => ?_)
  replace s₁ : Heap.SameBut it hp h₁ := s₁
  replace e₁ : KdxIt h₁ it d (i + 1) es.size ep ok ov a f := by
    have e : ((i + 1 : Nat) : Int) = (i : Int) + 1 := by omega
    unfold KdxIt; rw [e]; simpa [rawInt] using e₁
  have T₁ : Shared.TypeIs ⟨h₁, g, dr, tk, os⟩ (.ref it) "dict_itemiterator" := ⟨_, e₁, rfl⟩
  refine wpAny_bind (wpAny_holding ?_)
  refine wpAny_bind (wpAny_isOneOf_itemiter T₁ ?_)
  refine wpAny_bind (wpAny_isOneOf_itemiter T₁ ?_)
  show wpAny _ _ (Builtin.Dict_items.pairFromOwner (.ref it) 6 es[i].key es[i].val) _ _ ⟨h₁, g, dr, tk, os⟩
  unfold Builtin.Dict_items.pairFromOwner
  refine wpAny_bind (wpAny_newTuple ?_)
  have e₂ : KdxIt (h₁.push { cls := .type "tuple", data := .seq #[es[i].key, es[i].val] }) it d (i + 1) es.size ep ok ov a f := Heap.get?_push_of_some _ e₁
  generalize hh : h₁.push { cls := .type "tuple", data := .seq #[es[i].key, es[i].val] } = h₂ at e₂
  have z₁ : h₁.objs.size = hp.objs.size := s₁.1
  have il : it < hp.objs.size := Heap.lt_size hit
  have t₂ : h₂.get? hp.objs.size = some { cls := .type "tuple", data := .seq #[es[i].key, es[i].val] } := by rw [← hh, ← z₁]; exact Heap.get?_push_size _ rfl
  have k₂ : ∀ b o, b ≠ it → hp.get? b = some o → h₂.get? b = some o := fun b o hb e => by rw [← hh]; exact Heap.get?_push_of_some _ (s₁.extBut b o hb e)
  have n := Nat.ne_of_gt il
  show wpAny _ _ (Builtin.Dict_items.ownedTupleIsFree (.ref it) >>= _) _ _ ⟨h₂, g, dr, tk, os⟩
  rw [z₁]
  clear hh e₁ s₁ T₁ z₁ h₁
  refine wpAny_bind ?_
  unfold Builtin.Dict_items.ownedTupleIsFree
  refine wpAny_bind (wpAny_field e₂ rfl (x := rawInt a) rfl ?_)
  show wpAny _ _ (loadIfAlive ((a : Int).toNat) >>= _) _ _ _
  rw [Int.toNat_natCast]
  refine wpAny_bind (look_alive ?_)
  cases hg : h₂.get? a with
  | some o =>
    simp only [Option.isNone_some, Bool.false_eq_true, if_false]
    refine wpAny_bind (wpAny_field e₂ rfl (x := .bool f) rfl ?_)
    have fin : ∀ h₃ : Heap, KdxIt h₃ it d (i + 1) es.size ep ok ov a true → Heap.SameBut it h₂ h₃ → Q (some (.ref hp.objs.size)) ⟨h₃, g, dr, tk, os⟩ := fun h₃ e₃ s₃ =>
      hQ h₃ _ _ _ _ e₃ (s₃.extBut _ _ n t₂) fun b o hb e => s₃.extBut b o hb (k₂ b o hb e)
    cases f with
    | true =>
      rw [if_neg (show ¬ ((Value.bool true != Value.bool true) = true) from Bool.false_ne_true)]
      refine wpAny_pure ?_
      simp only [Bool.false_eq_true, if_false]
      exact wpAny_pure (wpAny_pure ⟨_, rfl, wpAny_pure (fin h₂ e₂ (Heap.SameBut.refl _ _))⟩)
    | false =>
      rw [if_pos (show (Value.bool false != Value.bool true) = true from rfl)]
      refine wpAny_bind (wpAny_setField_rec e₂ (by simp) fun h₃ e₃ s₃ => ?_)
      replace s₃ : Heap.SameBut it h₂ h₃ := s₃
      replace e₃ : KdxIt h₃ it d (i + 1) es.size ep ok ov a true := e₃
      refine wpAny_pure ?_
      simp only [Bool.false_eq_true, if_false]
      exact wpAny_pure (wpAny_pure ⟨_, rfl, wpAny_pure (fin h₃ e₃ s₃)⟩)
  | none =>
    simp only [Option.isNone_none, if_true]
    refine wpAny_pure ?_
    simp only [if_true]
    refine wpAny_bind (wpAny_field e₂ rfl (x := ok) rfl ?_)
    refine wpAny_bind (wpAny_field e₂ rfl (x := ov) rfl ?_)
    refine wpAny_bind (wpAny_setField_rec e₂ (by simp) fun h₃ e₃ s₃ => ?_)
    replace s₃ : Heap.SameBut it h₂ h₃ := s₃
    replace e₃ : KdxIt h₃ it d (i + 1) es.size ep es[i].key ov a f := e₃
    refine wpAny_bind (wpAny_setField_rec e₃ (by simp) fun h₄ e₄ s₄ => ?_)
    replace s₄ : Heap.SameBut it h₃ h₄ := s₄
    replace e₄ : KdxIt h₄ it d (i + 1) es.size ep es[i].key es[i].val a f := e₄
    refine wpAny_bind (wpAny_setField_rec e₄ (by simp) fun h₅ e₅ s₅ => ?_)
    replace s₅ : Heap.SameBut it h₄ h₅ := s₅
    replace e₅ : KdxIt h₅ it d (i + 1) es.size ep es[i].key es[i].val hp.objs.size f := e₅
    refine wpAny_bind (wpAny_setField_rec e₅ (by simp) fun h₆ e₆ s₆ => ?_)
    replace s₆ : Heap.SameBut it h₅ h₆ := s₆
    replace e₆ : KdxIt h₆ it d (i + 1) es.size ep es[i].key es[i].val hp.objs.size false := e₆
    have all : ∀ b o, b ≠ it → h₂.get? b = some o → h₆.get? b = some o := fun b o hb e => s₆.extBut b o hb (s₅.extBut b o hb (s₄.extBut b o hb (s₃.extBut b o hb e)))
    exact wpAny_bind (wpAny_letGo (wpAny_pure (wpAny_pure ⟨_, rfl, wpAny_pure (hQ h₆ _ _ _ _ e₆ (all _ _ n t₂) fun b o hb e => all b o hb (k₂ b o hb e))⟩)))
end
/-- where such a walk stands -/
def ItSt (h : Heap) (it d : Addr) (i n ep : Nat) : Prop := (∃ ok ov, IsItemIter h it d i n ep ok ov) ∨ ∃ ok ov a f, KdxIt h it d i n ep ok ov a f
theorem ItSt.obj {h : Heap} {it d : Addr} {i n ep : Nat} (x : ItSt h it d i n ep) : ∃ o, h.get? it = some o ∧ ∀ v, o.data ≠ .cell v := by
  rcases x with ⟨ok, ov, e⟩ | ⟨ok, ov, a, f, e⟩
  · exact ⟨_, e, fun v z => nomatch z⟩
  · exact ⟨_, e, fun v z => nomatch z⟩
theorem ItSt.at {h h' : Heap} {it d : Addr} {i n ep : Nat} (x : ItSt h it d i n ep) (k : ∀ o, h.get? it = some o → h'.get? it = some o) : ItSt h' it d i n ep := by
  rcases x with ⟨ok, ov, e⟩ | ⟨ok, ov, a, f, e⟩
  · exact .inl ⟨ok, ov, k _ e⟩
  · exact .inr ⟨ok, ov, a, f, k _ e⟩
section
variable {P : Program} {w : World} {K : PySem.W.Frag} {d : Addr} {o : Obj} {es : Array DictEntry} {ep : Nat}
theorem turn_pairs {kvs : List (Key × V)} {x : Str} {c : Pos} (it : Addr) (hod : o.data = .dict es ep) :
    Turn P w K (.Name x c) (Iti d o kvs) [it] it (fun i h => ItSt h it d i kvs.length ep) where
  mem := by simp
  obj := fun i h st b hb => by
    have e : b = it := by simpa using hb
    subst e
    exact st.obj
  keep := fun i h h' st k => st.at fun o e => k it (by simp) o e
  item := by
    intro X hP hw hK hc i pins s σ H E I hf st hg
    subst hP hw hK
    obtain ⟨hd, hi⟩ := hg
    obtain ⟨hs, hgd, hx, es', ep', vs, hdt, hsz, kv, hm⟩ := I.frzK hd
    obtain ⟨rfl, rfl⟩ := dict_ep hod hdt
    obtain ⟨⟨k, v⟩, hkv⟩ : ∃ p, kvs[i]? = some p := ⟨kvs[i], List.getElem?_eq_getElem hi⟩
    obtain ⟨u, hu, ru⟩ := kv_get kv hkv
    have hl : kvs.length = vs.length := Paired.length kv
    have hlt : it < s.heap.objs.size := by
      obtain ⟨_, e, _⟩ := st.obj
      exact Heap.lt_size e
    have fin : ∀ key h', keyIs k key = true → ItSt h' it d (i + 1) vs.length ep' → h'.get? s.heap.objs.size = some { cls := .type "tuple", data := .seq #[key, u] } → (∀ b o, b ≠ it → s.heap.get? b = some o → h'.get? b = some o) →
        ∃ u, some (Value.ref s.heap.objs.size) = some u ∧ wpAny (model X.prog X.w) X.A (letOwnedTupleGo (.Name x c) (.ref it) u) (fun _ s2 => ∃ x H', Inv X pins σ H' s2 ∧ RelV x u ∧ (Iti d o kvs).yld i H x H' ∧ ItSt s2.heap it d (i + 1) kvs.length ep' ∧ ∀ b ∈ [it], H' b = none) E { s with heap := h' } := by
      intro key h' hkey ho hT hk
      refine ⟨_, rfl, wpAny_pure ?_⟩
      have new : ObjOk X.prog X.w (upd H s.heap.objs.size (.tup [kV k, v])) h' s.heap.objs.size (.tup [kV k, v]) :=
        ⟨by show 2 ≤ sizeLine; decide, [key, u], .cons (relV_key hkey) (.cons ru .nil), ⟨_, hT, rfl, _, rfl⟩⟩
      have I1 : Inv X pins σ (upd H s.heap.objs.size (.tup [kV k, v])) { s with heap := h' } :=
        I.turnedNew (t' := s.toks) (ch := [it]) (fun b ob hb e => hk b ob (by simpa using hb) e) hf (Nat.le_refl _) new
      refine ⟨.ref s.heap.objs.size, _, I1, rfl, ⟨_, k, v, hkv, rfl, I.hok.fresh (Nat.le_refl _), rfl⟩, ?_, fun b hb => ?_⟩
      · rw [hl]
        exact ho
      · have e : b = it := by simpa using hb
        rw [e, upd_ne (Nat.ne_of_lt hlt)]
        exact (hf it (by simp)).1
    rcases st with ⟨ok, ov, he⟩ | ⟨ok, ov, a, f, he⟩
    · rw [hl] at he
      exact wpAny_pyNext_items_item he hm hu fun key h' hkey ho hT hz hk => fin key h' hkey (.inr ⟨_, _, _, _, ho⟩) hT hk
    · rw [hl] at he
      obtain ⟨es2, hr, hs2, hev⟩ := hm.raw
      rw [← hs2] at he
      have lt2 : i < es2.size := by
        rw [hs2, ← hl]
        exact hi
      obtain ⟨h1, h2⟩ := hev i lt2 k u hu
      refine next_pair he hr lt2 fun h' ok' ov' a' f' ho hT hk => ?_
      rw [h2] at hT
      rw [hs2] at ho
      exact fin _ h' h1 (.inr ⟨_, _, _, _, ho⟩) hT hk
  done := by
    intro X hP hw hK hc i pins s σ H E I hf st hg
    subst hP hw hK
    obtain ⟨hd, hi⟩ := hg
    obtain ⟨f0, f1, f2, f3, f4, f5⟩ := hf it (by simp)
    obtain ⟨hs, hgd, hx, es', ep', vs, hdt, hsz, kv, hm⟩ := I.frzK hd
    obtain ⟨rfl, rfl⟩ := dict_ep hod hdt
    have hl : kvs.length = vs.length := Paired.length kv
    have fin : ∀ h', Heap.ExtBut it s.heap h' → (none : Option Value) = none ∧ Inv X pins σ H { s with heap := h' } := fun h' eb => ⟨rfl, I.turned (t' := s.toks) (fun b ob hb e => eb b ob hb e) f0 f1 f3 f4 f5⟩
    rcases st with ⟨ok, ov, he⟩ | ⟨ok, ov, a, f, he⟩
    · rw [hl] at he
      exact wpAny_pyNext_items_end (I.ok.hd hc) he hm (List.getElem?_eq_none (by omega)) fin
    · rw [hl] at he
      exact kdx_end_out (I.ok.hd hc) he hm (List.getElem?_eq_none (by omega)) fin
  self := fun A i s Q E st h => by
    rcases st with ⟨ok, ov, e⟩ | ⟨ok, ov, a, f, e⟩
    · exact PySem.W.kcp_self e h
    · have T : s.TypeIs (.ref it) "dict_itemiterator" := ⟨_, e, rfl⟩
      refine wpAny_pyIter_slot T PySem.F.slot_dict_itemiterator_iter (wpAny_call_entry PySem.F.slot_dict_itemiterator_iter T PySem.W.kcp_entry ?_ (PySem.F.args_dict_itemiterator_iter_1 _))
      show wpAny _ _ (ret (.ref it)) _ _ s
      exact wpAny_pure ⟨_, rfl, "dict_itemiterator", _, T, PySem.F.slot_dict_itemiterator_next.lookup, h⟩
end
section
variable {X : Cx} {e : Expr} {td : TE} {apos cpos : Pos}
theorem pi_pairs {x : Str} {c : Pos} (he : PE X e td) (hbase : attributeBase e "items" X.env (eval e X.env) = eval e X.env := by rfl) (hline : (apos.endLine == cpos.line) = true := by rfl) :
    PI X (.Name x c) (.Call (.Attribute e "items" apos) [] [] cpos) (iItems td) := by
  refine ⟨fun pins s σ H R I h => ?_⟩
  refine wpAny_Call_method (T := "dict") (id := "dict.items") hbase rfl hline F.plainAttrs_dict F.slot_dict_items F.type_dict_items (thn (he.run pins s σ H _ I h) fun u s1 ⟨y, H1, I1, rx, d, o, kvs, ex, hd, q⟩ => ?_)
  subst ex
  obtain rfl : u = Value.ref d := rx
  obtain ⟨hs, hgd, hx, es, ep, vs, hdt, hsz, kv, hm⟩ := I1.frzK hd
  have hl : kvs.length = vs.length := Paired.length kv
  refine ⟨hm.dictOf.typeIs, hm.dictOf.mapOf.noDict, ?_⟩
  have I2 : Inv X pins σ H1 { s1 with heap := s1.heap.push { cls := .type "dict_items", data := .fields #[.ref d] } } := I1.kept (t' := s1.toks) fun b ob q => Heap.get?_push_of_some _ q
  have fin : wpAny (model X.prog X.w) X.A (pyIter (.ref s1.heap.objs.size)) (PIE X pins σ (.Name x c) R) X.xe { s1 with heap := s1.heap.push { cls := .type "dict_items", data := .fields #[.ref d] } } := by
    refine wpAny_pyIter_items (d := d) (knd := mixKind X.prog X.w) ⟨_, Heap.get?_push_size _ rfl, rfl, rfl⟩ (hm.push _) (pi_one (tk := s1.toks) I2 _ (turn_pairs _ hdt) (.inl ⟨.none, .none, ?_⟩) q)
    rw [hl]
    exact Heap.get?_push_size _ rfl
  show wpAny _ _ (callWith cpos (.builtin "dict.items") [.ref d] [] []) _ X.xe s1
  exact method_meetsIn F.slot_dict_items F.entry_dict_items rfl (PySem.evalArgs_none ⟨rfl, hm.dictOf.typeIs, F.args_dict_items_1 _, _, meets_dict_items (mixKind X.prog X.w) d hs, ⟨vs, hm.dictOf⟩, fin⟩)
end
end G
/-! Least books, in plain Lean; what more of Book's methods promise. -/
namespace G
open PySem PySem.Spec PyProof.Rows L2
def spAsc1 : Sp := fun vs H Q _ => ∃ t x, vs = [.ref t] ∧ H t = some (.tup [x]) ∧ ∀ H', Same H H' → Q (.bl true) H'
def spPo1 (C : Addr) : Sp := fun vs H Q _ => ∃ b t kvs z q, vs = [.ref b, .ref t] ∧ Book1 C H b kvs ∧ H t = some (.tup [.str z]) ∧ tfD kvs z = some q ∧ ∀ H', Same H H' → Q (.bl true) H'
def spSub1 (C : Addr) : Sp := fun vs H Q _ => ∃ b t kvs z q, vs = [.ref b, .ref t] ∧ Book1 C H b kvs ∧ H t = some (.tup [.str z]) ∧ tfD kvs z = some q ∧ 1 < (cs z).length ∧ ∀ b' kvs' H', Book1 C H' b' kvs' → tfD kvs' = remF (tfD kvs) z → Same H H' → Q (.ref b') H'
def spPieces (C : Addr) : Sp := fun vs H Q _ => ∃ b kvs, vs = [.ref b] ∧ Book1 C H b kvs ∧ ∀ t ys, ys.Perm (keyStrs kvs) → sortedS ys = true → H t = some (.tup (ys.map V.str)) → Q (.ref t) H
def spEqB (C : Addr) : Sp := fun vs H Q _ => ∃ a b k1 k2, vs = [.ref a, .ref b] ∧ Book1 C H a k1 ∧ Book1 C H b k2 ∧ (∀ z q, tfD k1 z = some q → tfD k2 z = some q) ∧ ∀ r, (r = true ↔ tfD k1 = tfD k2) → Q (.bl r) H
theorem nd_full {α : Type} [DecidableEq α] : ∀ {l m : List α}, l.Nodup → (∀ x ∈ l, x ∈ m) → m.length ≤ l.length → ∀ x ∈ m, x ∈ l
  | l, m, nd, inc, len, x, hx => by
    by_cases h : x ∈ l
    · exact h
    · exfalso
      have nd' : (x :: l).Nodup := List.nodup_cons.mpr ⟨h, nd⟩
      have h2 := nd_sub_len (l2 := m) nd' fun y hy => by
        rcases List.mem_cons.mp hy with rfl | hy
        · exact hx
        · exact inc y hy
      rw [List.length_cons] at h2
      omega
/-! ### the least tariff -/
open Classical in
noncomputable def leastF (F : Tf) : Tf := fun z => if Needless F z then none else F z
section
variable {F F' : Tf}
theorem least_sub {z : Str} {q : Int} (h : leastF F z = some q) : F z = some q := by
  unfold leastF at h
  split at h
  · cases h
  · exact h
theorem least_not {z : Str} {q : Int} (h : leastF F z = some q) : ¬ Needless F z := fun n => by
  unfold leastF at h
  rw [if_pos n] at h
  cases h
theorem least_in {z : Str} {q : Int} (h : F z = some q) (n : ¬ Needless F z) : leastF F z = some q := by
  unfold leastF
  rw [if_neg n]
  exact h
theorem least_ext (h : ∀ z q, F' z = some q ↔ F z = some q ∧ ¬ Needless F z) : F' = leastF F := by
  funext z
  cases e : F' z with
  | some q =>
    obtain ⟨h1, h2⟩ := (h z q).mp e
    exact (least_in h1 h2).symm
  | none =>
    cases e2 : leastF F z with
    | none => rfl
    | some q =>
      have := (h z q).mpr ⟨least_sub e2, least_not e2⟩
      rw [e] at this
      cases this
/-- part of a tariff, with all its signs -/
structure Sub1 (F F' : Tf) : Prop where
  sub : ∀ z q, F' z = some q → F z = some q
  one : ∀ c q, F (ch c) = some q → F' (ch c) = some q
theorem Sub1.good (G : Good F) (S : Sub1 F F') : Good F' := ⟨fun z p h => G.pos z p (S.sub z p h), fun z p h => G.len z p (S.sub z p h), fun z p h c hc => by
  obtain ⟨q, hq⟩ := G.cov z p (S.sub z p h) c hc
  exact ⟨q, S.one c q hq⟩⟩
theorem Sub1.over (S : Sub1 F F') {l : List Nat} : Over F' l ↔ Over F l := ⟨fun o c hc => by obtain ⟨q, hq⟩ := o c hc; exact ⟨q, S.sub _ _ hq⟩, fun o c hc => by obtain ⟨q, hq⟩ := o c hc; exact ⟨q, S.one c q hq⟩⟩
theorem Sub1.le (G : Good F) (S : Sub1 F F') {l : List Nat} (o : Over F l) : lp F l ≤ lp F' l :=
  lp_mono G (S.good G) (fun z p h => ⟨G.cov z p (S.sub z p h), lp_piece G (S.sub z p h)⟩) o (S.over.mpr o)
theorem sub_least : Sub1 F (leastF F) := ⟨fun z q h => least_sub h, fun c q h => least_in h need_sign⟩
theorem sub_rem {z : Str} (hz : 1 < (cs z).length) : Sub1 F (remF F z) := ⟨fun y q h => by
  unfold remF at h
  split at h
  · cases h
  · exact h, fun c q h => by
  unfold remF
  rw [if_neg fun e => ?_]
  · exact h
  · rw [← e] at hz
    exact absurd (show 1 < 1 from hz) (by decide)⟩
/-- a cut's pieces that do not reach the whole are shorter -/
theorem cut_short (G : Good F) {l : List Nat} {c : Ps} (h : Cut F l c) {y : Str × Int} (hy : y ∈ c) (ne : cs y.1 ≠ l) : (cs y.1).length < l.length := by
  obtain ⟨a, b, rfl⟩ := List.append_of_mem hy
  have e := h.2
  rw [List.map_append, List.map_cons, List.flatten_append, List.flatten_cons] at e
  have hl := congrArg List.length e
  rw [List.length_append, List.length_append] at hl
  rcases Nat.lt_or_ge (cs y.1).length l.length with h1 | h1
  · exact h1
  · exfalso
    have e1 : (a.map fun p => cs p.1).flatten = [] := List.length_eq_zero_iff.mp (by omega)
    have e2 : (b.map fun p => cs p.1).flatten = [] := List.length_eq_zero_iff.mp (by omega)
    rw [e1, e2, List.nil_append, List.append_nil] at e
    exact ne e
theorem fee_mono {F1 : Tf} {g : Str → Int} : ∀ {c : Ps}, (∀ p ∈ c, g p.1 ≤ p.2) → (c.map fun p => g p.1).sum ≤ fee c
  | [], _ => Int.le_refl _
  | q :: r, h => by
    have h1 := h q List.mem_cons_self
    have h2 := fee_mono (F1 := F1) (c := r) fun p hp => h p (List.mem_cons_of_mem _ hp)
    rw [fee_cons, List.map_cons, List.sum_cons]
    omega
theorem lp_flat (G : Good F) : ∀ {c : Ps}, (∀ p ∈ c, Over F (cs p.1)) → lp F (c.map fun p => cs p.1).flatten ≤ (c.map fun p => lp F (cs p.1)).sum
  | [], _ => by
    rw [List.map_nil, List.flatten_nil, lp_nil G]
    exact Int.le_refl _
  | q :: r, h => by
    have h1 := h q List.mem_cons_self
    have hr := fun p hp => h p (List.mem_cons_of_mem q hp)
    have h2 := lp_flat G (c := r) hr
    rw [List.map_cons, List.flatten_cons, List.map_cons, List.sum_cons]
    have o2 : Over F (r.map fun p => cs p.1).flatten := fun d hd => by
      obtain ⟨l, hl, hd'⟩ := List.mem_flatten.mp hd
      obtain ⟨p, hp, rfl⟩ := List.mem_map.mp hl
      exact hr p hp d hd'
    have h3 := lp_add G h1 o2
    omega
/-- without all needless pieces every piece can be had as cheaply -/
theorem least_piece (G : Good F) : ∀ (n : Nat) (z : Str) (p : Int), (cs z).length ≤ n → F z = some p → lp (leastF F) (cs z) ≤ p
  | 0, z, p, hn, hz => by
    have := (G.len z p hz).1
    omega
  | n + 1, z, p, hn, hz => by
    have Gl := sub_least.good (F := F) G
    by_cases nd : Needless F z
    · obtain ⟨q, hq, h1, h2⟩ := nd
      rw [hz] at hq
      have eq : p = q := Option.some.inj hq
      subst eq
      have Gr := rem_good G h1
      obtain ⟨c, hc, e⟩ := lp_cut Gr (rem_over h1 (G.cov z p hz))
      have each : ∀ y ∈ c, y.1 ≠ z ∧ F y.1 = some y.2 := fun y hy => by
        have := hc.1 y hy
        unfold remF at this
        split at this
        · cases this
        · rename_i ne
          exact ⟨ne, this⟩
      have h3 : ∀ y ∈ c, lp (leastF F) (cs y.1) ≤ y.2 := fun y hy => by
        obtain ⟨ne, hF⟩ := each y hy
        have hs := cut_short Gr hc hy fun e => ne (str_ext e)
        exact least_piece G n y.1 y.2 (by omega) hF
      have h4 := lp_flat Gl (c := c) fun y hy => sub_least.over.mpr (G.cov _ _ (each y hy).2)
      rw [hc.2] at h4
      have h5 := fee_mono (F1 := F) (g := fun y => lp (leastF F) (cs y)) h3
      omega
    · exact lp_piece Gl (least_in hz nd)
theorem least_same (G : Good F) {l : List Nat} (o : Over F l) : lp (leastF F) l = lp F l := by
  have h1 := sub_least.le (F := F) G o
  have h2 := lp_mono (sub_least.good (F := F) G) G (fun z p h => ⟨sub_least.over.mpr (G.cov z p h), least_piece G _ z p (Nat.le_refl _) h⟩) (sub_least.over.mpr o) o
  omega
/-- a part between both is as cheap -/
theorem between (G : Good F) (S : Sub1 F F') (h : ∀ z q, leastF F z = some q → F' z = some q) {l : List Nat} (o : Over F l) : lp F' l = lp F l := by
  have h1 := S.le G o
  have S2 : Sub1 F' (leastF F) := ⟨h, fun c q hq => least_in (S.sub _ _ hq) need_sign⟩
  have h2 := S2.le (S.good G) (S.over.mpr o)
  rw [least_same G o] at h2
  omega
/-- a longer piece of the least book is dearer without it -/
theorem least_tight (G : Good F) {z : Str} {p : Int} (h : leastF F z = some p) (hz : 1 < (cs z).length) (S : Sub1 F F') (no : F' z = none) : p < lp F' (cs z) := by
  have n := least_not h
  have hF := least_sub h
  have h1 : p < lp (remF F z) (cs z) := by
    rcases Int.lt_or_le p (lp (remF F z) (cs z)) with q | q
    · exact q
    · exact absurd ⟨p, hF, hz, q⟩ n
  have S2 : Sub1 (remF F z) F' := ⟨fun y q hq => by
    unfold remF
    rw [if_neg fun e => by
      rw [e, no] at hq
      cases hq]
    exact S.sub y q hq, fun c q hq => S.one c q ((sub_rem hz).sub _ _ hq)⟩
  have h2 := S2.le (rem_good G hz) (rem_over hz (G.cov z p hF))
  omega
/-- what is as cheap has all pieces of the least book, and the other way about -/
theorem choice_iff (G : Good F) (S : Sub1 F F') : NoDear F' F ↔ ∀ z q, leastF F z = some q → F' z = some q := by
  constructor
  · intro h z q hz
    by_cases l1 : 1 < (cs z).length
    · cases e : F' z with
      | some q' =>
        have h1 := S.sub z q' e
        rw [least_sub hz] at h1
        exact h1.symm
      | none =>
        have h1 := least_tight G hz l1 S e
        have h2 := h z q (least_sub hz)
        omega
    · have n1 := (G.len z q (least_sub hz)).1
      obtain ⟨c, rfl⟩ := _root_.G.one_sign (z := z) (by omega)
      exact S.one c q (least_sub hz)
  · intro h z p hz
    rw [between G S h (G.cov z p hz)]
    exact lp_piece G hz
theorem sub_nodear (G : Good F) (S : Sub1 F F') : NoDear F F' := fun z p h => lp_piece G (S.sub z p h)
theorem least_between (G : Good F) (S : Sub1 F F') (h : ∀ z q, leastF F z = some q → F' z = some q) : leastF F' = leastF F := by
  have key : ∀ z q, leastF F' z = some q ↔ leastF F z = some q := fun z q => by
    constructor
    · intro hz
      have h1 := least_sub hz
      have h2 := S.sub z q h1
      refine least_in h2 fun n => least_not hz ?_
      obtain ⟨p, hp, l1, le⟩ := id n
      rw [h2] at hp
      have ep : q = p := Option.some.inj hp
      subst ep
      have S2 : Sub1 (remF F' z) (leastF F) := ⟨fun y r hy => by
        unfold remF
        rw [if_neg fun e => by
          rw [e] at hy
          exact least_not hy n]
        exact h y r hy, fun c r hr => least_in (S.sub _ _ ((sub_rem l1).sub _ _ hr)) need_sign⟩
      have G' := S.good G
      have o := G.cov z q h2
      have h3 := S2.le (rem_good G' l1) (rem_over l1 (S.over.mpr o))
      rw [least_same G o] at h3
      have h4 := lp_piece G h2
      exact ⟨q, h1, l1, by omega⟩
    · intro hz
      have h1 := h z q hz
      refine least_in h1 fun n => ?_
      obtain ⟨p, hp, l1, le⟩ := n
      rw [h1] at hp
      have ep : q = p := Option.some.inj hp
      subst ep
      have S2 : Sub1 F (remF F' z) := ⟨fun y r hy => S.sub y r ((sub_rem l1).sub y r hy), fun c r hr => (sub_rem l1).one c r (S.one c r hr)⟩
      have h2 := least_tight G hz l1 S2 (if_pos rfl)
      omega
  funext z
  cases e : leastF F' z with
  | some q => exact ((key z q).mp e).symm
  | none =>
    cases e2 : leastF F z with
    | none => rfl
    | some q =>
      have := (key z q).mpr e2
      rw [e] at this
      cases this
end
def sizeL (n : Nat) : Nat := if n = 1 then 8 else if n = 2 then 6 else if n = 3 then 4 else 3
theorem sizeL_at {n : Nat} (h1 : 1 ≤ n) (h4 : n ≤ 4) : atI [V.int 8, .int 6, .int 4, .int 3] ((n : Int) - 1) = some (.int ((sizeL n : Nat) : Int)) := by
  have : n = 1 ∨ n = 2 ∨ n = 3 ∨ n = 4 := by omega
  rcases this with rfl | rfl | rfl | rfl <;> rfl
theorem sizeL_le (n : Nat) : sizeL n ≤ 8 := by
  unfold sizeL
  repeat' split
  all_goals omega
/-- _law_same -/
def spSame (K : PySem.W.Frag) : Sp := fun vs H Q _ => ∃ (d1 d2 sa ta : Addr) (k1 k2 : List (Key × V)) (sg : List Nat) (ts : List Str), vs = [.ref d1, .ref d2, .ref sa, .ref ta] ∧ H d1 = some (.dK k1) ∧ H d2 = some (.dK k2) ∧ Tar k1 ∧ Tar k2 ∧ SqL K H sa (sg.map chV) ∧ 1 ≤ sg.length ∧ sg.length ≤ 4 ∧
  (∀ c ∈ sg, (∃ p, tfD k1 (ch c) = some p) ∧ ∃ p, tfD k2 (ch c) = some p) ∧ SqL K H ta (ts.map V.str) ∧ ts.length ≤ 1000 ∧ (∀ t ∈ ts, (cs t).length ≤ 100 ∧ ∀ c ∈ cs t, c ∈ sg) ∧ (∀ l, Over (tfD k1) l → lp (tfD k1) l = lp (tfD k2) l) ∧ ∀ H', Same H H' → Q (.bl true) H'
/-- _law_tight -/
def spTight (C : Addr) : Sp := fun vs H Q _ => ∃ b kvs, vs = [.ref b] ∧ Book1 C H b kvs ∧ (∀ z q, tfD kvs z = some q → 1 < (cs z).length → q < lp (remF (tfD kvs) z) (cs z)) ∧ ∀ H', Same H H' → Q (.bl true) H'
theorem shaped_ints (is : List Int) : SeqAt.shaped (.list (is.map PyData.int)) = true := by
  have h1 : PyData.canLayAll0 (is.map PyData.int) = true := by
    induction is with
    | nil => rfl
    | cons i r ih =>
      show (PyData.canLay0 (.int i) && _) = true
      rw [ih]
      rfl
  have h2 : PyData.depthAll (is.map PyData.int) ≤ 1 := by
    induction is with
    | nil => simp [PyData.depthAll]
    | cons i r ih =>
      have ih' := ih (by
        have h3 : (PyData.canLay0 (.int i) && PyData.canLayAll0 (r.map PyData.int)) = true := h1
        rw [Bool.and_eq_true] at h3
        exact h3.2)
      simp only [List.map_cons, PyData.depthAll, PyData.depth]
      omega
  unfold SeqAt.shaped
  rw [Bool.and_eq_true, decide_eq_true_eq]
  refine ⟨h1, ?_⟩
  simp only [PyData.depth]
  omega
theorem dp_intsL {K : PySem.W.Frag} {H : Hp} : ∀ is : List Int, DpAll K H (is.map V.int) (is.map PyData.int)
  | [] => .nil
  | i :: r => .cons (.int i) (dp_intsL r)
theorem eqD_same {K : PySem.W.Frag} {H : Hp} {x y : V} {d : PyData} {Q : VK} (hx : Dp K H x d) (hy : Dp K H y d) (s : SeqAt.shaped d = true) (q : Q (.bl true) H) : rEqD K x y H Q := by
  refine ⟨d, d, hx, hy, s, s, ?_⟩
  rw [SeqAt.eqv_refl _ (SeqAt.canLay_of_shaped s)]
  exact q
theorem shaped_str {z : Str} (h : ∀ c ∈ cs z, lett c = true) : SeqAt.shaped (.str z) = true := by
  have hs := shaped_lstrs (zs := [z]) fun y hy => by
    rw [List.mem_singleton.mp hy]
    exact h
  have hc := SeqAt.canLay_of_shaped hs
  have h3 : (PyData.canLay0 (.str z) && true) = true := hc
  rw [Bool.and_true] at h3
  unfold SeqAt.shaped
  rw [h3]
  simp [PyData.depth]
theorem put_rem {F : Tf} {z : Str} {q : Int} (h : F z = some q) : putF (remF F z) z q = F := by
  funext y
  by_cases e : y = z
  · rw [e, put_at_w, h]
  · rw [put_ne e]
    exact if_neg e
theorem whole_book {kvs : List (Key × V)} {ys : List Str} (av : arePrices kvs = true) (nd : (kvs.map (·.1)).Nodup) (pm : ys.Perm (keyStrs kvs)) : arePrices (kvOf (psOf kvs ys)) = true ∧ ((kvOf (psOf kvs ys)).map (·.1)).Nodup ∧ tfD (kvOf (psOf kvs ys)) = tfD kvs := by
  have e0 : partK kvs ys (fun _ => true) = kvOf (psOf kvs ys) := by
    unfold partK
    rw [List.filter_eq_self.mpr fun _ _ => rfl, kvOf_ps]
  obtain ⟨h1, h2⟩ := part_book (q := fun _ => true) av nd pm fun _ _ => rfl
  rw [e0] at h1 h2
  exact ⟨h1, h2, tf_psOf (ap_parts av).2.1 pm⟩
theorem no_need {F : Tf} (G : Good F) {z : Str} : ¬ Needless (leastF F) z := fun n => by
  obtain ⟨p, hp, hz, le⟩ := n
  have := least_tight G hp hz (F' := remF (leastF F) z) ⟨fun y q h => least_sub ((sub_rem hz).sub y q h), fun c q h => (sub_rem hz).one c q (sub_least.one c q h)⟩ (if_pos rfl)
  omega
theorem least_twice {F : Tf} (G : Good F) : leastF (leastF F) = leastF F := least_between G sub_least fun z q h => h
theorem least_cheap {F : Tf} (G : Good F) : NoDear F (leastF F) ∧ NoDear (leastF F) F := ⟨sub_nodear G sub_least, (choice_iff G sub_least).mpr fun z q h => h⟩
theorem least_all {F : Tf} : leastF F = F ↔ ∀ z, ¬ Needless F z := by
  constructor
  · intro h z n
    obtain ⟨q, hq, _⟩ := id n
    rw [← h] at hq
    exact least_not hq n
  · intro h
    funext z
    exact if_neg (h z)
/-- a tuple of texts == () -/
theorem eq_nilT {K : PySem.W.Frag} {H : Hp} {a p : Addr} {zs : List Str} {Q : VK} (h : SqT K H a (zs.map V.str)) (hp : H p = some (.tup [])) (hl : ∀ z ∈ zs, ∀ c ∈ cs z, lett c = true) (q : Q (.bl zs.isEmpty) H) : rEqD K (.ref a) (.ref p) H Q := by
  refine ⟨.tuple (zs.map PyData.str), .tuple [], .tup h (dpAll_strs zs), .tup (SqT.of hp) .nil, shaped_strs hl, by decide +kernel, ?_⟩
  have e : PyData.eqv (.tuple (zs.map PyData.str)) (.tuple []) = zs.isEmpty := by
    cases zs with
    | nil => rfl
    | cons z r => rfl
  rw [e]
  exact q
theorem shw_unit : Shw (.tuple []) 1 10 := ⟨by simp [PyData.showable, PyData.showableAll], by simp [PyData.hasDict, PyData.hasDictAll], by simp [PyData.depth, PyData.depthAll], by simp only [PyData.shown]; decide +kernel⟩
def dTold (b : Bool) : PyData := .list [.tuple [], .bool true, .bool true, .bool b]
theorem repr_told {K : PySem.W.Frag} {H : Hp} {a t : Addr} {b : Bool} {Q : VK} (h : H a = some (.lst [.ref t, .bl true, .bl true, .bl b])) (ht : H t = some (.tup [])) (q : Q (.str (dTold b).shown) H) : rRepr K [.ref a] H Q := by
  have S : Shw (dTold b) 2 _ := shw_list (k := 1) (n := 1000) fun e he => by
    simp only [List.mem_cons, List.not_mem_nil, or_false] at he
    rcases he with rfl | rfl | rfl | rfl
    · exact shw_unit.le (Nat.le_refl _) (by omega)
    · exact (shw_bool true).le (by omega) (by omega)
    · exact (shw_bool true).le (by omega) (by omega)
    · exact (shw_bool b).le (by omega) (by omega)
  exact ⟨_, _, rfl, .lst (SqL.of h) (.cons (.tup (SqT.of ht) .nil) (.cons (.bl true) (.cons (.bl true) (.cons (.bl b) .nil)))), S.s, S.h, Nat.le_trans S.dp (by omega), Nat.le_trans S.len (fits_sz (by show _ ≤ 100000; simp)), q⟩
/-! ### pairs in a list -/
theorem shaped_ent {z : Str} {q : Int} (h : ∀ c ∈ cs z, lett c = true) : SeqAt.shaped (.tuple [.str z, .int q]) = true := by
  have hs := shaped_lstrs (zs := [z]) fun y hy => by
    rw [List.mem_singleton.mp hy]
    exact h
  have hc := SeqAt.canLay_of_shaped hs
  have h2 : PyData.canLay0 (.str z) = true := by
    have h3 : (PyData.canLay0 (.str z) && true) = true := hc
    rwa [Bool.and_true] at h3
  unfold SeqAt.shaped
  rw [Bool.and_eq_true, decide_eq_true_eq]
  constructor
  · show (PyData.canLay0 (.str z) && (true && true)) = true
    rw [h2]
    rfl
  · simp only [PyData.depth, PyData.depthAll]
    omega
theorem dp_paired {K : PySem.W.Frag} {H : Hp} : ∀ {ts : List Addr} {ks : List (Str × Int)}, Paired (fun (t : Addr) (q : Key × V) => H t = some (.tup [kV q.1, q.2])) ts (ks.map entS) → DpAll K H (ts.map V.ref) (ks.map fun e => PyData.tuple [.str e.1, .int e.2])
  | [], [], _ => .nil
  | [], _ :: _, h => by cases h
  | _ :: _, [], h => by cases h
  | t :: r, e :: l, h => by
    rcases h with _ | ⟨h1, h2⟩
    exact .cons (.tup (SqT.of h1) (.cons (.str _) (.cons (.int _) .nil))) (dp_paired h2)
theorem dp_pairedS {K : PySem.W.Frag} {H H' : Hp} (s : Same H H') : ∀ {ts : List Addr} {ks : List (Str × Int)}, Paired (fun (t : Addr) (q : Key × V) => H t = some (.tup [kV q.1, q.2])) ts (ks.map entS) → DpAll K H' (ts.map V.ref) (ks.map fun e => PyData.tuple [.str e.1, .int e.2])
  | [], [], _ => .nil
  | [], _ :: _, h => by cases h
  | _ :: _, [], h => by cases h
  | t :: r, e :: l, h => by
    rcases h with _ | ⟨h1, h2⟩
    exact .cons (.tup (SqT.of (s _ _ h1)) (.cons (.str _) (.cons (.int _) .nil))) (dp_pairedS s h2)
theorem any_ent {ks : List (Str × Int)} {e : Str × Int} (h : e ∈ ks) (s : SeqAt.shaped (.tuple [.str e.1, .int e.2]) = true) : (ks.map fun e => PyData.tuple [.str e.1, .int e.2]).any (fun z => PyData.eqv z (.tuple [.str e.1, .int e.2])) = true := by
  rw [List.any_eq_true]
  exact ⟨_, List.mem_map.mpr ⟨e, h, rfl⟩, SeqAt.eqv_refl _ (SeqAt.canLay_of_shaped s)⟩
/-! ### a choice of the pieces -/
def pickK (kvs : List (Key × V)) (S : List Str) : List (Key × V) := S.map fun y => (Sum.inr y, V.int ((tfD kvs y).getD 0))
theorem valV_pick {kvs : List (Key × V)} {z : Str} : ∀ {S : List Str} {ks : List (Key × V)}, valV (mergeK ks (pickK kvs S)) (Sum.inr z) = if z ∈ S then some (V.int ((tfD kvs z).getD 0)) else valV ks (Sum.inr z)
  | [], ks => by
    rw [if_neg (List.not_mem_nil)]
    rfl
  | y :: r, ks => by
    show valV (mergeK (putK ks (Sum.inr y) (V.int ((tfD kvs y).getD 0))) (pickK kvs r)) (Sum.inr z) = _
    rw [valV_pick, valV_put]
    by_cases h1 : z ∈ r
    · rw [if_pos h1, if_pos (List.mem_cons_of_mem _ h1)]
    · rw [if_neg h1]
      by_cases h2 : z = y
      · rw [if_pos (by rw [h2]), if_pos (by rw [h2]; exact List.mem_cons_self), h2]
      · rw [if_neg fun e => h2 (Sum.inr.inj e), if_neg fun e => (List.mem_cons.mp e).elim h2 h1]
theorem tf_pick {kvs : List (Key × V)} {S : List Str} (h : ∀ y ∈ S, ∃ q, tfD kvs y = some q) (z : Str) : tfD (mergeK [] (pickK kvs S)) z = if z ∈ S then tfD kvs z else none := by
  have e := valV_pick (kvs := kvs) (z := z) (S := S) (ks := [])
  by_cases hz : z ∈ S
  · rw [if_pos hz] at e ⊢
    obtain ⟨q, hq⟩ := h z hz
    rw [hq] at e
    rw [tf_some.mpr e, hq]
    rfl
  · rw [if_neg hz] at e ⊢
    unfold tfD
    rw [e]
    rfl
/-- what a choice of the pieces gives -/
theorem pick_book {kvs : List (Key × V)} {S : List Str} {sg : List Nat} (av : arePrices kvs = true) (nd : (kvs.map (·.1)).Nodup) (sgns : ∀ c, (∃ q, tfD kvs (ch c) = some q) ↔ c ∈ sg) (h : ∀ y ∈ S, ∃ q, tfD kvs y = some q) (hs : ∀ c ∈ sg, ch c ∈ S) :
    arePrices (mergeK [] (pickK kvs S)) = true ∧ ((mergeK [] (pickK kvs S)).map (·.1)).Nodup ∧ Sub1 (tfD kvs) (tfD (mergeK [] (pickK kvs S))) ∧ ∀ z q, tfD (mergeK [] (pickK kvs S)) z = some q ↔ z ∈ S ∧ tfD kvs z = some q := by
  have good := good_of av
  have al := (ap_parts av).2.1
  have T := tf_pick h
  have key : ∀ z q, tfD (mergeK [] (pickK kvs S)) z = some q ↔ z ∈ S ∧ tfD kvs z = some q := fun z q => by
    rw [T]
    by_cases hz : z ∈ S
    · rw [if_pos hz]
      exact ⟨fun e => ⟨hz, e⟩, fun e => e.2⟩
    · rw [if_neg hz]
      exact ⟨fun e => (nomatch e), fun e => absurd e.1 hz⟩
  obtain ⟨P, _⟩ := PrOk.merge (sg := sg) (more := pickK kvs S) PrOk.nil fun kv hkv => by
    obtain ⟨y, hy, rfl⟩ := List.mem_map.mp hkv
    obtain ⟨q, hq⟩ := h y hy
    refine ⟨y, q, by rw [hq]; rfl, good.len y q hq, fun c hc => (sgns c).mp (good.cov y q hq c hc), ?_⟩
    have hk := (tf_key al).mpr ⟨q, hq⟩
    obtain ⟨h1, h2, h3⟩ := price_of_key al hk
    rw [tf_some] at hq
    rw [h1] at hq
    cases hq
    exact ⟨h2, h3⟩
  have nd' := P.nd
  refine ⟨(ap_sub av nd nd' (fun kv hkv => ?_) (fun c hc => ?_) ?_).1, nd', ⟨fun z q e => ((key z q).mp e).2, fun c q e => (key _ q).mpr ⟨hs c ((sgns c).mp ⟨q, e⟩), e⟩⟩, key⟩
  · obtain ⟨z, q, rfl, _⟩ := P.mem kv hkv
    have h1 := tf_some.mpr (val_nodup nd' _ hkv)
    exact valV_mem (tf_some.mp ((key z q).mp h1).2)
  · obtain ⟨q, hq⟩ := hc
    exact ⟨q, (key _ q).mpr ⟨hs c ((sgns c).mp ⟨q, hq⟩), hq⟩⟩
  · refine Nat.le_trans (?_ : (mergeK [] (pickK kvs S)).length ≤ kvs.length) (ap_parts av).1.2
    have h1 := nd_le (l2 := kvs.map (·.1)) nd' fun k hk => by
      obtain ⟨kv, hkv, rfl⟩ := List.mem_map.mp hk
      obtain ⟨z, q, rfl, _⟩ := P.mem kv hkv
      have h1 := tf_some.mpr (val_nodup nd' _ hkv)
      exact valV_in (tf_some.mp ((key z q).mp h1).2)
    rwa [List.length_map, List.length_map] at h1
theorem fm_out {S : List Str} : ∀ zs : List Str, (zs.filterMap fun z => if decide (z ∈ S) = true then none else some (V.str z)) = (zs.filter fun z => !decide (z ∈ S)).map V.str
  | [] => rfl
  | z :: r => by
    have ih := fm_out (S := S) r
    by_cases h : z ∈ S
    · rw [List.filterMap_cons, List.filter_cons, if_pos (decide_eq_true h), decide_eq_true h, ih]
      rfl
    · rw [List.filterMap_cons, List.filter_cons, if_neg (by rw [decide_eq_false h]; exact Bool.false_ne_true), decide_eq_false h, ih]
      rfl
theorem out_none {S zs : List Str} : (zs.filter fun z => !decide (z ∈ S)).isEmpty = true ↔ ∀ z ∈ zs, z ∈ S := by
  rw [List.isEmpty_iff, List.filter_eq_nil_iff]
  refine forall_congr' fun z => forall_congr' fun _ => ?_
  by_cases h : z ∈ S
  · simp [h]
  · simp [h]
/-- _law_choices_right -/
def spChoices (K : PySem.W.Frag) (C : Addr) : Sp := fun vs H Q _ => ∃ (l b pd sa la : Addr) (kvs : List (Key × V)) (sg : List Nat) (zs : List Str) (n : Nat), vs = [.ref l, .ref b, .ref pd, .ref sa, .ref la] ∧ pd ≠ l ∧ sa ≠ l ∧ la ≠ l ∧ Book1 C H b kvs ∧ H pd = some (.dK kvs) ∧ H sa = some (.lst (sg.map chV)) ∧
  (∀ c, (∃ q, tfD kvs (ch c) = some q) ↔ c ∈ sg) ∧ sg.length ≤ 4 ∧ H la = some (.lst (zs.map V.str)) ∧ (∀ z, z ∈ zs ↔ ∃ q, leastF (tfD kvs) z = some q) ∧ zs.length ≤ 12 ∧ Dice H l (n + 200) ∧ ∀ H', Kp l H H' → Dice H' l n → Q (.bl true) H'
end G
namespace K09
open PySem PySem.Spec PyProof.Rows L2 G
open L2 (St)

def top (i : Nat) : Stmt := PySem.Challenge.pw_cutbehind_k09_whole_least_books.main.body.getD i (.Pass ⟨0, 0, 0, 0⟩)
abbrev s_is_integer : Stmt := top 3
abbrev s_is_word : Stmt := top 5
abbrev s_is_piece : Stmt := top 6
abbrev s_is_integer_within : Stmt := top 4
abbrev s_is_price : Stmt := top 17
abbrev s_are_prices : Stmt := top 18
abbrev s_Book___init__ : Stmt := inClass (top 24) 0
abbrev s_Book_prices : Stmt := inClass (top 24) 2
abbrev s_least_price : Stmt := top 26
abbrev s_require_book : Stmt := top 21
abbrev s_require_comparable : Stmt := top 27
abbrev s_dearer_in : Stmt := top 28
abbrev s_is_nowhere_dearer : Stmt := top 30
abbrev s_dearer_piece : Stmt := top 31
abbrev s_are_as_cheap : Stmt := top 32
abbrev s_needless_in : Stmt := top 29
abbrev s_needless : Stmt := top 33
abbrev s_least_book : Stmt := top 34
abbrev s_result_of : Stmt := top 23
abbrev s_is_ascending : Stmt := top 7
abbrev s_are_pieces_of : Stmt := top 20
abbrev s_Book_pieces : Stmt := inClass (top 24) 3
abbrev s_Book___sub__ : Stmt := inClass (top 24) 16
abbrev s_Book___eq__ : Stmt := inClass (top 24) 17
abbrev s__law_dice : Stmt := top 36
abbrev s__law_roll : Stmt := top 37
abbrev s__law_pick : Stmt := top 38
abbrev s__law_letters : Stmt := top 40
abbrev s__law_some : Stmt := top 39
abbrev s__law_prices : Stmt := top 41
abbrev s__law_all : Stmt := top 42
abbrev s__law_least : Stmt := top 43
abbrev s__law_same : Stmt := top 44
abbrev s__law_tight : Stmt := top 45
abbrev s__law_choices_right : Stmt := top 46
abbrev s__law_right : Stmt := top 47
abbrev s_law : Stmt := top 48
structure Txt (K : PySem.W.Frag) (mg : Str → Option Value) (C : Addr) : Prop where
  cl : Cls K C
  ic : C8.InsC K C
  n_own_prices : NoAttr K C "own_prices"
  n_own_pieces : NoAttr K C "own_pieces"
  n_own_alphabet : NoAttr K C "own_alphabet"
  n_own_longest : NoAttr K C "own_longest"
  n_own_dearest : NoAttr K C "own_dearest"
  gC : mg "Book" = some (.ref C)
  mo : PySem.W.mroIn K C (.type "object") = some true
  ne : PySem.W.findIn K (.ref C) "__ne__" = some (some (.builtin "object.__ne__"))
  sf : PySem.W.selfFirst K C = true
  rs : PySem.W.findIn K (.ref C) "__rsub__" = some none
  ts : PySem.W.findIn K (.type "tuple") "__sub__" = some none
  tr : PySem.W.findIn K (.type "tuple") "__rsub__" = some none
  ap : PySem.W.subIn K (.type "tuple") (.ref C) = some false
  b_abs : mg "abs" = none
  b_all : mg "all" = none
  b_bool : mg "bool" = none
  b_dict : mg "dict" = none
  b_int : mg "int" = none
  b_isinstance : mg "isinstance" = none
  b_len : mg "len" = none
  b_list : mg "list" = none
  b_max : mg "max" = none
  b_min : mg "min" = none
  b_range : mg "range" = none
  b_repr : mg "repr" = none
  b_sorted : mg "sorted" = none
  b_str : mg "str" = none
  b_tuple : mg "tuple" = none
  g_MAX_ALPHABET : ∃ t, mg "MAX_ALPHABET" = some (.int 4 t)
  g_MAX_PIECES : ∃ t, mg "MAX_PIECES" = some (.int 12 t)
  g_MAX_PRICE : ∃ t, mg "MAX_PRICE" = some (.int 99 t)
  g_PIECE_SIGNS : ∃ t, mg "PIECE_SIGNS" = some (.int 5 t)

section
variable {P : Program} {w : World} {K : PySem.W.Frag} {mg : Str → Option Value} {base : Heap} {C : Addr}
theorem sc_is_integer : FnScope ["value"] ["value"] (defScope s_is_integer) := ⟨rfl, rfl, rfl, by decide +kernel, rfl, by decide +kernel, by decide +kernel⟩
theorem ok_is_integer {f : Addr} {fd : FuncData} (F : Fun K "is_integer" "is_integer" s_is_integer f fd) (T : Txt K mg C) : FnOk P w K mg base CX0 1 f fd ["value"] (spIsI K isInteger) := by
  refine F.ok sc_is_integer (fun vs H Q E h => ?_) (fun cdv A outer s H vs Q E hr h => ?_)
  · obtain ⟨x, rfl, _⟩ := h
    rfl
  · have hu := hu_of hr
    obtain ⟨x, rfl, ty, k⟩ := h
    obtain ⟨t, ht, hs, hi, hb⟩ := id ty
    have k0 := k H (Same.refl H)
    refine ⟨_, (pss_cons (ps_if (PW.pt (pw_or (pt_val (pe_callB (g_isi K) (by rfl) T.b_isinstance (by decide +kernel) (pa_cons (pv 0) (pa_cons (pe_bltn (v := .ty "bool") rfl T.b_bool (by decide +kernel) rfl) pa_nil)))) (pw_or1 (pt_not (pt_val (pe_callB (g_isi K) (by rfl) T.b_isinstance (by decide +kernel) (pa_cons (pv 0) (pa_cons (pe_bltn (v := .ty "int") rfl T.b_int (by decide +kernel) rfl) pa_nil)))))))) (pss_one (ps_ret pe_bl)) pss_nil)
      (pss_one (ps_ret (pe_cmpR op_lt (pe_callB call_abs (by rfl) T.b_abs (by decide +kernel) (pa_cons (pv 0) pa_nil)) (pe_op op_powW pe_int pe_int) (nomark _))))), ?_⟩
    cases x with
    | bl b =>
      refine ⟨_, rfl, _, _, _, _, _, rfl, .ty _, ht, hb, _, rfl, ?_⟩
      exact k0
    | int i =>
      refine ⟨_, rfl, _, _, _, _, _, rfl, .ty _, ht, hb, _, rfl, ?_⟩
      refine ⟨_, rfl, _, _, _, _, _, rfl, .ty _, ht, hi, _, rfl, ?_⟩
      refine ⟨_, rfl, _, rfl, _, _, rfl, rfl, ⟨by decide, by decide +kernel⟩, _, _, rfl, rfl, ?_⟩
      have e : decide ((if i < 0 then -i else i) < (10 : Int) ^ (60 : Int).toNat) = isInteger (.int i) := abs_lt i
      rw [← e] at k0
      exact k0
    | _ =>
      refine ⟨_, rfl, _, _, _, _, _, rfl, .ty _, ht, hb, _, rfl, ?_⟩
      refine ⟨_, rfl, _, _, _, _, _, rfl, .ty _, ht, hi, _, rfl, ?_⟩
      exact k0
theorem sc_is_word : FnScope ["value", "letter"] ["value"] (defScope s_is_word) := ⟨rfl, rfl, rfl, by decide +kernel, rfl, by decide +kernel, by decide +kernel⟩
theorem ok_is_word {f : Addr} {fd : FuncData} (F : Fun K "is_word" "is_word" s_is_word f fd) (T : Txt K mg C) : FnOk P w K mg base CX0 1 f fd ["value"] (spIs K isWord) := by
  refine F.ok sc_is_word (fun vs H Q E h => ?_) (fun cdv A outer s H vs Q E hr h => ?_)
  · obtain ⟨x, rfl, _⟩ := h
    rfl
  · have hu := hu_of hr
    obtain ⟨x, rfl, ty, sz, k⟩ := h
    obtain ⟨t, ht, hs, hi, hb⟩ := id ty
    have k0 := k H (Same.refl H)
    refine ⟨_, (pss_one (ps_ret (pe_and (pe_callB (g_isi K) (by rfl) T.b_isinstance (by decide +kernel) (pa_cons (pv 0) (pa_cons (pe_bltn (v := .ty "str") rfl T.b_str (by decide +kernel) rfl) pa_nil))) (pe_and (pe_cmpR op_ne (pv 0) pe_str (nomark _)) (pe_one (pe_callB (g_all K rfl) (by rfl) T.b_all (by decide +kernel) (pa_cons (pe_lc (own := [("letter", 1)]) rfl sc_is_word.nd (pi_str (pv 0)) (blkOk_by (own := [("letter", 1)]) (N := ["value", "letter"]) (sc := defScope s_is_word) (by decide +kernel)) (fun _ _ _ _ _ => (pg_name (i := 1) sc_is_word.nd rfl (Or.inl rfl))) (fun _ _ _ _ _ => pts_nil) (fun _ _ _ _ _ => (pe_chain op_le_str op_le_str pe_str (pv 1) pe_str))) pa_nil))))))), ?_⟩
    cases x with
    | str z =>
      have sz' : z.length ≤ sizeLine := fits_sz sz
      refine ⟨_, rfl, _, _, _, _, _, rfl, .ty _, ht, hs, _, rfl, ?_⟩
      refine ⟨_, rfl, rfl, _, rfl, ?_⟩
      rw [v_str_ne]
      refine itB (fun e1 => ?_) (fun e1 => ?_)
      · refine ⟨_, rfl, _, rfl, fun D hD => ?_⟩
        refine lcp_str (fun c => .bl (lett c)) sz' (fun c acc N hc hN => ?_) ?_
        · refine ⟨_, rfl, _, _, rfl, rfl, _, rfl, ?_⟩
          show if (!decide (([c] : List Nat) < [97])) = true then _ else _
          rw [(lett_eq c).1]
          refine itB (fun e2 => ?_) (fun e2 => ?_)
          · refine ⟨_, _, rfl, rfl, ?_⟩
            show N (.bl (!decide (([122] : List Nat) < [c]))) _
            rw [(lett_eq c).2, ← lett_of e2]
            exact hN
          · rw [lett_no e2] at hN
            exact hN
        · refine ⟨_, (cs z).map lett, rfl, SqL.of (by rw [upd_same, List.map_map]; rfl), ?_⟩
          have e4 : ((cs z).map lett).all id = isWord (.str z) := by
            show _ = (!(cs z).isEmpty && (cs z).all lett)
            rw [e1, List.all_map]
            rfl
          rw [e4]
          exact k _ (same_new hD)
      · have e4 : isWord (.str z) = false := by
          show (!(cs z).isEmpty && (cs z).all lett) = false
          rw [e1]
          rfl
        rw [e4] at k0
        exact k0
    | _ =>
      refine ⟨_, rfl, _, _, _, _, _, rfl, .ty _, ht, hs, _, rfl, ?_⟩
      exact k0
theorem sc_is_piece : FnScope ["value"] ["value"] (defScope s_is_piece) := ⟨rfl, rfl, rfl, by decide +kernel, rfl, by decide +kernel, by decide +kernel⟩
theorem ok_is_piece {f : Addr} {fd : FuncData} (F : Fun K "is_piece" "is_piece" s_is_piece f fd) (T : Txt K mg C) (c_is_word : HasO P w K mg base CX0 1 "is_word" ["value"] (spIs K isWord)) : FnOk P w K mg base CX0 2 f fd ["value"] (spIs K isPiece) := by
  refine F.ok sc_is_piece (fun vs H Q E h => ?_) (fun cdv A outer s H vs Q E hr h => ?_)
  · obtain ⟨x, rfl, _⟩ := h
    rfl
  · have hu := hu_of hr
    obtain ⟨x, rfl, ty, sz, k⟩ := h
    obtain ⟨t, ht, hs, hi, hb⟩ := id ty
    have k0 := k H (Same.refl H)
    refine ⟨_, (pss_one (ps_ret (pe_and (pe_callB (g_isi K) (by rfl) T.b_isinstance (by decide +kernel) (pa_cons (pv 0) (pa_cons (pe_bltn (v := .ty "str") rfl T.b_str (by decide +kernel) rfl) pa_nil))) (pe_and (pe_chain op_le op_le pe_int (pe_callB call_len_str (by rfl) T.b_len (by decide +kernel) (pa_cons (pv 0) pa_nil)) (pe_glob (v := .int 5) rfl T.g_PIECE_SIGNS.choose_spec ⟨_, rfl⟩)) (pe_one (pe_hasO c_is_word (hr.mono (by decide)) pass0 (pa_cons (pv 0) pa_nil))))))), ?_⟩
    cases x with
    | str z =>
      have sz' : z.length ≤ sizeLine := fits_sz sz
      refine ⟨_, rfl, _, _, _, _, _, rfl, .ty _, ht, hs, _, rfl, ?_⟩
      refine ⟨_, rfl, _, rfl, sz', _, _, rfl, rfl, _, rfl, ?_⟩
      refine itB (fun e1 => ?_) (fun e1 => ?_)
      · have e1' := of_decide_eq_true e1
        refine ⟨_, _, rfl, rfl, _, rfl, ?_⟩
        refine itB (fun e2 => ?_) (fun e2 => ?_)
        · have e2' := of_decide_eq_true e2
          refine ⟨_, rfl, _, rfl, ty, sz, fun H' s' => ?_⟩
          have e5 : isWord (.str z) = isPiece (.str z) := by
            show (!(cs z).isEmpty && (cs z).all lett) = (decide (1 ≤ (cs z).length) && decide ((cs z).length ≤ 5) && (cs z).all lett)
            rw [cs_len, decide_eq_true (by omega), decide_eq_true (by omega)]
            have : (cs z).isEmpty = false := by
              cases hz : cs z with
              | nil =>
                have := cs_len z
                rw [hz] at this
                simp at this
                omega
              | cons a l => rfl
            rw [this]
            rfl
          rw [e5]
          exact k _ s'
        · have e2' := of_decide_eq_false e2
          have e4 : isPiece (.str z) = false := by
            show (decide (1 ≤ (cs z).length) && decide ((cs z).length ≤ 5) && (cs z).all lett) = false
            rw [cs_len, decide_eq_false (by omega : ¬ z.length ≤ 5), Bool.and_false]
            rfl
          rw [e4] at k0
          exact k0
      · have e1' := of_decide_eq_false e1
        have e4 : isPiece (.str z) = false := by
          show (decide (1 ≤ (cs z).length) && decide ((cs z).length ≤ 5) && (cs z).all lett) = false
          rw [cs_len, decide_eq_false (by omega : ¬ 1 ≤ z.length)]
          rfl
        rw [e4] at k0
        exact ⟨_, rfl, k0⟩
    | _ =>
      refine ⟨_, rfl, _, _, _, _, _, rfl, .ty _, ht, hs, _, rfl, ?_⟩
      exact k0
theorem sc_is_integer_within : FnScope ["value", "least", "most"] ["value", "least", "most"] (defScope s_is_integer_within) := ⟨rfl, rfl, rfl, by decide +kernel, rfl, by decide +kernel, by decide +kernel⟩
theorem ok_is_integer_within {f : Addr} {fd : FuncData} (F : Fun K "is_integer_within" "is_integer_within" s_is_integer_within f fd) (T : Txt K mg C) (c_is_integer : HasO P w K mg base CX0 1 "is_integer" ["value"] (spIsI K isInteger)) : FnOk P w K mg base CX0 2 f fd ["value", "least", "most"] (spWithin K) := by
  refine F.ok sc_is_integer_within (fun vs H Q E h => ?_) (fun cdv A outer s H vs Q E hr h => ?_)
  · obtain ⟨x, a, b, rfl, _⟩ := h
    rfl
  · have hu := hu_of hr
    obtain ⟨x, a, b, rfl, ty, k⟩ := h
    refine ⟨_, (pss_one (ps_ret (pe_and (pe_hasO c_is_integer (hr.mono (by decide)) pass0 (pa_cons (pv 0) pa_nil)) (pe_one (pe_chain op_le op_le (pv 1) (pv 0) (pv 2)))))), ?_⟩
    refine ⟨_, rfl, _, rfl, ty, fun H1 s1 => ⟨_, rfl, ?_⟩⟩
    have k1 := k H1 s1
    cases x with
    | int i =>
      refine itB (fun e => ?_) (fun e => ?_)
      · have e' : decide (i.natAbs < 10 ^ 60) = true := e
        have e2 : inRange (.int i) a b = (decide (a ≤ i) && decide (i ≤ b)) := by
          show (decide (i.natAbs < 10 ^ 60) && (decide (a ≤ i) && decide (i ≤ b))) = _
          rw [e']
          rfl
        rw [e2] at k1
        exact chain_le (a := a) (b := i) (c := b) (fun N hN => ⟨_, rfl, hN⟩) (fun N hN => ⟨_, rfl, hN⟩) (fun N hN => ⟨_, rfl, hN⟩) k1
      · have e' : decide (i.natAbs < 10 ^ 60) = false := e
        have e2 : inRange (.int i) a b = false := by
          show (decide (i.natAbs < 10 ^ 60) && (decide (a ≤ i) && decide (i ≤ b))) = _
          rw [e']
          rfl
        rw [e2] at k1
        exact k1
    | _ => exact k1
theorem sc_is_price : FnScope ["value"] ["value"] (defScope s_is_price) := ⟨rfl, rfl, rfl, by decide +kernel, rfl, by decide +kernel, by decide +kernel⟩
theorem ok_is_price {f : Addr} {fd : FuncData} (F : Fun K "is_price" "is_price" s_is_price f fd) (T : Txt K mg C) (c_is_integer_within : HasO P w K mg base CX0 2 "is_integer_within" ["value", "least", "most"] (spWithin K)) : FnOk P w K mg base CX0 3 f fd ["value"] (spIsI K isPrice) := by
  refine F.ok sc_is_price (fun vs H Q E h => ?_) (fun cdv A outer s H vs Q E hr h => ?_)
  · obtain ⟨x, rfl, _⟩ := h
    rfl
  · have hu := hu_of hr
    obtain ⟨x, rfl, ty, k⟩ := h
    refine ⟨_, (pss_one (ps_ret (pe_hasO c_is_integer_within (hr.mono (by decide)) pass0 (pa_cons (pv 0) (pa_cons pe_int (pa_cons (pe_glob (v := .int 99) rfl T.g_MAX_PRICE.choose_spec ⟨_, rfl⟩) pa_nil)))))), ?_⟩
    exact ⟨_, rfl, x, 1, 99, rfl, ty, k⟩
theorem sc_are_prices : FnScope ["value", "piece", "sign", "price"] ["value"] (defScope s_are_prices) := ⟨rfl, rfl, rfl, by decide +kernel, rfl, by decide +kernel, by decide +kernel⟩
theorem ok_are_prices {f : Addr} {fd : FuncData} (F : Fun K "are_prices" "are_prices" s_are_prices f fd) (T : Txt K mg C) (c_is_piece : HasO P w K mg base CX0 2 "is_piece" ["value"] (spIs K isPiece)) (c_is_price : HasO P w K mg base CX0 3 "is_price" ["value"] (spIsI K isPrice)) : FnOk P w K mg base CX0 4 f fd ["value"] (spArePrices K) := by
  refine F.ok sc_are_prices (fun vs H Q E h => ?_) (fun cdv A outer s H vs Q E hr h => ?_)
  · obtain ⟨x, rfl, _⟩ := h
    rfl
  · have hu := hu_of hr
    obtain ⟨x, rfl, hx⟩ := h
    refine ⟨_, (pss_cons (ps_if (PW.pt (pw_or (pt_not (pt_val (pe_callB (g_isi K) (by rfl) T.b_isinstance (by decide +kernel) (pa_cons (pv 0) (pa_cons (pe_bltn (v := .ty "dict") rfl T.b_dict (by decide +kernel) rfl) pa_nil))))) (pw_or1 (pt_not (pt_chain op_le op_le pe_int (pe_callB call_lenF (by rfl) T.b_len (by decide +kernel) (pa_cons (pv 0) pa_nil)) (pe_glob (v := .int 12) rfl T.g_MAX_PIECES.choose_spec ⟨_, rfl⟩)))))) (pss_one (ps_ret pe_bl)) pss_nil)
      (pss_cons (ps_if (pt_not (pt_val (pe_callB (g_all K rfl) (by rfl) T.b_all (by decide +kernel) (pa_cons (pe_lock (by exact (pe_lc (own := [("piece", 1), ("price", 3)]) rfl sc_are_prices.nd (pi_items (pv 0)) (blkOk_by (own := [("piece", 1), ("price", 3)]) (N := ["value", "piece", "sign", "price"]) (sc := defScope s_are_prices) (by decide +kernel)) (fun _ _ _ _ _ => (g_tup K (n := 2) rfl (pgs_cons (pg_name (i := 1) sc_are_prices.nd rfl (Or.inl rfl)) (pgs_cons (pg_name (i := 3) sc_are_prices.nd rfl (Or.inl rfl)) pgs_nil)))) (fun _ _ _ _ _ => pts_nil) (fun _ _ _ _ _ => (pe_and (pe_hasO c_is_piece (hr.mono (by decide)) pass0 (pa_cons (pv 1) pa_nil)) (pe_one (pe_hasO c_is_price (hr.mono (by decide)) pass0 (pa_cons (pv 3) pa_nil)))))))) pa_nil)))) (pss_one (ps_ret pe_bl)) pss_nil)
      (pss_cons (ps_if (pt_cmpR op_gt (pe_callB (g_len_seq K) (by rfl) T.b_len (by decide +kernel) (pa_cons (pe_lock (by exact (pe_lc (own := [("piece", 1)]) rfl sc_are_prices.nd (pi_keys (pv 0)) (blkOk_by (own := [("piece", 1)]) (N := ["value", "piece", "sign", "price"]) (sc := defScope s_are_prices) (by decide +kernel)) (fun _ _ _ _ _ => (pg_name (i := 1) sc_are_prices.nd rfl (Or.inl rfl))) (fun _ _ _ _ _ => (pts_one (pt_cmpR op_eq (pe_callB call_len_str (by rfl) T.b_len (by decide +kernel) (pa_cons (pv 1) pa_nil)) pe_int (nomark _)))) (fun _ _ _ _ _ => (pv 1))))) pa_nil)) (pe_glob (v := .int 4) rfl T.g_MAX_ALPHABET.choose_spec ⟨_, rfl⟩) (nomark _)) (pss_one (ps_ret pe_bl)) pss_nil)
      (pss_one (ps_ret (pe_callB (g_all K rfl) (by rfl) T.b_all (by decide +kernel) (pa_cons (pe_lock (by exact (pe_lc2 (own := [("piece", 1), ("sign", 2)]) (vs1 := [2]) rfl sc_are_prices.nd (pi_keys (pv 0)) (blkOk_by (own := [("piece", 1), ("sign", 2)]) (N := ["value", "piece", "sign", "price"]) (sc := defScope s_are_prices) (by decide +kernel)) (by decide) (fun _ _ _ _ _ => (pg_name (i := 1) sc_are_prices.nd rfl (Or.inl rfl))) (fun _ _ _ _ _ => pts_nil) (fun _ _ _ _ _ => (pi_str (pv 1))) (fun _ _ _ _ _ => (pg_name (i := 2) sc_are_prices.nd rfl (Or.inl rfl))) (fun _ _ _ _ _ => pts_nil) (fun _ _ _ _ _ => (pe_cmp (pc_din hu (pv 2) (pv 0))))))) pa_nil))))))), ?_⟩
    rcases hx with ⟨t, ht, hdict, k⟩ | ⟨a, kvs, rfl, ha, hn, ok, k⟩
    · refine ⟨_, rfl, _, _, _, _, _, rfl, .ty _, ht, hdict, _, rfl, ?_⟩
      exact k H (Same.refl H)
    refine ⟨_, rfl, _, _, _, _, _, rfl, .ty _, .base (.dK ha), kit_ty (show kitB "dict" "dict" = some true by decide +kernel), _, rfl, ?_⟩
    refine ⟨_, rfl, _, _, rfl, .inl ha, _, _, rfl, rfl, _, rfl, ?_⟩
    have k0 := k H (Same.refl H)
    have fz : ∀ od, (upd H a (.frz od (.dK kvs))) a = some (.frz od (.dK kvs)) := fun od => upd_same
    unfold arePrices at k k0
    -- 1 <= len(value) <= MAX_PIECES
    cases e1 : decide (1 ≤ (kvs.length : Int)) with
    | false =>
      rw [e1] at k0
      exact ⟨_, rfl, k0⟩
    | true =>
    rw [e1] at k k0
    refine ⟨_, _, rfl, rfl, _, rfl, ?_⟩
    cases e2 : decide ((kvs.length : Int) ≤ 12) with
    | false =>
      rw [e2] at k0
      exact k0
    | true =>
    rw [e2] at k k0
    -- the pieces and the prices
    refine ⟨a, _, ha, trivial, fun od => ?_⟩
    refine ⟨_, rfl, a, od, kvs, rfl, upd_same, fun D hD => ?_⟩
    have nDa := lock_ne hD
    refine lcs kvs walk_kv (fun kv => some (.bl (isPiece (kV kv.1) && isPrice kv.2))) hD (by omega) (fun H' s => s _ _ (fz od)) ?_ ?_
    · rintro i kv x H2 H3 hi s ⟨T, k', v', e, rfl, hT, rfl⟩ N M hN hM
      have ekv : kv = (k', v') := Option.some.inj (hi.symm.trans e)
      subst ekv
      obtain ⟨sz, tyv⟩ := ok _ (List.mem_of_getElem? hi)
      have sH : ∀ {H'}, Same H2 H' → Same (upd H a (.frz od (.dK kvs))) H' := fun z => s.trans z
      refine ⟨T, _, rfl, SqT.of upd_same, rfl, _, _, rfl, _, _, rfl, rfl, rfl, ?_⟩
      have sT : Same H2 (upd H2 T (.tup [kV k', v'])) := same_new hT
      refine ⟨_, rfl, _, rfl, tyd_key _, sz, fun H4 s4 => ⟨_, rfl, ?_⟩⟩
      refine itB (fun p1 => ?_) (fun p1 => ?_)
      · refine ⟨_, rfl, _, rfl, tyv _ (((Sim.lock ha).then s).then (sT.trans s4)), fun H5 s5 => ?_⟩
        refine hN _ _ ?_ (sT.trans (s4.trans s5))
        show some (V.bl (isPiece (kV k') && isPrice v')) = _
        rw [p1]
        rfl
      · refine hN _ _ ?_ (sT.trans s4)
        show some (V.bl (isPiece (kV k') && isPrice v')) = _
        rw [p1]
        rfl
    rintro H2 s2 e2'
    have S2 : Same H (upd H2 a (.dK kvs)) := unlock ha s2
    refine ⟨s2 _ _ (fz od), _, kvs.map (fun kv => isPiece (kV kv.1) && isPrice kv.2), rfl, SqL.of (by rw [upd_ne nDa, e2', List.map_map, List.filterMap_eq_map']; rfl), _, rfl, ?_⟩
    have k2 := k _ S2
    have a2 : (upd H2 a (.dK kvs)) a = some (.dK kvs) := upd_same
    generalize upd H2 a (.dK kvs) = H3 at S2 k2 a2 ⊢
    have e3' : ((kvs.map fun kv => isPiece (kV kv.1) && isPrice kv.2).all id) = (kvs.all fun kv => isPiece (kV kv.1) && isPrice kv.2) := by
      rw [List.all_map]
      rfl
    rw [e3']
    clear e3' e2' s2 H2 hD nDa k0 fz od D
    cases e3 : (kvs.all fun kv => isPiece (kV kv.1) && isPrice kv.2) with
    | false =>
      rw [e3] at k2
      exact k2
    | true =>
    rw [e3] at k k2
    have hk := keys_of e3
    have hp := keyStrs_piece e3
    have ln : (keyStrs kvs).length = kvs.length := by
      have h := congrArg List.length hk
      rw [List.length_map, List.length_map] at h
      exact h.symm
    -- how many single signs
    refine ⟨a, _, a2, trivial, fun od => ?_⟩
    refine ⟨_, rfl, a, od, rfl, .inl ⟨kvs, upd_same, fun D hD => ?_⟩⟩
    have nDa := lock_ne hD
    refine lcs kvs walk_keys (fun kv => match kv.1 with | .inr z => if decide ((cs z).length = 1) = true then some (.str z) else none | .inl _ => none) hD (by omega) (fun H' s => s _ _ upd_same) ?_ ?_
    · rintro i kv x H4 H5 hi s ⟨rfl, k', v', e, rfl⟩ N M hN hM
      have ekv : kv = (k', v') := Option.some.inj (hi.symm.trans e)
      subst ekv
      obtain ⟨z, hz⟩ : ∃ z, k' = Sum.inr z := by
        have h1 := congrArg (fun l => l[i]?) hk
        simp only [List.getElem?_map, hi] at h1
        cases h2 : (keyStrs kvs)[i]? with
        | none => rw [h2] at h1; cases h1
        | some z => rw [h2] at h1; exact ⟨z, Option.some.inj h1⟩
      subst hz
      have zs := (ok _ (List.mem_of_getElem? hi)).1
      refine ⟨rfl, _, rfl, _, rfl, fits_sz zs, rfl, _, rfl, ?_⟩
      rw [v_len_eq1]
      refine itB (fun q1 => ?_) (fun q1 => ?_)
      · refine ⟨_, rfl, hN _ _ ?_ (Same.refl _)⟩
        show (if decide ((cs z).length = 1) = true then some (V.str z) else none) = _
        rw [if_pos q1]
        rfl
      · refine hM _ ?_ (Same.refl _)
        show (if decide ((cs z).length = 1) = true then some (V.str z) else none) = _
        rw [if_neg (by rw [q1]; exact Bool.false_ne_true)]
    rintro H4 s4 e4
    have e5 : (kvs.filterMap fun kv => match kv.1 with | .inr z => if decide ((cs z).length = 1) = true then some (V.str z) else none | .inl _ => none) = ((keyStrs kvs).filter fun z => decide ((cs z).length = 1)).map V.str := singles kvs
    rw [e5] at e4
    have S4 : Same H (upd H4 a (.dK kvs)) := S2.trans (unlock a2 s4)
    refine ⟨s4 _ _ upd_same, _, _, rfl, .inl (SqL.of (by rw [upd_ne nDa]; exact e4)), _, _, rfl, rfl, _, rfl, ?_⟩
    have k4 := k _ S4
    have a4 : (upd H4 a (.dK kvs)) a = some (.dK kvs) := upd_same
    generalize upd H4 a (.dK kvs) = H5 at S4 k4 a4 ⊢
    clear e4 e5 s4 H4 hD nDa od D S2 k2 a2 H3
    rw [List.length_map]
    cases e6 : decide (((keyStrs kvs).filter fun z => decide ((cs z).length = 1)).length ≤ 4) with
    | false =>
      rw [e6] at k4
      refine itT (decide_eq_true (by have := of_decide_eq_false e6; omega)) ?_
      exact k4
    | true =>
    rw [e6] at k k4
    refine itF (decide_eq_false (by have := of_decide_eq_true e6; omega)) ?_
    -- each sign of each piece
    have fl := flat_len (zs := keyStrs kvs) fun z hz => (hp z hz).2.1
    refine ⟨a, _, a4, trivial, fun od => ?_⟩
    refine ⟨_, rfl, a, od, rfl, .inl ⟨kvs, upd_same, fun D hD => ?_⟩⟩
    have nDa := lock_ne hD
    refine lc2_ks (zs := keyStrs kvs) hk (fun c => .bl (valV kvs (Sum.inr (ch c))).isSome) upd_same hD (by omega) (fun _ => rfl) (fun _ _ => rfl) (fun _ => rfl) ?_ ?_
    · intro z hz c hc H6 s6 N hN
      exact ⟨_, rfl, _, rfl, a, _, rfl, Or.inl ⟨kvs, Sum.inr (ch c), Or.inr ⟨od, s6 _ _ upd_same⟩, rfl, rfl⟩, hN _ (Same.refl _)⟩
    rintro H6 s6 e7
    refine ⟨s6 _ _ upd_same, _, ((keyStrs kvs).map cs).flatten.map (fun c => (valV kvs (Sum.inr (ch c))).isSome), rfl, SqL.of (by rw [upd_ne nDa, e7, List.map_map]; rfl), ?_⟩
    rw [List.all_map]
    exact k _ (S4.trans (unlock a4 s6))
theorem sc_Book___init__ : FnScope ["self", "prices", "piece"] ["self", "prices"] (defScope s_Book___init__) := ⟨rfl, rfl, rfl, by decide +kernel, rfl, by decide +kernel, by decide +kernel⟩
theorem ok_Book___init__ {f : Addr} {fd : FuncData} (F : Fun K "__init__" "Book.__init__" s_Book___init__ f fd) (T : Txt K mg C) (c_are_prices : HasO P w K mg base CX0 4 "are_prices" ["value"] (spArePrices K)) : FnOk P w K mg base CX0 5 f fd ["self", "prices"] (spBook C K) := by
  refine F.ok sc_Book___init__ (fun vs H Q E h => ?_) (fun cdv A outer s H vs Q E hr h => ?_)
  · obtain ⟨b, dx, a, kvs, rfl, _⟩ := h
    rfl
  · have hu := hu_of hr
    obtain ⟨b, dx, a, kvs, rfl, hb, ha, ok, av, nd, k⟩ := h
    refine ⟨_, (pss_frz (pss_cons (ps_if (pt_not (pt_val (pe_hasO c_are_prices (hr.mono (by decide)) pass0 (pa_cons (pv 1) pa_nil)))) (pss_one ps_never) pss_nil)
      (pss_cons (ps_fld (pv 0) (pe_dc (own := [("piece", 2)]) rfl sc_Book___init__.nd (g_list K (pe_callB (g_sortedS K) (by rfl) T.b_sorted (by decide +kernel) (pa_cons (pe_callTy (call_listD rfl) (by rfl) T.b_list (by decide +kernel) (pa_cons (pv 1) pa_nil)) pa_nil))) (blkOk_by (own := [("piece", 2)]) (N := ["self", "prices", "piece"]) (sc := defScope s_Book___init__) (by decide +kernel)) (fun _ _ _ _ _ => (pg_name (i := 2) sc_Book___init__.nd rfl (Or.inl rfl))) (fun _ _ _ _ _ => pts_nil) (fun _ _ _ _ _ => (pv 2)) (fun _ _ _ _ _ => (pe_dget hu (pv 1) (pv 2) (fun _ _ => rfl)))) rfl)
      (pss_cons (ps_fld (pv 0) (pe_callTy (g_tuple_of K) (by rfl) T.b_tuple (by decide +kernel) (pa_cons (pe_callTy (call_listD rfl) (by rfl) T.b_list (by decide +kernel) (pa_cons (g_fld K (pv 0)) pa_nil)) pa_nil)) rfl)
      (pss_cons (ps_fld (pv 0) (pe_callTy (g_tuple_of K) (by rfl) T.b_tuple (by decide +kernel) (pa_cons (pe_lc (own := [("piece", 2)]) rfl sc_Book___init__.nd (g_tuple K (g_fld K (pv 0))) (blkOk_by (own := [("piece", 2)]) (N := ["self", "prices", "piece"]) (sc := defScope s_Book___init__) (by decide +kernel)) (fun _ _ _ _ _ => (pg_name (i := 2) sc_Book___init__.nd rfl (Or.inl rfl))) (fun _ _ _ _ _ => (pts_one (pt_cmpR op_eq (pe_callB call_len_str (by rfl) T.b_len (by decide +kernel) (pa_cons (pv 2) pa_nil)) pe_int (nomark _)))) (fun _ _ _ _ _ => (pv 2))) pa_nil)) rfl)
      (pss_cons (ps_fld (pv 0) (pe_callB (g_max K rfl) (by rfl) T.b_max (by decide +kernel) (pa_cons (pe_lc (own := [("piece", 2)]) rfl sc_Book___init__.nd (g_tuple K (g_fld K (pv 0))) (blkOk_by (own := [("piece", 2)]) (N := ["self", "prices", "piece"]) (sc := defScope s_Book___init__) (by decide +kernel)) (fun _ _ _ _ _ => (pg_name (i := 2) sc_Book___init__.nd rfl (Or.inl rfl))) (fun _ _ _ _ _ => pts_nil) (fun _ _ _ _ _ => (pe_callB call_len_str (by rfl) T.b_len (by decide +kernel) (pa_cons (pv 2) pa_nil)))) pa_nil)) rfl)
      (pss_one (ps_fld (pv 0) (pe_callB (g_max K rfl) (by rfl) T.b_max (by decide +kernel) (pa_cons (pe_callTy (call_listVw rfl) (by rfl) T.b_list (by decide +kernel) (pa_cons (g_bm0 K PySem.F.plainAttrs_dict PySem.F.slot_dict_values PySem.F.type_dict_values mt_values (g_fld K (pv 0))) pa_nil)) pa_nil)) rfl)))))))), ?_⟩
    obtain ⟨⟨n1, n2⟩, al, f4, fs⟩ := ap_parts av
    have nb : b ≠ a := fun e => by
      rw [e, ha] at hb
      cases hb
    refine ⟨_, rfl, _, rfl, .inr ⟨a, kvs, rfl, ha, by omega, ok, fun H1 s1 => ⟨_, congrArg V.bl av, ?_⟩⟩⟩
    have hk := keys_of al
    have hkV : (kvs.map fun kv => kV kv.1) = (keyStrs kvs).map V.str := by
      have h := congrArg (List.map kV) hk
      rw [List.map_map, List.map_map] at h
      exact h
    have ln : (keyStrs kvs).length = kvs.length := by
      have h := congrArg List.length hk
      rw [List.length_map, List.length_map] at h
      exact h.symm
    -- the prices
    refine ⟨_, rfl, a, kvs, rfl, .inl (s1 _ _ ha), fun p hp => ?_⟩
    refine ⟨p, keyStrs kvs, rfl, SqL.of (by rw [upd_same, hkV]), by omega, fun ys p2 pm so hp2 => ?_⟩
    refine ⟨p2, rfl, ⟨_, SqL.of upd_same⟩, fun D hD => ?_⟩
    have ly : ys.length = kvs.length := by rw [pm.length_eq, ln]
    have ndk : (keyStrs kvs).Nodup := by
      rw [hk] at nd
      exact nd_of_map nd
    have ndy : ys.Nodup := pm.nodup_iff.mpr ndk
    have s2 : Same H (upd (upd H1 p (.lst (kvs.map fun kv => kV kv.1))) p2 (.lst (ys.map V.str))) := (s1.trans (same_new hp)).trans (same_new hp2)
    have l2 : (upd (upd H1 p (.lst (kvs.map fun kv => kV kv.1))) p2 (.lst (ys.map V.str))) p2 = some (.lst (ys.map V.str)) := upd_same
    generalize (upd (upd H1 p (.lst (kvs.map fun kv => kV kv.1))) p2 (.lst (ys.map V.str))) = H2 at s2 l2 hD ⊢
    have nDb : D ≠ b := (ne_of_none (s2 _ _ hb) hD).symm
    have hDn := not_there s2 hD
    refine dcs ys (walk_listF (K := K) V.str ys) (fun z => (Sum.inr z, .int (priceIn kvs z))) (nd_map (f := fun z : Str => (Sum.inr z : Key)) (fun _ _ h => Sum.inr.inj h) ndy) hD (by omega) (fun H' s => SqL.of (s _ _ l2)) ?_ ?_
    · rintro i z x H3 H4 hi s3 ⟨rfl, z', ez, rfl⟩ N M hN
      have e1 : z = z' := Option.some.inj (hi.symm.trans ez)
      subst e1
      exact ⟨wipe_set, _, rfl, _, rfl, _, rfl, a, _, rfl, .inl ⟨kvs, Sum.inr z, .inl (s3 _ _ (s2 _ _ ha)), rfl, (price_of_key al (pm.mem_iff.mp (List.mem_of_getElem? hi))).1.symm⟩, hN _ (Same.refl _)⟩
    rintro H3 s3 e3
    have e3' : H3 D = some (.dK (kvOf (psOf kvs ys))) := by
      rw [e3]
      unfold kvOf psOf
      rw [List.map_map]
      rfl
    have b3 := s3 _ _ (s2 _ _ hb)
    have hps : (psOf kvs ys).map (fun p => V.str p.1) = ys.map V.str := by
      unfold psOf
      rw [List.map_map]
      rfl
    refine ⟨_, rfl, b, C, dx, [], rfl, b3, T.cl, T.n_own_prices, by decide, ?_⟩
    have k3 : Kp b H (upd H3 b (.ins C dx (putF "own_prices" (.ref D) []))) := (Kp.of (s2.trans s3)).trans Kp.upd
    have d3 : upd H3 b (.ins C dx (putF "own_prices" (.ref D) [])) D = some (.dK (kvOf (psOf kvs ys))) := by
      rw [upd_ne nDb]
      exact e3'
    have o3 : upd H3 b (.ins C dx (putF "own_prices" (.ref D) [])) b = some (.ins C dx [(("own_prices" : Str), .ref D)]) := upd_same
    generalize upd H3 b (.ins C dx (putF "own_prices" (.ref D) [])) = H4 at k3 d3 o3 ⊢
    clear e3 e3' b3 s3 s2 l2 hD
    -- the pieces
    refine ⟨_, rfl, b, C, dx, _, _, rfl, o3, T.cl, T.n_own_prices, lk_at, D, _, rfl, .inl d3, fun p3 hp3 => ?_⟩
    refine ⟨p3, _, rfl, .inl ⟨SqL.of upd_same, fun tp htp => ?_⟩⟩
    rw [kv_keys, hps] at htp ⊢
    have npb : p3 ≠ b := (ne_of_none o3 hp3).symm
    have ntb : tp ≠ b := (ne_of_none ((same_new hp3) _ _ o3) htp).symm
    have o4' := (same_new hp3 (o := .lst (ys.map V.str))).trans (same_new htp (o := .tup (ys.map V.str)))
    refine ⟨_, rfl, b, C, dx, _, rfl, o4' _ _ o3, T.cl, T.n_own_pieces, by simp, ?_⟩
    rw [pf2]
    have k4 := (k3.trans (.of o4')).trans (Kp.upd (o := .ins C dx [(("own_prices" : Str), .ref D), ("own_pieces", .ref tp)]))
    have d4 : (upd (upd (upd H4 p3 (.lst (ys.map V.str))) tp (.tup (ys.map V.str))) b (.ins C dx [(("own_prices" : Str), .ref D), ("own_pieces", .ref tp)])) D = some (.dK (kvOf (psOf kvs ys))) := by
      rw [upd_ne nDb]
      exact o4' _ _ d3
    have t4 : (upd (upd (upd H4 p3 (.lst (ys.map V.str))) tp (.tup (ys.map V.str))) b (.ins C dx [(("own_prices" : Str), .ref D), ("own_pieces", .ref tp)])) tp = some (.tup (ys.map V.str)) := by
      rw [upd_ne ntb]
      exact upd_same
    have o4 : (upd (upd (upd H4 p3 (.lst (ys.map V.str))) tp (.tup (ys.map V.str))) b (.ins C dx [(("own_prices" : Str), .ref D), ("own_pieces", .ref tp)])) b = some (.ins C dx [(("own_prices" : Str), .ref D), ("own_pieces", .ref tp)]) := upd_same
    generalize (upd (upd (upd H4 p3 (.lst (ys.map V.str))) tp (.tup (ys.map V.str))) b (.ins C dx [(("own_prices" : Str), .ref D), ("own_pieces", .ref tp)])) = H5 at k4 d4 t4 o4 ⊢
    clear o4' htp hp3 npb k3 d3 o3
    -- the alphabet
    refine ⟨_, rfl, b, C, dx, _, _, rfl, o4, T.cl, T.n_own_pieces, (lk_by (by decide +kernel)).trans lk_at, tp, rfl, ⟨_, SqT.of t4⟩, fun L hL => ?_⟩
    have nLb : L ≠ b := (ne_of_none o4 hL).symm
    refine lcs ys (walk_tupF (K := K) V.str ys) (fun z => if decide ((cs z).length = 1) = true then some (V.str z) else none) hL (by omega) (fun H' s => SqT.of (s _ _ t4)) ?_ ?_
    · rintro i z x H6 H7 hi s6 ⟨rfl, z', ez, rfl⟩ N M hN hM
      have e1 : z = z' := Option.some.inj (hi.symm.trans ez)
      subst e1
      have hz := (keyStrs_piece al z (pm.mem_iff.mp (List.mem_of_getElem? hi))).2.1
      refine ⟨wipe_set, _, rfl, _, rfl, fits_sz (by rw [← cs_len]; omega), rfl, _, rfl, ?_⟩
      rw [v_len_eq1]
      refine itB (fun q1 => ?_) (fun q1 => ?_)
      · exact ⟨_, rfl, hN _ _ (if_pos q1) (Same.refl _)⟩
      · exact hM _ (if_neg (by rw [q1]; exact Bool.false_ne_true)) (Same.refl _)
    rintro H6 s6 e6
    rw [sgn_fm kvs ys] at e6
    refine ⟨L, _, rfl, .inl ⟨SqL.of e6, fun ta hta => ?_⟩⟩
    have nab : ta ≠ b := (ne_of_none (s6 _ _ o4) hta).symm
    have o6 := s6.trans (same_new hta (o := .tup ((sgn (psOf kvs ys)).map V.str)))
    refine ⟨_, rfl, b, C, dx, _, rfl, o6 _ _ o4, T.cl, T.n_own_alphabet, by simp, ?_⟩
    rw [pf3]
    have k6 := (k4.trans (.of o6)).trans (Kp.upd (o := .ins C dx [(("own_prices" : Str), .ref D), ("own_pieces", .ref tp), ("own_alphabet", .ref ta)]))
    have d6 : (upd (upd H6 ta (.tup ((sgn (psOf kvs ys)).map V.str))) b (.ins C dx [(("own_prices" : Str), .ref D), ("own_pieces", .ref tp), ("own_alphabet", .ref ta)])) D = some (.dK (kvOf (psOf kvs ys))) := by
      rw [upd_ne nDb]
      exact o6 _ _ d4
    have t6 : (upd (upd H6 ta (.tup ((sgn (psOf kvs ys)).map V.str))) b (.ins C dx [(("own_prices" : Str), .ref D), ("own_pieces", .ref tp), ("own_alphabet", .ref ta)])) tp = some (.tup (ys.map V.str)) := by
      rw [upd_ne ntb]
      exact o6 _ _ t4
    have a6 : (upd (upd H6 ta (.tup ((sgn (psOf kvs ys)).map V.str))) b (.ins C dx [(("own_prices" : Str), .ref D), ("own_pieces", .ref tp), ("own_alphabet", .ref ta)])) ta = some (.tup ((sgn (psOf kvs ys)).map V.str)) := by
      rw [upd_ne nab]
      exact upd_same
    have o6' : (upd (upd H6 ta (.tup ((sgn (psOf kvs ys)).map V.str))) b (.ins C dx [(("own_prices" : Str), .ref D), ("own_pieces", .ref tp), ("own_alphabet", .ref ta)])) b = some (.ins C dx [(("own_prices" : Str), .ref D), ("own_pieces", .ref tp), ("own_alphabet", .ref ta)]) := upd_same
    generalize (upd (upd H6 ta (.tup ((sgn (psOf kvs ys)).map V.str))) b (.ins C dx [(("own_prices" : Str), .ref D), ("own_pieces", .ref tp), ("own_alphabet", .ref ta)])) = H7 at k6 d6 t6 a6 o6' ⊢
    clear o6 e6 s6 hta hL k4 d4 t4 o4
    -- the longest
    refine ⟨_, rfl, b, C, dx, _, _, rfl, o6', T.cl, T.n_own_pieces, (lk_by (by decide +kernel)).trans lk_at, tp, rfl, ⟨_, SqT.of t6⟩, fun L hL => ?_⟩
    refine lcs ys (walk_tupF (K := K) V.str ys) (fun z => some (V.int (z.length : Int))) hL (by omega) (fun H' s => SqT.of (s _ _ t6)) ?_ ?_
    · rintro i z x H8 H9 hi s8 ⟨rfl, z', ez, rfl⟩ N M hN hM
      have e1 : z = z' := Option.some.inj (hi.symm.trans ez)
      subst e1
      have hz := (keyStrs_piece al z (pm.mem_iff.mp (List.mem_of_getElem? hi))).2.1
      exact ⟨wipe_set, _, rfl, _, rfl, fits_sz (by rw [← cs_len]; omega), hN _ _ rfl (Same.refl _)⟩
    rintro H8 s8 e8
    have ll : (ys.filterMap fun z => some (V.int (z.length : Int))) = (lens (psOf kvs ys)).map V.int := by
      rw [fm_some]
      unfold lens psOf
      rw [List.map_map, List.map_map]
      rfl
    rw [ll] at e8
    refine ⟨L, _, rfl, SqL.of e8, by unfold lens psOf; rw [List.length_map, List.length_map]; omega, fun lo lo1 lo2 => ?_⟩
    refine ⟨_, rfl, b, C, dx, _, rfl, s8 _ _ o6', T.cl, T.n_own_longest, by simp, ?_⟩
    rw [pf4]
    have k8 := (k6.trans (.of s8)).trans (Kp.upd (o := .ins C dx [(("own_prices" : Str), .ref D), ("own_pieces", .ref tp), ("own_alphabet", .ref ta), ("own_longest", .int lo)]))
    have d8 : (upd H8 b (.ins C dx [(("own_prices" : Str), .ref D), ("own_pieces", .ref tp), ("own_alphabet", .ref ta), ("own_longest", .int lo)])) D = some (.dK (kvOf (psOf kvs ys))) := by
      rw [upd_ne nDb]
      exact s8 _ _ d6
    have t8 : (upd H8 b (.ins C dx [(("own_prices" : Str), .ref D), ("own_pieces", .ref tp), ("own_alphabet", .ref ta), ("own_longest", .int lo)])) tp = some (.tup (ys.map V.str)) := by
      rw [upd_ne ntb]
      exact s8 _ _ t6
    have a8 : (upd H8 b (.ins C dx [(("own_prices" : Str), .ref D), ("own_pieces", .ref tp), ("own_alphabet", .ref ta), ("own_longest", .int lo)])) ta = some (.tup ((sgn (psOf kvs ys)).map V.str)) := by
      rw [upd_ne nab]
      exact s8 _ _ a6
    have o8 : (upd H8 b (.ins C dx [(("own_prices" : Str), .ref D), ("own_pieces", .ref tp), ("own_alphabet", .ref ta), ("own_longest", .int lo)])) b = some (.ins C dx [(("own_prices" : Str), .ref D), ("own_pieces", .ref tp), ("own_alphabet", .ref ta), ("own_longest", .int lo)]) := upd_same
    generalize (upd H8 b (.ins C dx [(("own_prices" : Str), .ref D), ("own_pieces", .ref tp), ("own_alphabet", .ref ta), ("own_longest", .int lo)])) = H9 at k8 d8 t8 a8 o8 ⊢
    clear s8 e8 hL k6 d6 t6 a6 o6'
    have ntD : tp ≠ D := fun e => by
      rw [e, d8] at t8
      cases t8
    have naD : ta ≠ D := fun e => by
      rw [e, d8] at a8
      cases a8
    -- the dearest
    refine ⟨_, rfl, b, C, dx, _, _, rfl, o8, T.cl, T.n_own_prices, lk_at, .inr (.inr (.inl ⟨rfl, .inl ⟨_, d8⟩⟩)), D, _, rfl, rfl, .inl d8, fun r hr => ?_⟩
    refine ⟨r, D, _, rfl, upd_same, .inl (same_new hr _ _ d8), fun q hq => ?_⟩
    rw [kv_vals] at *
    refine ⟨q, _, rfl, SqL.of upd_same, by unfold fees psOf; rw [List.length_map, List.length_map]; omega, fun de de1 de2 => ?_⟩
    have s9 := (same_new hr (o := vwV D r)).trans (same_new hq (o := .lst ((fees (psOf kvs ys)).map V.int)))
    refine ⟨_, rfl, b, C, dx, _, rfl, s9 _ _ o8, T.cl, T.n_own_dearest, by simp, ?_⟩
    rw [pf5]
    have k9 := (k8.trans (.of s9)).trans (Kp.upd (o := .ins C dx (bookF D tp ta lo de)))
    refine ⟨D, _, (upd_ne nDb).trans (s9 _ _ d8), trivial, fun od => ?_⟩
    refine k _ ys lo de D tp ta od pm so ⟨?_, upd_same, ?_, ?_, ⟨lo1, lo2⟩, ⟨de1, de2⟩⟩ ?_
    · exact (upd_ne nDb.symm).trans upd_same
    · rw [upd_ne ntD, upd_ne ntb, hps]
      exact s9 _ _ t8
    · rw [upd_ne naD, upd_ne nab]
      exact s9 _ _ a8
    · intro c o e n
      rw [upd_ne (ne_of_none e hDn)]
      exact k9 _ _ e n
theorem sc_Book_prices : FnScope ["self", "piece"] ["self"] (defScope s_Book_prices) := ⟨rfl, rfl, rfl, by decide +kernel, rfl, by decide +kernel, by decide +kernel⟩
theorem ok_Book_prices {f : Addr} {fd : FuncData} (F : Fun K "prices" "Book.prices" s_Book_prices f fd) (T : Txt K mg C) : FnOk P w K mg base CX0 1 f fd ["self"] (spPrices C) := by
  refine F.ok sc_Book_prices (fun vs H Q E h => ?_) (fun cdv A outer s H vs Q E hr h => ?_)
  · obtain ⟨b, kvs, rfl, _⟩ := h
    rfl
  · have hu := hu_of hr
    obtain ⟨b, kvs, rfl, B, k⟩ := h
    refine ⟨_, (pss_one (ps_ret (pe_dc (own := [("piece", 1)]) rfl sc_Book_prices.nd (g_tuple K (g_fld K (pv 0))) (blkOk_by (own := [("piece", 1)]) (N := ["self", "piece"]) (sc := defScope s_Book_prices) (by decide +kernel)) (fun _ _ _ _ _ => (pg_name (i := 1) sc_Book_prices.nd rfl (Or.inl rfl))) (fun _ _ _ _ _ => pts_nil) (fun _ _ _ _ _ => (pv 1)) (fun _ _ _ _ _ => (pe_dget hu (g_fld K (pv 0)) (pv 1) (fun _ _ => rfl)))))), ?_⟩
    obtain ⟨av, nd, ys, L, M, dx, d, tp, ta, od, pm, so, A⟩ := id B
    obtain ⟨_, al, _, _⟩ := ap_parts av
    
    have ly : ys.length ≤ 12 := by
      obtain ⟨⟨_, n2⟩, _⟩ := ap_parts av
      have h := congrArg List.length (keys_of al)
      rw [List.length_map, List.length_map] at h
      rw [pm.length_eq]
      omega
    have ndy : ys.Nodup := pm.nodup_iff.mpr (keys_nd al nd)
    have pi : H tp = some (.tup (ys.map V.str)) := by
      rw [A.pi]
      unfold psOf
      rw [List.map_map]
      rfl
    refine ⟨_, rfl, b, C, dx, _, _, rfl, A.ob, T.cl, T.n_own_pieces, bf_pieces, tp, rfl, ⟨_, SqT.of pi⟩, fun D hD => ?_⟩
    refine dcs ys (walk_tupF (K := K) V.str ys) (fun z => (Sum.inr z, .int (priceIn kvs z))) (nd_map (f := fun z : Str => (Sum.inr z : Key)) (fun _ _ h => Sum.inr.inj h) ndy) hD (by omega) (fun H' s => SqT.of (s _ _ pi)) ?_ ?_
    · rintro i z x H3 H4 hi s3 ⟨rfl, z', ez, rfl⟩ N M hN
      have e1 : z = z' := Option.some.inj (hi.symm.trans ez)
      subst e1
      have hv : valV (kvOf (psOf kvs ys)) (Sum.inr z) = some (.int (priceIn kvs z)) := by
        rw [kvOf_ps, val_fun, if_pos (List.mem_of_getElem? hi)]
      exact ⟨wipe_set, _, rfl, _, rfl, b, C, dx, _, _, rfl, s3 _ _ A.ob, T.cl, T.n_own_prices, bf_prices, _, rfl, d, _, rfl, .inl ⟨_, Sum.inr z, .inr ⟨od, s3 _ _ A.dc⟩, rfl, hv.symm⟩, hN _ (Same.refl _)⟩
    rintro H3 s3 e3
    exact k D ys H3 hD pm so (by rw [e3, kvOf_ps]) s3
theorem sc_least_price : FnScope ["prices", "text", "found", "end", "start", "piece"] ["prices", "text"] (defScope s_least_price) := ⟨rfl, rfl, rfl, by decide +kernel, rfl, by decide +kernel, by decide +kernel⟩
theorem ok_least_price {f : Addr} {fd : FuncData} (F : Fun K "least_price" "least_price" s_least_price f fd) (T : Txt K mg C) : FnOk P w K mg base CX0 4 f fd ["prices", "text"] (spLeastPrice) := by
  refine F.ok sc_least_price (fun vs H Q E h => ?_) (fun cdv A outer s H vs Q E hr h => ?_)
  · obtain ⟨d, od, kvs, z, rfl, _⟩ := h
    rfl
  · have hu := hu_of hr
    obtain ⟨d, od, kvs, z, rfl, hd, tar, ov, hz, k⟩ := h
    refine ⟨_, (pss_cons (ps_set (i := 2) sc_least_price.nd rfl (Or.inr rfl) (pe_lst (pa_cons pe_int pa_nil)))
      (pss_cons (ps_for PassesOwn.never rfl (pi_range2 (by rfl) T.b_range (pa_cons pe_int (pa_cons (pe_op op_add (pe_callB call_len_str (by rfl) T.b_len (by decide +kernel) (pa_cons (pv 1) pa_nil)) pe_int) pa_nil))) (pg_name (i := 3) sc_least_price.nd rfl (Or.inr rfl)) (pss_cons (ps_set (i := 4) sc_least_price.nd rfl (Or.inr rfl) (pe_slice sl_str (pv 1) po_none (po_some (pv 3))))
      (pss_one (ps_expr (g_bm K PySem.F.plainAttrs_list PySem.F.slot_list_append PySem.F.type_list_append mt_append (pv 2) (pa_cons (pe_callB (g_min K rfl) (by rfl) T.b_min (by decide +kernel) (pa_cons (pe_lc (own := [("piece", 5)]) rfl sc_least_price.nd (pi_keys (pv 0)) (blkOk_by (own := [("piece", 5)]) (N := ["prices", "text", "found", "end", "start", "piece"]) (sc := defScope s_least_price) (by decide +kernel)) (fun _ _ _ _ _ => (pg_name (i := 5) sc_least_price.nd rfl (Or.inl rfl))) (fun _ _ _ _ _ => (pts_one (pt_val (pe_m1 PySem.F.slot_str_endswith PySem.F.type_str_endswith mt_endswith (pv 4) (pv 5))))) (fun _ _ _ _ _ => (pe_op op_add (pe_ix (g_ix_list K) (pv 2) (pe_op op_sub (pv 3) (pe_callB call_len_str (by rfl) T.b_len (by decide +kernel) (pa_cons (pv 5) pa_nil))) (fun _ _ => rfl)) (pe_dget hu (pv 0) (pv 5) (fun _ _ => rfl))))) pa_nil)) pa_nil))))))
      (pss_one (ps_ret (pe_ix (g_ix_list K) (pv 2) (pe_un un_neg pe_int) (fun _ _ => rfl)))))), ?_⟩
    have good := tar.good
    have lz := cs_len z
    refine ⟨(by show 1 ≤ sizeLine; decide), fun fo hfo => ?_⟩
    have nfd : d ≠ fo := ne_of_none hd hfo
    refine ⟨_, rfl, z, rfl, fits_sz (by omega), _, _, rfl, rfl, 1, _, rfl, ⟨by omega, by omega, by omega, by omega⟩, for_range (lo := 1) (Pv := fun i σ H' => ∃ u v w, σ = [some (.ref d), some (.str z), some (.ref fo), u, v, w] ∧ Same H H' ∧ H' fo = some (.lst (rowV (tfD kvs) (cs z) (i + 1))))
      ⟨_, _, _, rfl, same_new hfo, by rw [upd_same, rowV_one good]⟩ ?_ ?_⟩
    · rintro i σ H1 hi ⟨u, v, w, rfl, s1, f1⟩
      have hi' : i < z.length := by omega
      have d1 := s1 _ _ hd
      have e1 : (1 : Int) + (i : Int) = ((i + 1 : Nat) : Int) := by omega
      rw [e1]
      refine ⟨_, rfl, _, rfl, _, rfl, _, rfl, fits_sz (by omega), ?_⟩
      have hst : cs (cutS z none (some ((i + 1 : Nat) : Int))) = (cs z).take (i + 1) := cs_cutTo (by omega)
      have lst : (cutS z none (some ((i + 1 : Nat) : Int))).length = i + 1 := by
        rw [← cs_len, hst, List.length_take]
        omega
      dsimp only [gName]
      generalize cutS z none (some ((i + 1 : Nat) : Int)) = st at hst lst ⊢
      refine ⟨_, rfl, .inl ⟨rfl, _, SqL.of f1⟩, _, rfl, d, od, rfl, .inl ⟨kvs, d1, fun D hD => ?_⟩⟩
      refine lcs kvs walk_keys (fun kv => (candG (tfD kvs) (cs z) (i + 1) st kv).map V.int) hD (by have := tar.len; omega) (fun H' s => s _ _ d1) ?_ ?_
      · rintro j kv x H2 H3 hj s2 ⟨rfl, k', v', ek, rfl⟩ N M hN hM
        have ekv : kv = (k', v') := Option.some.inj (hj.symm.trans ek)
        subst ekv
        obtain ⟨y, p, ey, hp⟩ := tar.mem _ (List.mem_of_getElem? hj)
        cases ey
        have ly := good.len y p hp
        rw [cs_len] at ly
        refine ⟨wipe_set, _, rfl, ⟨_, rfl⟩, _, rfl, _, _, rfl, rfl, _, rfl, ?_⟩
        refine itB (fun q => ?_) (fun q => ?_)
        · obtain ⟨a, ha⟩ := ends_iff.mp q
          have la := congrArg List.length ha
          rw [List.length_append, cs_len, cs_len, lst] at la
          refine ⟨_, rfl, _, rfl, _, rfl, _, rfl, fits_sz (by omega), _, _, rfl, rfl, fo, _, _, _, rfl, rfl, SqL.of (s2 _ _ f1), at_of (j := i + 1 - y.length) (by omega) (rowV_at (by omega)), _, rfl, _, rfl, d, _, rfl, .inl ⟨kvs, Sum.inr y, .inr ⟨od, s2 _ _ d1⟩, rfl, (tf_some.mp hp).symm⟩, _, _, rfl, rfl, hN _ _ ?_ (Same.refl _)⟩
          show (if Txt.endswith st y = true then some (lp (tfD kvs) ((cs z).take (i + 1 - y.length)) + p) else none).map V.int = _
          rw [if_pos q]
          rfl
        · refine hM _ ?_ (Same.refl _)
          show (if Txt.endswith st y = true then some (lp (tfD kvs) ((cs z).take (i + 1 - y.length)) + p) else none).map V.int = _
          rw [if_neg (by rw [q]; exact Bool.false_ne_true)]
          rfl
      rintro H2 s2 e2
      rw [fm_int] at e2
      obtain ⟨pos, least⟩ := cand_min tar ov hst (by omega) (by omega)
      refine ⟨D, _, rfl, SqL.of e2, pos, fun m hm hl => ?_⟩
      have em := least m hm hl
      subst em
      refine ⟨fo, _, _, rfl, rfl, s2 _ _ f1, by rw [rowV_len]; exact small1000' (by omega), ?_⟩
      refine ⟨_, _, _, rfl, same_mut (s1.trans s2) hfo, ?_⟩
      rw [upd_same, rowV_succ (n := i + 1)]
    · rintro σ H1 ⟨u, v, w, rfl, s1, f1⟩
      have e1 : ((z.length : Int) + 1 - 1).toNat = z.length := by omega
      rw [e1] at f1
      refine ⟨_, rfl, _, rfl, fo, _, _, _, rfl, rfl, SqL.of f1, by rw [rowV_succ]; exact atI_last, ?_⟩
      have e2 : (cs z).take z.length = cs z := List.take_of_length_le (by omega)
      rw [e2]
      exact k _ s1
theorem sc_require_book : FnScope ["value"] ["value"] (defScope s_require_book) := ⟨rfl, rfl, rfl, by decide +kernel, rfl, by decide +kernel, by decide +kernel⟩
theorem ok_require_book {f : Addr} {fd : FuncData} (F : Fun K "require_book" "require_book" s_require_book f fd) (T : Txt K mg C) : FnOk P w K mg base CX0 1 f fd ["value"] (spReqBook C) := by
  refine F.ok sc_require_book (fun vs H Q E h => ?_) (fun cdv A outer s H vs Q E hr h => ?_)
  · obtain ⟨b, dx, fs, rfl, _⟩ := h
    rfl
  · have hu := hu_of hr
    obtain ⟨b, dx, fs, rfl, hb, k⟩ := h
    refine ⟨_, (pss_one (ps_if (pt_not (pt_val (pe_callB (C8.call_isC T.ic) (by rfl) T.b_isinstance (by decide +kernel) (pa_cons (pv 0) (pa_cons (pe_glob (v := .ref C) rfl T.gC rfl) pa_nil))))) (pss_one ps_never) pss_nil)), ?_⟩
    exact ⟨_, rfl, b, dx, fs, rfl, hb, true, rfl, k⟩
theorem sc_require_comparable : FnScope ["book", "other"] ["book", "other"] (defScope s_require_comparable) := ⟨rfl, rfl, rfl, by decide +kernel, rfl, by decide +kernel, by decide +kernel⟩
theorem ok_require_comparable {f : Addr} {fd : FuncData} (F : Fun K "require_comparable" "require_comparable" s_require_comparable f fd) (T : Txt K mg C) (c_require_book : HasO P w K mg base CX0 1 "require_book" ["value"] (spReqBook C)) : FnOk P w K mg base CX0 2 f fd ["book", "other"] (spReqCmp C) := by
  refine F.ok sc_require_comparable (fun vs H Q E h => ?_) (fun cdv A outer s H vs Q E hr h => ?_)
  · obtain ⟨k1, k2, ⟨b1, b2, rfl, _⟩, _⟩ := h
    rfl
  · have hu := hu_of hr
    obtain ⟨k1, k2, ⟨b1, b2, rfl, B1, B2, ss⟩, k⟩ := h
    obtain ⟨av1, nd1, ys1, L1, M1, dx1, d1, tp1, ta1, od1, pm1, so1, A1⟩ := id B1
    obtain ⟨av2, nd2, ys2, L2', M2, dx2, d2, tp2, ta2, od2, pm2, so2, A2⟩ := id B2
    obtain ⟨_, al1, _, _⟩ := ap_parts av1
    obtain ⟨_, al2, _, _⟩ := ap_parts av2
    refine ⟨_, (pss_cons (ps_expr (pe_hasO c_require_book (hr.mono (by decide)) pass0 (pa_cons (pv 0) pa_nil)))
      (pss_cons (ps_expr (pe_hasO c_require_book (hr.mono (by decide)) pass0 (pa_cons (pv 1) pa_nil)))
      (pss_one (ps_if (pt_cmpR (g_neD K hr.units) (g_fld K (pv 0)) (g_fld K (pv 1)) (nomark _)) (pss_one ps_never) pss_nil)))), ?_⟩
    have hsg := sgn_eq al1 al2 nd1 nd2 pm1 pm2 so1 so2 ss
    have hl : ∀ z ∈ sgn (psOf k2 ys2), ∀ c ∈ cs z, lett c = true := fun z hz => by
      rw [sgn_ps] at hz
      exact (keyStrs_piece al2 z (pm2.mem_iff.mp (List.mem_filter.mp hz).1)).2.2
    refine ⟨_, rfl, b1, dx1, _, rfl, A1.ob, ?_⟩
    refine ⟨_, rfl, b2, dx2, _, rfl, A2.ob, ?_⟩
    refine ⟨_, rfl, b1, C, dx1, _, _, rfl, A1.ob, T.cl, T.n_own_alphabet, bf_alphabet, _, rfl, b2, C, dx2, _, _, rfl, A2.ob, T.cl, T.n_own_alphabet, bf_alphabet, .tuple ((sgn (psOf k1 ys1)).map PyData.str), .tuple ((sgn (psOf k2 ys2)).map PyData.str), .tup (SqT.of A1.al) (dpAll_strs _), .tup (SqT.of A2.al) (dpAll_strs _), by rw [hsg]; exact shaped_strs hl, shaped_strs hl, ?_⟩
    refine ⟨false, congrArg V.bl (by rw [hsg, eqv_strs hl]; rfl), ?_⟩
    exact k _ (Same.refl _)
theorem sc_dearer_in : FnScope ["book", "other", "piece", "price"] ["book", "other"] (defScope s_dearer_in) := ⟨rfl, rfl, rfl, by decide +kernel, rfl, by decide +kernel, by decide +kernel⟩
theorem ok_dearer_in {f : Addr} {fd : FuncData} (F : Fun K "dearer_in" "dearer_in" s_dearer_in f fd) (T : Txt K mg C) (c_least_price : HasO P w K mg base CX0 4 "least_price" ["prices", "text"] (spLeastPrice)) : FnOk P w K mg base CX0 5 f fd ["book", "other"] (spDearer C) := by
  refine F.ok sc_dearer_in (fun vs H Q E h => ?_) (fun cdv A outer s H vs Q E hr h => ?_)
  · obtain ⟨k1, k2, ⟨b1, b2, rfl, _⟩, _⟩ := h
    rfl
  · have hu := hu_of hr
    obtain ⟨k1, k2, ⟨b1, b2, rfl, B1, B2, ss⟩, k⟩ := h
    obtain ⟨av1, nd1, ys1, L1, M1, dx1, d1, tp1, ta1, od1, pm1, so1, A1⟩ := id B1
    obtain ⟨av2, nd2, ys2, L2', M2, dx2, d2, tp2, ta2, od2, pm2, so2, A2⟩ := id B2
    obtain ⟨_, al1, _, _⟩ := ap_parts av1
    obtain ⟨_, al2, _, _⟩ := ap_parts av2
    refine ⟨_, (pss_cons (ps_for PassesOwn.never rfl (pi_items (g_fld K (pv 1))) (g_tup K (n := 2) rfl (pgs_cons (pg_name (i := 2) sc_dearer_in.nd rfl (Or.inl rfl)) (pgs_cons (pg_name (i := 3) sc_dearer_in.nd rfl (Or.inl rfl)) pgs_nil))) (pss_one (ps_if (pt_cmpR op_gt (pe_hasO c_least_price (hr.mono (by decide)) pass0 (pa_cons (g_fld K (pv 0)) (pa_cons (pv 2) pa_nil))) (pv 3) (nomark _)) (pss_one (ps_ret (pv 2))) pss_nil)))
      (pss_one (ps_ret pe_non))), ?_⟩
    have tar1 := tar_book av1 pm1
    have e1 := tf_psOf al1 pm1
    have tar2 := tar_of av2 nd2
    refine ⟨_, rfl, b2, C, dx2, _, _, rfl, A2.ob, T.cl, T.n_own_prices, bf_prices, d2, od2, kvOf (psOf k2 ys2), rfl, A2.dc, for_it walk_items (Pv := fun i σ H' => ∃ u v, σ = [some (.ref b1), some (.ref b2), u, v] ∧ Same H H' ∧ ∀ j z, j < i → ys2[j]? = some z → lp (tfD k1) (cs z) ≤ priceIn k2 z)
      ⟨_, _, rfl, Same.refl _, fun _ _ h => absurd h (Nat.not_lt_zero _)⟩ (fun i σ H' hi q => by obtain ⟨u, v, _, s, _⟩ := q; exact s _ _ A2.dc) ?_ ?_⟩
    · rintro i x σ H1 H2 hi ⟨u, v, rfl, s1, low⟩ ⟨Tt, xk, xv, rfl, hT, rfl, ek, ev⟩
      dsimp only at ek ev
      rw [kvOf_ps, List.getElem?_map] at ek ev
      obtain ⟨z, hz⟩ : ∃ z, ys2[i]? = some z := by
        cases e : ys2[i]? with
        | none =>
          rw [e] at ek
          cases ek
        | some z => exact ⟨z, rfl⟩
      rw [hz] at ek ev
      cases ek
      cases ev
      have hzk := pm2.mem_iff.mp (List.mem_of_getElem? hz)
      have hp : tfD k2 z = some (priceIn k2 z) := tf_some.mpr (price_of_key al2 hzk).1
      have ov : Over (tfD k1) (cs z) := fun c hc => (ss c).mpr (tar2.good.cov z _ hp c hc)
      have s2 : Same H (upd H1 Tt (.tup [kV (Sum.inr z), V.int (priceIn k2 z)])) := s1.trans (same_new hT)
      refine ⟨Tt, _, rfl, SqT.of upd_same, rfl, _, _, rfl, _, _, rfl, rfl, ?_⟩
      refine ⟨_, rfl, b1, C, dx1, _, _, rfl, s2 _ _ A1.ob, T.cl, T.n_own_prices, bf_prices, _, rfl, d1, od1, _, z, rfl, s2 _ _ A1.dc, tar1, by rw [e1]; exact ov, by have := (tar2.good.len z _ hp).2; rw [cs_len] at this; omega, fun H3 s3 => ?_⟩
      rw [e1]
      refine ⟨_, rfl, _, _, rfl, rfl, _, rfl, ?_⟩
      refine itB (fun q => ?_) (fun q => ?_)
      · refine ⟨_, rfl, k _ _ (s2.trans s3) (Or.inr ⟨z, _, rfl, hp, by have := of_decide_eq_true q; omega, fun z' p' hp' hlt => ?_⟩)⟩
        obtain ⟨j, hj⟩ := List.getElem?_of_mem (pm2.mem_iff.mpr ((tf_key al2).mpr ⟨p', hp'⟩))
        have ep : p' = priceIn k2 z' := by
          have h1 := (price_of_key al2 ((tf_key al2).mpr ⟨p', hp'⟩)).1
          rw [tf_some.mp hp'] at h1
          exact V.int.inj (Option.some.inj h1)
        rw [ep]
        refine low j z' ?_ hj
        rcases Nat.lt_trichotomy j i with h | h | h
        · exact h
        · subst h
          rw [hz] at hj
          cases hj
          exact absurd hlt (List.lt_irrefl _)
        · obtain ⟨l1, g1⟩ := List.getElem?_eq_some_iff.mp hz
          obtain ⟨l2, g2⟩ := List.getElem?_eq_some_iff.mp hj
          have h5 := List.pairwise_iff_getElem.mp (so_pw so2) i j l1 l2 h
          rw [g1, g2] at h5
          exact absurd hlt (List.not_lt.mpr h5)
      · refine ⟨_, _, rfl, s2.trans s3, fun j z' hj hz' => ?_⟩
        rcases Nat.lt_or_ge j i with h | h
        · exact low j z' h hz'
        · have ej : j = i := by omega
          subst ej
          rw [hz] at hz'
          cases hz'
          have := of_decide_eq_false q
          omega
    · rintro σ H1 ⟨u, v, rfl, s1, low⟩
      refine k _ _ s1 (Or.inl ⟨rfl, fun z p hp => ?_⟩)
      have hk := (tf_key al2).mpr ⟨p, hp⟩
      obtain ⟨j, hj⟩ := List.getElem?_of_mem (pm2.mem_iff.mpr hk)
      have h1 := (price_of_key al2 hk).1
      rw [tf_some.mp hp] at h1
      rw [V.int.inj (Option.some.inj h1)]
      refine low j z ?_ hj
      have := (List.getElem?_eq_some_iff.mp hj).1
      rw [kvOf_ps, List.length_map]
      exact this
theorem sc_is_nowhere_dearer : FnScope ["book", "other"] ["book", "other"] (defScope s_is_nowhere_dearer) := ⟨rfl, rfl, rfl, by decide +kernel, rfl, by decide +kernel, by decide +kernel⟩
theorem ok_is_nowhere_dearer {f : Addr} {fd : FuncData} (F : Fun K "is_nowhere_dearer" "is_nowhere_dearer" s_is_nowhere_dearer f fd) (T : Txt K mg C) (c_require_comparable : HasO P w K mg base CX0 2 "require_comparable" ["book", "other"] (spReqCmp C)) (c_dearer_in : HasO P w K mg base CX0 5 "dearer_in" ["book", "other"] (spDearer C)) : FnOk P w K mg base CX0 6 f fd ["book", "other"] (spNowhere C) := by
  refine F.ok sc_is_nowhere_dearer (fun vs H Q E h => ?_) (fun cdv A outer s H vs Q E hr h => ?_)
  · obtain ⟨k1, k2, ⟨b1, b2, rfl, _⟩, _⟩ := h
    rfl
  · have hu := hu_of hr
    obtain ⟨k1, k2, ⟨b1, b2, rfl, B1, B2, ss⟩, k⟩ := h
    refine ⟨_, (pss_cons (ps_expr (pe_hasO c_require_comparable (hr.mono (by decide)) pass0 (pa_cons (pv 0) (pa_cons (pv 1) pa_nil))))
      (pss_one (ps_ret (pe_cmpR op_isN (pe_hasO c_dearer_in (hr.mono (by decide)) pass0 (pa_cons (pv 0) (pa_cons (pv 1) pa_nil))) pe_non (nomark _))))), ?_⟩
    refine ⟨_, rfl, _, rfl, k1, k2, ⟨b1, b2, rfl, B1, B2, ss⟩, fun H1 s1 => ?_⟩
    refine ⟨_, rfl, _, rfl, k1, k2, ⟨b1, b2, rfl, B1.same s1, B2.same s1, ss⟩, fun r H2 s2 dr => ?_⟩
    exact ⟨rfl, k _ _ (s1.trans s2) (dear_non dr)⟩
theorem sc_dearer_piece : FnScope ["book", "other"] ["book", "other"] (defScope s_dearer_piece) := ⟨rfl, rfl, rfl, by decide +kernel, rfl, by decide +kernel, by decide +kernel⟩
theorem ok_dearer_piece {f : Addr} {fd : FuncData} (F : Fun K "dearer_piece" "dearer_piece" s_dearer_piece f fd) (T : Txt K mg C) (c_require_comparable : HasO P w K mg base CX0 2 "require_comparable" ["book", "other"] (spReqCmp C)) (c_dearer_in : HasO P w K mg base CX0 5 "dearer_in" ["book", "other"] (spDearer C)) : FnOk P w K mg base CX0 6 f fd ["book", "other"] (spDearer C) := by
  refine F.ok sc_dearer_piece (fun vs H Q E h => ?_) (fun cdv A outer s H vs Q E hr h => ?_)
  · obtain ⟨k1, k2, ⟨b1, b2, rfl, _⟩, _⟩ := h
    rfl
  · have hu := hu_of hr
    obtain ⟨k1, k2, ⟨b1, b2, rfl, B1, B2, ss⟩, k⟩ := h
    refine ⟨_, (pss_cons (ps_expr (pe_hasO c_require_comparable (hr.mono (by decide)) pass0 (pa_cons (pv 0) (pa_cons (pv 1) pa_nil))))
      (pss_one (ps_ret (pe_hasO c_dearer_in (hr.mono (by decide)) pass0 (pa_cons (pv 0) (pa_cons (pv 1) pa_nil)))))), ?_⟩
    refine ⟨_, rfl, _, rfl, k1, k2, ⟨b1, b2, rfl, B1, B2, ss⟩, fun H1 s1 => ?_⟩
    refine ⟨_, rfl, _, rfl, k1, k2, ⟨b1, b2, rfl, B1.same s1, B2.same s1, ss⟩, fun r H2 s2 dr => ?_⟩
    exact k _ _ (s1.trans s2) dr
theorem sc_are_as_cheap : FnScope ["book", "other"] ["book", "other"] (defScope s_are_as_cheap) := ⟨rfl, rfl, rfl, by decide +kernel, rfl, by decide +kernel, by decide +kernel⟩
theorem ok_are_as_cheap {f : Addr} {fd : FuncData} (F : Fun K "are_as_cheap" "are_as_cheap" s_are_as_cheap f fd) (T : Txt K mg C) (c_require_comparable : HasO P w K mg base CX0 2 "require_comparable" ["book", "other"] (spReqCmp C)) (c_dearer_in : HasO P w K mg base CX0 5 "dearer_in" ["book", "other"] (spDearer C)) : FnOk P w K mg base CX0 6 f fd ["book", "other"] (spAsCheap C) := by
  refine F.ok sc_are_as_cheap (fun vs H Q E h => ?_) (fun cdv A outer s H vs Q E hr h => ?_)
  · obtain ⟨k1, k2, ⟨b1, b2, rfl, _⟩, _⟩ := h
    rfl
  · have hu := hu_of hr
    obtain ⟨k1, k2, ⟨b1, b2, rfl, B1, B2, ss⟩, k⟩ := h
    refine ⟨_, (pss_cons (ps_expr (pe_hasO c_require_comparable (hr.mono (by decide)) pass0 (pa_cons (pv 0) (pa_cons (pv 1) pa_nil))))
      (pss_one (ps_ret (pe_and (pe_cmpR op_isN (pe_hasO c_dearer_in (hr.mono (by decide)) pass0 (pa_cons (pv 0) (pa_cons (pv 1) pa_nil))) pe_non (nomark _)) (pe_one (pe_cmpR op_isN (pe_hasO c_dearer_in (hr.mono (by decide)) pass0 (pa_cons (pv 1) (pa_cons (pv 0) pa_nil))) pe_non (nomark _))))))), ?_⟩
    refine ⟨_, rfl, _, rfl, k1, k2, ⟨b1, b2, rfl, B1, B2, ss⟩, fun H1 s1 => ?_⟩
    refine ⟨_, rfl, _, rfl, k1, k2, ⟨b1, b2, rfl, B1.same s1, B2.same s1, ss⟩, fun r H2 s2 dr => ?_⟩
    refine ⟨rfl, _, rfl, ?_⟩
    have n1 := dear_non dr
    refine itB (fun q => ?_) (fun q => ?_)
    · refine ⟨_, rfl, _, rfl, k2, k1, ⟨b2, b1, rfl, (B2.same s1).same s2, (B1.same s1).same s2, ss.symm⟩, fun r' H3 s3 dr' => ?_⟩
      refine ⟨rfl, k _ _ (s1.trans (s2.trans s3)) ?_⟩
      rw [dear_non dr']
      exact ⟨fun h => ⟨n1.mp q, h⟩, fun h => h.2⟩
    · refine k _ _ (s1.trans s2) ?_
      have no : ¬ NoDear (tfD k1) (tfD k2) := fun h => absurd ((n1.mpr h).symm.trans q) (by decide)
      exact ⟨fun h => absurd h (by decide), fun h => absurd h.1 no⟩
theorem sc_needless_in : FnScope ["book", "found", "piece", "price", "others", "one"] ["book"] (defScope s_needless_in) := ⟨rfl, rfl, rfl, by decide +kernel, rfl, by decide +kernel, by decide +kernel⟩
theorem ok_needless_in {f : Addr} {fd : FuncData} (F : Fun K "needless_in" "needless_in" s_needless_in f fd) (T : Txt K mg C) (c_least_price : HasO P w K mg base CX0 4 "least_price" ["prices", "text"] (spLeastPrice)) : FnOk P w K mg base CX0 5 f fd ["book"] (spNeedIn C) := by
  refine F.ok sc_needless_in (fun vs H Q E h => ?_) (fun cdv A outer s H vs Q E hr h => ?_)
  · obtain ⟨b, kvs, rfl, _⟩ := h
    rfl
  · have hu := hu_of hr
    obtain ⟨b, kvs, rfl, B, k⟩ := h
    refine ⟨_, (pss_cons (ps_set (i := 1) sc_needless_in.nd rfl (Or.inl rfl) (pe_lst pa_nil))
      (pss_cons (ps_for PassesOwn.never rfl (pi_items (g_fld K (pv 0))) (g_tup K (n := 2) rfl (pgs_cons (pg_name (i := 2) sc_needless_in.nd rfl (Or.inr rfl)) (pgs_cons (pg_name (i := 3) sc_needless_in.nd rfl (Or.inl rfl)) pgs_nil))) (pss_cons (ps_setDc (i := 4) (own := [("one", 5)]) rfl sc_needless_in.nd rfl rfl (sw_trueD rfl rfl rfl (by decide +kernel)) (g_tuple K (g_fld K (pv 0))) (blkOk_by (own := [("one", 5)]) (N := ["book", "found", "piece", "price", "others", "one"]) (sc := defScope s_needless_in) (by decide +kernel)) (fun _ _ _ _ _ => (pg_name (i := 5) sc_needless_in.nd rfl (Or.inl rfl))) (fun _ _ _ _ _ => (pts_one (pt_cmpR op_ne (pv 5) (pv 2) (nomark _)))) (fun _ _ _ _ _ => (pv 5)) (fun _ _ _ _ _ => (pe_dget hu (g_fld K (pv 0)) (pv 5) (fun _ _ => rfl))))
      (pss_one (ps_if (PW.pt (pw_and (pt_cmpR op_gt (pe_callB call_len_str (by rfl) T.b_len (by decide +kernel) (pa_cons (pv 2) pa_nil)) pe_int (nomark _)) (pw_and1 (pt_cmpR op_le (pe_lock (by exact (pe_hasO c_least_price (hr.mono (by decide)) pass0 (pa_cons (pv 4) (pa_cons (pv 2) pa_nil))))) (pv 3) (nomark _))))) (pss_one (ps_expr (g_bm K PySem.F.plainAttrs_list PySem.F.slot_list_append PySem.F.type_list_append mt_append (pv 1) (pa_cons (pv 2) pa_nil)))) pss_nil))))
      (pss_one (ps_ret (pv 1))))), ?_⟩
    obtain ⟨av, nd, ys, L, M, dx, d, tp, ta, od, pm, so, A⟩ := id B
    obtain ⟨_, al, _, _⟩ := ap_parts av
    have tar := tar_of av nd
    have ly : ys.length ≤ 12 := by
      obtain ⟨⟨_, n2⟩, _⟩ := ap_parts av
      have h := congrArg List.length (keys_of al)
      rw [List.length_map, List.length_map] at h
      rw [pm.length_eq]
      omega
    have ndy : ys.Nodup := pm.nodup_iff.mpr (keys_nd al nd)
    have pi : H tp = some (.tup (ys.map V.str)) := by
      rw [A.pi]
      unfold psOf
      rw [List.map_map]
      rfl
    
    refine ⟨by show 0 ≤ sizeLine; decide, fun fo hfo => ?_⟩
    refine ⟨_, rfl, b, C, dx, _, _, rfl, same_new hfo _ _ A.ob, T.cl, T.n_own_prices, bf_prices, d, od, kvOf (psOf kvs ys), rfl, same_new hfo _ _ A.dc, for_it walk_items (Pv := fun i σ H' => ∃ u v w y, σ = [some (.ref b), some (.ref fo), u, v, w, y] ∧ Same H H' ∧ H' fo = some (.lst (((ys.take i).filter (needB kvs)).map V.str)))
      ⟨_, _, _, _, rfl, same_new hfo, upd_same⟩ (fun i σ H' hi q => by obtain ⟨_, _, _, _, _, s, _⟩ := q; exact s _ _ A.dc) ?_ ?_⟩
    · rintro i x σ H1 H2 hi ⟨u, v, w, y, rfl, s1, f1⟩ ⟨Tt, xk, xv, rfl, hT, rfl, ek, ev⟩
      dsimp only at ek ev
      rw [kvOf_ps, List.getElem?_map] at ek ev
      obtain ⟨z, hz⟩ : ∃ z, ys[i]? = some z := by
        cases e : ys[i]? with
        | none =>
          rw [e] at ek
          cases ek
        | some z => exact ⟨z, rfl⟩
      rw [hz] at ek ev
      cases ek
      cases ev
      have hzk := pm.mem_iff.mp (List.mem_of_getElem? hz)
      have hp : tfD kvs z = some (priceIn kvs z) := tf_some.mpr (price_of_key al hzk).1
      have lz := cs_len z
      have lz5 := tar.good.len z _ hp
      have s2 : Same H (upd H1 Tt (.tup [kV (Sum.inr z), V.int (priceIn kvs z)])) := s1.trans (same_new hT)
      have f2 := same_new hT (o := .tup [kV (Sum.inr z), V.int (priceIn kvs z)]) _ _ f1
      refine ⟨Tt, _, rfl, SqT.of upd_same, rfl, _, _, rfl, _, _, rfl, rfl, ?_⟩
      generalize (upd H1 Tt (.tup [kV (Sum.inr z), V.int (priceIn kvs z)])) = H2 at s2 f2 ⊢
      refine ⟨_, rfl, b, C, dx, _, _, rfl, s2 _ _ A.ob, T.cl, T.n_own_pieces, bf_pieces, tp, rfl, ⟨_, SqT.of (s2 _ _ pi)⟩, fun D hD => ?_⟩
      refine dcsF ys (walk_tupF (K := K) V.str ys) (fun y => !decide (y = z)) (fun y => (Sum.inr y, .int (priceIn kvs y))) (nd_map (f := fun z : Str => (Sum.inr z : Key)) (fun _ _ h => Sum.inr.inj h) ndy) hD (by omega) (fun H' s => SqT.of (s _ _ (s2 _ _ pi))) ?_ ?_
      · rintro j y' x H3 H4 hj s3 ⟨rfl, z', ez, rfl⟩ N M hN hM
        have e1 : y' = z' := Option.some.inj (hj.symm.trans ez)
        subst e1
        have hv : valV (kvOf (psOf kvs ys)) (Sum.inr y') = some (.int (priceIn kvs y')) := by
          rw [kvOf_ps, val_fun, if_pos (List.mem_of_getElem? hj)]
        refine ⟨wipe_set, _, rfl, _, rfl, rfl, _, rfl, ?_⟩
        refine itB (fun q => ?_) (fun q => ?_)
        · exact ⟨_, rfl, _, rfl, b, C, dx, _, _, rfl, (s2.trans s3) _ _ A.ob, T.cl, T.n_own_prices, bf_prices, _, rfl, d, _, rfl, .inl ⟨_, Sum.inr y', .inr ⟨od, (s2.trans s3) _ _ A.dc⟩, rfl, hv.symm⟩, hN _ (ne_key q) (Same.refl _)⟩
        · exact hM _ (ne_key q) (Same.refl _)
      rintro H3 s3 d3
      have f3 := s3 _ _ f2
      have s23 := s2.trans s3
      have e1 : ys.take (i + 1) = ys.take i ++ [z] := by
        rw [List.take_add_one, hz]
        rfl
      have d3' : H3 D = some (.dK (others kvs ys z)) := d3
      have go : ∀ H', Same H3 H' → needB kvs z = false → Same H H' ∧ H' fo = some (.lst (((ys.take (i + 1)).filter (needB kvs)).map V.str)) := fun H' s' nb => by
        refine ⟨s23.trans s', ?_⟩
        have e2 : [z].filter (needB kvs) = [] := by simp [nb]
        rw [e1, List.filter_append, e2, List.append_nil]
        exact s' _ _ f3
      refine ⟨_, rfl, z, rfl, fits_sz (by omega), _, _, rfl, rfl, _, rfl, ?_⟩
      refine itB (fun q1 => ?_) (fun q1 => ?_)
      · have hz1 : 1 < (cs z).length := by
          have := of_decide_eq_true q1
          omega
        have tarO := tar_others av pm ndy (by omega) hz1
        have eF := tf_others (z := z) al pm
        have ov : Over (tfD (others kvs ys z)) (cs z) := by
          rw [eF]
          exact rem_over hz1 (tar.good.cov z _ hp)
        refine ⟨D, _, d3', trivial, fun od3 => ?_⟩
        refine ⟨_, rfl, _, rfl, D, od3, others kvs ys z, z, rfl, upd_same, tarO, ov, by omega, fun H4 s4 => ⟨s4 _ _ upd_same, ?_⟩⟩
        rw [eF]
        have s5 : Same H3 (upd H4 D (.dK (others kvs ys z))) := unlock d3' s4
        refine ⟨_, rfl, _, _, rfl, rfl, _, rfl, ?_⟩
        refine itB (fun q2 => ?_) (fun q2 => ?_)
        · have nb : needB kvs z = true := by
            unfold needB
            rw [decide_eq_true hz1, q2]
            rfl
          refine ⟨_, rfl, .inl ⟨rfl, _, SqL.of (s5 _ _ f3)⟩, _, rfl, fo, _, _, rfl, rfl, s5 _ _ f3, ?_, ?_⟩
          · have h1 := List.length_filter_le (needB kvs) (ys.take i)
            rw [List.length_take] at h1
            rw [List.length_map]
            exact small1000' (by omega)
          · refine ⟨_, _, _, _, rfl, same_mut (s23.trans s5) hfo, ?_⟩
            have e2 : [z].filter (needB kvs) = [z] := by simp [nb]
            rw [upd_same, e1, List.filter_append, e2, List.map_append]
            rfl
        · have nb : needB kvs z = false := by
            unfold needB
            rw [q2, Bool.and_false]
          exact ⟨_, _, _, _, rfl, go _ s5 nb⟩
      · have nb : needB kvs z = false := by
          unfold needB
          have h1 := of_decide_eq_false q1
          rw [decide_eq_false (by omega : ¬ 1 < (cs z).length), Bool.false_and]
        exact ⟨_, _, _, _, rfl, go _ (Same.refl _) nb⟩
    · rintro σ H1 ⟨u, v, w, y, rfl, s1, f1⟩
      have el : (kvOf (psOf kvs ys)).length = ys.length := by rw [kvOf_ps, List.length_map]
      rw [el, List.take_length] at f1
      refine ⟨_, rfl, k fo (ys.filter (needB kvs)) H1 hfo f1 (fun z => ?_) ⟨(so_pw so).filter _, (pm.nodup_iff.mpr (keys_nd' B.nd al)).filter _⟩ s1⟩
      rw [List.mem_filter, pm.mem_iff]
      have pr : ∀ {p}, tfD kvs z = some p → p = priceIn kvs z := fun {p} h => by
        have h1 := (price_of_key al ((tf_key al).mpr ⟨p, h⟩)).1
        rw [tf_some.mp h] at h1
        exact V.int.inj (Option.some.inj h1)
      unfold needB Needless
      rw [Bool.and_eq_true, decide_eq_true_eq, decide_eq_true_eq, tf_key al]
      constructor
      · rintro ⟨⟨p, hp⟩, h1, h2⟩
        exact ⟨p, hp, h1, by rw [pr hp]; exact h2⟩
      · rintro ⟨p, hp, h1, h2⟩
        exact ⟨⟨p, hp⟩, h1, by rw [← pr hp]; exact h2⟩
theorem sc_needless : FnScope ["book"] ["book"] (defScope s_needless) := ⟨rfl, rfl, rfl, by decide +kernel, rfl, by decide +kernel, by decide +kernel⟩
theorem ok_needless {f : Addr} {fd : FuncData} (F : Fun K "needless" "needless" s_needless f fd) (T : Txt K mg C) (c_require_book : HasO P w K mg base CX0 1 "require_book" ["value"] (spReqBook C)) (c_needless_in : HasO P w K mg base CX0 5 "needless_in" ["book"] (spNeedIn C)) : FnOk P w K mg base CX0 6 f fd ["book"] (spNeed C) := by
  refine F.ok sc_needless (fun vs H Q E h => ?_) (fun cdv A outer s H vs Q E hr h => ?_)
  · obtain ⟨b, kvs, rfl, _⟩ := h
    rfl
  · have hu := hu_of hr
    obtain ⟨b, kvs, rfl, B, k⟩ := h
    refine ⟨_, (pss_cons (ps_expr (pe_hasO c_require_book (hr.mono (by decide)) pass0 (pa_cons (pv 0) pa_nil)))
      (pss_one (ps_ret (pe_callTy (g_tuple_of K) (by rfl) T.b_tuple (by decide +kernel) (pa_cons (pe_hasO c_needless_in (hr.mono (by decide)) pass0 (pa_cons (pv 0) pa_nil)) pa_nil))))), ?_⟩
    obtain ⟨av, nd, ys, L, M, dx, d, tp, ta, od, pm, so, A⟩ := id B
    obtain ⟨_, al, _, _⟩ := ap_parts av
    have tar := tar_of av nd
    have ly : ys.length ≤ 12 := by
      obtain ⟨⟨_, n2⟩, _⟩ := ap_parts av
      have h := congrArg List.length (keys_of al)
      rw [List.length_map, List.length_map] at h
      rw [pm.length_eq]
      omega
    have ndy : ys.Nodup := pm.nodup_iff.mpr (keys_nd al nd)
    have pi : H tp = some (.tup (ys.map V.str)) := by
      rw [A.pi]
      unfold psOf
      rw [List.map_map]
      rfl
    
    refine ⟨_, rfl, b, dx, _, rfl, A.ob, ?_⟩
    exact ⟨_, rfl, b, kvs, rfl, B, fun p zs H1 hp e1 hz hs s1 => ⟨p, _, rfl, .inl ⟨SqL.of e1, fun t ht => k t zs _ (s1.free ht) upd_same hz hs (s1.trans (same_new ht))⟩⟩⟩
theorem sc_least_book : FnScope ["book", "left_out", "piece", "price"] ["book"] (defScope s_least_book) := ⟨rfl, rfl, rfl, by decide +kernel, rfl, by decide +kernel, by decide +kernel⟩
theorem ok_least_book {f : Addr} {fd : FuncData} (F : Fun K "least_book" "least_book" s_least_book f fd) (T : Txt K mg C) (c_Book : C8.Mak P w K mg base 5 "Book" C (spBook C K) []) (c_require_book : HasO P w K mg base CX0 1 "require_book" ["value"] (spReqBook C)) (c_needless_in : HasO P w K mg base CX0 5 "needless_in" ["book"] (spNeedIn C)) : FnOk P w K mg base CX0 7 f fd ["book"] (spLeast C) := by
  refine F.ok sc_least_book (fun vs H Q E h => ?_) (fun cdv A outer s H vs Q E hr h => ?_)
  · obtain ⟨b, kvs, rfl, _⟩ := h
    rfl
  · have hu := hu_of hr
    obtain ⟨b, kvs, rfl, B, k⟩ := h
    refine ⟨_, (pss_cons (ps_expr (pe_hasO c_require_book (hr.mono (by decide)) pass0 (pa_cons (pv 0) pa_nil)))
      (pss_cons (ps_set (i := 1) sc_least_book.nd rfl (Or.inr rfl) (pe_hasO c_needless_in (hr.mono (by decide)) pass0 (pa_cons (pv 0) pa_nil)))
      (pss_one (ps_ret (C8.pe_mk c_Book hr (by decide) (by rfl) (pa_cons (pe_dc (own := [("piece", 2), ("price", 3)]) rfl sc_least_book.nd (pi_items (g_fld K (pv 0))) (blkOk_by (own := [("piece", 2), ("price", 3)]) (N := ["book", "left_out", "piece", "price"]) (sc := defScope s_least_book) (by decide +kernel)) (fun _ _ _ _ _ => (g_tup K (n := 2) rfl (pgs_cons (pg_name (i := 2) sc_least_book.nd rfl (Or.inl rfl)) (pgs_cons (pg_name (i := 3) sc_least_book.nd rfl (Or.inl rfl)) pgs_nil)))) (fun _ _ _ _ _ => (pts_one (pt_cmpR (g_notIn_seq K) (pv 2) (pv 1) (by rfl)))) (fun _ _ _ _ _ => (pv 2)) (fun _ _ _ _ _ => (pv 3))) pa_nil)))))), ?_⟩
    obtain ⟨av, nd, ys, L, M, dx, d, tp, ta, od, pm, so, A⟩ := id B
    obtain ⟨_, al, _, _⟩ := ap_parts av
    have tar := tar_of av nd
    have ly : ys.length ≤ 12 := by
      obtain ⟨⟨_, n2⟩, _⟩ := ap_parts av
      have h := congrArg List.length (keys_of al)
      rw [List.length_map, List.length_map] at h
      rw [pm.length_eq]
      omega
    have ndy : ys.Nodup := pm.nodup_iff.mpr (keys_nd al nd)
    have pi : H tp = some (.tup (ys.map V.str)) := by
      rw [A.pi]
      unfold psOf
      rw [List.map_map]
      rfl
    
    refine ⟨_, rfl, b, dx, _, rfl, A.ob, ?_⟩
    refine ⟨_, rfl, b, kvs, rfl, B, fun p zs H1 hp e1 hz hs s1 => ?_⟩
    have A1 := A.same s1
    refine ⟨_, rfl, b, C, dx, _, _, rfl, A1.ob, T.cl, T.n_own_prices, bf_prices, d, od, kvOf (psOf kvs ys), rfl, A1.dc, fun D hD => ?_⟩
    refine dcsF (kvOf (psOf kvs ys)) walk_items (fun kv => match kv.1 with | .inr y => !decide (y ∈ zs) | .inl _ => false) id (by
        rw [kvOf_ps, List.map_map]
        exact List.pairwise_map.mpr (List.Pairwise.imp (R := fun a b : Str => a ≠ b) (fun h e => h (Sum.inr.inj e)) ndy)) hD (by rw [kvOf_ps, List.length_map]; omega) (fun H' s => s _ _ A1.dc) ?_ ?_
    · rintro i a x H2 H3 hi s2 ⟨Tt, xk, xv, rfl, hT, rfl, ek, ev⟩ N M hN hM
      dsimp only at ek ev
      rw [hi] at ek ev
      cases ek
      cases ev
      obtain ⟨y, hy, rfl⟩ : ∃ y, y ∈ ys ∧ a = (Sum.inr y, V.int (priceIn kvs y)) := by
        have m := List.mem_of_getElem? hi
        rw [kvOf_ps] at m
        obtain ⟨y, hy, e⟩ := List.mem_map.mp m
        exact ⟨y, hy, e.symm⟩
      have sT := same_new hT (o := .tup [kV (Sum.inr y), V.int (priceIn kvs y)])
      refine ⟨Tt, _, rfl, SqT.of upd_same, rfl, _, _, rfl, _, _, rfl, rfl, rfl, _, rfl, _, rfl, p, _, rfl, .inl (SqL.of (sT _ _ (s2 _ _ e1))), rfl, flat_strs _, ?_⟩
      refine ⟨!decide (y ∈ zs), congrArg V.bl (by rw [← inV_str]; rfl), ?_⟩
      refine itB (fun q => ?_) (fun q => ?_)
      · exact ⟨_, rfl, _, rfl, hN _ q sT⟩
      · exact hM _ q sT
    · intro H2 s2 d2
      have e2 : (((kvOf (psOf kvs ys)).filter fun kv => match kv.1 with | .inr y => !decide (y ∈ zs) | .inl _ => false).map id) = partK kvs ys fun y => !decide (y ∈ zs) := by
        rw [List.map_id, kvOf_ps, List.filter_map]
        rfl
      rw [e2] at d2
      obtain ⟨av', nd'⟩ := part_book (q := fun y => !decide (y ∈ zs)) av nd pm fun c _ => by
        rw [decide_eq_false fun m => need_sign ((hz _).mp m)]
        rfl
      intro b' dx' hb' hdx' hne
      refine made_book hb' hdx' d2 av' nd' fun H3 s3 B3 => ⟨rfl, ?_⟩
      refine k b' _ H3 B3 (fun z q => ?_) ((s1.trans s2).trans s3)
      rw [tf_part al pm]
      by_cases m : z ∈ zs
      · rw [decide_eq_true m, if_neg (by decide)]
        constructor
        · intro h
          cases h
        · intro h
          exact absurd ((hz z).mp m) h.2
      · rw [decide_eq_false m, if_pos (by decide)]
        constructor
        · intro h
          exact ⟨h, fun n => m ((hz z).mpr n)⟩
        · intro h
          exact h.1
theorem sc_result_of : FnScope ["prices"] ["prices"] (defScope s_result_of) := ⟨rfl, rfl, rfl, by decide +kernel, rfl, by decide +kernel, by decide +kernel⟩
theorem ok_result_of {f : Addr} {fd : FuncData} (F : Fun K "result_of" "result_of" s_result_of f fd) (T : Txt K mg C) (c_Book : C8.Mak P w K mg base 5 "Book" C (spBook C K) []) (c_are_prices : HasO P w K mg base CX0 4 "are_prices" ["value"] (spArePrices K)) : FnOk P w K mg base CX0 7 f fd ["prices"] (spResult C) := by
  refine F.ok sc_result_of (fun vs H Q E h => ?_) (fun cdv A outer s H vs Q E hr h => ?_)
  · obtain ⟨d, kvs, rfl, _⟩ := h
    rfl
  · have hu := hu_of hr
    obtain ⟨d, kvs, rfl, hd, av, nd, k⟩ := h
    refine ⟨_, (pss_cons (ps_if (pt_not (pt_val (pe_hasO c_are_prices (hr.mono (by decide)) pass0 (pa_cons (pv 0) pa_nil)))) (pss_one ps_never) pss_nil)
      (pss_one (ps_ret (C8.pe_mk c_Book hr (by decide) (by rfl) (pa_cons (pv 0) pa_nil))))), ?_⟩
    refine ⟨_, rfl, _, rfl, .inr ⟨d, kvs, rfl, hd, by have := (ap_parts av).1.2; omega, kvOk_of (ap_parts av).2.1, fun H1 s1 => ⟨_, congrArg V.bl av, ?_⟩⟩⟩
    refine ⟨_, rfl, ?_⟩
    intro b dx hb hdx hne
    exact made_book hb hdx (s1 _ _ hd) av nd fun H2 s2 B2 => ⟨rfl, k b H2 B2 (s1.trans s2)⟩
theorem sc_is_ascending : FnScope ["values", "at"] ["values"] (defScope s_is_ascending) := ⟨rfl, rfl, rfl, by decide +kernel, rfl, by decide +kernel, by decide +kernel⟩
theorem ok_is_ascending {f : Addr} {fd : FuncData} (F : Fun K "is_ascending" "is_ascending" s_is_ascending f fd) (T : Txt K mg C) : FnOk P w K mg base CX0 1 f fd ["values"] (spAsc1) := by
  refine F.ok sc_is_ascending (fun vs H Q E h => ?_) (fun cdv A outer s H vs Q E hr h => ?_)
  · obtain ⟨t, x, rfl, _⟩ := h
    rfl
  · have hu := hu_of hr
    obtain ⟨t, x, rfl, ht, k⟩ := h
    refine ⟨_, (pss_one (ps_ret (pe_callB (g_all K rfl) (by rfl) T.b_all (by decide +kernel) (pa_cons (pe_lc (own := [("at", 1)]) rfl sc_is_ascending.nd (pi_range1 (by rfl) T.b_range (pa_cons (pe_op op_sub (pe_callB (g_len_seq K) (by rfl) T.b_len (by decide +kernel) (pa_cons (pv 0) pa_nil)) pe_int) pa_nil)) (blkOk_by (own := [("at", 1)]) (N := ["values", "at"]) (sc := defScope s_is_ascending) (by decide +kernel)) (fun _ _ _ _ _ => (pg_name (i := 1) sc_is_ascending.nd rfl (Or.inl rfl))) (fun _ _ _ _ _ => pts_nil) (fun _ _ _ _ _ => (pe_cmpR op_lt_str (pe_ix (g_ix_tup K) (pv 0) (pv 1) (fun _ _ => rfl)) (pe_ix (g_ix_tup K) (pv 0) (pe_op op_add (pv 1) pe_int) (fun _ _ => rfl)) (nomark _)))) pa_nil)))), ?_⟩
    refine ⟨_, rfl, _, _, rfl, .inr (SqT.of ht), _, _, rfl, rfl, _, rfl, by rw [show [x].length = 1 from rfl]; decide, by rw [show [x].length = 1 from rfl]; decide, fun D hD => ?_⟩
    have e0 : ((([x].length : Nat) : Int) - 1).toNat = 0 := rfl
    refine lc_range (fun i H' => Same H H' ∧ H' D = some (.lst []) ∧ i = 0) ⟨same_new hD, upd_same, rfl⟩ ?_ ?_
    · rintro i H' hi ⟨_, _, rfl⟩
      rw [e0] at hi
      exact absurd hi (Nat.lt_irrefl _)
    · rintro H1 ⟨s1, d1, _⟩
      exact ⟨D, [], rfl, SqL.of d1, k H1 s1⟩
theorem sc_are_pieces_of : FnScope ["book", "value", "piece"] ["book", "value"] (defScope s_are_pieces_of) := ⟨rfl, rfl, rfl, by decide +kernel, rfl, by decide +kernel, by decide +kernel⟩
theorem ok_are_pieces_of {f : Addr} {fd : FuncData} (F : Fun K "are_pieces_of" "are_pieces_of" s_are_pieces_of f fd) (T : Txt K mg C) (c_is_ascending : HasO P w K mg base CX0 1 "is_ascending" ["values"] (spAsc1)) (c_is_piece : HasO P w K mg base CX0 2 "is_piece" ["value"] (spIs K isPiece)) : FnOk P w K mg base CX0 3 f fd ["book", "value"] (spPo1 C) := by
  refine F.ok sc_are_pieces_of (fun vs H Q E h => ?_) (fun cdv A outer s H vs Q E hr h => ?_)
  · obtain ⟨b, t, kvs, z, q, rfl, _⟩ := h
    rfl
  · have hu := hu_of hr
    obtain ⟨b, t, kvs, z, q, rfl, B, ht, hq, k⟩ := h
    refine ⟨_, (pss_cons (ps_if (PW.pt (pw_or (pt_not (pt_val (pe_callB (g_isi K) (by rfl) T.b_isinstance (by decide +kernel) (pa_cons (pv 1) (pa_cons (pe_bltn (v := .ty "tuple") rfl T.b_tuple (by decide +kernel) rfl) pa_nil))))) (pw_or1 (pt_not (pt_val (pe_callB (g_all K rfl) (by rfl) T.b_all (by decide +kernel) (pa_cons (pe_lc (own := [("piece", 2)]) rfl sc_are_pieces_of.nd (g_tuple K (pv 1)) (blkOk_by (own := [("piece", 2)]) (N := ["book", "value", "piece"]) (sc := defScope s_are_pieces_of) (by decide +kernel)) (fun _ _ _ _ _ => (pg_name (i := 2) sc_are_pieces_of.nd rfl (Or.inl rfl))) (fun _ _ _ _ _ => pts_nil) (fun _ _ _ _ _ => (pe_and (pe_hasO c_is_piece (hr.mono (by decide)) pass0 (pa_cons (pv 2) pa_nil)) (pe_one (pe_cmp (pc_din hu (pv 2) (g_fld K (pv 0)))))))) pa_nil))))))) (pss_one (ps_ret pe_bl)) pss_nil)
      (pss_one (ps_ret (pe_hasO c_is_ascending (hr.mono (by decide)) pass0 (pa_cons (pv 1) pa_nil))))), ?_⟩
    obtain ⟨av, nd, ys, Lo, Mo, dx, d, tp, ta, od, pm, so, A⟩ := id B
    obtain ⟨_, al, _, _⟩ := ap_parts av
    have ly : ys.length ≤ 12 := by
      obtain ⟨⟨_, n2⟩, _⟩ := ap_parts av
      have h := congrArg List.length (keys_of al)
      rw [List.length_map, List.length_map] at h
      rw [pm.length_eq]
      omega
    have ndy : ys.Nodup := pm.nodup_iff.mpr (keys_nd al nd)
    
    have hk := (tf_key al).mpr ⟨q, hq⟩
    obtain ⟨z1, z5, zl⟩ := keyStrs_piece al z hk
    have ip : isPiece (.str z) = true := by
      rw [isPiece_of zl, decide_eq_true z1, decide_eq_true z5]
      rfl
    refine ⟨_, rfl, _, _, _, _, _, rfl, .ty _, .base (.tup ht), kit_ty (show kitB "tuple" "tuple" = some true by decide +kernel), true, rfl, ?_⟩
    refine ⟨_, rfl, t, rfl, ⟨_, SqT.of ht⟩, fun D hD => ?_⟩
    refine lcs [z] (walk_tupF (K := K) V.str [z]) (fun _ => some (.bl true)) hD (by show 1 ≤ 1000000; omega) (fun H' s => SqT.of (s _ _ ht)) ?_ ?_
    · rintro i y x H3 H4 hi s3 ⟨rfl, z', ez, rfl⟩ N M' hN hM
      have e1 : y = z' := Option.some.inj (hi.symm.trans ez)
      subst e1
      have ey : y = z := List.mem_singleton.mp (List.mem_of_getElem? hi)
      subst ey
      refine ⟨wipe_set, _, rfl, .str y, rfl, tyd_str y, show y.length ≤ 100000 by rw [← cs_len]; omega, fun H5 s5 => ⟨_, congrArg V.bl ip, ?_⟩⟩
      rw [if_pos rfl]
      have F0 : tfD (kvOf (psOf kvs ys)) y = tfD kvs y := congrFun (tf_psOf al pm) y
      have hv : valV (kvOf (psOf kvs ys)) (Sum.inr y) = some (.int q) := tf_some.mp (F0.trans hq)
      refine ⟨_, rfl, _, rfl, b, C, dx, _, _, rfl, s5 _ _ (s3 _ _ A.ob), T.cl, T.n_own_prices, bf_prices, d, _, rfl, .inl ⟨_, Sum.inr y, .inr ⟨od, s5 _ _ (s3 _ _ A.dc)⟩, rfl, hv.symm⟩, ?_⟩
      exact hN _ _ rfl s5
    intro H2 s2 d2
    refine ⟨D, [true], rfl, SqL.of d2, true, rfl, ?_⟩
    exact ⟨_, rfl, t, _, rfl, s2 _ _ ht, fun H3 s3 => k H3 (s2.trans s3)⟩
theorem sc_Book_pieces : FnScope ["self"] ["self"] (defScope s_Book_pieces) := ⟨rfl, rfl, rfl, by decide +kernel, rfl, by decide +kernel, by decide +kernel⟩
theorem ok_Book_pieces {f : Addr} {fd : FuncData} (F : Fun K "pieces" "Book.pieces" s_Book_pieces f fd) (T : Txt K mg C) : FnOk P w K mg base CX0 1 f fd ["self"] (spPieces C) := by
  refine F.ok sc_Book_pieces (fun vs H Q E h => ?_) (fun cdv A outer s H vs Q E hr h => ?_)
  · obtain ⟨b, kvs, rfl, _⟩ := h
    rfl
  · have hu := hu_of hr
    obtain ⟨b, kvs, rfl, B, k⟩ := h
    refine ⟨_, (pss_one (ps_ret (g_fld K (pv 0)))), ?_⟩
    obtain ⟨av, nd, ys, Lo, Mo, dx, d, tp, ta, od, pm, so, A⟩ := id B
    obtain ⟨_, al, _, _⟩ := ap_parts av
    have ly : ys.length ≤ 12 := by
      obtain ⟨⟨_, n2⟩, _⟩ := ap_parts av
      have h := congrArg List.length (keys_of al)
      rw [List.length_map, List.length_map] at h
      rw [pm.length_eq]
      omega
    have ndy : ys.Nodup := pm.nodup_iff.mpr (keys_nd al nd)
    
    have pi : H tp = some (.tup (ys.map V.str)) := by
      rw [A.pi]
      unfold psOf
      rw [List.map_map]
      rfl
    exact ⟨_, rfl, b, C, dx, _, _, rfl, A.ob, T.cl, T.n_own_pieces, bf_pieces, k tp ys pm so pi⟩
theorem sc_Book___sub__ : FnScope ["self", "pieces", "piece", "price"] ["self", "pieces"] (defScope s_Book___sub__) := ⟨rfl, rfl, rfl, by decide +kernel, rfl, by decide +kernel, by decide +kernel⟩
theorem ok_Book___sub__ {f : Addr} {fd : FuncData} (F : Fun K "__sub__" "Book.__sub__" s_Book___sub__ f fd) (T : Txt K mg C) (c_result_of : HasO P w K mg base CX0 7 "result_of" ["prices"] (spResult C)) (c_are_pieces_of : HasO P w K mg base CX0 3 "are_pieces_of" ["book", "value"] (spPo1 C)) : FnOk P w K mg base CX0 8 f fd ["self", "pieces"] (spSub1 C) := by
  refine F.ok sc_Book___sub__ (fun vs H Q E h => ?_) (fun cdv A outer s H vs Q E hr h => ?_)
  · obtain ⟨b, t, kvs, z, q, rfl, _⟩ := h
    rfl
  · have hu := hu_of hr
    obtain ⟨b, t, kvs, z, q, rfl, B, ht, hq, l1, k⟩ := h
    refine ⟨_, (pss_cons (ps_if (pt_not (pt_val (pe_hasO c_are_pieces_of (hr.mono (by decide)) pass0 (pa_cons (pv 0) (pa_cons (pv 1) pa_nil))))) (pss_one ps_never) pss_nil)
      (pss_one (ps_ret (pe_hasO c_result_of (hr.mono (by decide)) pass0 (pa_cons (pe_dc (own := [("piece", 2), ("price", 3)]) rfl sc_Book___sub__.nd (pi_items (g_fld K (pv 0))) (blkOk_by (own := [("piece", 2), ("price", 3)]) (N := ["self", "pieces", "piece", "price"]) (sc := defScope s_Book___sub__) (by decide +kernel)) (fun _ _ _ _ _ => (g_tup K (n := 2) rfl (pgs_cons (pg_name (i := 2) sc_Book___sub__.nd rfl (Or.inl rfl)) (pgs_cons (pg_name (i := 3) sc_Book___sub__.nd rfl (Or.inl rfl)) pgs_nil)))) (fun _ _ _ _ _ => (pts_one (pt_cmpR (g_notIn_seq K) (pv 2) (pv 1) (by rfl)))) (fun _ _ _ _ _ => (pv 2)) (fun _ _ _ _ _ => (pv 3))) pa_nil))))), ?_⟩
    obtain ⟨av, nd, ys, Lo, Mo, dx, d, tp, ta, od, pm, so, A⟩ := id B
    obtain ⟨_, al, _, _⟩ := ap_parts av
    have ly : ys.length ≤ 12 := by
      obtain ⟨⟨_, n2⟩, _⟩ := ap_parts av
      have h := congrArg List.length (keys_of al)
      rw [List.length_map, List.length_map] at h
      rw [pm.length_eq]
      omega
    have ndy : ys.Nodup := pm.nodup_iff.mpr (keys_nd al nd)
    
    refine ⟨_, rfl, _, rfl, b, t, kvs, z, q, rfl, B, ht, hq, fun H1 s1 => ⟨true, rfl, ?_⟩⟩
    have A1 := A.same s1
    have t1 := s1 _ _ ht
    refine ⟨_, rfl, b, C, dx, _, _, rfl, A1.ob, T.cl, T.n_own_prices, bf_prices, d, od, kvOf (psOf kvs ys), rfl, A1.dc, fun D hD => ?_⟩
    refine dcsF (kvOf (psOf kvs ys)) walk_items (fun kv => match kv.1 with | .inr y => !decide (y = z) | .inl _ => false) id (by
        rw [kvOf_ps, List.map_map]
        exact List.pairwise_map.mpr (List.Pairwise.imp (R := fun a b : Str => a ≠ b) (fun h e => h (Sum.inr.inj e)) ndy)) hD (by rw [kvOf_ps, List.length_map]; omega) (fun H' s => s _ _ A1.dc) ?_ ?_
    · rintro i a x H2 H3 hi s2 ⟨Tt, xk, xv, rfl, hT, rfl, ek, ev⟩ N M hN hM
      dsimp only at ek ev
      rw [hi] at ek ev
      cases ek
      cases ev
      obtain ⟨y, hy, rfl⟩ : ∃ y, y ∈ ys ∧ a = (Sum.inr y, V.int (priceIn kvs y)) := by
        have m := List.mem_of_getElem? hi
        rw [kvOf_ps] at m
        obtain ⟨y, hy, e⟩ := List.mem_map.mp m
        exact ⟨y, hy, e.symm⟩
      have sT := same_new hT (o := .tup [kV (Sum.inr y), V.int (priceIn kvs y)])
      refine ⟨Tt, _, rfl, SqT.of upd_same, rfl, _, _, rfl, _, _, rfl, rfl, rfl, _, rfl, _, rfl, t, _, rfl, .inr (SqT.of (sT _ _ (s2 _ _ t1))), rfl, flat_strs [z], ?_⟩
      have ei : inV (.str y) [V.str z] = decide (y = z) := by
        have h := inV_str (z := y) (zs := [z])
        rw [show ([z].map V.str) = [V.str z] from rfl] at h
        rw [h]
        exact decide_eq_decide.mpr List.mem_singleton
      refine ⟨!decide (y = z), congrArg V.bl (by rw [← ei]; rfl), ?_⟩
      refine itB (fun q => ?_) (fun q => ?_)
      · exact ⟨_, rfl, _, rfl, hN _ q sT⟩
      · exact hM _ q sT
    · intro H2 s2 d2
      have e2 : (((kvOf (psOf kvs ys)).filter fun kv => match kv.1 with | .inr y => !decide (y = z) | .inl _ => false).map id) = partK kvs ys fun y => !decide (y = z) := by
        rw [List.map_id, kvOf_ps, List.filter_map]
        rfl
      rw [e2] at d2
      obtain ⟨av', nd'⟩ := part_book (q := fun y => !decide (y = z)) av nd pm fun c _ => by
        rw [decide_eq_false fun e => by
          rw [← e] at l1
          exact absurd (show 1 < 1 from l1) (by decide)]
        rfl
      refine ⟨D, _, rfl, d2, av', nd', fun b' H3 B3 s3 => ?_⟩
      exact k b' _ H3 B3 (by
        funext y
        rw [tf_part al pm]
        unfold remF
        by_cases e : y = z
        · rw [if_pos e, decide_eq_true e, if_neg (by decide)]
        · rw [if_neg e, decide_eq_false e, if_pos (by decide)]) ((s1.trans s2).trans s3)
theorem sc_Book___eq__ : FnScope ["self", "other"] ["self", "other"] (defScope s_Book___eq__) := ⟨rfl, rfl, rfl, by decide +kernel, rfl, by decide +kernel, by decide +kernel⟩
theorem ok_Book___eq__ {f : Addr} {fd : FuncData} (F : Fun K "__eq__" "Book.__eq__" s_Book___eq__ f fd) (T : Txt K mg C) : FnOk P w K mg base CX0 1 f fd ["self", "other"] (spEqB C) := by
  refine F.ok sc_Book___eq__ (fun vs H Q E h => ?_) (fun cdv A outer s H vs Q E hr h => ?_)
  · obtain ⟨a, b, k1, k2, rfl, _⟩ := h
    rfl
  · have hu := hu_of hr
    obtain ⟨a, b, k1, k2, rfl, B1, B2, sub, k⟩ := h
    refine ⟨_, (pss_one (ps_ret (pe_and (pe_callB (C8.call_isC T.ic) (by rfl) T.b_isinstance (by decide +kernel) (pa_cons (pv 1) (pa_cons (pe_glob (v := .ref C) rfl T.gC rfl) pa_nil))) (pe_one (pe_cmpR (op_eqDB hr.units) (g_fld K (pv 0)) (g_fld K (pv 1)) (nomark _)))))), ?_⟩
    obtain ⟨av1, nd1, ys1, L1, M1, dx1, d1, tp1, ta1, od1, pm1, so1, A1⟩ := id B1
    obtain ⟨av2, nd2, ys2, L2', M2, dx2, d2, tp2, ta2, od2, pm2, so2, A2⟩ := id B2
    have al1 := (ap_parts av1).2.1
    have al2 := (ap_parts av2).2.1
    have nk1 := keys_nd al1 nd1
    have nk2 := keys_nd al2 nd2
    have n1 : (kvOf (psOf k1 ys1)).length = (keyStrs k1).length := by rw [kvOf_ps, List.length_map, pm1.length_eq]
    have n2 : (kvOf (psOf k2 ys2)).length = (keyStrs k2).length := by rw [kvOf_ps, List.length_map, pm2.length_eq]
    have inc : ∀ z ∈ keyStrs k1, z ∈ keyStrs k2 := fun z hz => by
      obtain ⟨q, hq⟩ := (tf_key al1).mp hz
      exact (tf_key al2).mpr ⟨q, sub z q hq⟩
    refine ⟨_, rfl, b, dx2, _, rfl, A2.ob, true, rfl, ?_⟩
    refine ⟨_, rfl, a, C, dx1, _, _, rfl, A1.ob, T.cl, T.n_own_prices, bf_prices, _, rfl, b, C, dx2, _, _, rfl, A2.ob, T.cl, T.n_own_prices, bf_prices, d1, d2, _, _, rfl, rfl, .inr ⟨od1, A1.dc⟩, .inr ⟨od2, A2.dc⟩, ?_⟩
    by_cases e : (keyStrs k1).length = (keyStrs k2).length
    · refine .inl ⟨by omega, fun p hp => ?_, ?_⟩
      · rw [kvOf_ps] at hp
        obtain ⟨z, hz, rfl⟩ := List.mem_map.mp hp
        have hz1 := pm1.mem_iff.mp hz
        have h1 := (price_of_key al1 hz1).1
        have h2 := sub z _ (tf_some.mpr h1)
        have h3 := (price_of_key al2 (inc z hz1)).1
        rw [tf_some.mp h2] at h3
        refine ⟨?_, rfl⟩
        dsimp only
        rw [kvOf_ps, val_fun, if_pos (pm2.mem_iff.mpr (inc z hz1)), ← Option.some.inj h3]
      · refine k true ⟨fun _ => ?_, fun _ => rfl⟩
        funext z
        cases e1 : tfD k1 z with
        | some q => exact (sub z q e1).symm
        | none =>
          cases e2 : tfD k2 z with
          | none => rfl
          | some q =>
            have m := nd_full nk1 inc (by omega) z ((tf_key al2).mpr ⟨q, e2⟩)
            obtain ⟨q', h'⟩ := (tf_key al1).mp m
            rw [e1] at h'
            cases h'
    · refine .inr ⟨by omega, k false ⟨fun h => absurd h Bool.false_ne_true, fun h => ?_⟩⟩
      refine absurd (Nat.le_antisymm (nd_sub_len nk1 inc) (nd_sub_len nk2 fun z hz => ?_)) e
      obtain ⟨q, hq⟩ := (tf_key al2).mp hz
      exact (tf_key al1).mpr ⟨q, by rw [h]; exact hq⟩
theorem sc__law_dice : FnScope ["script", "spot", "cell", "whole"] ["script", "spot"] (defScope s__law_dice) := ⟨rfl, rfl, rfl, by decide +kernel, rfl, by decide +kernel, by decide +kernel⟩
theorem ok__law_dice {f : Addr} {fd : FuncData} (F : Fun K "_law_dice" "_law_dice" s__law_dice f fd) (T : Txt K mg C) : FnG P w K mg base CX0 1 f fd ["script", "spot"] (spDice K) := by
  refine fn_g0 F sc__law_dice (fun vs H Q E h => ?_) (fun cdv A outer s H vs Q E hg hr h => ?_)
  · obtain ⟨a, ns, s, rfl, _⟩ := h
    rfl
  · have hu := hu_of hr
    obtain ⟨a, ns, s, rfl, hS, hn, hs0, hs1, k⟩ := h
    refine ⟨_, (pss_cons (ps_set (i := 2) sc__law_dice.nd rfl (Or.inl rfl) (pe_ifExp (pt_cmpR op_lt (pv 1) (pe_callB (g_len_seq K) (by rfl) T.b_len (by decide +kernel) (pa_cons (pv 0) pa_nil)) (nomark _)) (pe_ix (g_ix_list K) (pv 0) (pv 1) (fun _ _ => rfl)) (pe_op op_add (pe_op op_mulW pe_int (pv 1)) pe_int)))
      (pss_cons (ps_set (i := 3) sc__law_dice.nd rfl (Or.inl rfl) (pe_op op_mod (pe_callTy call_int1 (by rfl) T.b_int (by decide +kernel) (pa_cons (pe_callB call_abs (by rfl) T.b_abs (by decide +kernel) (pa_cons (pv 2) pa_nil)) pa_nil)) (pe_op op_powW (pe_op op_powW pe_int pe_int) pe_int)))
      (pss_one (ps_ret (pe_lst (pa_cons (pe_ifExp (pt_cmpR op_ge (pv 3) (pe_op op_powW pe_int pe_int) (nomark _)) (pv 3) pe_int) (pa_cons (pe_op op_add (pe_op op_add (pe_op op_add (pe_op op_mulW pe_int (pv 3)) (pe_callTy call_int1 (by rfl) T.b_int (by decide +kernel) (pa_cons (pe_cmpR op_lt (pv 2) pe_int (nomark _)) pa_nil))) (pe_op op_mulW pe_int (pv 1))) pe_int) (pa_cons pe_int pa_nil)))))))), ?_⟩
    refine tif_int (c := decide (s < ((ns.map V.int).length : Int))) (fun _ => True) (fun N hN => ?_) (fun e N hN => ?_) (fun e N hN => ?_) (fun cell _ => ?_)
    · exact ⟨_, rfl, _, rfl, _, _, rfl, .inl hS, _, _, rfl, rfl, _, rfl, hN⟩
    · have e1 : s.toNat < ns.length := by
        have := of_decide_eq_true e
        rw [List.length_map] at this
        omega
      refine ⟨_, rfl, _, rfl, _, _, _, _, rfl, rfl, hS, at_of (j := s.toNat) (by omega) (by rw [List.getElem?_map, List.getElem?_eq_getElem e1]; rfl), ?_⟩
      exact hN _ trivial
    · refine ⟨_, rfl, _, _, rfl, rfl, wide_mul (a := 8) (b := 8) (by decide) (by omega) (by decide) (by decide) (by decide), _, _, rfl, rfl, ?_⟩
      exact hN _ trivial
    · -- whole
      refine ⟨_, rfl, _, rfl, .inl ⟨_, rfl, _, _, rfl, rfl, ⟨by decide, by decide +kernel⟩, _, _, rfl, rfl, ⟨by decide, by decide +kernel⟩, _, _, rfl, rfl, (show (0 : Int) < ((10 : Int) ^ (57 : Int).toNat) ^ (11 : Int).toNat by decide +kernel), ?_⟩⟩
      have wb := big_mod (x := if cell < 0 then -cell else cell) (m := ((10 : Int) ^ (57 : Int).toNat) ^ (11 : Int).toNat) (by decide +kernel) (by decide +kernel)
      dsimp only [gName, tRet, tLst, tCons]
      generalize (if cell < 0 then -cell else cell) % ((10 : Int) ^ (57 : Int).toNat) ^ (11 : Int).toNat = whole at wb ⊢
      obtain ⟨w0, w1⟩ := wb
      refine tif_int (c := decide ((10 : Int) ^ (18 : Int).toNat ≤ whole)) Big (fun N hN => ?_) (fun e N hN => ?_) (fun e N hN => ?_) (fun d0 b0 => ?_)
      · exact ⟨_, rfl, _, _, rfl, rfl, ⟨by decide, by decide +kernel⟩, _, _, rfl, rfl, _, rfl, hN⟩
      · exact ⟨_, rfl, hN _ (big_of w0 w1)⟩
      · exact hN _ big_zero
      refine ⟨_, rfl, _, _, rfl, rfl, wide_mul (a := 2) (b := 2100) (by decide) w1 (by decide) (by decide) (by decide), _, rfl, _, _, rfl, rfl, .inr ⟨_, rfl, _, _, rfl, rfl, ?_⟩⟩
      refine ⟨_, rfl, _, _, rfl, rfl, wide_mul (a := 20) (b := 8) (by decide) (by omega) (by decide) (by decide) (by decide), _, _, rfl, rfl, _, _, rfl, rfl, ?_⟩
      refine ⟨(by show 3 ≤ sizeLine; decide), fun p hp => ?_⟩
      refine k p _ hp (same_new hp) ⟨_, _, _, upd_same, b0, big_seed w0 w1 ?_ ⟨hs0, by omega⟩, Int.le_refl _, by omega⟩
      by_cases hc : cell < 0
      · rw [decide_eq_true hc]; exact ⟨by decide, by decide⟩
      · rw [decide_eq_false hc]; exact ⟨by decide, by decide⟩
theorem sc__law_roll : FnScope ["dice", "upto", "found", "one", "two"] ["dice", "upto"] (defScope s__law_roll) := ⟨rfl, rfl, rfl, by decide +kernel, rfl, by decide +kernel, by decide +kernel⟩
theorem ok__law_roll {f : Addr} {fd : FuncData} (F : Fun K "_law_roll" "_law_roll" s__law_roll f fd) (T : Txt K mg C) : FnG P w K mg base CX0 1 f fd ["dice", "upto"] (spRoll) := by
  refine fn_g0 F sc__law_roll (fun vs H Q E h => ?_) (fun cdv A outer s H vs Q E hg hr h => ?_)
  · obtain ⟨l, u, n, rfl, _⟩ := h
    rfl
  · have hu := hu_of hr
    obtain ⟨l, u, n, rfl, hu0, hu1, ⟨d0, d1, d2, hD, b0, b1, p2, q2⟩, k⟩ := h
    refine ⟨_, (pss_cons (ps_if (pt_cmpR op_gt (pe_ix (g_ix_list K) (pv 0) pe_int (fun _ _ => rfl)) pe_int (nomark _)) (pss_cons (ps_set (i := 2) sc__law_roll.nd rfl (Or.inl rfl) (pe_op op_mod (pe_callTy call_int1 (by rfl) T.b_int (by decide +kernel) (pa_cons (pe_ix (g_ix_list K) (pv 0) pe_int (fun _ _ => rfl)) pa_nil)) (pv 1)))
      (pss_cons (ps_asg (pe_op op_fdivW (pe_ix (g_ix_list K) (pv 0) pe_int (fun _ _ => rfl)) (pv 1)) (pg_sub (pv 0) pe_int set_list))
      (pss_one (ps_ret (pv 2))))) pss_nil)
      (pss_cons (ps_asg (pe_op op_add (pe_ix (g_ix_list K) (pv 0) pe_int (fun _ _ => rfl)) pe_int) (pg_sub (pv 0) pe_int set_list))
      (pss_cons (ps_set (i := 3) sc__law_roll.nd rfl (Or.inl rfl) (pe_op op_mod (pe_callTy call_int1 (by rfl) T.b_int (by decide +kernel) (pa_cons (pe_op op_add (pe_op op_mulW (pe_ix (g_ix_list K) (pv 0) pe_int (fun _ _ => rfl)) pe_int) (pe_op op_mulW (pe_ix (g_ix_list K) (pv 0) pe_int (fun _ _ => rfl)) pe_int)) pa_nil)) pe_int))
      (pss_cons (ps_set (i := 4) sc__law_roll.nd rfl (Or.inl rfl) (pe_op op_mod (pe_callTy call_int1 (by rfl) T.b_int (by decide +kernel) (pa_cons (pe_op op_add (pe_op op_mulW (pv 3) (pv 3)) (pe_op op_mulW (pe_ix (g_ix_list K) (pv 0) pe_int (fun _ _ => rfl)) pe_int)) pa_nil)) pe_int))
      (pss_one (ps_ret (pe_op op_mod (pe_callTy call_int1 (by rfl) T.b_int (by decide +kernel) (pa_cons (pe_op op_fdivW (pe_op op_mod (pe_callTy call_int1 (by rfl) T.b_int (by decide +kernel) (pa_cons (pe_op op_add (pe_op op_mulW (pv 4) (pv 4)) (pv 3)) pa_nil)) pe_int) pe_int) pa_nil)) (pv 1)))))))), ?_⟩
    refine ⟨_, rfl, _, _, _, _, rfl, rfl, SqL.of hD, rfl, _, _, rfl, rfl, _, rfl, ?_⟩
    have u0 : 0 < u := by omega
    refine itB (fun e => ?_) (fun e => ?_)
    · refine ⟨_, rfl, _, _, _, _, rfl, rfl, SqL.of hD, rfl, .inl ⟨_, rfl, _, rfl, _, _, rfl, rfl, u0, ?_⟩⟩
      refine ⟨_, rfl, _, _, _, _, rfl, rfl, SqL.of hD, rfl, _, rfl, _, _, rfl, rfl, wide_div (b := 64) u0 (by omega) (by decide) (by decide), ?_⟩
      refine ⟨_, rfl, _, _, _, _, rfl, rfl, hD, rfl, ?_⟩
      refine ⟨_, rfl, ?_⟩
      exact k _ _ (Int.emod_nonneg _ (by omega)) (Int.emod_lt_of_pos _ u0) Kp.upd ⟨_, _, _, upd_same, big_div b0 hu0, b1, p2, by omega⟩
    · refine ⟨_, rfl, _, _, _, _, rfl, rfl, SqL.of hD, rfl, _, _, rfl, rfl, _, rfl, _, _, _, _, rfl, rfl, hD, rfl, ?_⟩
      have hD2 : upd H l (.lst [.int d0, .int d1, .int (d2 + 1)]) l = some (.lst [.int d0, .int d1, .int (d2 + 1)]) := upd_same
      refine ⟨_, rfl, _, _, _, _, rfl, rfl, SqL.of hD2, rfl, _, _, rfl, rfl, wide_mul (a := 2200) (b := 40) b1.2 (by decide) (by decide) (by decide) (by decide), ?_⟩
      refine ⟨_, rfl, _, _, _, _, rfl, rfl, SqL.of hD2, rfl, _, _, rfl, rfl, wide_mul (a := 64) (b := 40) (by omega) (by decide) (by decide) (by decide) (by decide), _, _, rfl, rfl, .inl ⟨_, rfl, _, _, rfl, rfl, (show (0 : Int) < 2305843009213693951 by decide), ?_⟩⟩
      have o1 := Int.emod_nonneg (d1 * 25214903917 + (d2 + 1) * 40692) (by decide : (2305843009213693951 : Int) ≠ 0)
      have o2 := Int.emod_lt_of_pos (d1 * 25214903917 + (d2 + 1) * 40692) (by decide : (0 : Int) < 2305843009213693951)
      dsimp only
      generalize (d1 * 25214903917 + (d2 + 1) * 40692) % 2305843009213693951 = one' at o1 o2 ⊢
      refine ⟨_, rfl, _, rfl, _, _, rfl, rfl, wide_mul (a := 64) (b := 64) (by omega) (by omega) (by decide) (by decide) (by decide), ?_⟩
      refine ⟨_, rfl, _, _, _, _, rfl, rfl, SqL.of hD2, rfl, _, _, rfl, rfl, wide_mul (a := 64) (b := 40) (by omega) (by decide) (by decide) (by decide) (by decide), _, _, rfl, rfl, .inl ⟨_, rfl, _, _, rfl, rfl, (show (0 : Int) < 1152921504606846883 by decide), ?_⟩⟩
      have t1 := Int.emod_nonneg (one' * one' + (d2 + 1) * 69621) (by decide : (1152921504606846883 : Int) ≠ 0)
      have t2 := Int.emod_lt_of_pos (one' * one' + (d2 + 1) * 69621) (by decide : (0 : Int) < 1152921504606846883)
      dsimp only
      generalize (one' * one' + (d2 + 1) * 69621) % 1152921504606846883 = two' at t1 t2 ⊢
      refine ⟨_, rfl, _, rfl, _, _, rfl, rfl, wide_mul (a := 64) (b := 64) (by omega) (by omega) (by decide) (by decide) (by decide), _, rfl, _, _, rfl, rfl, .inl ⟨_, rfl, ?_⟩⟩
      refine ⟨_, _, rfl, rfl, (show (0 : Int) < 4398046511093 by decide), _, _, rfl, rfl, wide_div (b := 64) (by decide) (by decide) (by decide) (by decide), .inl ⟨_, rfl, _, rfl, _, _, rfl, rfl, u0, ?_⟩⟩
      exact k _ _ (Int.emod_nonneg _ (by omega)) (Int.emod_lt_of_pos _ u0) Kp.upd ⟨_, _, _, hD2, b0, b1, by omega, by omega⟩
theorem sc__law_pick : FnScope ["dice", "items"] ["dice", "items"] (defScope s__law_pick) := ⟨rfl, rfl, rfl, by decide +kernel, rfl, by decide +kernel, by decide +kernel⟩
theorem ok__law_pick {f : Addr} {fd : FuncData} (F : Fun K "_law_pick" "_law_pick" s__law_pick f fd) (T : Txt K mg C) (c__law_roll : Has P w K mg base CX0 1 "_law_roll" ["dice", "upto"] (spRoll)) : FnG P w K mg base CX0 2 f fd ["dice", "items"] (spPick K) := by
  refine fn_g0 F sc__law_pick (fun vs H Q E h => ?_) (fun cdv A outer s H vs Q E hg hr h => ?_)
  · obtain ⟨l, x, ys, n, rfl, _⟩ := h
    rfl
  · have hu := hu_of hr
    obtain ⟨l, x, ys, n, rfl, S, ne, hl, D, k⟩ := h
    have hpos : 0 < ys.length := List.length_pos_iff.mpr ne
    refine ⟨_, (pss_one (ps_ret (pe_ix (g_ix_seq K) (pv 1) (pe_has c__law_roll hg (hr.mono (by decide)) pass0 (pa_cons (pv 0) (pa_cons (pe_callB (g_len K) (by rfl) T.b_len (by decide +kernel) (pa_cons (pv 1) pa_nil)) pa_nil))) (fun _ _ => rfl)))), ?_⟩
    have hlen : LenV K x H ys.length := by
      cases S with
      | lst _ h => exact .inl ⟨_, h, rfl⟩
      | tup _ h => exact .inr ⟨_, h, rfl⟩
      | str h e => exact ⟨fits_sz (by omega), by rw [e, signsV_len]⟩
    refine ⟨_, rfl, _, rfl, _, rfl, _, _, rfl, hlen, l, _, n, rfl, by omega, by omega, D, fun r H' r0 r1 kp D' => ?_⟩
    have hr1 : r.toNat < ys.length := by omega
    have hat : ys[r.toNat]? = some ys[r.toNat] := List.getElem?_eq_getElem hr1
    have hmem : ys[r.toNat] ∈ ys := List.getElem_mem hr1
    cases S with
    | lst n h => exact .inl ⟨_, _, _, _, rfl, rfl, kp.seq n h, at_of (j := r.toNat) (by omega) hat, k _ _ hmem kp D'⟩
    | tup n h => exact .inr (.inl ⟨_, _, _, _, rfl, rfl, kp.tup n h, at_of (j := r.toNat) (by omega) hat, k _ _ hmem kp D'⟩)
    | @str z _ h e =>
      subst e
      have hc : ∃ c, (cs z)[r.toNat]? = some c := ⟨_, List.getElem?_eq_getElem (by rw [cs_len, ← signsV_len]; exact hr1)⟩
      obtain ⟨c, hc⟩ := hc
      have e2 : atI (cs z) r = some c := by
        have : r = ((r.toNat : Nat) : Int) := by omega
        rw [this]
        exact atI_nat hc
      refine .inr (.inr ⟨_, _, _, rfl, rfl, fits_sz (by omega), e2, ?_⟩)
      refine k _ _ ?_ kp D'
      unfold signsV
      exact List.mem_map.mpr ⟨c, List.mem_of_getElem? hc, rfl⟩
theorem sc__law_letters : FnScope ["dice", "signs", "many", "turn"] ["dice", "signs", "many"] (defScope s__law_letters) := ⟨rfl, rfl, rfl, by decide +kernel, rfl, by decide +kernel, by decide +kernel⟩
theorem ok__law_letters {f : Addr} {fd : FuncData} (F : Fun K "_law_letters" "_law_letters" s__law_letters f fd) (T : Txt K mg C) (c__law_pick : Has P w K mg base CX0 2 "_law_pick" ["dice", "items"] (spPick K)) : FnG P w K mg base CX0 3 f fd ["dice", "signs", "many"] (spLetters K) := by
  refine fn_g0 F sc__law_letters (fun vs H Q E h => ?_) (fun cdv A outer s H vs Q E hg hr h => ?_)
  · obtain ⟨l, x, cl, m, n, rfl, _⟩ := h
    rfl
  · have hu := hu_of hr
    obtain ⟨l, x, cl, m, n, rfl, S, ne, hl, hm, D, k⟩ := h
    refine ⟨_, (pss_one (ps_ret (g_join K pe_str (pe_lc (own := [("turn", 3)]) rfl sc__law_letters.nd (pi_range1 (by rfl) T.b_range (pa_cons (pv 2) pa_nil)) (blkOk_by (own := [("turn", 3)]) (N := ["dice", "signs", "many", "turn"]) (sc := defScope s__law_letters) (by decide +kernel)) (fun _ _ _ _ _ => (pg_name (i := 3) sc__law_letters.nd rfl (Or.inl rfl))) (fun _ _ _ _ _ => pts_nil) (fun _ _ _ _ _ => (pe_has c__law_pick hg (hr.mono (by decide)) pass0 (pa_cons (pv 0) (pa_cons (pv 1) pa_nil)))))))), ?_⟩
    refine ⟨⟨_, rfl⟩, _, rfl, _, rfl, by omega, by omega, fun p hp => ?_⟩
    have npl : p ≠ l := D.ne hp
    refine lc_range (fun i H' => ∃ zs : List Nat, zs.length = i ∧ (∀ c ∈ zs, c ∈ cl) ∧ H' p = some (.lst (zs.map chV)) ∧ Kp l H H' ∧ Dice H' l (n + (m - i)) ∧ i ≤ m)
      ⟨[], rfl, fun _ z => (List.not_mem_nil z).elim, upd_same, (Kp.refl _ _).new hp, D.upd npl, Nat.zero_le _⟩ ?_ ?_
    · rintro i H' hi ⟨zs, e1, e2, e3, kp, D', hi2⟩
      have e6 : Int.toNat (m : Int) = m := by omega
      rw [e6] at hi
      refine ⟨rfl, _, rfl, _, rfl, l, x, cl.map chV, n + (m - (i + 1)), rfl, S.kp kp, by simpa using ne, by simpa using hl, D'.le (by omega), fun y H2 hy kp2 D2 => ?_⟩
      obtain ⟨c, hc, rfl⟩ := List.mem_map.mp hy
      refine ⟨_, kp2 _ _ e3 npl, by rw [List.length_map]; exact Nat.lt_of_le_of_lt (by omega : zs.length ≤ 10000) (by decide), zs ++ [c], ?_, ?_, ?_, ?_, ?_, by omega⟩
      · rw [List.length_append, e1]
        rfl
      · intro d hd
        rcases List.mem_append.mp hd with hd | hd
        · exact e2 d hd
        · rw [List.mem_singleton.mp hd]
          exact hc
      · rw [upd_same, List.map_append]
        rfl
      · exact (kp.trans kp2).mut hp
      · exact D2.upd npl
    · rintro H' ⟨zs, e1, e2, e3, kp, D', hi2⟩
      have e6 : Int.toNat (m : Int) = m := by omega
      rw [e6] at e1 D'
      refine ⟨_, p, zs.map ch, rfl, rfl, .inl (SqL.of (by rw [e3, List.map_map]; rfl)), ?_, ?_⟩
      · rw [sum_ch, List.length_map]
        show zs.length + zs.length * 0 ≤ _
        omega
      · rw [join_ch]
        exact k zs H' e1 e2 kp (D'.le (by omega))
theorem sc__law_some : FnScope ["dice", "items", "many", "left", "found", "turn"] ["dice", "items", "many"] (defScope s__law_some) := ⟨rfl, rfl, rfl, by decide +kernel, rfl, by decide +kernel, by decide +kernel⟩
theorem ok__law_some {f : Addr} {fd : FuncData} (F : Fun K "_law_some" "_law_some" s__law_some f fd) (T : Txt K mg C) (c__law_roll : Has P w K mg base CX0 1 "_law_roll" ["dice", "upto"] (spRoll)) : FnG P w K mg base CX0 2 f fd ["dice", "items", "many"] (spSome K) := by
  refine fn_g0 F sc__law_some (fun vs H Q E h => ?_) (fun cdv A outer s H vs Q E hg hr h => ?_)
  · obtain ⟨l, x, ys, m, n, rfl, _⟩ := h
    rfl
  · have hu := hu_of hr
    obtain ⟨l, x, ys, m, n, rfl, S, hl, hm, D, k⟩ := h
    refine ⟨_, (pss_cons (ps_par (i := 3) (j := 4) (by rfl) sc__law_some.nd rfl rfl (by decide) rfl rfl (pa_cons (pe_callTy (g_list_any K rfl) (by rfl) T.b_list (by decide +kernel) (pa_cons (pv 1) pa_nil)) (pa_cons (pe_lst pa_nil) pa_nil)) (by rfl))
      (pss_cons (ps_for PassesOwn.never rfl (pi_range1 (by rfl) T.b_range (pa_cons (pe_callB (call_min2 rfl) (by rfl) T.b_min (by decide +kernel) (pa_cons (pv 2) (pa_cons (pe_callB (g_len_seq K) (by rfl) T.b_len (by decide +kernel) (pa_cons (pv 3) pa_nil)) pa_nil))) pa_nil)) (pg_name (i := 5) sc__law_some.nd rfl (Or.inl rfl)) (pss_one (ps_expr (g_bm K PySem.F.plainAttrs_list PySem.F.slot_list_append PySem.F.type_list_append mt_append (pv 4) (pa_cons (g_bm K PySem.F.plainAttrs_list PySem.F.slot_list_pop PySem.F.type_list_pop mt_popAt (pv 3) (pa_cons (pe_has c__law_roll hg (hr.mono (by decide)) pass0 (pa_cons (pv 0) (pa_cons (pe_callB (g_len_seq K) (by rfl) T.b_len (by decide +kernel) (pa_cons (pv 3) pa_nil)) pa_nil))) pa_nil)) pa_nil)))))
      (pss_one (ps_ret (pv 4))))), ?_⟩
    have hL : ∀ (Q : VK), (∀ p, H p = none → Q (.ref p) (upd H p (.lst ys))) → rListAny K [x] H Q := by
      intro Q q
      cases S with
      | lst _ h => exact .inr ⟨_, _, rfl, .inl h, q⟩
      | tup _ h => exact .inr ⟨_, _, rfl, .inr h, q⟩
      | str h e =>
        subst e
        exact .inl ⟨_, rfl, fits_sz (by omega), q⟩
    refine ⟨_, rfl, hL _ fun lf hlf => ?_⟩
    refine ⟨by show 0 ≤ sizeLine; decide, fun fo hfo => ?_⟩
    have nlf : lf ≠ l := D.ne hlf
    have nfo : fo ≠ l := (D.new hlf).ne hfo
    have nff : lf ≠ fo := ne_of_none upd_same hfo
    have hfo0 : H fo = none := (same_new hlf).free hfo
    refine ⟨_, _, rfl, ?_⟩
    have hlen : (if (ys.length : Int) < (m : Int) then (ys.length : Int) else (m : Int)) = ((min m ys.length : Nat) : Int) := by split <;> omega
    refine ⟨_, rfl, _, rfl, lf, _, rfl, .inl (SqL.of (by rw [upd_ne nff]; exact upd_same)), _, _, rfl, _, congrArg (fun i => [V.int i]) hlen, by omega, by omega, ?_⟩
    rw [Int.toNat_natCast]
    refine for_range (lo := 0) (n := min m ys.length) (fun i σ H' => ∃ t zs rest, σ = [some (.ref l), some x, some (.int (m : Int)), some (.ref lf), some (.ref fo), t] ∧ (zs ++ rest).Perm ys ∧ zs.length = i ∧ H' lf = some (.lst rest) ∧ H' fo = some (.lst zs) ∧ Kp l H H' ∧ Dice H' l (n + (m - i)))
      ⟨_, [], ys, rfl, List.Perm.refl _, rfl, by rw [upd_ne nff]; exact upd_same, upd_same, ((Kp.refl _ _).new hlf).new hfo, (D.new hlf).new hfo⟩ ?_ ?_
    · rintro i σ H1 hi ⟨t, zs, rest, rfl, pm, zl, e1, e2, kp, D1⟩
      have lrest : rest.length + i = ys.length := by
        have := pm.length_eq
        rw [List.length_append, zl] at this
        omega
      refine ⟨_, rfl, .inl ⟨rfl, _, SqL.of e2⟩, _, rfl, .inl ⟨rfl, _, SqL.of e1⟩, _, rfl, _, rfl, lf, _, rfl, .inl (SqL.of e1), l, _, n + (m - (i + 1)), rfl, by omega, by omega, D1.le (by omega), fun r H2 r0 r1 kp2 D2 => ?_⟩
      obtain ⟨y, hy⟩ : ∃ y, rest[r.toNat]? = some y := ⟨_, List.getElem?_eq_getElem (by omega)⟩
      have e1' := kp2 _ _ e1 nlf
      have e2' := kp2 _ _ e2 nfo
      refine ⟨lf, rest, r, r.toNat, y, rfl, rfl, e1', by omega, by omega, ix_pos r0 (by omega), hy, ?_⟩
      refine ⟨fo, zs, y, rfl, rfl, by rw [upd_ne nff.symm]; exact e2', small1000' (by omega), ?_⟩
      refine ⟨_, zs ++ [y], rest.eraseIdx r.toNat, rfl, ?_, ?_, ?_, upd_same, ?_, ?_⟩
      · have h := erase_perm hy
        rw [List.append_assoc]
        exact (h.append_left zs).trans pm
      · rw [List.length_append, zl]
        rfl
      · rw [upd_ne nff]
        exact upd_same
      · exact ((kp.trans kp2).mut hlf).mut hfo0
      · exact (D2.upd nlf).upd nfo
    · rintro σ H1 ⟨t, zs, rest, rfl, pm, zl, e1, e2, kp, D1⟩
      exact ⟨_, rfl, k fo zs rest H1 hfo0 pm zl e2 kp (D1.le (by omega))⟩
theorem sc__law_prices : FnScope ["dice", "signs", "many", "upto", "found", "turn", "piece", "sign", "at"] ["dice", "signs", "many", "upto"] (defScope s__law_prices) := ⟨rfl, rfl, rfl, by decide +kernel, rfl, by decide +kernel, by decide +kernel⟩
theorem ok__law_prices {f : Addr} {fd : FuncData} (F : Fun K "_law_prices" "_law_prices" s__law_prices f fd) (T : Txt K mg C) (c__law_some : Has P w K mg base CX0 2 "_law_some" ["dice", "items", "many"] (spSome K)) (c__law_roll : Has P w K mg base CX0 1 "_law_roll" ["dice", "upto"] (spRoll)) (c__law_pick : Has P w K mg base CX0 2 "_law_pick" ["dice", "items"] (spPick K)) : FnG P w K mg base CX0 4 f fd ["dice", "signs", "many", "upto"] (spPrices6 K) := by
  refine fn_g0 F sc__law_prices (fun vs H Q E h => ?_) (fun cdv A outer s H vs Q E hg hr h => ?_)
  · obtain ⟨l, sa, sg, many, up, n, rfl, _⟩ := h
    rfl
  · have hu := hu_of hr
    obtain ⟨l, sa, sg, many, up, n, rfl, nsa, hs, n1, n4, hl, hm, u1, u99, D, k⟩ := h
    refine ⟨_, (pss_cons (ps_set (i := 4) sc__law_prices.nd rfl (Or.inl rfl) pe_dnewK)
      (pss_cons (ps_for PassesOwn.never rfl (pi_range1 (by rfl) T.b_range (pa_cons (pv 2) pa_nil)) (pg_name (i := 5) sc__law_prices.nd rfl (Or.inl rfl)) (pss_cons (ps_set (i := 6) sc__law_prices.nd rfl (Or.inl rfl) (g_join K pe_str (pe_lc (own := [("at", 8)]) rfl sc__law_prices.nd (pi_range1 (by rfl) T.b_range (pa_cons (pe_op op_add pe_int (pe_has c__law_roll hg (hr.mono (by decide)) pass0 (pa_cons (pv 0) (pa_cons pe_int pa_nil)))) pa_nil)) (blkOk_by (own := [("at", 8)]) (N := ["dice", "signs", "many", "upto", "found", "turn", "piece", "sign", "at"]) (sc := defScope s__law_prices) (by decide +kernel)) (fun _ _ _ _ _ => (pg_name (i := 8) sc__law_prices.nd rfl (Or.inl rfl))) (fun _ _ _ _ _ => pts_nil) (fun _ _ _ _ _ => (pe_has c__law_pick hg (hr.mono (by decide)) pass0 (pa_cons (pv 0) (pa_cons (pv 1) pa_nil)))))))
      (pss_one (ps_asg (pe_op op_add pe_int (pe_has c__law_roll hg (hr.mono (by decide)) pass0 (pa_cons (pv 0) (pa_cons (pv 3) pa_nil)))) (pg_sub (pv 4) (pv 6) (set_dict hu))))))
      (pss_cons (ps_for PassesOwn.never rfl (g_list K (pv 1)) (pg_name (i := 7) sc__law_prices.nd rfl (Or.inl rfl)) (pss_one (ps_asg (pe_op op_add pe_int (pe_has c__law_roll hg (hr.mono (by decide)) pass0 (pa_cons (pv 0) (pa_cons (pv 3) pa_nil)))) (pg_sub (pv 4) (pv 7) (set_dict hu)))))
      (pss_one (ps_ret (pe_callTy (g_dictP K rfl) (by rfl) T.b_dict (by decide +kernel) (pa_cons (pe_has c__law_some hg (hr.mono (by decide)) pass0 (pa_cons (pv 0) (pa_cons (LiI.pe_listItems rfl (pv 4) rfl T.b_list (by decide +kernel)) (pa_cons pe_int pa_nil)))) pa_nil))))))), ?_⟩
    have nsg : sg ≠ [] := fun e => by
      rw [e] at n1
      simp at n1
    refine fun fo hfo => ?_
    have nfo : fo ≠ l := D.ne hfo
    refine ⟨_, rfl, (many : Int), rfl, by omega, by omega, for_range (lo := 0) (n := (many : Int).toNat) (fun i σ H' => ∃ x5 x6, σ = [some (.ref l), some (.ref sa), some (.int (many : Int)), some (.int up), some (.ref fo), x5, x6, none, none] ∧ ∃ kv, H' fo = some (.dK kv) ∧ PrOk sg kv ∧ Upto kv up ∧ kv.length ≤ i ∧ Kp l H H' ∧ Dice H' l (n + (100 - 7 * i)))
      ⟨_, _, rfl, [], upd_same, PrOk.nil, fun _ h => (List.not_mem_nil h).elim, Nat.le_refl _, (Kp.refl _ _).new hfo, D.new hfo⟩ ?_ ?_⟩
    · rintro i σ H1 hi ⟨x5, x6, rfl, kv, f1, P1, U1, l1, k1, D1⟩
      have ir : i < 8 := by omega
      refine ⟨⟨_, rfl⟩, _, rfl, l, 4, n + (100 - 7 * i - 1), rfl, by decide, by decide, D1.le (by omega), fun r H2 r0 r1 k2 D2 => ⟨_, _, rfl, rfl, ?_⟩⟩
      have r4 : r < 4 := r1
      refine ⟨2 + r, rfl, by omega, by omega, fun J hJ => ?_⟩
      have nJ : J ≠ l := D2.ne hJ
      refine lc_range (fun j H' => ∃ zs : List Nat, zs.length = j ∧ (∀ c ∈ zs, c ∈ sg) ∧ H' J = some (.lst (zs.map chV)) ∧ Kp l H2 H' ∧ Dice H' l (n + (100 - 7 * i - 1 - j)) ∧ j ≤ 5)
        ⟨[], rfl, fun _ z => (List.not_mem_nil z).elim, upd_same, (Kp.refl _ _).new hJ, (D2.new hJ).le (by omega), by omega⟩ ?_ ?_
      · rintro j H3 hj ⟨zs, e1, e2, e3, k3, D3, j5⟩
        refine ⟨wipe_set, _, rfl, _, rfl, l, .ref sa, sg.map chV, n + (100 - 7 * i - 1 - (j + 1)), rfl, .lst nsa (((k1.trans k2).trans k3).seq nsa hs), by simpa using nsg, by rw [List.length_map]; omega, D3.le (by omega), fun y H4 hy k4 D4 => ?_⟩
        obtain ⟨c, hc, rfl⟩ := List.mem_map.mp hy
        refine ⟨_, k4 _ _ e3 nJ, by rw [List.length_map]; exact small1000' (by omega), zs ++ [c], by rw [List.length_append, e1]; rfl, fun d hd => ?_, by rw [upd_same, List.map_append]; rfl, (k3.trans k4).mut hJ, D4.upd nJ, by omega⟩
        rcases List.mem_append.mp hd with h | h
        · exact e2 d h
        · rw [List.mem_singleton.mp h]
          exact hc
      rintro H3 ⟨zs, e1, e2, e3, k3, D3, j5⟩
      refine ⟨_, J, zs.map ch, rfl, rfl, .inl (SqL.of (by rw [e3, List.map_map]; rfl)), ?_, ?_⟩
      · rw [sum_ch, List.length_map]
        show zs.length + zs.length * 0 ≤ _
        exact fits_sz (by omega)
      rw [join_ch]
      have k03 := (k1.trans k2).trans k3
      refine ⟨_, rfl, _, rfl, l, up, n + (100 - 7 * (i + 1)), rfl, u1, by omega, D3.le (by omega), fun r2 H4 r20 r21 k4 D4 => ⟨_, _, rfl, rfl, ?_⟩⟩
      have f4 := k4 _ _ (k3 _ _ (k2 _ _ f1 nfo) nfo) nfo
      refine ⟨_, rfl, _, rfl, fo, _, rfl, .inl ⟨kv, Sum.inr (sOf zs), f4, rfl, small1000' (by omega), rfl⟩, ?_⟩
      refine ⟨_, _, rfl, _, upd_same, P1.put (z := sOf zs) (by rw [cs_sOf]; omega) (by rw [cs_sOf]; exact e2) (by omega), U1.put (by omega), ?_, (k03.trans k4).mut hfo, D4.upd nfo⟩
      exact Nat.le_trans put_len (by omega)
    · rintro σ H1 ⟨x5, x6, rfl, kv, f1, P1, U1, l1, k1, D1⟩
      have emn : (many : Int).toNat = many := by omega
      rw [emn] at l1 D1
      refine ⟨_, rfl, sa, rfl, ⟨_, k1.seq nsa hs⟩, for_list (K := K) (xs := sg.map chV) (fun j σ H' => ∃ x7, σ = [some (.ref l), some (.ref sa), some (.int (many : Int)), some (.int up), some (.ref fo), x5, x6, x7, none] ∧ ∃ kv, H' fo = some (.dK kv) ∧ PrOk sg kv ∧ Upto kv up ∧ kv.length ≤ many + j ∧ (∀ c ∈ sg.take j, (valV kv (Sum.inr (ch c))).isSome = true) ∧ Kp l H H' ∧ Dice H' l (n + (40 - j)))
        ⟨_, rfl, kv, f1, P1, U1, l1, fun c hc => by simp at hc, k1, D1.le (by omega)⟩ (fun j σ H' _ q => by obtain ⟨_, _, _, _, _, _, _, _, q, _⟩ := q; exact q.seq nsa hs) ?_ ?_⟩
      · rintro j x σ H2 hx ⟨x7, rfl, kv2, f2, P2, U2, l2, g2, k2, D2⟩
        rw [List.getElem?_map] at hx
        obtain ⟨c, hc, rfl⟩ := Option.map_eq_some_iff.mp hx
        have jl := (List.getElem?_eq_some_iff.mp hc).1
        refine ⟨_, rfl, _, rfl, l, up, n + (40 - (j + 1)), rfl, u1, by omega, D2.le (by omega), fun r H3 r0 r1 k3 D3 => ⟨_, _, rfl, rfl, ?_⟩⟩
        refine ⟨_, rfl, _, rfl, fo, _, rfl, .inl ⟨kv2, Sum.inr (ch c), k3 _ _ f2 nfo, rfl, small1000' (by omega), rfl⟩, ?_⟩
        refine ⟨_, rfl, _, upd_same, P2.put (z := ch c) ⟨by show 1 ≤ 1; omega, by show 1 ≤ 5; omega⟩ (fun d hd => ?_) (by omega), U2.put (by omega), ?_, fun d hd => ?_, (k2.trans k3).mut hfo, D3.upd nfo⟩
        · have e : d = c := by simpa [cs] using hd
          rw [e]
          exact List.mem_of_getElem? hc
        · exact Nat.le_trans put_len (by omega)
        · rw [List.take_add_one, hc] at hd
          rw [valV_put]
          split
          · rfl
          · rename_i ne
            rcases List.mem_append.mp hd with h | h
            · exact g2 d h
            · have e : d = c := by simpa using h
              exact absurd (by rw [e]) ne
      · rintro σ H2 ⟨x7, rfl, kv2, f2, P2, U2, l2, g2, k2, D2⟩
        rw [List.length_map] at l2 g2 D2
        rw [List.take_length] at g2
        have n2 : kv2.length ≤ 12 := by omega
        refine ⟨_, rfl, _, rfl, fo, kv2, rfl, f2, fun H3 p ts s3 hp hts pnt p3 prd => ?_⟩
        obtain ⟨prs, ep1, ep2, ep3⟩ := unpaired prd
        have s3' : Same H2 H3 := s3
        have D3 := D2.same s3'
        have np : p ≠ l := D2.ne hp
        have prl : prs.length = kv2.length := by rw [← ep2, List.length_map]
        have ey : ts.map V.ref = prs.map fun p => V.ref p.1 := by
          rw [← ep1, List.map_map]
          rfl
        refine ⟨l, .ref p, ts.map V.ref, 12, n, rfl, .lst np (SqL.of p3), by rw [ey, List.length_map]; omega, by omega, D3.le (by omega), fun so zs rest H4 hso pm zl e4 k4 D4 => ?_⟩
        rw [ey, List.length_map] at zl
        have pl := pm.length_eq
        rw [ey, List.length_append, List.length_map] at pl
        have er : rest = [] := List.length_eq_zero_iff.mp (by omega)
        rw [er, List.append_nil, ey] at pm
        obtain ⟨qs, qp, qe⟩ := perm_lift (fun p : Addr × (Key × V) => V.ref p.1) pm prs rfl
        have at4 : ∀ q ∈ qs, H4 q.1 = some (.tup [kV q.2.1, q.2.2]) := fun q hq => by
          have h := qp.mem_iff.mp hq
          refine k4 _ _ (ep3 q h) ?_
          exact D2.ne (hts q.1 (by rw [← ep1]; exact List.mem_map.mpr ⟨q, h, rfl⟩))
        refine ⟨so, qs.map (·.1), qs.map (·.2), rfl, SqL.of (by rw [e4, ← qe, List.map_map]; rfl), paired_of (F := fun (p : Addr) (kv : Key × V) => SqT K H4 p [kV kv.1, kv.2]) (ps := qs) (fun q hq => SqT.of (at4 q hq)), fun pd hpd => ?_⟩
        have qk : (qs.map (·.2)).Perm kv2 := by
          have h := qp.map (·.2)
          rwa [ep2] at h
        have ndq : ((qs.map (·.2)).map (·.1)).Nodup := ((qk.map (·.1)).nodup_iff).mpr P2.nd
        have em : mergeK [] (qs.map (·.2)) = qs.map (·.2) := by
          have h := merge_nd (more := qs.map (·.2)) (kvs := []) (by rw [List.nil_append]; exact ndq)
          rwa [List.nil_append] at h
        rw [em]
        have PQ : PrOk sg (qs.map (·.2)) := ⟨fun kv h => P2.mem kv (qk.mem_iff.mp h), ndq⟩
        have ql := qk.length_eq
        obtain ⟨av, sgns⟩ := PQ.right (fun c hc => by
          obtain ⟨v, hv⟩ := Option.isSome_iff_exists.mp (g2 c hc)
          rw [val_nodup ndq _ (qk.mem_iff.mpr (valV_mem hv))]
          rfl) hl n4 n1 (by omega)
        have npd : pd ≠ l := D4.ne hpd
        have k04 := (k2.trans (.of s3')).trans k4
        exact k pd _ _ (kp_free k04 npd hpd) npd upd_same av PQ.nd sgns (by omega) (fun z q hz => U2 _ (qk.mem_iff.mp (valV_mem (tf_some.mp hz))) q rfl) (k04.new hpd) (D4.new hpd)
theorem sc__law_all : FnScope ["prices", "signs", "size", "found", "layer", "turn", "longer", "text", "costs", "start", "sign"] ["prices", "signs", "size"] (defScope s__law_all) := ⟨rfl, rfl, rfl, by decide +kernel, rfl, by decide +kernel, by decide +kernel⟩
theorem ok__law_all {f : Addr} {fd : FuncData} (F : Fun K "_law_all" "_law_all" s__law_all f fd) (T : Txt K mg C) : FnG P w K mg base CX0 2 f fd ["prices", "signs", "size"] (spAll K) := by
  refine fn_g0 F sc__law_all (fun vs H Q E h => ?_) (fun cdv A outer s H vs Q E hg hr h => ?_)
  · obtain ⟨d, kvs, sa, sg, n, rfl, _⟩ := h
    rfl
  · have hu := hu_of hr
    obtain ⟨d, kvs, sa, sg, n, rfl, hd, tar, hs, cov, h4, h8, k⟩ := h
    refine ⟨_, (pss_cons (ps_par (i := 3) (j := 4) (by rfl) sc__law_all.nd rfl rfl (by decide) rfl rfl (pa_cons (pe_disp (pps_cons pe_str pe_int pps_nil) (by rfl) (by rfl) (fun z => by cases z) (by decide)) (pa_cons (pe_lst (pa_cons pe_str pa_nil)) pa_nil)) (by rfl))
      (pss_cons (ps_for PassesOwn.never rfl (pi_range1 (by rfl) T.b_range (pa_cons (pv 2) pa_nil)) (pg_name (i := 5) sc__law_all.nd rfl (Or.inl rfl)) (pss_cons (ps_set (i := 6) sc__law_all.nd rfl (Or.inl rfl) (pe_lst pa_nil))
      (pss_cons (ps_for PassesOwn.never rfl (g_list K (pv 4)) (pg_name (i := 7) sc__law_all.nd rfl (Or.inr rfl)) (pss_one (ps_expr (g_bm K PySem.F.plainAttrs_list PySem.F.slot_list_extend PySem.F.type_list_extend mt_extend (pv 6) (pa_cons (pe_lc (own := [("sign", 10)]) rfl sc__law_all.nd (g_list K (pv 1)) (blkOk_by (own := [("sign", 10)]) (N := ["prices", "signs", "size", "found", "layer", "turn", "longer", "text", "costs", "start", "sign"]) (sc := defScope s__law_all) (by decide +kernel)) (fun _ _ _ _ _ => (pg_name (i := 10) sc__law_all.nd rfl (Or.inl rfl))) (fun _ _ _ _ _ => pts_nil) (fun _ _ _ _ _ => (pe_op op_add_str (pv 7) (pv 10)))) pa_nil)))))
      (pss_cons (ps_for PassesOwn.never rfl (g_list K (pv 6)) (pg_name (i := 7) sc__law_all.nd rfl (Or.inr rfl)) (pss_cons (ps_set (i := 8) sc__law_all.nd rfl (Or.inl rfl) (pe_lst pa_nil))
      (pss_cons (ps_for PassesOwn.never rfl (pi_range2 (by rfl) T.b_range (pa_cons (pe_callB (call_max2 rfl) (by rfl) T.b_max (by decide +kernel) (pa_cons pe_int (pa_cons (pe_op op_sub (pe_callB call_len_str (by rfl) T.b_len (by decide +kernel) (pa_cons (pv 7) pa_nil)) pe_int) pa_nil))) (pa_cons (pe_callB call_len_str (by rfl) T.b_len (by decide +kernel) (pa_cons (pv 7) pa_nil)) pa_nil))) (pg_name (i := 9) sc__law_all.nd rfl (Or.inl rfl)) (pss_one (ps_if (pt_cmp (pc_din hu (pe_slice sl_str (pv 7) (po_some (pv 9)) po_none) (pv 0))) (pss_one (ps_expr (g_bm K PySem.F.plainAttrs_list PySem.F.slot_list_append PySem.F.type_list_append mt_append (pv 8) (pa_cons (pe_op op_add (pe_dget hu (pv 3) (pe_slice sl_str (pv 7) po_none (po_some (pv 9))) (fun _ _ => rfl)) (pe_dget hu (pv 0) (pe_slice sl_str (pv 7) (po_some (pv 9)) po_none) (fun _ _ => rfl))) pa_nil)))) pss_nil)))
      (pss_one (ps_asg (pe_callB (g_min K rfl) (by rfl) T.b_min (by decide +kernel) (pa_cons (pv 8) pa_nil)) (pg_sub (pv 3) (pv 7) (set_dict hu)))))))
      (pss_one (ps_set (i := 4) sc__law_all.nd rfl (Or.inl rfl) (pe_callTy (g_list_of K) (by rfl) T.b_list (by decide +kernel) (pa_cons (pv 6) pa_nil))))))))
      (pss_one (ps_ret (pv 3))))), ?_⟩
    have good := tar.good
    refine fun fo hfo => ⟨upd_same, [(Sum.inr (Str.ofString ""), V.int 0)], rfl, by decide, ?_⟩
    refine ⟨by show 1 ≤ sizeLine; decide, fun la hla => ?_⟩
    refine ⟨_, _, rfl, ?_⟩
    rw [upd_upd] at hla ⊢
    have e0 : mergeK [] [((Sum.inr (Str.ofString "") : Key), V.int 0)] = [(Sum.inr (sOf []), V.int 0)] := by
      rw [emp]
      rfl
    rw [e0] at hla ⊢
    have s0 : Same H (upd (upd H fo (.dK [(Sum.inr (sOf []), V.int 0)])) la (.lst [V.str (Str.ofString "")])) := (same_new hfo).trans (same_new hla)
    have f0 : (upd (upd H fo (.dK [(Sum.inr (sOf []), V.int 0)])) la (.lst [V.str (Str.ofString "")])) fo = some (.dK [(Sum.inr (sOf []), V.int 0)]) := same_new hla _ _ upd_same
    have l0 : (upd (upd H fo (.dK [(Sum.inr (sOf []), V.int 0)])) la (.lst [V.str (Str.ofString "")])) la = some (.lst ((layerL sg 0).map tv)) := by
      rw [upd_same, emp]
      rfl
    generalize (upd (upd H fo (.dK [(Sum.inr (sOf []), V.int 0)])) la (.lst [V.str (Str.ofString "")])) = H0 at s0 f0 l0 ⊢
    refine ⟨_, rfl, (n : Int), rfl, by omega, by omega, ?_⟩
    rw [Int.toNat_natCast]
    refine for_range (lo := 0) (n := n) (fun i σ H' => ∃ la x5 x6 x7 x8 x9 x10 kf, σ = [some (.ref d), some (.ref sa), some (.int (n : Int)), some (.ref fo), some (.ref la), x5, x6, x7, x8, x9, x10] ∧ Same H H' ∧ H' fo = some (.dK kf) ∧ TblOk (tfD kvs) (InAll sg i) kf ∧ kf.length ≤ 1 + i * 65536 ∧
      H' la = some (.lst ((layerL sg i).map tv))) ⟨la, _, _, _, _, _, _, _, rfl, s0, f0, inAll_zero good, Nat.le_refl _, l0⟩ ?_ ?_
    · clear s0 f0 l0 H0 e0 hla la
      rintro i σ H1 hi ⟨la, x5, x6, x7, x8, x9, x10, kf, rfl, s1, f1, t1, n1, l1⟩
      have lay := layer_le h4 (show i ≤ 8 by omega)
      have lay2 := layer_le h4 (show i + 1 ≤ 8 by omega)
      refine ⟨by show 0 ≤ sizeLine; decide, fun lo hlo => ?_⟩
      have hlo0 : H lo = none := s1.free hlo
      have nfl : fo ≠ lo := ne_of_none f1 hlo
      have nal : la ≠ lo := ne_of_none l1 hlo
      refine ⟨_, rfl, la, rfl, ⟨_, SqL.of (same_new hlo _ _ l1)⟩, for_list (K := K) (xs := (layerL sg i).map tv) (fun j σ H' => ∃ x7 x10, σ = [some (.ref d), some (.ref sa), some (.int (n : Int)), some (.ref fo), some (.ref la), some (.int (0 + (i : Int))), some (.ref lo), x7, x8, x9, x10] ∧ Same H H' ∧ H' fo = some (.dK kf) ∧
        H' la = some (.lst ((layerL sg i).map tv)) ∧ H' lo = some (.lst ((grow sg ((layerL sg i).take j)).map tv))) ⟨_, _, rfl, s1.trans (same_new hlo), same_new hlo _ _ f1, same_new hlo _ _ l1, upd_same⟩ (fun j σ H' hj q => by obtain ⟨_, _, _, _, _, q, _⟩ := q; exact SqL.of q) ?_ ?_⟩
      · rintro j x σ H2 hx ⟨x7, x10, rfl, s2, f2, l2, o2⟩
        obtain ⟨t, ht, rfl⟩ := tv_at hx
        have tl : t.length = i := (layer_mem.mp (List.mem_of_getElem? ht)).1
        refine ⟨_, rfl, .inl ⟨rfl, _, SqL.of o2⟩, _, rfl, sa, rfl, ⟨_, s2.seq hs⟩, fun D hD => ?_⟩
        refine lcs sg (walk_listF (K := K) chV sg) (fun c => some (tv (t ++ [c]))) hD (by omega) (fun H' s => (s2.trans s).seq hs) ?_ ?_
        · rintro i' c x H3 H4 hc s3 ⟨rfl, c', ec, rfl⟩ N M hN hM
          have e1 : c = c' := Option.some.inj (hc.symm.trans ec)
          subst e1
          refine ⟨wipe_set, _, rfl, _, rfl, sOf t, ch c, rfl, rfl, ?_, ?_⟩
          · rw [sOf_len]
            exact fits_sz (by rw [tl]; show i + 1 ≤ 100000; omega)
          · rw [tv_app]
            exact hN _ _ rfl (Same.refl _)
        rintro H3 s3 e3
        rw [fm_some] at e3
        refine ⟨lo, D, _, _, rfl, rfl, s3 _ _ o2, e3, ?_, ?_⟩
        · rw [List.length_map, List.length_map, grow_len, List.length_take]
          have h6 : min j (layerL sg i).length * sg.length ≤ 65536 * 4 := Nat.mul_le_mul (by omega) h4
          exact Nat.le_of_lt (Nat.lt_of_le_of_lt (by omega : _ ≤ 1000000) (by decide))
        · refine ⟨_, _, rfl, same_mut (s2.trans s3) hlo0, by rw [upd_ne nfl]; exact s3 _ _ f2, by rw [upd_ne nal]; exact s3 _ _ l2, ?_⟩
          rw [upd_same, grow_take ht, List.map_append, List.map_map]
          rfl
      rintro σ H2 ⟨x7', x10', rfl, s2, f2, l2, o2⟩
      rw [List.length_map, List.take_length] at o2
      refine ⟨_, rfl, lo, rfl, ⟨_, SqL.of o2⟩, for_list (K := K) (xs := (layerL sg (i + 1)).map tv) (fun j σ H' => ∃ x7 x8 x9 x10 kf', σ = [some (.ref d), some (.ref sa), some (.int (n : Int)), some (.ref fo), some (.ref la), some (.int (0 + (i : Int))), some (.ref lo), x7, x8, x9, x10] ∧ Same H H' ∧ H' fo = some (.dK kf') ∧
        TblOk (tfD kvs) (fun z => InAll sg i z ∨ z ∈ ((layerL sg (i + 1)).take j).map sOf) kf' ∧ kf'.length ≤ kf.length + j ∧ H' lo = some (.lst ((layerL sg (i + 1)).map tv))) ⟨_, _, _, _, kf, rfl, s2, f2, t1.congr (fun z => by simp), Nat.le_refl _, o2⟩ (fun j σ H' hj q => by obtain ⟨_, _, _, _, _, _, _, _, _, _, q⟩ := q; exact SqL.of q) ?_ ?_⟩
      · rintro j x σ H3 hx ⟨y7, y8, y9, y10, kf', rfl, s3, f3, t3, n3, o3⟩
        obtain ⟨t, ht, rfl⟩ := tv_at hx
        obtain ⟨tl, tsg⟩ := layer_mem.mp (List.mem_of_getElem? ht)
        have jl : j < (layerL sg (i + 1)).length := (List.getElem?_eq_some_iff.mp ht).1
        have ovt : Over (tfD kvs) t := fun c hc => cov c (tsg c hc)
        have lt : (sOf t).length = t.length := sOf_len t
        have cst : cs (sOf t) = t := cs_sOf t
        refine ⟨by show 0 ≤ sizeLine; decide, fun co hco => ?_⟩
        have hco0 : H co = none := s3.free hco
        have nfc : fo ≠ co := ne_of_none f3 hco
        have nlc : lo ≠ co := ne_of_none o3 hco
        have e4 : (((sOf t).length : Nat) : Int) = ((i + 1 : Nat) : Int) := by rw [lt, tl]
        refine ⟨_, rfl, sOf t, rfl, fits_sz (by rw [lt, tl]; omega), _, _, rfl, rfl, _, _, rfl, _, rfl, sOf t, rfl, fits_sz (by rw [lt, tl]; omega), ((i + 1 - 5 : Nat) : Int), ((i + 1 : Nat) : Int), by rw [e4, max0 (i + 1)], ⟨by omega, by omega, by omega, by omega⟩, ?_⟩
        have e2 : (((i + 1 : Nat) : Int) - ((i + 1 - 5 : Nat) : Int)).toNat = i + 1 - (i + 1 - 5) := by omega
        rw [e2]
        refine for_range (lo := ((i + 1 - 5 : Nat) : Int)) (Pv := fun q σ H' => ∃ v, σ = [some (.ref d), some (.ref sa), some (.int (n : Int)), some (.ref fo), some (.ref la), some (.int (0 + (i : Int))), some (.ref lo), some (tv t), some (.ref co), v, y10] ∧ Same H H' ∧ H' fo = some (.dK kf') ∧ H' lo = some (.lst ((layerL sg (i + 1)).map tv)) ∧
          H' co = some (.lst (((List.range q).filterMap fun u => costF (tfD kvs) t (i + 1 - 5 + u)).map V.int))) ⟨_, rfl, s3.trans (same_new hco), by rw [upd_ne nfc]; exact f3, by rw [upd_ne nlc]; exact o3, upd_same⟩ ?_ ?_
        · rintro q σ H4 hq ⟨v, rfl, s4, f4, o4, c4⟩
          have e3 : ((i + 1 - 5 : Nat) : Int) + (q : Int) = ((i + 1 - 5 + q : Nat) : Int) := by omega
          have hst' : i + 1 - 5 + q < i + 1 := by omega
          obtain ⟨st, hst⟩ : ∃ st, st = i + 1 - 5 + q := ⟨_, rfl⟩
          rw [e3, ← hst]
          rw [← hst] at hst'
          have hcut : cutS (sOf t) (some (st : Int)) none = sOf (t.drop st) := str_ext (by rw [cs_cutFrom (by omega), cst, cs_sOf])
          have hcut2 : cutS (sOf t) none (some (st : Int)) = sOf (t.take st) := str_ext (by rw [cs_cutTo (by omega), cst, cs_sOf])
          refine ⟨_, rfl, _, rfl, _, rfl, sOf t, rfl, fits_sz (by rw [lt, tl]; omega), _, rfl, d, _, rfl, .inl ⟨kvs, Sum.inr _, .inl (s4 _ _ hd), rfl, rfl⟩, _, rfl, ?_⟩
          rw [hcut, tar_val tar]
          cases ef : tfD kvs (sOf (t.drop st)) with
          | none =>
            refine itF rfl ?_
            refine ⟨_, rfl, s4, f4, o4, ?_⟩
            have eg : costF (tfD kvs) t st = none := by
              unfold costF
              rw [ef]
              rfl
            rw [fm_range_succ, ← hst, eg, Option.toList_none, List.append_nil]
            exact c4
          | some p =>
            refine itT rfl ?_
            have vt : valV kf' (Sum.inr (sOf (t.take st))) = some (.int (lp (tfD kvs) (t.take st))) := by
              have h := t3.val (sOf (t.take st)) (Or.inl ⟨by rw [cs_sOf, List.length_take]; omega, by rw [cs_sOf]; exact fun c hc => tsg c (List.mem_of_mem_take hc)⟩)
              rw [cs_sOf] at h
              exact h
            refine ⟨_, rfl, .inl ⟨rfl, _, SqL.of c4⟩, _, rfl, _, rfl, _, rfl, _, rfl, sOf t, rfl, fits_sz (by rw [lt, tl]; omega), fo, .int (lp (tfD kvs) (t.take st)), rfl, .inl ⟨kf', Sum.inr _, .inl f4, rfl, by rw [hcut2]; exact vt.symm⟩, _, rfl, _, rfl, _, rfl, _, rfl, sOf t, rfl, fits_sz (by rw [lt, tl]; omega), d, .int p, rfl, .inl ⟨kvs, Sum.inr _, .inl (s4 _ _ hd), rfl, by rw [hcut, tar_val tar, ef]; rfl⟩, _, _, rfl, rfl, co, _, _, rfl, rfl, c4, ?_, ?_⟩
            · rw [List.length_map]
              exact small1000' (Nat.le_trans (List.length_filterMap_le _ _) (by rw [List.length_range]; omega))
            · refine ⟨_, rfl, same_mut s4 hco0, by rw [upd_ne nfc]; exact f4, by rw [upd_ne nlc]; exact o4, ?_⟩
              have eg : costF (tfD kvs) t st = some (lp (tfD kvs) (t.take st) + p) := by
                unfold costF
                rw [ef]
                rfl
              rw [upd_same, fm_range_succ, ← hst, eg, List.map_append]
              rfl
        · rintro σ H4 ⟨v, rfl, s4, f4, o4, c4⟩
          have ce : costs (tfD kvs) t = (List.range (i + 1 - (i + 1 - 5))).filterMap fun u => costF (tfD kvs) t (i + 1 - 5 + u) := by
            unfold costs
            rw [tl]
          rw [← ce] at c4
          obtain ⟨pos, least⟩ := cost_min good ovt (fun q => by rw [q] at tl; simp at tl)
          refine ⟨_, rfl, co, _, rfl, SqL.of c4, pos, fun m hm hle => ?_⟩
          have em := least m hm hle
          subst em
          refine ⟨_, rfl, _, rfl, fo, _, rfl, .inl ⟨kf', Sum.inr (sOf t), f4, rfl, ?_, rfl⟩, ?_⟩
          · exact Nat.lt_of_le_of_lt (by omega : _ ≤ 1000000) (by decide)
          · refine ⟨_, _, _, _, _, rfl, same_mut s4 hfo, upd_same, tbl_take ht t3, ?_, by rw [upd_ne (Ne.symm nfl)]; exact o4⟩
            have := put_len (kvs := kf') (k := Sum.inr (sOf t)) (v := .int (lp (tfD kvs) t))
            omega
      · rintro σ H3 ⟨y7, y8, y9, y10, kf', rfl, s3, f3, t3, n3, o3⟩
        rw [List.length_map] at n3 t3
        rw [List.take_length] at t3
        refine ⟨_, rfl, lo, _, rfl, .inl (SqL.of o3), fun la2 hla2 => ?_⟩
        refine ⟨la2, _, _, _, _, _, _, kf', rfl, s3.trans (same_new hla2), same_new hla2 _ _ f3, t3.congr fun z => inAll_succ, ?_, upd_same⟩
        omega
    · rintro σ H1 ⟨la, x5, x6, x7, x8, x9, x10, kf, rfl, s1, f1, t1, n1, l1⟩
      exact ⟨_, rfl, k fo kf H1 hfo f1 t1 (by omega) s1⟩
theorem sc__law_least : FnScope ["prices", "text", "found", "stop", "costs", "start"] ["prices", "text"] (defScope s__law_least) := ⟨rfl, rfl, rfl, by decide +kernel, rfl, by decide +kernel, by decide +kernel⟩
theorem ok__law_least {f : Addr} {fd : FuncData} (F : Fun K "_law_least" "_law_least" s__law_least f fd) (T : Txt K mg C) : FnG P w K mg base CX0 2 f fd ["prices", "text"] (spLawLeast) := by
  refine fn_g0 F sc__law_least (fun vs H Q E h => ?_) (fun cdv A outer s H vs Q E hg hr h => ?_)
  · obtain ⟨d, kvs, z, rfl, _⟩ := h
    rfl
  · have hu := hu_of hr
    obtain ⟨d, kvs, z, rfl, hd, tar, ov, hz, k⟩ := h
    refine ⟨_, (pss_cons (ps_set (i := 2) sc__law_least.nd rfl (Or.inl rfl) (pe_lst (pa_cons pe_int pa_nil)))
      (pss_cons (ps_for PassesOwn.never rfl (pi_range2 (by rfl) T.b_range (pa_cons pe_int (pa_cons (pe_op op_add (pe_callB call_len_str (by rfl) T.b_len (by decide +kernel) (pa_cons (pv 1) pa_nil)) pe_int) pa_nil))) (pg_name (i := 3) sc__law_least.nd rfl (Or.inl rfl)) (pss_cons (ps_set (i := 4) sc__law_least.nd rfl (Or.inl rfl) (pe_lst pa_nil))
      (pss_cons (ps_for PassesOwn.never rfl (pi_range2 (by rfl) T.b_range (pa_cons (pe_callB (call_max2 rfl) (by rfl) T.b_max (by decide +kernel) (pa_cons pe_int (pa_cons (pe_op op_sub (pv 3) pe_int) pa_nil))) (pa_cons (pv 3) pa_nil))) (pg_name (i := 5) sc__law_least.nd rfl (Or.inl rfl)) (pss_one (ps_if (pt_cmp (pc_din hu (pe_slice sl_str (pv 1) (po_some (pv 5)) (po_some (pv 3))) (pv 0))) (pss_one (ps_expr (g_bm K PySem.F.plainAttrs_list PySem.F.slot_list_append PySem.F.type_list_append mt_append (pv 4) (pa_cons (pe_op op_add (pe_ix (g_ix_list K) (pv 2) (pv 5) (fun _ _ => rfl)) (pe_dget hu (pv 0) (pe_slice sl_str (pv 1) (po_some (pv 5)) (po_some (pv 3))) (fun _ _ => rfl))) pa_nil)))) pss_nil)))
      (pss_one (ps_expr (g_bm K PySem.F.plainAttrs_list PySem.F.slot_list_append PySem.F.type_list_append mt_append (pv 2) (pa_cons (pe_callB (g_min K rfl) (by rfl) T.b_min (by decide +kernel) (pa_cons (pv 4) pa_nil)) pa_nil)))))))
      (pss_one (ps_ret (pe_ix (g_ix_list K) (pv 2) (pe_un un_neg pe_int) (fun _ _ => rfl)))))), ?_⟩
    have good := tar.good
    have lz := cs_len z
    refine ⟨(by show 1 ≤ sizeLine; decide), fun fo hfo => ?_⟩
    refine ⟨_, rfl, z, rfl, fits_sz (by omega), _, _, rfl, rfl, 1, _, rfl, ⟨by omega, by omega, by omega, by omega⟩, for_range (lo := 1) (Pv := fun i σ H' => ∃ u v w, σ = [some (.ref d), some (.str z), some (.ref fo), u, v, w] ∧ Same H H' ∧ H' fo = some (.lst (rowV (tfD kvs) (cs z) (i + 1))))
      ⟨_, _, _, rfl, same_new hfo, by rw [upd_same, rowV_one good]⟩ ?_ ?_⟩
    · rintro i σ H1 hi ⟨u, v, w, rfl, s1, f1⟩
      have hi' : i < z.length := by omega
      have e1 : (1 : Int) + (i : Int) = ((i + 1 : Nat) : Int) := by omega
      rw [e1]
      have hl : ((cs z).take (i + 1)).length = i + 1 := by rw [List.length_take]; omega
      have ovl := ov.take (i + 1)
      refine ⟨by show 0 ≤ sizeLine; decide, fun co hco => ?_⟩
      have hco0 : H co = none := s1.free hco
      have nfc : fo ≠ co := ne_of_none f1 hco
      refine ⟨_, rfl, _, _, rfl, rfl, _, _, rfl, _, rfl, ((i + 1 - 5 : Nat) : Int), _, congrArg (fun t => [V.int t, V.int ((i + 1 : Nat) : Int)]) (max0 (i + 1)), ⟨by omega, by omega, by omega, by omega⟩, ?_⟩
      have e2 : (((i + 1 : Nat) : Int) - ((i + 1 - 5 : Nat) : Int)).toNat = i + 1 - (i + 1 - 5) := by omega
      rw [e2]
      refine for_range (lo := ((i + 1 - 5 : Nat) : Int)) (Pv := fun j σ H' => ∃ v, σ = [some (.ref d), some (.str z), some (.ref fo), some (.int ((i + 1 : Nat) : Int)), some (.ref co), v] ∧ Same H H' ∧ H' fo = some (.lst (rowV (tfD kvs) (cs z) (i + 1))) ∧
        H' co = some (.lst (((List.range j).filterMap fun t => costF (tfD kvs) ((cs z).take (i + 1)) (i + 1 - 5 + t)).map V.int))) ⟨_, rfl, s1.trans (same_new hco), by rw [upd_ne nfc]; exact f1, upd_same⟩ ?_ ?_
      · rintro j σ H2 hj ⟨v, rfl, s2, f2, c2⟩
        have e3 : ((i + 1 - 5 : Nat) : Int) + (j : Int) = ((i + 1 - 5 + j : Nat) : Int) := by omega
        have hs : i + 1 - 5 + j < i + 1 := by omega
        obtain ⟨st, hst⟩ : ∃ st, st = i + 1 - 5 + j := ⟨_, rfl⟩
        rw [e3, ← hst]
        rw [← hst] at hs
        have hcut : cutS z (some (st : Int)) (some ((i + 1 : Nat) : Int)) = sOf (((cs z).take (i + 1)).drop st) := str_ext (by rw [cs_cutAB (by omega) (by omega), cs_sOf])
        refine ⟨_, rfl, _, rfl, _, rfl, _, rfl, _, rfl, _, rfl, fits_sz (by omega), _, rfl, d, _, rfl, .inl ⟨kvs, Sum.inr _, rd_same hd s2, rfl, rfl⟩, _, rfl, ?_⟩
        rw [hcut, tar_val tar]
        cases ef : tfD kvs (sOf (((cs z).take (i + 1)).drop st)) with
        | none =>
          refine itF rfl ?_
          refine ⟨_, rfl, s2, f2, ?_⟩
          have eg : costF (tfD kvs) ((cs z).take (i + 1)) st = none := by
            unfold costF
            rw [ef]
            rfl
          rw [fm_range_succ, ← hst, eg, Option.toList_none, List.append_nil]
          exact c2
        | some p =>
          refine itT rfl ?_
          refine ⟨_, rfl, .inl ⟨rfl, _, SqL.of c2⟩, _, rfl, _, rfl, fo, _, _, _, rfl, rfl, SqL.of f2, at_of (j := st) rfl (rowV_at (by omega)), _, rfl, _, rfl, _, rfl, _, rfl, _, rfl, _, rfl, _, rfl, fits_sz (by omega), d, .int p, rfl, .inl ⟨kvs, Sum.inr _, rd_same hd s2, rfl, by rw [hcut, tar_val tar, ef]; rfl⟩, _, _, rfl, rfl, co, _, _, rfl, rfl, c2, ?_, ?_⟩
          · rw [List.length_map]
            exact small1000' (Nat.le_trans (List.length_filterMap_le _ _) (by rw [List.length_range]; omega))
          · refine ⟨_, rfl, same_mut s2 hco0, by rw [upd_ne nfc]; exact f2, ?_⟩
            have eg : costF (tfD kvs) ((cs z).take (i + 1)) st = some (lp (tfD kvs) ((cs z).take st) + p) := by
              unfold costF
              rw [ef, List.take_take]
              have : min st (i + 1) = st := by omega
              rw [this]
              rfl
            rw [upd_same, fm_range_succ, ← hst, eg, List.map_append]
            rfl
      · rintro σ H2 ⟨v, rfl, s2, f2, c2⟩
        have ce : costs (tfD kvs) ((cs z).take (i + 1)) = (List.range (i + 1 - (i + 1 - 5))).filterMap fun t => costF (tfD kvs) ((cs z).take (i + 1)) (i + 1 - 5 + t) := by
          unfold costs
          rw [hl]
        rw [← ce] at c2
        obtain ⟨pos, least⟩ := cost_min good ovl (fun q => by rw [q] at hl; simp at hl)
        refine ⟨_, rfl, .inl ⟨rfl, _, SqL.of f2⟩, _, rfl, co, _, rfl, SqL.of c2, pos, fun m hm hle => ?_⟩
        have em := least m hm hle
        subst em
        refine ⟨fo, _, _, rfl, rfl, f2, by rw [rowV_len]; exact small1000' (by omega), ?_⟩
        refine ⟨_, _, _, rfl, same_mut s2 hfo, ?_⟩
        rw [upd_same, rowV_succ (n := i + 1)]
    · rintro σ H1 ⟨u, v, w, rfl, s1, f1⟩
      have e1 : ((z.length : Int) + 1 - 1).toNat = z.length := by omega
      rw [e1] at f1
      refine ⟨_, rfl, _, rfl, fo, _, _, _, rfl, rfl, SqL.of f1, by rw [rowV_succ]; exact atI_last, ?_⟩
      have e2 : (cs z).take z.length = cs z := List.take_of_length_le (by omega)
      rw [e2]
      exact k _ s1
theorem sc__law_same : FnScope ["one", "two", "signs", "texts", "size", "text"] ["one", "two", "signs", "texts"] (defScope s__law_same) := ⟨rfl, rfl, rfl, by decide +kernel, rfl, by decide +kernel, by decide +kernel⟩
theorem ok__law_same {f : Addr} {fd : FuncData} (F : Fun K "_law_same" "_law_same" s__law_same f fd) (T : Txt K mg C) (c__law_all : Has P w K mg base CX0 2 "_law_all" ["prices", "signs", "size"] (spAll K)) (c__law_least : Has P w K mg base CX0 2 "_law_least" ["prices", "text"] (spLawLeast)) : FnG P w K mg base CX0 3 f fd ["one", "two", "signs", "texts"] (spSame K) := by
  refine fn_g0 F sc__law_same (fun vs H Q E h => ?_) (fun cdv A outer s H vs Q E hg hr h => ?_)
  · obtain ⟨d1, d2, sa, ta, k1, k2, sg, ts, rfl, _⟩ := h
    rfl
  · have hu := hu_of hr
    obtain ⟨d1, d2, sa, ta, k1, k2, sg, ts, rfl, h1, h2, T1, T2, hs, n1, n4, sgns, ht, tl, tt, same, k⟩ := h
    refine ⟨_, (pss_cons (ps_set (i := 4) sc__law_same.nd rfl (Or.inl rfl) (pe_ix (g_ix_list K) (pe_lst (pa_cons pe_int (pa_cons pe_int (pa_cons pe_int (pa_cons pe_int pa_nil))))) (pe_op op_sub (pe_callB (g_len_seq K) (by rfl) T.b_len (by decide +kernel) (pa_cons (pv 2) pa_nil)) pe_int) (fun _ _ => rfl)))
      (pss_cons (ps_if (pt_cmpR (op_neDS hr.units) (pe_has c__law_all hg (hr.mono (by decide)) pass0 (pa_cons (pv 0) (pa_cons (pv 2) (pa_cons (pv 4) pa_nil)))) (pe_has c__law_all hg (hr.mono (by decide)) pass0 (pa_cons (pv 1) (pa_cons (pv 2) (pa_cons (pv 4) pa_nil)))) (nomark _)) (pss_one (ps_ret pe_bl)) pss_nil)
      (pss_one (ps_ret (pe_cmpR (g_eqD K hr.units) (pe_lc (own := [("text", 5)]) rfl sc__law_same.nd (g_list K (pv 3)) (blkOk_by (own := [("text", 5)]) (N := ["one", "two", "signs", "texts", "size", "text"]) (sc := defScope s__law_same) (by decide +kernel)) (fun _ _ _ _ _ => (pg_name (i := 5) sc__law_same.nd rfl (Or.inl rfl))) (fun _ _ _ _ _ => pts_nil) (fun _ _ _ _ _ => (pe_has c__law_least hg (hr.mono (by decide)) pass0 (pa_cons (pv 0) (pa_cons (pv 5) pa_nil))))) (pe_lc (own := [("text", 5)]) rfl sc__law_same.nd (g_list K (pv 3)) (blkOk_by (own := [("text", 5)]) (N := ["one", "two", "signs", "texts", "size", "text"]) (sc := defScope s__law_same) (by decide +kernel)) (fun _ _ _ _ _ => (pg_name (i := 5) sc__law_same.nd rfl (Or.inl rfl))) (fun _ _ _ _ _ => pts_nil) (fun _ _ _ _ _ => (pe_has c__law_least hg (hr.mono (by decide)) pass0 (pa_cons (pv 1) (pa_cons (pv 5) pa_nil))))) (nomark _)))))), ?_⟩
    refine ⟨by show 4 ≤ sizeLine; decide, fun p hp => ?_⟩
    have s0 := same_new hp (o := .lst [V.int 8, .int 6, .int 4, .int 3])
    refine ⟨_, rfl, sa, _, rfl, .inl (s0.seq hs), _, _, rfl, rfl, p, _, _, _, rfl, rfl, SqL.of upd_same, by rw [List.length_map]; exact sizeL_at n1 n4, ?_⟩
    generalize (upd H p (.lst [V.int 8, .int 6, .int 4, .int 3])) = H0 at s0 ⊢
    refine ⟨_, rfl, _, rfl, _, rfl, d1, k1, sa, sg, sizeL sg.length, rfl, s0 _ _ h1, T1, s0.seq hs, fun c hc => (sgns c hc).1, n4, sizeL_le _, fun f1 kf1 H1 hf1 e1 t1 l1 s1 => ?_⟩
    have s01 := s0.trans s1
    refine ⟨_, rfl, _, rfl, _, rfl, d2, k2, sa, sg, sizeL sg.length, rfl, s01 _ _ h2, T2, s01.seq hs, fun c hc => (sgns c hc).2, n4, sizeL_le _, fun f2 kf2 H2 hf2 e2 t2 l2 s2 => ?_⟩
    have s02 := s01.trans s2
    have ov1 : ∀ z, InAll sg (sizeL sg.length) z → Over (tfD k1) (cs z) := fun z hz c hc => (sgns c (hz.2 c hc)).1
    refine ⟨f1, f2, kf1, kf2, rfl, rfl, .inl (s2 _ _ e1), .inl e2, fun q hq => ?_, fun q hq => ?_, false, rfl, ?_⟩
    · obtain ⟨z, ez, hz⟩ := t1.key q hq
      rw [ez]
      refine ⟨_, t1.val z hz, ?_, rfl⟩
      rw [same _ (ov1 z hz)]
      exact t2.val z hz
    · obtain ⟨z, ez, hz⟩ := t2.key q hq
      rw [ez]
      exact valV_in (t1.val z hz)
    · have s02' := s02
      refine ⟨_, rfl, ta, rfl, ⟨_, s02.seq ht⟩, fun D hD => ?_⟩
      refine lcs ts (walk_listF (K := K) V.str ts) (fun z => some (V.int (lp (tfD k1) (cs z)))) hD (by omega) (fun H' s => s.seq (s02.seq ht)) ?_ ?_
      · rintro i y x H3 H4 hi s3 ⟨rfl, z', ez, rfl⟩ N M' hN hM
        have e1 : y = z' := Option.some.inj (hi.symm.trans ez)
        subst e1
        obtain ⟨yl, yc⟩ := tt y (List.mem_of_getElem? hi)
        refine ⟨wipe_set, _, rfl, _, rfl, d1, k1, y, rfl, .inl ((s02.trans s3) _ _ h1), T1, fun c hc => (sgns c (yc c hc)).1, by rw [← cs_len]; omega, fun H5 s5 => hN _ _ rfl s5⟩
      intro H3 s3 e3
      rw [fm_some] at e3
      have s03 := s02.trans s3
      refine ⟨_, rfl, ta, rfl, ⟨_, s03.seq ht⟩, fun D2 hD2 => ?_⟩
      refine lcs ts (walk_listF (K := K) V.str ts) (fun z => some (V.int (lp (tfD k2) (cs z)))) hD2 (by omega) (fun H' s => s.seq (s03.seq ht)) ?_ ?_
      · rintro i y x H5 H6 hi s5 ⟨rfl, z', ez, rfl⟩ N M' hN hM
        have e1 : y = z' := Option.some.inj (hi.symm.trans ez)
        subst e1
        obtain ⟨yl, yc⟩ := tt y (List.mem_of_getElem? hi)
        refine ⟨wipe_set, _, rfl, _, rfl, d2, k2, y, rfl, .inl ((s03.trans s5) _ _ h2), T2, fun c hc => (sgns c (yc c hc)).2, by rw [← cs_len]; omega, fun H7 s7 => hN _ _ rfl s7⟩
      intro H5 s5 e5
      rw [fm_some] at e5
      have em : (ts.map fun z => V.int (lp (tfD k1) (cs z))) = (ts.map fun z => lp (tfD k2) (cs z)).map V.int := by
        rw [List.map_map]
        refine List.map_congr_left fun z hz => ?_
        obtain ⟨yl, yc⟩ := tt z hz
        show V.int _ = V.int _
        rw [same _ fun c hc => (sgns c (yc c hc)).1]
      rw [em] at e3
      refine eqD_same (d := .list ((ts.map fun z => lp (tfD k2) (cs z)).map PyData.int)) (.lst (SqL.of (s5 _ _ e3)) (dp_intsL _)) (.lst (SqL.of (by rw [e5, List.map_map]; rfl)) (dp_intsL (ts.map fun z => lp (tfD k2) (cs z)))) (shaped_ints _) ?_
      exact k H5 (s03.trans s5)
theorem sc__law_tight : FnScope ["book", "prices", "piece", "rest", "other", "one"] ["book"] (defScope s__law_tight) := ⟨rfl, rfl, rfl, by decide +kernel, rfl, by decide +kernel, by decide +kernel⟩
theorem ok__law_tight {f : Addr} {fd : FuncData} (F : Fun K "_law_tight" "_law_tight" s__law_tight f fd) (T : Txt K mg C) (c_Book_prices : HasP P w K mg base 1 C "prices" (spPrices C)) (c_Book_pieces : HasP P w K mg base 1 C "pieces" (spPieces C)) (c_Book___sub__ : C8.Met P w K mg base 8 C "__sub__" (spSub1 C) []) (c__law_least : Has P w K mg base CX0 2 "_law_least" ["prices", "text"] (spLawLeast)) (c_dearer_piece : HasO P w K mg base CX0 6 "dearer_piece" ["book", "other"] (spDearer C)) : FnG P w K mg base CX0 9 f fd ["book"] (spTight C) := by
  refine fn_g0 F sc__law_tight (fun vs H Q E h => ?_) (fun cdv A outer s H vs Q E hg hr h => ?_)
  · obtain ⟨b, kvs, rfl, _⟩ := h
    rfl
  · have hu := hu_of hr
    obtain ⟨b, kvs, rfl, B, tight, k⟩ := h
    refine ⟨_, (pss_cons (ps_set (i := 1) sc__law_tight.nd rfl (Or.inr rfl) (pe_prp c_Book_prices hr (by decide) (pv 0)))
      (pss_cons (ps_for PassesOwn.never rfl (g_tuple K (pe_prp c_Book_pieces hr (by decide) (pv 0))) (pg_name (i := 2) sc__law_tight.nd rfl (Or.inr rfl)) (pss_one (ps_if (pt_cmpR op_gt (pe_callB call_len_str (by rfl) T.b_len (by decide +kernel) (pa_cons (pv 2) pa_nil)) pe_int (nomark _)) (pss_cons (ps_set (i := 3) sc__law_tight.nd rfl (Or.inl rfl) (pe_callTy (g_dictP K rfl) (by rfl) T.b_dict (by decide +kernel) (pa_cons (pe_lock (by exact (pe_lc (own := [("one", 5)]) rfl sc__law_tight.nd (pi_keys (pv 1)) (blkOk_by (own := [("one", 5)]) (N := ["book", "prices", "piece", "rest", "other", "one"]) (sc := defScope s__law_tight) (by decide +kernel)) (fun _ _ _ _ _ => (pg_name (i := 5) sc__law_tight.nd rfl (Or.inl rfl))) (fun _ _ _ _ _ => (pts_one (pt_cmpR op_ne (pv 5) (pv 2) (nomark _)))) (fun _ _ _ _ _ => (pe_tup (pa_cons (pv 5) (pa_cons (pe_dget hu (pv 1) (pv 5) (fun _ _ => rfl)) pa_nil))))))) pa_nil)))
      (pss_cons (ps_set (i := 4) sc__law_tight.nd rfl (Or.inl rfl) (pe_op (op_subO K c_Book___sub__ hr (by decide) T.sf T.rs T.ts T.tr T.ap) (pv 0) (pe_tup (pa_cons (pv 2) pa_nil))))
      (pss_one (ps_if (PW.pt (pw_or (pt_cmpR op_le (pe_has c__law_least hg (hr.mono (by decide)) pass0 (pa_cons (pv 3) (pa_cons (pv 2) pa_nil))) (pe_dget hu (pv 1) (pv 2) (fun _ _ => rfl)) (nomark _)) (pw_or1 (pt_cmpR (g_neD K hr.units) (pe_hasO c_dearer_piece (hr.mono (by decide)) pass0 (pa_cons (pv 4) (pa_cons (pv 0) pa_nil))) (pv 2) (nomark _))))) (pss_one (ps_ret pe_bl)) pss_nil)))) pss_nil)))
      (pss_one (ps_ret pe_bl)))), ?_⟩
    have av := B.av
    have nd := B.nd
    have tar := tar_of av nd
    obtain ⟨_, _, _, dx, _, _, _, _, _, _, A⟩ := id B.ex
    have al := (ap_parts av).2.1
    refine ⟨_, rfl, b, dx, _, rfl, A.ob, b, kvs, rfl, B, fun pd ys H1 hp pm so e1 s1 => ?_⟩
    obtain ⟨_, _, _, dx1, _, _, _, _, _, _, A1⟩ := id (B.same s1).ex
    refine ⟨_, rfl, b, dx1, _, rfl, A1.ob, b, kvs, rfl, B.same s1, fun t ys2 pm2 so2 t1 => ?_⟩
    refine ⟨t, rfl, ⟨_, SqT.of t1⟩, for_it (walk_tupF (K := K) V.str ys2) (Pv := fun i σ H' => ∃ x2 x3 x4, σ = [some (.ref b), some (.ref pd), x2, x3, x4, none] ∧ Same H1 H') ⟨_, _, _, rfl, Same.refl _⟩ (fun i σ H' _ q => by obtain ⟨_, _, _, _, q⟩ := q; exact SqT.of (q _ _ t1)) ?_ ?_⟩
    · rintro i x σ Hz Hb hi ⟨x2, x3, x4, rfl, sb⟩ ⟨rfl, z, hz, rfl⟩
      have hk := pm2.mem_iff.mp (List.mem_of_getElem? hz)
      obtain ⟨q, hq⟩ := (tf_key al).mp hk
      obtain ⟨z1, z5, zl⟩ := keyStrs_piece al z hk
      have lz := cs_len z
      refine ⟨_, rfl, z, rfl, fits_sz (by omega), _, _, rfl, rfl, _, rfl, ?_⟩
      refine itB (fun g1 => ?_) (fun g1 => ?_)
      · have l1z : 1 < (cs z).length := by
          have := of_decide_eq_true g1
          omega
        obtain ⟨avP, ndP, FP⟩ := whole_book av nd pm
        have hpd := sb _ _ e1
        have Bb := B.same (s1.trans sb)
        generalize hpk : kvOf (psOf kvs ys) = pk at avP ndP FP hpd
        have tarP := tar_of avP ndP
        have plen := tarP.len
        obtain ⟨av0, nd0⟩ := less_book avP ndP l1z
        have F0 := tf_less (kvs := pk) (w := z)
        rw [FP] at F0
        have tar0 := tar_of av0 nd0
        have hqP : tfD pk z = some q := by
          rw [FP]
          exact hq
        -- the other pieces
        refine ⟨pd, _, hpd, trivial, fun od => ?_⟩
        refine ⟨_, rfl, pd, od, rfl, .inl ⟨pk, upd_same, fun L hL => ?_⟩⟩
        have nL := lock_ne hL
        refine lc_it (walk_keys (kvs := pk)) (fun j H' => ∃ prs : List (Addr × (Key × V)), H' L = some (.lst (prs.map fun p => V.ref p.1)) ∧ (∀ p ∈ prs, H' p.1 = some (.tup [kV p.2.1, p.2.2])) ∧ prs.map (·.2) = lessK (pk.take j) z ∧ prs.length ≤ j ∧ Same (upd Hb pd (.frz od (.dK pk))) H')
          ⟨[], upd_same, fun _ h => (List.not_mem_nil h).elim, rfl, Nat.le_refl _, same_new hL⟩ (fun j H' _ q => by obtain ⟨_, _, _, _, _, q⟩ := q; exact q _ _ upd_same) ?_ ?_
        · rintro j x H1 H2 hj ⟨prs, e1, p1, m1, l1, s1⟩ ⟨rfl, k', v', ek, rfl⟩
          obtain ⟨y, q, ey, hq⟩ := tarP.mem _ (List.mem_of_getElem? ek)
          cases ey
          have et : pk.take (j + 1) = pk.take j ++ [(Sum.inr y, V.int q)] := by
            rw [List.take_add_one, ek]
            rfl
          refine ⟨wipe_set, _, rfl, _, rfl, rfl, _, rfl, ?_⟩
          refine itB (fun g => ?_) (fun g => ?_)
          · have ng := ne_key (z := z) (y := y) g
            refine ⟨_, rfl, _, rfl, _, rfl, pd, _, rfl, .inl ⟨pk, Sum.inr y, .inr ⟨od, s1 _ _ upd_same⟩, rfl, (tf_some.mp hq).symm⟩, by show 2 ≤ sizeLine; decide, fun Tt hT => ?_⟩
            refine ⟨_, same_new hT _ _ e1, by rw [List.length_map]; exact small1000' (by omega), prs ++ [(Tt, (Sum.inr y, .int q))], by rw [upd_same, List.map_append]; rfl, fun p hp => ?_, ?_, by rw [List.length_append]; show prs.length + 1 ≤ j + 1; omega, same_mut (s1.trans (same_new hT)) hL⟩
            · have at' : (upd H2 Tt (.tup [kV (Sum.inr y), .int q])) p.1 = some (.tup [kV p.2.1, p.2.2]) := by
                rcases List.mem_append.mp hp with h | h
                · exact same_new hT _ _ (p1 p h)
                · rw [List.mem_singleton.mp h]
                  exact upd_same
              have n : p.1 ≠ L := fun e => by
                rw [e, same_new hT _ _ e1] at at'
                cases at'
              rw [upd_ne n]
              exact at'
            · rw [List.map_append, m1, et]
              unfold lessK
              rw [List.filter_append]
              have : [((Sum.inr y : Key), V.int q)].filter (fun kv => !decide (kv.1 = Sum.inr z)) = [(Sum.inr y, V.int q)] := by
                rw [List.filter_cons, if_pos]
                · rfl
                · simpa using ng
              rw [this]
              rfl
          · have ng := ne_key (z := z) (y := y) g
            refine ⟨prs, e1, p1, ?_, by omega, s1⟩
            rw [m1, et]
            unfold lessK
            rw [List.filter_append]
            have : [((Sum.inr y : Key), V.int q)].filter (fun kv => !decide (kv.1 = Sum.inr z)) = [] := by
              rw [List.filter_cons, if_neg]
              · rfl
              · simpa using ng
            rw [this, List.append_nil]
        rintro H1 ⟨prs, e1, p1, m1, l1, s1⟩
        rw [List.take_length] at m1
        have S1 : Same Hb (upd H1 pd (.dK pk)) := unlock hpd s1
        refine ⟨s1 _ _ upd_same, ?_⟩
        have nLp : L ≠ pd := nL
        have e1' : (upd H1 pd (.dK pk)) L = some (.lst (prs.map fun p => V.ref p.1)) := by
          rw [upd_ne nLp]
          exact e1
        have p1' : ∀ p ∈ prs, (upd H1 pd (.dK pk)) p.1 = some (.tup [kV p.2.1, p.2.2]) := fun p hp => by
          have n : p.1 ≠ pd := fun e => by
            have h := p1 p hp
            rw [e, s1 _ _ upd_same] at h
            cases h
          rw [upd_ne n]
          exact p1 p hp
        generalize (upd H1 pd (.dK pk)) = H2 at S1 e1' p1' ⊢
        refine ⟨L, prs.map (·.1), prs.map (·.2), rfl, SqL.of (by rw [e1', List.map_map]; rfl), paired_of (F := fun (p : Addr) (kv : Key × V) => SqT K H2 p [kV kv.1, kv.2]) (ps := prs) (fun p hp => SqT.of (p1' p hp)), fun od0 hod => ?_⟩
        have em : mergeK [] (prs.map (·.2)) = lessK pk z := by
          rw [m1]
          have h := merge_nd (more := lessK pk z) (kvs := []) (by rw [List.nil_append]; exact nd0)
          rwa [List.nil_append] at h
        rw [em]
        have S3 : Same Hb (upd H2 od0 (.dK (lessK pk z))) := S1.trans (same_new hod)
        have d3 : (upd H2 od0 (.dK (lessK pk z))) od0 = some (.dK (lessK pk z)) := upd_same
        generalize (upd H2 od0 (.dK (lessK pk z))) = H3 at S3 d3 ⊢
        have B3 := Bb.same S3
        obtain ⟨_, _, _, dx3, _, _, _, _, _, _, A3⟩ := id B3.ex
        refine ⟨_, rfl, _, rfl, by show 1 ≤ sizeLine; decide, fun u hu => ?_⟩
        have su := same_new hu (o := .tup [.str z])
        refine ⟨b, dx3, _, u, _, rfl, rfl, su _ _ A3.ob, SqT.of upd_same, b, u, kvs, z, q, rfl, B3.same su, upd_same, hq, l1z, fun b' kv' H4 B4 F4 s4 => ⟨⟨b', rfl⟩, ?_⟩⟩
        have d4 := s4 _ _ (su _ _ d3)
        have e4 := s4 _ _ (su _ _ (S3 _ _ hpd))
        have tz := tight z q hq l1z
        have good := tar.good
        have ovz : Over (tfD (lessK pk z)) (cs z) := by
          rw [F0]
          exact rem_over l1z (good.cov z q hq)
        refine ⟨_, rfl, _, rfl, od0, lessK pk z, z, rfl, .inl d4, tar0, ovz, by omega, fun H5 s5 => ?_⟩
        rw [F0]
        refine ⟨_, rfl, _, rfl, pd, _, rfl, .inl ⟨pk, Sum.inr z, .inl (s5 _ _ e4), rfl, (tf_some.mp hqP).symm⟩, _, _, rfl, rfl, false, congrArg V.bl (decide_eq_false (by omega)), ?_⟩
        have ss : SameSigns (tfD kv') (tfD kvs) := fun c => by
          rw [F4]
          unfold remF
          rw [if_neg fun e => by
            rw [← e] at l1z
            exact absurd (show 1 < 1 from l1z) (by decide)]
        refine ⟨_, rfl, _, rfl, kv', kvs, ⟨b', b, rfl, B4.same s5, ((B3.same su).same s4).same s5, ss⟩, fun r H6 s6 dr => ?_⟩
        have dr' : DearR (remF (tfD kvs) z) (putF (remF (tfD kvs) z) z q) r := by
          rw [put_rem hq]
          rw [F4] at dr
          exact dr
        have er := dear_fwd (rem_good good l1z) dr'
        rw [if_pos tz] at er
        subst er
        refine ⟨_, rfl, ?_⟩
        refine neD_same (d := .str z) (.str z) (.str z) (shaped_str zl) ⟨false, rfl, ?_⟩
        exact ⟨_, _, _, rfl, sb.trans (S3.trans (su.trans (s4.trans (s5.trans s6))))⟩
      · exact ⟨_, _, _, rfl, sb⟩
    · rintro σ H2 ⟨x2, x3, x4, rfl, s2⟩
      exact k H2 (s1.trans s2)
theorem sc__law_choices_right : FnScope ["dice", "book", "plain", "signs", "least", "turn", "some", "other", "kept", "piece"] ["dice", "book", "plain", "signs", "least"] (defScope s__law_choices_right) := ⟨rfl, rfl, rfl, by decide +kernel, rfl, by decide +kernel, by decide +kernel⟩
theorem ok__law_choices_right {f : Addr} {fd : FuncData} (F : Fun K "_law_choices_right" "_law_choices_right" s__law_choices_right f fd) (T : Txt K mg C) (c_Book : C8.Mak P w K mg base 5 "Book" C (spBook C K) []) (c_Book___eq__ : C8.Met P w K mg base 1 C "__eq__" (spEqB C) []) (c__law_some : Has P w K mg base CX0 2 "_law_some" ["dice", "items", "many"] (spSome K)) (c__law_roll : Has P w K mg base CX0 1 "_law_roll" ["dice", "upto"] (spRoll)) (c_least_book : HasO P w K mg base CX0 7 "least_book" ["book"] (spLeast C)) (c_are_as_cheap : HasO P w K mg base CX0 6 "are_as_cheap" ["book", "other"] (spAsCheap C)) (c_is_nowhere_dearer : HasO P w K mg base CX0 6 "is_nowhere_dearer" ["book", "other"] (spNowhere C)) : FnG P w K mg base CX0 9 f fd ["dice", "book", "plain", "signs", "least"] (spChoices K C) := by
  refine fn_g0 F sc__law_choices_right (fun vs H Q E h => ?_) (fun cdv A outer s H vs Q E hg hr h => ?_)
  · obtain ⟨l, b, pd, sa, la, kvs, sg, zs, n, rfl, _⟩ := h
    rfl
  · have hu := hu_of hr
    obtain ⟨l, b, pd, sa, la, kvs, sg, zs, n, rfl, npd, nsa, nla, B, hpd, hsa, sgns, n4, hla, zmem, z12, D, k⟩ := h
    refine ⟨_, (pss_cons (ps_for PassesOwn.never rfl (pi_range1 (by rfl) T.b_range (pa_cons pe_int pa_nil)) (pg_name (i := 5) sc__law_choices_right.nd rfl (Or.inl rfl)) (pss_cons (ps_set (i := 6) sc__law_choices_right.nd rfl (Or.inr rfl) (pe_op op_cat (pv 3) (pe_has c__law_some hg (hr.mono (by decide)) pass0 (pa_cons (pv 0) (pa_cons (pe_callTy (call_listD rfl) (by rfl) T.b_list (by decide +kernel) (pa_cons (pv 2) pa_nil)) (pa_cons (pe_has c__law_roll hg (hr.mono (by decide)) pass0 (pa_cons (pv 0) (pa_cons (pe_op op_add (pe_callB call_lenF (by rfl) T.b_len (by decide +kernel) (pa_cons (pv 2) pa_nil)) pe_int) pa_nil))) pa_nil))))))
      (pss_cons (ps_if (pt_cmpR op_eq (pe_op op_mod (pv 5) pe_int) pe_int (nomark _)) (pss_one (ps_set (i := 6) sc__law_choices_right.nd rfl (Or.inr rfl) (pe_op op_cat (pv 6) (pe_lc (own := [("piece", 9)]) rfl sc__law_choices_right.nd (g_list K (pv 4)) (blkOk_by (own := [("piece", 9)]) (N := ["dice", "book", "plain", "signs", "least", "turn", "some", "other", "kept", "piece"]) (sc := defScope s__law_choices_right) (by decide +kernel)) (fun _ _ _ _ _ => (pg_name (i := 9) sc__law_choices_right.nd rfl (Or.inl rfl))) (fun _ _ _ _ _ => (pts_one (pt_cmpR op_gt (pe_has c__law_roll hg (hr.mono (by decide)) pass0 (pa_cons (pv 0) (pa_cons pe_int pa_nil))) pe_int (nomark _)))) (fun _ _ _ _ _ => (pv 9)))))) pss_nil)
      (pss_cons (ps_set (i := 7) sc__law_choices_right.nd rfl (Or.inl rfl) (C8.pe_mk c_Book hr (by decide) (by rfl) (pa_cons (pe_callTy (g_dictP K rfl) (by rfl) T.b_dict (by decide +kernel) (pa_cons (pe_lc (own := [("piece", 9)]) rfl sc__law_choices_right.nd (g_list K (pv 6)) (blkOk_by (own := [("piece", 9)]) (N := ["dice", "book", "plain", "signs", "least", "turn", "some", "other", "kept", "piece"]) (sc := defScope s__law_choices_right) (by decide +kernel)) (fun _ _ _ _ _ => (pg_name (i := 9) sc__law_choices_right.nd rfl (Or.inl rfl))) (fun _ _ _ _ _ => pts_nil) (fun _ _ _ _ _ => (pe_tup (pa_cons (pv 9) (pa_cons (pe_dget hu (pv 2) (pv 9) (fun _ _ => rfl)) pa_nil))))) pa_nil)) pa_nil)))
      (pss_cons (ps_set (i := 8) sc__law_choices_right.nd rfl (Or.inl rfl) (pe_cmpR (g_eqD K hr.units) (pe_lc (own := [("piece", 9)]) rfl sc__law_choices_right.nd (g_list K (pv 4)) (blkOk_by (own := [("piece", 9)]) (N := ["dice", "book", "plain", "signs", "least", "turn", "some", "other", "kept", "piece"]) (sc := defScope s__law_choices_right) (by decide +kernel)) (fun _ _ _ _ _ => (pg_name (i := 9) sc__law_choices_right.nd rfl (Or.inl rfl))) (fun _ _ _ _ _ => (pts_one (pt_cmpR (g_notIn_seq K) (pv 9) (pv 6) (by rfl)))) (fun _ _ _ _ _ => (pv 9))) (pe_lst pa_nil) (nomark _)))
      (pss_cons (ps_if (pt_cmpR op_ne (pe_callB (g_repr K hg hr.units) (by rfl) T.b_repr (by decide +kernel) (pa_cons (pe_lst (pa_cons (pe_hasO c_are_as_cheap (hr.mono (by decide)) pass0 (pa_cons (pv 1) (pa_cons (pv 7) pa_nil))) (pa_cons (pe_hasO c_is_nowhere_dearer (hr.mono (by decide)) pass0 (pa_cons (pv 7) (pa_cons (pv 1) pa_nil))) pa_nil))) pa_nil)) (pe_callB (g_repr K hg hr.units) (by rfl) T.b_repr (by decide +kernel) (pa_cons (pe_lst (pa_cons (pv 8) (pa_cons (pv 8) pa_nil))) pa_nil)) (nomark _)) (pss_one (ps_ret pe_bl)) pss_nil)
      (pss_one (ps_if (PW.pt (pw_and (pt_val (pv 8)) (pw_and1 (pt_cmpR (op_neO c_Book___eq__ hr (by decide) (Nat.lt_of_le_of_lt (Nat.add_le_add_left (by decide) _) hr.units) T.mo T.ne) (pe_hasO c_least_book (hr.mono (by decide)) pass0 (pa_cons (pv 7) pa_nil)) (pe_hasO c_least_book (hr.mono (by decide)) pass0 (pa_cons (pv 1) pa_nil)) (nomark _))))) (pss_one (ps_ret pe_bl)) pss_nil))))))))
      (pss_one (ps_ret pe_bl))), ?_⟩
    have av := B.av
    have nd := B.nd
    have tar := tar_of av nd
    have good := tar.good
    have al := (ap_parts av).2.1
    have k12 := (ap_parts av).1.2
    have keyStrs_len : (keyStrs kvs).length = kvs.length := by
      have h := congrArg List.length (keys_of al)
      rw [List.length_map, List.length_map] at h
      exact h.symm
    have lett' : ∀ z q, tfD kvs z = some q → ∀ c ∈ cs z, lett c = true := fun z q hq => (keyStrs_piece al z ((tf_key al).mpr ⟨q, hq⟩)).2.2
    refine ⟨4, rfl, by decide, by decide, for_range (lo := 0) (n := 4) (fun i σ H' => ∃ x1 x2 x3 x4 x5, σ = [some (.ref l), some (.ref b), some (.ref pd), some (.ref sa), some (.ref la), x1, x2, x3, x4, x5] ∧ Kp l H H' ∧ Dice H' l (n + (200 - 40 * i))) ⟨_, _, _, _, _, rfl, Kp.refl _ _, D⟩ ?_ ?_⟩
    · rintro i σ H1 hi ⟨x1, x2, x3, x4, x5, rfl, k1, D1⟩
      have p1 := k1 _ _ hpd npd
      have s1' := k1 _ _ hsa nsa
      have ek : kvs.map (fun kv => kV kv.1) = (keyStrs kvs).map V.str := by
        have h := congrArg (List.map kV) (keys_of al)
        rw [List.map_map, List.map_map] at h
        exact h
      refine ⟨_, rfl, _, rfl, _, rfl, pd, kvs, rfl, .inl p1, fun w hw => ?_⟩
      rw [ek]
      have nw := D1.ne hw
      have q1 : Same H1 (upd H1 w (.lst ((keyStrs kvs).map V.str))) := same_new hw
      have w2 : (upd H1 w (.lst ((keyStrs kvs).map V.str))) w = some (.lst ((keyStrs kvs).map V.str)) := upd_same
      generalize (upd H1 w (.lst ((keyStrs kvs).map V.str))) = H2 at q1 w2 ⊢
      have D2 := D1.same q1
      have p2 := q1 _ _ p1
      refine ⟨_, rfl, _, rfl, pd, kvs, rfl, .inl p2, _, _, rfl, rfl, ?_⟩
      refine ⟨l, (kvs.length : Int) + 1, n + (199 - 40 * i), rfl, by omega, by omega, D2.le (by omega), fun r H3 r0 r1 k3 D3 => ?_⟩
      have kl := keyStrs_len
      have r13 : r.toNat ≤ 13 := by omega
      refine ⟨l, .ref w, (keyStrs kvs).map V.str, r.toNat, n + (180 - 40 * i), by rw [Int.toNat_of_nonneg r0]; rfl, .lst nw (SqL.of (k3 _ _ w2 nw)), by rw [List.length_map]; omega, by omega, D3.le (by omega), fun so ws' rest H4 hso pm wl e4 k4 D4 => ?_⟩
      obtain ⟨ws, rfl, wmem⟩ : ∃ ws : List Str, ws' = ws.map V.str ∧ ∀ z ∈ ws, ∃ q, tfD kvs z = some q := by
        refine lift_map fun v hv => ?_
        obtain ⟨z, hz, rfl⟩ := List.mem_map.mp (pm.mem_iff.mp (List.mem_append_left rest hv))
        exact ⟨z, rfl, (tf_key al).mp hz⟩
      rw [List.length_map, List.length_map] at wl
      have k14 : Kp l H1 H4 := ((Kp.of q1).trans k3).trans k4
      have K4 := k1.trans k14
      have s4 := k14 _ _ s1' nsa
      refine ⟨sa, so, sg.map chV, ws.map V.str, rfl, rfl, s4, e4, by rw [List.length_map, List.length_map]; exact fits_sz (by omega), fun so2 hso2 => ?_⟩
      have ecat : sg.map chV ++ ws.map V.str = (sg.map ch ++ ws).map V.str := by
        rw [List.map_append, List.map_map]
        rfl
      rw [ecat]
      obtain ⟨S, eS⟩ : ∃ S, S = sg.map ch ++ ws := ⟨_, rfl⟩
      rw [← eS]
      have Smem : ∀ z ∈ S, ∃ q, tfD kvs z = some q := fun z hz => by
        rw [eS] at hz
        rcases List.mem_append.mp hz with h | h
        · obtain ⟨c, hc, rfl⟩ := List.mem_map.mp h
          exact (sgns c).mpr hc
        · exact wmem z h
      have Sone : ∀ c ∈ sg, ch c ∈ S := fun c hc => by
        rw [eS]
        exact List.mem_append_left _ (List.mem_map.mpr ⟨c, hc, rfl⟩)
      have Slen : S.length ≤ 20 := by
        rw [eS, List.length_append, List.length_map]
        omega
      clear eS ecat
      have nso2 := D4.ne hso2
      have K5 := K4.new hso2 (o := .lst (S.map V.str))
      have D5 := D4.new hso2 (o := .lst (S.map V.str))
      have e5 : (upd H4 so2 (.lst (S.map V.str))) so2 = some (.lst (S.map V.str)) := upd_same
      generalize (upd H4 so2 (.lst (S.map V.str))) = H5 at K5 D5 e5 ⊢
      dsimp only
      refine seq_if_join (fun σ' H' => ∃ (sp : Addr) (S : List Str), σ' = [some (.ref l), some (.ref b), some (.ref pd), some (.ref sa), some (.ref la), some (.int (0 + (i : Int))), some (.ref sp), x3, x4, x5] ∧ sp ≠ l ∧ H' sp = some (.lst (S.map V.str)) ∧ (∀ z ∈ S, ∃ q, tfD kvs z = some q) ∧ (∀ c ∈ sg, ch c ∈ S) ∧ S.length ≤ 40 ∧ Kp l H H' ∧ Dice H' l (n + (160 - 40 * i))) (fun N hN => ?_) ?_
      · refine ⟨_, rfl, _, _, rfl, rfl, (by show (0 : Int) < 2; decide), rfl, _, rfl, ?_⟩
        refine itB (fun _ => ?_) (fun _ => ?_)
        · have la5 := K5 _ _ hla nla
          refine ⟨_, rfl, _, rfl, la, rfl, ⟨_, SqL.of la5⟩, fun L hL => ?_⟩
          have nL := D5.ne hL
          have nsL : so2 ≠ L := ne_of_none e5 hL
          refine lc_it (walk_listF (K := K) V.str zs) (fun j H' => ∃ ys : List Str, ys.length ≤ j ∧ (∀ y ∈ ys, ∃ q, tfD kvs y = some q) ∧ H' L = some (.lst (ys.map V.str)) ∧ Kp l H5 H' ∧ Dice H' l (n + (180 - 40 * i - j)))
            ⟨[], Nat.le_refl _, fun _ h => (List.not_mem_nil h).elim, upd_same, (Kp.refl _ _).new hL, (D5.new hL).le (by omega)⟩ (fun j H' _ q => by obtain ⟨_, _, _, _, q, _⟩ := q; exact SqL.of (q _ _ la5 nla)) ?_ ?_
          · rintro j x H6 H7 hj ⟨ys, yl, yy, L6, k6, D6⟩ ⟨rfl, z, hz, rfl⟩
            refine ⟨wipe_set, _, rfl, l, 5, n + (180 - 40 * i - (j + 1)), rfl, by decide, by decide, D6.le (by omega), fun r6 H8 _ _ k8 D8 => ⟨_, _, rfl, rfl, _, rfl, ?_⟩⟩
            have L8 := k8 _ _ L6 nL
            refine itB (fun _ => ?_) (fun _ => ?_)
            · refine ⟨_, rfl, _, L8, by rw [List.length_map]; exact small1000' (by omega), ys ++ [z], by rw [List.length_append]; show ys.length + 1 ≤ j + 1; omega, fun y hy => ?_, by rw [upd_same, List.map_append]; rfl, (k6.trans k8).mut hL, D8.upd nL⟩
              rcases List.mem_append.mp hy with h | h
              · exact yy y h
              · rw [List.mem_singleton.mp h]
                obtain ⟨q, hq⟩ := (zmem z).mp (List.mem_of_getElem? hz)
                exact ⟨q, least_sub hq⟩
            · exact ⟨ys, by omega, yy, L8, k6.trans k8, D8⟩
          rintro H6 ⟨ys, yl, yy, L6, k6, D6⟩
          refine ⟨so2, L, S.map V.str, ys.map V.str, rfl, rfl, k6 _ _ e5 nso2, L6, by rw [List.length_map, List.length_map]; exact fits_sz (by omega), fun so3 hso3 => ?_⟩
          rw [← List.map_append]
          exact hN _ _ ⟨so3, S ++ ys, rfl, D6.ne hso3, upd_same, fun z hz => (List.mem_append.mp hz).elim (Smem z) (yy z), fun c hc => List.mem_append_left _ (Sone c hc), by rw [List.length_append]; omega, (K5.trans k6).new hso3, (D6.new hso3).le (by omega)⟩
        · exact hN _ _ ⟨so2, S, rfl, nso2, e5, Smem, Sone, by omega, K5, D5.le (by omega)⟩
      · rintro σ' H6 ⟨sp, S, rfl, nsp, e6, Smem, Sone, Slen, K6, D6⟩
        have p6 := K6 _ _ hpd npd
        refine ⟨_, rfl, sp, rfl, ⟨_, SqL.of e6⟩, fun L hL => ?_⟩
        have nL := D6.ne hL
        obtain ⟨av', nd', sub, keyF⟩ := pick_book av nd sgns Smem Sone
        refine lc_it (walk_listF (K := K) V.str S) (fun j H' => ∃ prs : List (Addr × (Key × V)), H' L = some (.lst (prs.map fun p => V.ref p.1)) ∧ (∀ p ∈ prs, H' p.1 = some (.tup [kV p.2.1, p.2.2])) ∧ prs.map (·.2) = pickK kvs (S.take j) ∧ prs.length ≤ j ∧ Same H6 H')
          ⟨[], upd_same, fun _ h => (List.not_mem_nil h).elim, rfl, Nat.le_refl _, same_new hL⟩ (fun j H' _ q => by obtain ⟨_, _, _, _, _, q⟩ := q; exact SqL.of (q _ _ e6)) ?_ ?_
        · rintro j x H0' H7 hj ⟨prs, e1, p1', m1, l1, s1⟩ ⟨rfl, z, hz, rfl⟩
          obtain ⟨q, hq⟩ := Smem z (List.mem_of_getElem? hz)
          have et : S.take (j + 1) = S.take j ++ [z] := by
            rw [List.take_add_one, hz]
            rfl
          refine ⟨wipe_set, _, rfl, _, rfl, _, rfl, pd, _, rfl, .inl ⟨kvs, Sum.inr z, .inl (s1 _ _ p6), rfl, (tf_some.mp hq).symm⟩, by show 2 ≤ sizeLine; decide, fun Tt hT => ?_⟩
          refine ⟨_, same_new hT _ _ e1, by rw [List.length_map]; exact small1000' (by omega), prs ++ [(Tt, (Sum.inr z, .int q))], by rw [upd_same, List.map_append]; rfl, fun p hp => ?_, ?_, by rw [List.length_append]; show prs.length + 1 ≤ j + 1; omega, same_mut (s1.trans (same_new hT)) hL⟩
          · have at' : (upd H7 Tt (.tup [kV (Sum.inr z), .int q])) p.1 = some (.tup [kV p.2.1, p.2.2]) := by
              rcases List.mem_append.mp hp with h | h
              · exact same_new hT _ _ (p1' p h)
              · rw [List.mem_singleton.mp h]
                exact upd_same
            have n : p.1 ≠ L := fun e => by
              rw [e, same_new hT _ _ e1] at at'
              cases at'
            rw [upd_ne n]
            exact at'
          · rw [List.map_append, m1, et]
            unfold pickK
            rw [List.map_append, List.map_cons, List.map_nil, List.map_cons, List.map_nil, hq]
            rfl
        rintro H7 ⟨prs, e1, p1', m1, l1, s1⟩
        rw [List.take_length] at m1
        refine ⟨L, prs.map (·.1), prs.map (·.2), rfl, SqL.of (by rw [e1, List.map_map]; rfl), paired_of (F := fun (p : Addr) (kv : Key × V) => SqT K H7 p [kV kv.1, kv.2]) (ps := prs) (fun p hp => SqT.of (p1' p hp)), fun od0 hod => ?_⟩
        rw [m1]
        generalize mergeK [] (pickK kvs S) = ok at av' nd' sub keyF ⊢
        have S7 := s1.trans (same_new hod (o := .dK ok))
        have d7 : (upd H7 od0 (.dK ok)) od0 = some (.dK ok) := upd_same
        generalize (upd H7 od0 (.dK ok)) = H8 at S7 d7 ⊢
        refine fun ob dx hb hdx hne => ?_
        refine made_book hb hdx d7 av' nd' fun H9 s9 B9 => ⟨rfl, ?_⟩
        have S9 := S7.trans s9
        have la9 := S9 _ _ (K6 _ _ hla nla)
        have sp9 := S9 _ _ e6
        have b9 := (B.kp D K6).same S9
        refine ⟨_, rfl, la, rfl, ⟨_, SqL.of la9⟩, fun D9 hD9 => ?_⟩
        refine lcs zs (walk_listF (K := K) V.str zs) (fun z => if decide (z ∈ S) = true then none else some (V.str z)) hD9 (by omega) (fun H' s => SqL.of (s _ _ la9)) ?_ ?_
        · rintro j z x H10 H11 hj s10 ⟨rfl, z', ez, rfl⟩ N M hN hM
          have e1 : z = z' := Option.some.inj (hj.symm.trans ez)
          subst e1
          refine ⟨wipe_set, _, rfl, _, rfl, sp, _, rfl, .inl (SqL.of (s10 _ _ sp9)), rfl, flat_strs _, ?_⟩
          rw [inV_str, if_pos rfl]
          refine ⟨_, rfl, ?_⟩
          refine itB (fun g => ?_) (fun g => ?_)
          · refine ⟨_, rfl, hN _ _ ?_ (Same.refl _)⟩
            rw [if_neg fun e => by
              rw [e] at g
              cases g]
          · refine hM _ ?_ (Same.refl _)
            rw [if_pos (by simpa using g)]
        intro H10 s10 e10
        rw [fm_out] at e10
        have lout : ∀ z ∈ (zs.filter fun z => !decide (z ∈ S)), ∀ c ∈ cs z, lett c = true := fun z hz => by
          obtain ⟨q, hq⟩ := (zmem z).mp (List.mem_filter.mp hz).1
          exact lett' z q (least_sub hq)
        have kiff := out_none (S := S) (zs := zs)
        refine ⟨by show 0 ≤ sizeLine; decide, fun p hp => ?_⟩
        have S11 := s10.trans (same_new hp (o := .lst []))
        refine eq_nil (SqL.of (same_new hp _ _ e10)) upd_same lout ?_
        generalize (zs.filter fun z => !decide (z ∈ S)).isEmpty = kb at kiff ⊢
        generalize (upd H10 p (.lst [])) = H11 at S11 ⊢
        have chF : NoDear (tfD ok) (tfD kvs) ↔ kb = true := by
          rw [choice_iff good sub, kiff]
          constructor
          · intro h z hz
            obtain ⟨q, hq⟩ := (zmem z).mp hz
            exact ((keyF z q).mp (h z q hq)).1
          · intro h z q hq
            exact (keyF z q).mpr ⟨h z ((zmem z).mpr ⟨q, hq⟩), least_sub hq⟩
        have fwd := sub_nodear good sub
        have ss : SameSigns (tfD kvs) (tfD ok) := fun c => ⟨fun ⟨q, e⟩ => ⟨q, sub.one c q e⟩, fun ⟨q, e⟩ => ⟨q, sub.sub _ _ e⟩⟩
        have b11 := b9.same S11
        have o11 := B9.same S11
        refine ⟨_, rfl, _, rfl, kvs, ok, ⟨b, ob, rfl, b11, o11, ss⟩, fun a1 H12 s12 c1 => ?_⟩
        refine ⟨_, rfl, _, rfl, ok, kvs, ⟨ob, b, rfl, o11.same s12, b11.same s12, ss.symm⟩, fun a2 H13 s13 c2 => ?_⟩
        have ea1 : a1 = kb := by
          rw [Bool.eq_iff_iff, c1, ← chF]
          exact ⟨fun h => h.2, fun h => ⟨fwd, h⟩⟩
        have ea2 : a2 = kb := by rw [Bool.eq_iff_iff, c2, chF]
        subst ea1
        subst ea2
        refine ⟨by show 2 ≤ sizeLine; decide, fun tl htl => ?_⟩
        dsimp only [tNil]
        refine repr_bools (bs := [a2, a2]) upd_same (by simp) ?_
        refine ⟨_, rfl, _, rfl, by show 2 ≤ sizeLine; decide, fun dl hdl => ?_⟩
        dsimp only [tNil]
        refine repr_bools (bs := [a2, a2]) upd_same (by simp) ?_
        refine ⟨rfl, false, ne_self, ?_⟩
        have s14 := ((s12.trans s13).trans (same_new htl (o := .lst [V.bl a2, V.bl a2]))).trans (same_new hdl (o := .lst [V.bl a2, V.bl a2]))
        generalize (upd (upd H13 tl (.lst [V.bl a2, V.bl a2])) dl (.lst [V.bl a2, V.bl a2])) = H14 at s14 ⊢
        have S14 := (S9.trans S11).trans s14
        have K14 := K6.trans (.of S14)
        have D14 := D6.same S14
        have b14 := b11.same s14
        have o14 := o11.same s14
        have fin : ∀ H', Same H14 H' → Kp l H H' ∧ Dice H' l (n + (200 - 40 * (i + 1))) := fun H' s => ⟨K14.trans (.of s), (D14.same s).le (by omega)⟩
        refine ⟨_, rfl, _, rfl, ?_⟩
        refine itB (fun g => ?_) (fun g => ?_)
        · refine ⟨_, rfl, ob, ok, rfl, o14, fun m1 u1 H15 B15 t15 s15 => ?_⟩
          refine ⟨_, rfl, b, kvs, rfl, b14.same s15, fun m2 u2 H16 B16 t16 s16 => ?_⟩
          have f1 := least_ext t15
          have f2 := least_ext t16
          rw [least_between good sub ((choice_iff good sub).mp (chF.mpr g)), ← f2] at f1
          have B15' := B15.same s16
          obtain ⟨_, _, _, dx1, _, _, _, _, _, _, A1⟩ := id B15'.ex
          obtain ⟨_, _, _, dx2, _, _, _, _, _, _, A2⟩ := id B16.ex
          refine ⟨m1, dx1, _, m2, dx2, _, rfl, rfl, A1.ob, A2.ob, m1, m2, u1, u2, rfl, B15', B16, fun z q e => by rw [← f1]; exact e, fun r hr => ?_⟩
          have er : r = true := hr.mpr f1
          subst er
          refine ⟨_, rfl, _, rfl, ?_⟩
          exact ⟨_, _, _, _, _, rfl, fin _ (s15.trans s16)⟩
        · exact ⟨_, _, _, _, _, rfl, fin _ (Same.refl _)⟩
    · rintro σ H1 ⟨x1, x2, x3, x4, x5, rfl, k1, D1⟩
      exact k _ k1 (D1.le (by omega))
theorem sc__law_right : FnScope ["dice", "signs", "plain", "book", "few", "gone", "least", "texts", "told", "turn", "pair"] ["dice"] (defScope s__law_right) := ⟨rfl, rfl, rfl, by decide +kernel, rfl, by decide +kernel, by decide +kernel⟩
theorem ok__law_right {f : Addr} {fd : FuncData} (F : Fun K "_law_right" "_law_right" s__law_right f fd) (T : Txt K mg C) (c_Book : C8.Mak P w K mg base 5 "Book" C (spBook C K) []) (c_Book_prices : HasP P w K mg base 1 C "prices" (spPrices C)) (c_Book___eq__ : C8.Met P w K mg base 1 C "__eq__" (spEqB C) []) (c__law_some : Has P w K mg base CX0 2 "_law_some" ["dice", "items", "many"] (spSome K)) (c__law_prices : Has P w K mg base CX0 4 "_law_prices" ["dice", "signs", "many", "upto"] (spPrices6 K)) (c__law_roll : Has P w K mg base CX0 1 "_law_roll" ["dice", "upto"] (spRoll)) (c__law_pick : Has P w K mg base CX0 2 "_law_pick" ["dice", "items"] (spPick K)) (c_least_book : HasO P w K mg base CX0 7 "least_book" ["book"] (spLeast C)) (c_needless : HasO P w K mg base CX0 6 "needless" ["book"] (spNeed C)) (c_are_as_cheap : HasO P w K mg base CX0 6 "are_as_cheap" ["book", "other"] (spAsCheap C)) (c__law_choices_right : Has P w K mg base CX0 9 "_law_choices_right" ["dice", "book", "plain", "signs", "least"] (spChoices K C)) (c__law_letters : Has P w K mg base CX0 3 "_law_letters" ["dice", "signs", "many"] (spLetters K)) (c__law_same : Has P w K mg base CX0 3 "_law_same" ["one", "two", "signs", "texts"] (spSame K)) (c__law_tight : Has P w K mg base CX0 9 "_law_tight" ["book"] (spTight C)) : FnG P w K mg base CX0 10 f fd ["dice"] (spRight 600) := by
  refine fn_g0 F sc__law_right (fun vs H Q E h => ?_) (fun cdv A outer s H vs Q E hg hr h => ?_)
  · obtain ⟨l, n, rfl, _⟩ := h
    rfl
  · have hu := hu_of hr
    obtain ⟨l, n, rfl, D, k⟩ := h
    refine ⟨_, (pss_cons (ps_set (i := 1) sc__law_right.nd rfl (Or.inr rfl) (pe_has c__law_some hg (hr.mono (by decide)) pass0 (pa_cons (pv 0) (pa_cons pe_str (pa_cons (pe_op op_add pe_int (pe_has c__law_roll hg (hr.mono (by decide)) pass0 (pa_cons (pv 0) (pa_cons pe_int pa_nil)))) pa_nil)))))
      (pss_cons (ps_set (i := 2) sc__law_right.nd rfl (Or.inr rfl) (pe_has c__law_prices hg (hr.mono (by decide)) pass0 (pa_cons (pv 0) (pa_cons (pv 1) (pa_cons (pe_has c__law_roll hg (hr.mono (by decide)) pass0 (pa_cons (pv 0) (pa_cons pe_int pa_nil))) (pa_cons (pe_has c__law_pick hg (hr.mono (by decide)) pass0 (pa_cons (pv 0) (pa_cons (pe_lst (pa_cons pe_int (pa_cons pe_int (pa_cons pe_int (pa_cons pe_int pa_nil))))) pa_nil))) pa_nil))))))
      (pss_cons (ps_set (i := 3) sc__law_right.nd rfl (Or.inl rfl) (C8.pe_mk c_Book hr (by decide) (by rfl) (pa_cons (pv 2) pa_nil)))
      (pss_cons (ps_par (i := 4) (j := 5) (by rfl) sc__law_right.nd rfl rfl (by decide) rfl rfl (pa_cons (pe_hasO c_least_book (hr.mono (by decide)) pass0 (pa_cons (pv 3) pa_nil)) (pa_cons (pe_hasO c_needless (hr.mono (by decide)) pass0 (pa_cons (pv 3) pa_nil)) pa_nil)) (by rfl))
      (pss_cons (ps_set (i := 6) sc__law_right.nd rfl (Or.inl rfl) (pe_prp c_Book_prices hr (by decide) (pv 4)))
      (pss_cons (ps_set (i := 7) sc__law_right.nd rfl (Or.inl rfl) (pe_op op_cat (pe_callTy (call_listD rfl) (by rfl) T.b_list (by decide +kernel) (pa_cons (pv 2) pa_nil)) (pe_lc (own := [("turn", 9)]) rfl sc__law_right.nd (pi_range1 (by rfl) T.b_range (pa_cons pe_int pa_nil)) (blkOk_by (own := [("turn", 9)]) (N := ["dice", "signs", "plain", "book", "few", "gone", "least", "texts", "told", "turn", "pair"]) (sc := defScope s__law_right) (by decide +kernel)) (fun _ _ _ _ _ => (pg_name (i := 9) sc__law_right.nd rfl (Or.inl rfl))) (fun _ _ _ _ _ => pts_nil) (fun _ _ _ _ _ => (pe_has c__law_letters hg (hr.mono (by decide)) pass0 (pa_cons (pv 0) (pa_cons (pv 1) (pa_cons (pe_op op_add pe_int (pe_has c__law_roll hg (hr.mono (by decide)) pass0 (pa_cons (pv 0) (pa_cons pe_int pa_nil)))) pa_nil))))))))
      (pss_cons (ps_if (pt_cmpR (g_neD K hr.units) (pe_lock (by exact (pe_lc (own := [("pair", 10)]) rfl sc__law_right.nd (pi_pairs (pv 6)) (blkOk_by (own := [("pair", 10)]) (N := ["dice", "signs", "plain", "book", "few", "gone", "least", "texts", "told", "turn", "pair"]) (sc := defScope s__law_right) (by decide +kernel)) (fun _ _ _ _ _ => (pg_name (i := 10) sc__law_right.nd rfl (Or.inl rfl))) (fun _ _ _ _ _ => (pts_one (pt_cmpR (g_notInD K (units65 hr)) (pv 10) (LiI.pe_listItems rfl (pv 2) rfl T.b_list (by decide +kernel)) (by rfl)))) (fun _ _ _ _ _ => (pv 10))))) (pe_lst pa_nil) (nomark _)) (pss_one (ps_ret pe_bl)) pss_nil)
      (pss_cons (ps_if (PW.pt (pw_or (pt_cmpR (g_neD K hr.units) (pe_callB (g_sortedS K) (by rfl) T.b_sorted (by decide +kernel) (pa_cons (pe_op op_cat (pe_callTy (call_listD rfl) (by rfl) T.b_list (by decide +kernel) (pa_cons (pv 6) pa_nil)) (pe_callTy (g_list_of K) (by rfl) T.b_list (by decide +kernel) (pa_cons (pv 5) pa_nil))) pa_nil)) (pe_callB (call_sortedD rfl) (by rfl) T.b_sorted (by decide +kernel) (pa_cons (pv 2) pa_nil)) (nomark _)) (pw_or1 (pt_not (pt_val (pe_has c__law_same hg (hr.mono (by decide)) pass0 (pa_cons (pv 2) (pa_cons (pv 6) (pa_cons (pv 1) (pa_cons (pv 7) pa_nil)))))))))) (pss_one (ps_ret pe_bl)) pss_nil)
      (pss_cons (ps_set (i := 8) sc__law_right.nd rfl (Or.inl rfl) (pe_lst (pa_cons (pe_hasO c_needless (hr.mono (by decide)) pass0 (pa_cons (pv 4) pa_nil)) (pa_cons (pe_cmpR (op_eqO c_Book___eq__ hr (by decide) hr.units0) (pe_hasO c_least_book (hr.mono (by decide)) pass0 (pa_cons (pv 4) pa_nil)) (pv 4) (nomark _)) (pa_cons (pe_hasO c_are_as_cheap (hr.mono (by decide)) pass0 (pa_cons (pv 3) (pa_cons (pv 4) pa_nil))) (pa_cons (pe_cmpR (op_eqO c_Book___eq__ hr (by decide) hr.units0) (pv 4) (pv 3) (nomark _)) pa_nil))))))
      (pss_cons (ps_if (PW.pt (pw_or (pt_cmpR op_ne (pe_callB (g_repr K hg hr.units) (by rfl) T.b_repr (by decide +kernel) (pa_cons (pv 8) pa_nil)) (pe_callB (g_repr K hg hr.units) (by rfl) T.b_repr (by decide +kernel) (pa_cons (pe_lst (pa_cons (pe_tup pa_nil) (pa_cons pe_bl (pa_cons pe_bl (pa_cons (pe_cmpR (g_eqD K hr.units) (pv 5) (pe_tup pa_nil) (nomark _)) pa_nil))))) pa_nil)) (nomark _)) (pw_or1 (pt_not (pt_val (pe_has c__law_tight hg (hr.mono (by decide)) pass0 (pa_cons (pv 4) pa_nil))))))) (pss_one (ps_ret pe_bl)) pss_nil)
      (pss_cons (ps_if (pt_not (pt_val (pe_has c__law_choices_right hg (hr.mono (by decide)) pass0 (pa_cons (pv 0) (pa_cons (pv 3) (pa_cons (pv 2) (pa_cons (pv 1) (pa_cons (pe_callTy (call_listD rfl) (by rfl) T.b_list (by decide +kernel) (pa_cons (pv 6) pa_nil)) pa_nil)))))))) (pss_one (ps_ret pe_bl)) pss_nil)
      (pss_one (ps_ret (pe_cmpR (g_eqD K hr.units) (LiI.pe_listItems rfl (pe_prp c_Book_prices hr (by decide) (pv 3)) rfl T.b_list (by decide +kernel)) (pe_callB (cr_sortTI rfl) (by rfl) T.b_sorted (by decide +kernel) (pa_cons (g_bm0 K PySem.F.plainAttrs_dict PySem.F.slot_dict_items PySem.F.type_dict_items mt_itemsK (pv 2)) pa_nil)) (nomark _))))))))))))))), ?_⟩
    -- the signs
    refine ⟨_, rfl, _, rfl, l, 4, n + 595, rfl, by decide, by decide, D.le (by omega), fun r H1 r0 r1 kp1 D1 => ⟨_, _, rfl, rfl, ?_⟩⟩
    refine ⟨l, .str (Str.ofString "abcdefghijklmnopqrstuvwxyz"), signsV (Str.ofString "abcdefghijklmnopqrstuvwxyz"), (1 + r).toNat, n + 590, by rw [Int.toNat_of_nonneg (by omega)]; rfl, .str (by decide +kernel) rfl, by decide +kernel, by omega, D1.le (by omega), fun sa zs rest H2 hsa pm zl e2 kp2 D2 => ?_⟩
    have nsa : sa ≠ l := D1.ne hsa
    have kp02 : Kp l H H2 := kp1.trans kp2
    obtain ⟨sg, rfl, sgl⟩ : ∃ sg : List Nat, zs = sg.map chV ∧ ∀ c ∈ sg, lett c = true := by
      refine lift_map fun v hv => ?_
      obtain ⟨c, hc, rfl⟩ := List.mem_map.mp (pm.mem_iff.mp (List.mem_append_left rest hv))
      exact ⟨c, rfl, List.all_eq_true.mp (show (Str.ofString "abcdefghijklmnopqrstuvwxyz").cps.toList.all lett = true by decide +kernel) c hc⟩
    have l26 : (signsV (Str.ofString "abcdefghijklmnopqrstuvwxyz")).length = 26 := by decide +kernel
    rw [List.length_map, l26] at zl
    have n1 : 1 ≤ sg.length := by omega
    have n4 : sg.length ≤ 4 := by omega
    have nsg : sg ≠ [] := fun e => by
      rw [e] at n1
      simp at n1
    -- the prices
    refine ⟨_, rfl, _, rfl, _, rfl, l, 9, n + 580, rfl, by decide, by decide, D2.le (by omega), fun r2 H3 r20 r21 kp3 D3 => ?_⟩
    have r9 : r2 < 9 := r21
    have e3 := kp3 _ _ e2 nsa
    refine ⟨_, rfl, by show 4 ≤ sizeLine; decide, fun mp hmp => ?_⟩
    have nmp := D3.ne hmp
    refine ⟨l, .ref mp, _, n + 570, rfl, .lst nmp (SqL.of upd_same), by simp, by simp, (D3.new hmp).le (by omega), fun y H4 hy kp4 D4 => ?_⟩
    obtain ⟨up, rfl, u1, u2⟩ : ∃ up : Int, y = .int up ∧ 1 ≤ up ∧ up ≤ 99 := by
      simp only [List.mem_cons, List.not_mem_nil, or_false] at hy
      rcases hy with h | h | h | h
      · exact ⟨_, h, by decide, by decide⟩
      · exact ⟨_, h, by decide, by decide⟩
      · exact ⟨_, h, by decide, by decide⟩
      · exact ⟨_, h, by decide, by decide⟩
    have kp34 := (Kp.of (same_new hmp)).trans kp4
    have e4 := kp34 _ _ e3 nsa
    have kp04 : Kp l H H4 := (kp02.trans kp3).trans kp34
    refine ⟨l, sa, sg, r2.toNat, up, n + 460, by rw [Int.toNat_of_nonneg r20]; rfl, nsa, SqL.of e4, n1, n4, sgl, by omega, u1, u2, D4.le (by omega), fun pd kvs H5 hpd npd e5 av nd sgns kl kb kp5 D5 => ?_⟩
    have sa5 := kp5 _ _ e4 nsa
    have kp05 := kp04.trans kp5
    have tar := tar_of av nd
    have good := tar.good
    have al := (ap_parts av).2.1
    -- the books
    refine ⟨_, rfl, ?_⟩
    intro b dx hb hdx hne
    refine made_book hb hdx e5 av nd fun H6 s6 B6 => ⟨rfl, ?_⟩
    refine ⟨_, rfl, b, kvs, rfl, B6, fun f fk H7 F7 t7 s7 => ?_⟩
    refine ⟨_, rfl, b, kvs, rfl, B6.same s7, fun g gs H8 hg e8 gmem gso s8 => ?_⟩
    have fl := least_ext t7
    have F8 := F7.same s8
    have B8 := (B6.same s7).same s8
    have avf := F8.av
    have ndf := F8.nd
    obtain ⟨_, _, _, dxf, _, _, _, _, _, _, AF⟩ := id F8.ex
    refine ⟨_, _, rfl, _, rfl, f, dxf, _, rfl, AF.ob, f, fk, rfl, F8, fun ld ys H9 hld pm9 so9 e9 s9 => ?_⟩
    obtain ⟨avL, ndL, FL⟩ := whole_book avf ndf pm9
    have ysm : ∀ z, z ∈ ys ↔ ∃ q, leastF (tfD kvs) z = some q := fun z => by
      rw [pm9.mem_iff, tf_key (ap_parts avf).2.1, fl]
    have ysl : ys.length ≤ 12 := by
      have h := congrArg List.length (keys_of (ap_parts avf).2.1)
      rw [List.length_map, List.length_map] at h
      rw [pm9.length_eq, ← h]
      exact (ap_parts avf).1.2
    have lkl : (kvOf (psOf fk ys)).map (·.1) = ys.map Sum.inr := by
      rw [kvOf_ps, List.map_map]
      rfl
    generalize hlk : kvOf (psOf fk ys) = lk at avL ndL FL e9 lkl
    have S9 : Same H5 H9 := ((s6.trans s7).trans s8).trans s9
    have p9 := S9 _ _ e5
    have sa9 := S9 _ _ sa5
    have D9 := D5.same S9
    have K9 : Kp l H H9 := kp05.trans (.of S9)
    have B9 := B8.same s9
    have F9 := F8.same s9
    have g9 := s9 _ _ e8
    -- the texts
    have ekv : kvs.map (fun kv => kV kv.1) = (keyStrs kvs).map V.str := by
      have h := congrArg (List.map kV) (keys_of al)
      rw [List.map_map, List.map_map] at h
      exact h
    have kvl : (keyStrs kvs).length = kvs.length := by
      have h := congrArg List.length (keys_of al)
      rw [List.length_map, List.length_map] at h
      exact h.symm
    have k12 := (ap_parts av).1.2
    refine ⟨_, rfl, pd, kvs, rfl, .inl p9, fun tp htp => ?_⟩
    rw [ekv]
    have ntp := D9.ne htp
    have s10 : Same H9 (upd H9 tp (.lst ((keyStrs kvs).map V.str))) := same_new htp
    have t10 : (upd H9 tp (.lst ((keyStrs kvs).map V.str))) tp = some (.lst ((keyStrs kvs).map V.str)) := upd_same
    generalize (upd H9 tp (.lst ((keyStrs kvs).map V.str))) = H10 at s10 t10 ⊢
    have D10 := D9.same s10
    refine ⟨2, rfl, by decide, by decide, fun J hJ => ?_⟩
    have nJ := D10.ne hJ
    refine lc_range (fun j H' => ∃ ws : List Str, ws.length = j ∧ (∀ z ∈ ws, (cs z).length ≤ 80 ∧ ∀ c ∈ cs z, c ∈ sg) ∧ H' J = some (.lst (ws.map V.str)) ∧ Kp l H10 H' ∧ Dice H' l (n + (460 - 90 * j)))
      ⟨[], rfl, fun _ h => (List.not_mem_nil h).elim, upd_same, (Kp.refl _ _).new hJ, (D10.new hJ).le (by omega)⟩ ?_ ?_
    · rintro j H11 hj ⟨ws, wl, wm, J11, k11, D11⟩
      have hj2 : j < 2 := hj
      refine ⟨wipe_set, _, rfl, _, rfl, _, rfl, l, 80, n + (460 - 90 * j - 1), rfl, by decide, by decide, D11.le (by omega), fun r3 H12 r30 r31 k12' D12 => ⟨_, _, rfl, rfl, ?_⟩⟩
      have r80 : r3 < 80 := r31
      have sa12 := k12' _ _ (k11 _ _ (s10 _ _ sa9) nsa) nsa
      refine ⟨l, .ref sa, sg, (1 + r3).toNat, n + (460 - 90 * (j + 1)), by rw [Int.toNat_of_nonneg (by omega)]; rfl, .lst nsa (SqL.of sa12), nsg, by omega, by omega, D12.le (by omega), fun zs H13 zl zc k13 D13 => ?_⟩
      have kk := (k11.trans k12').trans k13
      refine ⟨_, k13 _ _ (k12' _ _ J11 nJ) nJ, by rw [List.length_map]; exact small1000' (by omega), ws ++ [sOf zs], by rw [List.length_append, wl]; rfl, fun z hz => ?_, by rw [upd_same, List.map_append]; rfl, kk.mut hJ, D13.upd nJ⟩
      rcases List.mem_append.mp hz with h | h
      · exact wm z h
      · rw [List.mem_singleton.mp h, cs_sOf]
        exact ⟨by omega, zc⟩
    rintro H11 ⟨ws, wl, wm, J11, k11, D11⟩
    have wl2 : ws.length = 2 := wl
    have t11 := k11 _ _ t10 ntp
    refine ⟨tp, J, (keyStrs kvs).map V.str, ws.map V.str, rfl, rfl, t11, J11, by rw [List.length_map, List.length_map]; exact fits_sz (by omega), fun ta hta => ?_⟩
    rw [← List.map_append]
    have nta := D11.ne hta
    have e12 : (upd H11 ta (.lst ((keyStrs kvs ++ ws).map V.str))) ta = some (.lst ((keyStrs kvs ++ ws).map V.str)) := upd_same
    have K12 : Kp l H9 (upd H11 ta (.lst ((keyStrs kvs ++ ws).map V.str))) := ((Kp.of s10).trans k11).new hta
    have D12 : Dice (upd H11 ta (.lst ((keyStrs kvs ++ ws).map V.str))) l (n + 280) := D11.new hta
    generalize (upd H11 ta (.lst ((keyStrs kvs ++ ws).map V.str))) = H12 at e12 K12 D12 ⊢
    have nld : ld ≠ l := D9.ne_of e9
    have p12 := K12 _ _ p9 npd
    have l12 := K12 _ _ e9 nld
    have sa12 := K12 _ _ sa9 nsa
    have ng : g ≠ l := fun e => by
      obtain ⟨_, _, _, h, _⟩ := D9
      rw [e, h] at g9
      cases g9
    have g12 := K12 _ _ g9 ng
    have B12 := B9.kp D9 K12
    have F12 := F9.kp D9 K12
    have p8 := ((s6.trans s7).trans s8) _ _ e5
    have npl : pd ≠ ld := ne_of_none p8 hld
    have lett' : ∀ z q, tfD kvs z = some q → ∀ c ∈ cs z, lett c = true := fun z q hq => (keyStrs_piece al z ((tf_key al).mpr ⟨q, hq⟩)).2.2
    obtain ⟨ks, ek⟩ := lift_ent (kvs := kvs) fun kv hkv => by
      obtain ⟨z, q, e, _⟩ := tar.mem kv hkv
      exact ⟨z, q, e⟩
    have kslett : ∀ e ∈ ks, ∀ c ∈ cs e.1, lett c = true := fun e he => by
      have h1 := tf_some.mpr (val_nodup nd _ (by rw [ek]; exact List.mem_map.mpr ⟨e, he, rfl⟩ : (Sum.inr e.1, V.int e.2) ∈ kvs))
      exact lett' _ _ h1
    -- its pieces are those of the book
    refine ⟨ld, _, l12, trivial, fun od => ?_⟩
    have pL : (upd H12 ld (.frz od (.dK lk))) pd = some (.dK kvs) := by
      rw [upd_ne npl]
      exact p12
    refine ⟨_, rfl, ld, od, lk, rfl, upd_same, fun L hL => ?_⟩
    have nL := lock_ne hL
    refine lc_it (walk_kv (d := ld) (o := od) (kvs := lk)) (fun j H' => H' L = some (.lst []) ∧ Same (upd H12 ld (.frz od (.dK lk))) H') ⟨upd_same, same_new hL⟩ (fun j H' _ q => q.2 _ _ upd_same) ?_ ?_
    · rintro j x H13 H14 hj ⟨L13, s13⟩ ⟨Tt, k', v', ej, rfl, hT, rfl⟩
      obtain ⟨z, q, ey, hq⟩ := (tar_of avL ndL).mem _ (List.mem_of_getElem? ej)
      cases ey
      rw [FL, fl] at hq
      have hk := least_sub hq
      have hlt := lett' z q hk
      have s14 := s13.trans (same_new hT (o := .tup [kV (Sum.inr z), .int q]))
      refine ⟨wipe_set, _, rfl, _, rfl, pd, kvs, rfl, s14 _ _ pL, fun H15 lq ts s15 hlq hts nts e15 prd => ?_⟩
      have hin : (z, q) ∈ ks := by
        have h1 := valV_mem (tf_some.mp hk)
        rw [ek] at h1
        obtain ⟨e, he, h2⟩ := List.mem_map.mp h1
        have h3 : e = (z, q) := by
          cases h2
          rfl
        rw [← h3]
        exact he
      refine ⟨.tuple [.str z, .int q], _, .tup (SqT.of (s15 _ _ upd_same)) (.cons (.str _) (.cons (.int _) .nil)), .lst (SqL.of e15) (dp_paired (ks := ks) (by rw [← ek]; exact prd)), shaped_ent hlt, shaped_pairs kslett, ?_⟩
      rw [any_ent hin (shaped_ent hlt)]
      refine ⟨_, rfl, ?_⟩
      have q1 : Same (upd H12 ld (.frz od (.dK lk))) H15 := s14.trans s15
      exact ⟨s15 _ _ (same_new hT _ _ L13), q1⟩
    rintro H13 ⟨L13, s13⟩
    have S14 : Same H12 (upd H13 ld (.dK lk)) := unlock l12 s13
    refine ⟨s13 _ _ upd_same, ?_⟩
    have L14 : (upd H13 ld (.dK lk)) L = some (.lst []) := by
      rw [upd_ne nL]
      exact L13
    generalize (upd H13 ld (.dK lk)) = H14 at S14 L14 ⊢
    refine ⟨by show 0 ≤ sizeLine; decide, fun p hp => ?_⟩
    refine rNe_nil (zs := []) (SqL.of (same_new hp _ _ L14)) upd_same (fun _ h => (List.not_mem_nil h).elim) ⟨_, rfl, ?_⟩
    have S15 := S14.trans (same_new hp (o := .lst []))
    generalize (upd H14 p (.lst [])) = H15 at S15 ⊢
    dsimp only
    refine itF rfl ?_
    -- its pieces and the needless ones are all
    have K15 : Kp l H9 H15 := K12.trans (.of S15)
    have D15 := D12.same S15
    have B15 := B12.same S15
    have F15 := F12.same S15
    have p15 := S15 _ _ p12
    have l15 := S15 _ _ l12
    have sa15 := S15 _ _ sa12
    have g15 := S15 _ _ g12
    have e15 := S15 _ _ e12
    have elk : lk.map (fun kv => kV kv.1) = ys.map V.str := by
      have h := congrArg (List.map kV) lkl
      rw [List.map_map, List.map_map] at h
      exact h
    have ndK := keys_nd' nd al
    have ndY : ys.Nodup := pm9.nodup_iff.mpr (keys_nd' ndf (ap_parts avf).2.1)
    have gl : gs.length ≤ 12 := by
      have h := nd_le gso.2 (l2 := keyStrs kvs) fun z hz => by
        obtain ⟨q, hq, _⟩ := (gmem z).mp hz
        exact (tf_key al).mpr ⟨q, hq⟩
      omega
    have pmA : (ys ++ gs).Perm (keyStrs kvs) := by
      refine (List.perm_ext_iff_of_nodup (List.nodup_append.mpr ⟨ndY, gso.2, fun a ha c hc e => ?_⟩) ndK).mpr fun z => ?_
      · rw [e] at ha
        obtain ⟨q, hq⟩ := (ysm c).mp ha
        exact least_not hq ((gmem c).mp hc)
      · rw [List.mem_append, ysm, gmem, tf_key al]
        constructor
        · rintro (⟨q, hq⟩ | ⟨q, hq, _⟩)
          · exact ⟨q, least_sub hq⟩
          · exact ⟨q, hq⟩
        · rintro ⟨q, hq⟩
          by_cases h : Needless (tfD kvs) z
          · exact .inr h
          · exact .inl ⟨q, least_in hq h⟩
    refine ⟨_, rfl, ld, lk, rfl, .inl l15, fun a1 ha1 => ?_⟩
    rw [elk]
    have s16 := same_new ha1 (o := .lst (ys.map V.str))
    refine ⟨_, rfl, g, _, rfl, .inr (SqT.of (s16 _ _ g15)), fun a2 ha2 => ?_⟩
    have s17 := same_new ha2 (o := .lst (gs.map V.str))
    refine ⟨a1, a2, ys.map V.str, gs.map V.str, rfl, rfl, s17 _ _ upd_same, upd_same, by rw [List.length_map, List.length_map]; exact fits_sz (by omega), fun a3 ha3 => ?_⟩
    have s18 := (s16.trans s17).trans (same_new ha3 (o := .lst (ys.map V.str ++ gs.map V.str)))
    refine ⟨a3, ys ++ gs, rfl, SqL.of (by rw [upd_same, List.map_append]), by rw [List.length_append]; omega, fun y1 q1 pm1 so1 hq1 => ?_⟩
    have s19 := s18.trans (same_new hq1 (o := .lst (y1.map V.str)))
    refine ⟨_, rfl, pd, kvs, keyStrs kvs, rfl, .inl (s19 _ _ p15), keys_of al, by omega, fun y2 q2 pm2 so2 hq2 => ?_⟩
    have ey : y1 = y2 := so_eq (so_pw so1) (so_pw so2) ((pm1.trans pmA).trans pm2.symm)
    subst ey
    refine neD_same (d := .list (y1.map PyData.str)) (.lst (SqL.of (same_new hq2 _ _ upd_same)) (dpAll_strs _)) (.lst (SqL.of upd_same) (dpAll_strs _)) (shaped_lstrs fun z hz => ?_) ⟨false, rfl, ?_⟩
    · obtain ⟨q, hq⟩ := (tf_key al).mp (pm2.mem_iff.mp hz)
      exact lett' z q hq
    have S20 := s19.trans (same_new hq2 (o := .lst (y1.map V.str)))
    generalize (upd _ q2 (.lst (y1.map V.str))) = H20 at S20 ⊢
    dsimp only
    refine itF rfl ?_
    have p20 := S20 _ _ p15
    have l20 := S20 _ _ l15
    have sa20 := S20 _ _ sa15
    have g20 := S20 _ _ g15
    have e20 := S20 _ _ e15
    have tarL := tar_of avL ndL
    have tlen : (keyStrs kvs ++ ws).length ≤ 1000 := by
      rw [List.length_append]
      omega
    refine ⟨_, rfl, _, rfl, _, rfl, _, rfl, pd, ld, sa, ta, kvs, lk, sg, keyStrs kvs ++ ws, rfl, p20, l20, tar, tarL, SqL.of sa20, n1, n4, fun c hc => ?_, SqL.of e20, tlen, fun t ht => ?_, fun m ov => ?_, fun H21 s21 => ?_⟩
    · obtain ⟨q, hq⟩ := (sgns c).mpr hc
      exact ⟨⟨q, hq⟩, q, by rw [FL, fl]; exact sub_least.one c q hq⟩
    · rcases List.mem_append.mp ht with h | h
      · obtain ⟨q, hq⟩ := (tf_key al).mp h
        have := good.len t q hq
        exact ⟨by omega, fun c hc => (sgns c).mp (good.cov t q hq c hc)⟩
      · obtain ⟨h1, h2⟩ := wm t h
        exact ⟨by omega, h2⟩
    · rw [FL, fl]
      exact (least_same good ov).symm
    refine ⟨true, rfl, ?_⟩
    -- what is told
    have S21 := S20.trans s21
    have B21 := B15.same S21
    have F21 := F15.same S21
    refine ⟨_, rfl, f, fk, rfl, F21, fun nt ns H22 hnt e22 nmem nso s22 => ?_⟩
    have fgood : Good (tfD fk) := by
      rw [fl]
      exact sub_least.good good
    have nnil : ns = [] := by
      rcases ns with _ | ⟨z, r⟩
      · rfl
      · have h := (nmem z).mp List.mem_cons_self
        rw [fl] at h
        exact absurd h (no_need good)
    subst nnil
    have F22 := F21.same s22
    have B22 := B21.same s22
    refine ⟨_, rfl, f, fk, rfl, F22, fun m1 u1 H23 M23 t23 s23 => ?_⟩
    have u1l := least_ext t23
    rw [fl, least_twice good, ← fl] at u1l
    have F23 := F22.same s23
    obtain ⟨_, _, _, dx1, _, _, _, _, _, _, A1⟩ := id M23.ex
    obtain ⟨_, _, _, dx2, _, _, _, _, _, _, A2⟩ := id F23.ex
    refine ⟨_, rfl, m1, dx1, _, f, dx2, _, rfl, rfl, A1.ob, A2.ob, m1, f, u1, fk, rfl, M23, F23, fun z q e => by rw [← u1l]; exact e, fun r1 hr1 => ?_⟩
    have er1 : r1 = true := hr1.mpr u1l
    subst er1
    refine ⟨_, rfl, ?_⟩
    have B23 := B22.same s23
    have ss : SameSigns (tfD kvs) (tfD fk) := fun c => by
      rw [fl]
      exact ⟨fun ⟨q, e⟩ => ⟨q, sub_least.one c q e⟩, fun ⟨q, e⟩ => ⟨q, least_sub e⟩⟩
    refine ⟨_, rfl, _, rfl, kvs, fk, ⟨b, f, rfl, B23, F23, ss⟩, fun a1 H24 s24 c1 => ?_⟩
    have ea1 : a1 = true := c1.mpr (by rw [fl]; exact least_cheap good)
    subst ea1
    have F24 := F23.same s24
    have B24 := B23.same s24
    obtain ⟨_, _, _, dx3, _, _, _, _, _, _, A3⟩ := id F24.ex
    obtain ⟨_, _, _, dx4, _, _, _, _, _, _, A4⟩ := id B24.ex
    refine ⟨_, rfl, _, rfl, f, dx3, _, b, dx4, _, rfl, rfl, A3.ob, A4.ob, f, b, fk, kvs, rfl, F24, B24, fun z q e => ?_, fun r2 hr2 => ?_⟩
    · rw [fl] at e
      exact least_sub e
    have er2 : r2 = gs.isEmpty := by
      rw [Bool.eq_iff_iff, hr2, fl, least_all, List.isEmpty_iff]
      constructor
      · intro h
        rcases gs with _ | ⟨z, r⟩
        · rfl
        · exact absurd ((gmem z).mp List.mem_cons_self) (h z)
      · intro h z nz
        have := (gmem z).mpr nz
        rw [h] at this
        cases this
    subst er2
    refine ⟨_, rfl, ?_⟩
    refine ⟨by show 4 ≤ sizeLine; decide, fun tl htl => ?_⟩
    have s25 := same_new htl (o := .lst [.ref nt, .bl true, .bl true, .bl gs.isEmpty])
    have e25 : (upd H24 tl (.lst [.ref nt, .bl true, .bl true, .bl gs.isEmpty])) tl = some (.lst [.ref nt, .bl true, .bl true, .bl gs.isEmpty]) := upd_same
    have S25 := ((s22.trans s23).trans s24).trans s25
    have n25 := s25 _ _ (s24 _ _ (s23 _ _ e22))
    generalize (upd H24 tl (.lst [.ref nt, .bl true, .bl true, .bl gs.isEmpty])) = H25 at s25 e25 S25 n25 ⊢
    have g25 := S25 _ _ (s21 _ _ g20)
    refine ⟨_, rfl, ?_⟩
    dsimp only [tNil]
    refine repr_told e25 n25 ?_
    have glett : ∀ z ∈ gs, ∀ c ∈ cs z, lett c = true := fun z hz => by
      obtain ⟨q, hq, _⟩ := (gmem z).mp hz
      exact lett' z q hq
    refine ⟨by show 0 ≤ sizeLine; decide, fun t1 ht1 => ?_⟩
    refine ⟨_, rfl, by show 0 ≤ sizeLine; decide, fun t2 ht2 => ?_⟩
    have s27 := (same_new ht1 (o := .tup [])).trans (same_new ht2 (o := .tup []))
    refine eq_nilT (SqT.of (s27 _ _ g25)) upd_same glett ?_
    refine ⟨by show 4 ≤ sizeLine; decide, fun dl hdl => ?_⟩
    dsimp only [tNil]
    refine repr_told upd_same (same_new hdl _ _ (same_new ht2 _ _ upd_same)) ?_
    refine ⟨rfl, false, ne_self, ?_⟩
    have S28 := (S25.trans s27).trans (same_new hdl (o := .lst [.ref t1, .bl true, .bl true, .bl gs.isEmpty]))
    generalize (upd (upd (upd H25 t1 (.tup [])) t2 (.tup [])) dl (.lst [.ref t1, .bl true, .bl true, .bl gs.isEmpty])) = H28 at S28 ⊢
    refine itF rfl ?_
    have F28 := F21.same S28
    refine ⟨_, rfl, f, fk, rfl, F28, fun z q hq l1 => ?_, fun H29 s29 => ?_⟩
    · rw [fl] at hq ⊢
      exact least_tight good hq l1 ⟨fun y p h => least_sub ((sub_rem l1).sub y p h), fun c p h => (sub_rem l1).one c p (sub_least.one c p h)⟩ (if_pos rfl)
    refine ⟨true, rfl, ?_⟩
    -- choices
    have S29 := S28.trans s29
    have K29 : Kp l H9 H29 := K15.trans (.of (S21.trans S29))
    have D29 := (D15.same S21).same S29
    have p29 := S29 _ _ (s21 _ _ p20)
    have l29 := S29 _ _ (s21 _ _ l20)
    have sa29 := S29 _ _ (s21 _ _ sa20)
    have B29 := B21.same S29
    refine ⟨_, rfl, _, rfl, _, rfl, _, rfl, _, rfl, ld, lk, rfl, .inl l29, fun ll hll => ?_⟩
    rw [elk]
    have nll := D29.ne hll
    have s30 := same_new hll (o := .lst (ys.map V.str))
    refine ⟨l, b, pd, sa, ll, kvs, sg, ys, n + 80, rfl, npd, nsa, nll, B29.same s30, s30 _ _ p29, s30 _ _ sa29, sgns, n4, upd_same, ysm, ysl, (D29.same s30).le (by omega), fun H31 k31 D31 => ⟨true, rfl, ?_⟩⟩
    have K31 : Kp l H9 H31 := (K29.trans (.of s30)).trans k31
    have p31 := K31 _ _ p9 npd
    have B31 := B9.kp D9 K31
    obtain ⟨_, _, _, dx5, _, _, _, _, _, _, A5⟩ := id B31.ex
    dsimp only
    refine itF rfl ?_
    -- the book stays
    refine ⟨_, rfl, b, dx5, _, rfl, A5.ob, b, kvs, rfl, B31, fun bp bys H32 hbp bpm bso be s32 => ?_⟩
    refine ⟨bp, _, rfl, be, fun H33 lq ts s33' hlq hts nts e33 prd => ?_⟩
    have s33 : Same H32 H33 := s33'
    have p33 := s33 _ _ (s32 _ _ p31)
    refine ⟨_, rfl, .inr (.inr (.inl ⟨rfl, .inl ⟨_, p33⟩⟩)), pd, _, rfl, rfl, .inl p33, fun vw hvw => ?_⟩
    have p34 := same_new hvw (o := DX.itemsO vw pd) _ _ p33
    have nk : (ks.map (·.1)).Nodup := nd_ent (by rw [← ek]; exact nd)
    have kn : ks.length < 64 := by
      have h := congrArg List.length ek
      rw [List.length_map] at h
      omega
    rw [ek] at p34
    refine ⟨vw, pd, ks, rfl, upd_same, .inl p34, nk, kn, fun H35 q2 ps2 s35 pp sp q35 at35 => ?_⟩
    have s36 := (same_new hvw (o := DX.itemsO vw pd)).trans s35
    have pk := ps_perm (ks := ks) (ys := bys) (by rw [← ek]; exact al) (by rw [← ek]; exact nd) (by rw [← ek]; exact bpm)
    rw [← ek] at pk
    have eps : psOf kvs bys = ps2.map (·.2) := pairs_eq (by rw [(pk.map (·.1)).nodup_iff]; exact nk) (so_ps bso) sp (pk.trans pp.symm)
    have dl : DpAll K H35 (ts.map V.ref) ((ps2.map (·.2)).map fun e => PyData.tuple [.str e.1, .int e.2]) := by
      rw [← eps]
      exact dp_pairedS s36 prd
    dsimp only
    refine eqD_same (d := dPairs (ps2.map (·.2))) (.lst (SqL.of (s36 _ _ e33)) dl) (.lst (SqL.of q35) (dp_pairs at35)) (shaped_pairs fun e he c hc => ?_) ?_
    · rw [← eps] at he
      obtain ⟨y, hy, rfl⟩ := List.mem_map.mp he
      exact (keyStrs_piece al y (bpm.mem_iff.mp hy)).2.2 c hc
    · have SE : Same H31 H35 := (s32.trans s33).trans s36
      exact k _ ((K9.trans K31).trans (.of SE)) ((D31.same SE).le (by omega))
theorem sc_law : FnScope ["script", "spot"] ["script"] (defScope s_law) := ⟨rfl, rfl, rfl, by decide +kernel, rfl, by decide +kernel, by decide +kernel⟩
theorem ok_law {f : Addr} {fd : FuncData} (F : Fun K "law" "law" s_law f fd) (T : Txt K mg C) (c__law_right : Has P w K mg base CX0 10 "_law_right" ["dice"] (spRight 600)) (c__law_dice : Has P w K mg base CX0 1 "_law_dice" ["script", "spot"] (spDice K)) : FnG P w K mg base CX0 12 f fd ["script"] (spLaw K) := by
  refine fn_g0 F sc_law (fun vs H Q E h => ?_) (fun cdv A outer s H vs Q E hg hr h => ?_)
  · obtain ⟨a, ns, rfl, _⟩ := h
    rfl
  · have hu := hu_of hr
    obtain ⟨a, ns, rfl, hS, hn, k⟩ := h
    refine ⟨_, (pss_cons (ps_for PassesOwn.never rfl (pi_range1 (by rfl) T.b_range (pa_cons (pe_callB (call_max2 rfl) (by rfl) T.b_max (by decide +kernel) (pa_cons pe_int (pa_cons (pe_callB (call_min2 rfl) (by rfl) T.b_min (by decide +kernel) (pa_cons pe_int (pa_cons (pe_callB (g_len_seq K) (by rfl) T.b_len (by decide +kernel) (pa_cons (pv 0) pa_nil)) pa_nil))) pa_nil))) pa_nil)) (pg_name (i := 1) sc_law.nd rfl (Or.inl rfl)) (pss_one (ps_if (pt_not (pt_val (pe_has c__law_right hg (hr.mono (by decide)) pass0 (pa_cons (pe_has c__law_dice hg (hr.mono (by decide)) pass0 (pa_cons (pv 0) (pa_cons (pv 1) pa_nil))) pa_nil)))) (pss_one (ps_ret pe_bl)) pss_nil)))
      (pss_one (ps_ret pe_bl))), ?_⟩
    obtain ⟨J, hJ, j1, j8⟩ : ∃ J : Int, (if (if ((ns.map V.int).length : Int) < 6 then ((ns.map V.int).length : Int) else 6) > 1 then (if ((ns.map V.int).length : Int) < 6 then ((ns.map V.int).length : Int) else 6) else 1) = J ∧ 1 ≤ J ∧ J ≤ 6 := ⟨_, rfl, cells_bound (n := (ns.map V.int).length) (m := 6) (by decide)⟩
    refine ⟨_, rfl, _, _, rfl, .inl hS, _, _, rfl, _, _, rfl, J, congrArg (fun i => [V.int i]) hJ, by omega, by omega, for_range (lo := 0) (n := J.toNat) (fun i σ H' => ∃ v, σ = [some (.ref a), v] ∧ Same H H') ⟨_, rfl, Same.refl H⟩ ?_ ?_⟩
    · rintro i σ H1 hi ⟨v, rfl, s1⟩
      refine ⟨_, rfl, _, rfl, a, ns, _, rfl, s1.seq hS, hn, by omega, by omega, fun l H2 hl s2 D2 => ?_⟩
      have fl : H l = none := s1.free hl
      refine ⟨l, 2 ^ 60 - 600, rfl, D2.le (by omega), fun H4 kp4 D4 => ⟨true, rfl, ?_⟩⟩
      exact ⟨_, rfl, kp4.sameOf (s1.trans s2) fl⟩
    · rintro σ H1 ⟨v, rfl, s1⟩
      exact k _
end
theorem all_mk {l : PySem.W.OpenLaw} {w : World} {K : PySem.W.Frag} {h : Heap} {mg : Str → Option Value} {fa : Addr} {C : Addr} (X : K.In h) (G0 : h.Ns mainGlobals mg) (hfa : mg "law" = some (.ref fa))
    {f0 f1 f2 f3 f4 f5 f6 f7 f8 f9 f10 f11 f12 f13 f14 f15 f16 f17 f18 f19 f20 f21 f22 f23 f24 f25 f26 f27 f28 f29 f30 f31 f32 f33 f34 f35 f36 : Addr}
    {od0 an0 : Option Addr} {sl0 : Array (Option Value)} {oc0 kV0 dc0 pm0 cd0 ct0 : Value}
    {od1 an1 : Option Addr} {sl1 : Array (Option Value)} {oc1 kV1 dc1 pm1 cd1 ct1 : Value}
    {od2 an2 : Option Addr} {sl2 : Array (Option Value)} {oc2 kV2 dc2 pm2 cd2 ct2 : Value}
    {od3 an3 : Option Addr} {sl3 : Array (Option Value)} {oc3 kV3 dc3 pm3 cd3 ct3 : Value}
    {od4 an4 : Option Addr} {sl4 : Array (Option Value)} {oc4 kV4 dc4 pm4 cd4 ct4 : Value}
    {od5 an5 : Option Addr} {sl5 : Array (Option Value)} {oc5 kV5 dc5 pm5 cd5 ct5 : Value}
    {od6 an6 : Option Addr} {sl6 : Array (Option Value)} {oc6 kV6 dc6 pm6 cd6 ct6 : Value}
    {od7 an7 : Option Addr} {sl7 : Array (Option Value)} {oc7 kV7 dc7 pm7 cd7 ct7 : Value}
    {od8 an8 : Option Addr} {sl8 : Array (Option Value)} {oc8 kV8 dc8 pm8 cd8 ct8 : Value}
    {od9 an9 : Option Addr} {sl9 : Array (Option Value)} {oc9 kV9 dc9 pm9 cd9 ct9 : Value}
    {od10 an10 : Option Addr} {sl10 : Array (Option Value)} {oc10 kV10 dc10 pm10 cd10 ct10 : Value}
    {od11 an11 : Option Addr} {sl11 : Array (Option Value)} {oc11 kV11 dc11 pm11 cd11 ct11 : Value}
    {od12 an12 : Option Addr} {sl12 : Array (Option Value)} {oc12 kV12 dc12 pm12 cd12 ct12 : Value}
    {od13 an13 : Option Addr} {sl13 : Array (Option Value)} {oc13 kV13 dc13 pm13 cd13 ct13 : Value}
    {od14 an14 : Option Addr} {sl14 : Array (Option Value)} {oc14 kV14 dc14 pm14 cd14 ct14 : Value}
    {od15 an15 : Option Addr} {sl15 : Array (Option Value)} {oc15 kV15 dc15 pm15 cd15 ct15 : Value}
    {od16 an16 : Option Addr} {sl16 : Array (Option Value)} {oc16 kV16 dc16 pm16 cd16 ct16 : Value}
    {od17 an17 : Option Addr} {sl17 : Array (Option Value)} {oc17 kV17 dc17 pm17 cd17 ct17 : Value}
    {od18 an18 : Option Addr} {sl18 : Array (Option Value)} {oc18 kV18 dc18 pm18 cd18 ct18 : Value}
    {od19 an19 : Option Addr} {sl19 : Array (Option Value)} {oc19 kV19 dc19 pm19 cd19 ct19 : Value}
    {od20 an20 : Option Addr} {sl20 : Array (Option Value)} {oc20 kV20 dc20 pm20 cd20 ct20 : Value}
    {od21 an21 : Option Addr} {sl21 : Array (Option Value)} {oc21 kV21 dc21 pm21 cd21 ct21 : Value}
    {od22 an22 : Option Addr} {sl22 : Array (Option Value)} {oc22 kV22 dc22 pm22 cd22 ct22 : Value}
    {od23 an23 : Option Addr} {sl23 : Array (Option Value)} {oc23 kV23 dc23 pm23 cd23 ct23 : Value}
    {od24 an24 : Option Addr} {sl24 : Array (Option Value)} {oc24 kV24 dc24 pm24 cd24 ct24 : Value}
    {od25 an25 : Option Addr} {sl25 : Array (Option Value)} {oc25 kV25 dc25 pm25 cd25 ct25 : Value}
    {od26 an26 : Option Addr} {sl26 : Array (Option Value)} {oc26 kV26 dc26 pm26 cd26 ct26 : Value}
    {od27 an27 : Option Addr} {sl27 : Array (Option Value)} {oc27 kV27 dc27 pm27 cd27 ct27 : Value}
    {od28 an28 : Option Addr} {sl28 : Array (Option Value)} {oc28 kV28 dc28 pm28 cd28 ct28 : Value}
    {od29 an29 : Option Addr} {sl29 : Array (Option Value)} {oc29 kV29 dc29 pm29 cd29 ct29 : Value}
    {od30 an30 : Option Addr} {sl30 : Array (Option Value)} {oc30 kV30 dc30 pm30 cd30 ct30 : Value}
    {od31 an31 : Option Addr} {sl31 : Array (Option Value)} {oc31 kV31 dc31 pm31 cd31 ct31 : Value}
    {od32 an32 : Option Addr} {sl32 : Array (Option Value)} {oc32 kV32 dc32 pm32 cd32 ct32 : Value}
    {od33 an33 : Option Addr} {sl33 : Array (Option Value)} {oc33 kV33 dc33 pm33 cd33 ct33 : Value}
    {od34 an34 : Option Addr} {sl34 : Array (Option Value)} {oc34 kV34 dc34 pm34 cd34 ct34 : Value}
    {od35 an35 : Option Addr} {sl35 : Array (Option Value)} {oc35 kV35 dc35 pm35 cd35 ct35 : Value}
    {od36 an36 : Option Addr} {sl36 : Array (Option Value)} {oc36 kV36 dc36 pm36 cd36 ct36 : Value}
    (aC : PySem.W.nsIn K mainGlobals "Book" = some (some (.ref C))) (pg : PySem.W.plainGet K C Str.empty = true) (hd : PySem.W.hasDictIn K C = true) (po : PySem.W.plainOver K C = true) (sa : PySem.W.findIn K (.ref C) "__setattr__" = some (some (.builtin "object.__setattr__"))) (mk : PySem.W.makesIn K C = true) (kc : PySem.W.keepIn K (.ref C) = true)
    (iha : PySem.W.findIn K (.ref C) "__class__" = some (some (.builtin "object.__class__"))) (ihn : PySem.W.specialIn K (.builtin "object.__class__") "__get__" = some (some (.builtin "getset_descriptor.__get__"))) (iht : PySem.W.takesIn K (.builtin "object.__class__") = some true) (ihm : PySem.W.mroIn K C (.type "object") = some true)
    (n_own_prices : PySem.W.findIn K (.ref C) "own_prices" = some none)
    (n_own_pieces : PySem.W.findIn K (.ref C) "own_pieces" = some none)
    (n_own_alphabet : PySem.W.findIn K (.ref C) "own_alphabet" = some none)
    (n_own_longest : PySem.W.findIn K (.ref C) "own_longest" = some none)
    (n_own_dearest : PySem.W.findIn K (.ref C) "own_dearest" = some none)
    (x_mo : PySem.W.mroIn K C (.type "object") = some true)
    (x_ne : PySem.W.findIn K (.ref C) "__ne__" = some (some (.builtin "object.__ne__")))
    (x_sf : PySem.W.selfFirst K C = true)
    (x_rs : PySem.W.findIn K (.ref C) "__rsub__" = some none)
    (x_ts : PySem.W.findIn K (.type "tuple") "__sub__" = some none)
    (x_tr : PySem.W.findIn K (.type "tuple") "__rsub__" = some none)
    (x_ap : PySem.W.subIn K (.type "tuple") (.ref C) = some false)
    (a0 : PySem.W.nsIn K mainGlobals "is_integer" = some (some (.ref f0)))
    (l0 : K.lookup f0 = some ⟨oc0, od0, .func (PySem.W.fnOf "is_integer" "is_integer" (defArgs s_is_integer) (defBody s_is_integer) (defScope s_is_integer) .none kV0 dc0 pm0 an0 cd0 ct0), sl0⟩) (c0 : PySem.W.codeIn K cd0 "is_integer" = true) (k0 : PySem.W.keepIn K (.ref f0) = true)
    (a1 : PySem.W.nsIn K mainGlobals "is_word" = some (some (.ref f1)))
    (l1 : K.lookup f1 = some ⟨oc1, od1, .func (PySem.W.fnOf "is_word" "is_word" (defArgs s_is_word) (defBody s_is_word) (defScope s_is_word) .none kV1 dc1 pm1 an1 cd1 ct1), sl1⟩) (c1 : PySem.W.codeIn K cd1 "is_word" = true) (k1 : PySem.W.keepIn K (.ref f1) = true)
    (a2 : PySem.W.nsIn K mainGlobals "is_piece" = some (some (.ref f2)))
    (l2 : K.lookup f2 = some ⟨oc2, od2, .func (PySem.W.fnOf "is_piece" "is_piece" (defArgs s_is_piece) (defBody s_is_piece) (defScope s_is_piece) .none kV2 dc2 pm2 an2 cd2 ct2), sl2⟩) (c2 : PySem.W.codeIn K cd2 "is_piece" = true) (k2 : PySem.W.keepIn K (.ref f2) = true)
    (a3 : PySem.W.nsIn K mainGlobals "is_integer_within" = some (some (.ref f3)))
    (l3 : K.lookup f3 = some ⟨oc3, od3, .func (PySem.W.fnOf "is_integer_within" "is_integer_within" (defArgs s_is_integer_within) (defBody s_is_integer_within) (defScope s_is_integer_within) .none kV3 dc3 pm3 an3 cd3 ct3), sl3⟩) (c3 : PySem.W.codeIn K cd3 "is_integer_within" = true) (k3 : PySem.W.keepIn K (.ref f3) = true)
    (a4 : PySem.W.nsIn K mainGlobals "is_price" = some (some (.ref f4)))
    (l4 : K.lookup f4 = some ⟨oc4, od4, .func (PySem.W.fnOf "is_price" "is_price" (defArgs s_is_price) (defBody s_is_price) (defScope s_is_price) .none kV4 dc4 pm4 an4 cd4 ct4), sl4⟩) (c4 : PySem.W.codeIn K cd4 "is_price" = true) (k4 : PySem.W.keepIn K (.ref f4) = true)
    (a5 : PySem.W.nsIn K mainGlobals "are_prices" = some (some (.ref f5)))
    (l5 : K.lookup f5 = some ⟨oc5, od5, .func (PySem.W.fnOf "are_prices" "are_prices" (defArgs s_are_prices) (defBody s_are_prices) (defScope s_are_prices) .none kV5 dc5 pm5 an5 cd5 ct5), sl5⟩) (c5 : PySem.W.codeIn K cd5 "are_prices" = true) (k5 : PySem.W.keepIn K (.ref f5) = true)
    (a6 : PySem.W.findIn K (.ref C) "__init__" = some (some (.ref f6))) (i6 : PySem.W.isFn K (.ref f6) = true)
    (l6 : K.lookup f6 = some ⟨oc6, od6, .func (PySem.W.fnOf "__init__" "Book.__init__" (defArgs s_Book___init__) (defBody s_Book___init__) (defScope s_Book___init__) .none kV6 dc6 pm6 an6 cd6 ct6), sl6⟩) (c6 : PySem.W.codeIn K cd6 "Book.__init__" = true) (k6 : PySem.W.keepIn K (.ref f6) = true)
    {pr7 : Addr} {re7 : List Value} (a7 : PySem.W.findIn K (.ref C) "prices" = some (some (.ref pr7))) (pg7 : PySem.W.specialIn K (.ref pr7) "__get__" = some (some (.builtin "property.__get__"))) (pt7 : PySem.W.takesIn K (.ref pr7) = some true) (rc7 : PySem.W.recIn K pr7 "property" = some (.ref f7 :: re7))
    (l7 : K.lookup f7 = some ⟨oc7, od7, .func (PySem.W.fnOf "prices" "Book.prices" (defArgs s_Book_prices) (defBody s_Book_prices) (defScope s_Book_prices) .none kV7 dc7 pm7 an7 cd7 ct7), sl7⟩) (c7 : PySem.W.codeIn K cd7 "Book.prices" = true) (k7 : PySem.W.keepIn K (.ref f7) = true)
    (a8 : PySem.W.nsIn K mainGlobals "least_price" = some (some (.ref f8)))
    (l8 : K.lookup f8 = some ⟨oc8, od8, .func (PySem.W.fnOf "least_price" "least_price" (defArgs s_least_price) (defBody s_least_price) (defScope s_least_price) .none kV8 dc8 pm8 an8 cd8 ct8), sl8⟩) (c8 : PySem.W.codeIn K cd8 "least_price" = true) (k8 : PySem.W.keepIn K (.ref f8) = true)
    (a9 : PySem.W.nsIn K mainGlobals "require_book" = some (some (.ref f9)))
    (l9 : K.lookup f9 = some ⟨oc9, od9, .func (PySem.W.fnOf "require_book" "require_book" (defArgs s_require_book) (defBody s_require_book) (defScope s_require_book) .none kV9 dc9 pm9 an9 cd9 ct9), sl9⟩) (c9 : PySem.W.codeIn K cd9 "require_book" = true) (k9 : PySem.W.keepIn K (.ref f9) = true)
    (a10 : PySem.W.nsIn K mainGlobals "require_comparable" = some (some (.ref f10)))
    (l10 : K.lookup f10 = some ⟨oc10, od10, .func (PySem.W.fnOf "require_comparable" "require_comparable" (defArgs s_require_comparable) (defBody s_require_comparable) (defScope s_require_comparable) .none kV10 dc10 pm10 an10 cd10 ct10), sl10⟩) (c10 : PySem.W.codeIn K cd10 "require_comparable" = true) (k10 : PySem.W.keepIn K (.ref f10) = true)
    (a11 : PySem.W.nsIn K mainGlobals "dearer_in" = some (some (.ref f11)))
    (l11 : K.lookup f11 = some ⟨oc11, od11, .func (PySem.W.fnOf "dearer_in" "dearer_in" (defArgs s_dearer_in) (defBody s_dearer_in) (defScope s_dearer_in) .none kV11 dc11 pm11 an11 cd11 ct11), sl11⟩) (c11 : PySem.W.codeIn K cd11 "dearer_in" = true) (k11 : PySem.W.keepIn K (.ref f11) = true)
    (a12 : PySem.W.nsIn K mainGlobals "is_nowhere_dearer" = some (some (.ref f12)))
    (l12 : K.lookup f12 = some ⟨oc12, od12, .func (PySem.W.fnOf "is_nowhere_dearer" "is_nowhere_dearer" (defArgs s_is_nowhere_dearer) (defBody s_is_nowhere_dearer) (defScope s_is_nowhere_dearer) .none kV12 dc12 pm12 an12 cd12 ct12), sl12⟩) (c12 : PySem.W.codeIn K cd12 "is_nowhere_dearer" = true) (k12 : PySem.W.keepIn K (.ref f12) = true)
    (a13 : PySem.W.nsIn K mainGlobals "dearer_piece" = some (some (.ref f13)))
    (l13 : K.lookup f13 = some ⟨oc13, od13, .func (PySem.W.fnOf "dearer_piece" "dearer_piece" (defArgs s_dearer_piece) (defBody s_dearer_piece) (defScope s_dearer_piece) .none kV13 dc13 pm13 an13 cd13 ct13), sl13⟩) (c13 : PySem.W.codeIn K cd13 "dearer_piece" = true) (k13 : PySem.W.keepIn K (.ref f13) = true)
    (a14 : PySem.W.nsIn K mainGlobals "are_as_cheap" = some (some (.ref f14)))
    (l14 : K.lookup f14 = some ⟨oc14, od14, .func (PySem.W.fnOf "are_as_cheap" "are_as_cheap" (defArgs s_are_as_cheap) (defBody s_are_as_cheap) (defScope s_are_as_cheap) .none kV14 dc14 pm14 an14 cd14 ct14), sl14⟩) (c14 : PySem.W.codeIn K cd14 "are_as_cheap" = true) (k14 : PySem.W.keepIn K (.ref f14) = true)
    (a15 : PySem.W.nsIn K mainGlobals "needless_in" = some (some (.ref f15)))
    (l15 : K.lookup f15 = some ⟨oc15, od15, .func (PySem.W.fnOf "needless_in" "needless_in" (defArgs s_needless_in) (defBody s_needless_in) (defScope s_needless_in) .none kV15 dc15 pm15 an15 cd15 ct15), sl15⟩) (c15 : PySem.W.codeIn K cd15 "needless_in" = true) (k15 : PySem.W.keepIn K (.ref f15) = true)
    (a16 : PySem.W.nsIn K mainGlobals "needless" = some (some (.ref f16)))
    (l16 : K.lookup f16 = some ⟨oc16, od16, .func (PySem.W.fnOf "needless" "needless" (defArgs s_needless) (defBody s_needless) (defScope s_needless) .none kV16 dc16 pm16 an16 cd16 ct16), sl16⟩) (c16 : PySem.W.codeIn K cd16 "needless" = true) (k16 : PySem.W.keepIn K (.ref f16) = true)
    (a17 : PySem.W.nsIn K mainGlobals "least_book" = some (some (.ref f17)))
    (l17 : K.lookup f17 = some ⟨oc17, od17, .func (PySem.W.fnOf "least_book" "least_book" (defArgs s_least_book) (defBody s_least_book) (defScope s_least_book) .none kV17 dc17 pm17 an17 cd17 ct17), sl17⟩) (c17 : PySem.W.codeIn K cd17 "least_book" = true) (k17 : PySem.W.keepIn K (.ref f17) = true)
    (a18 : PySem.W.nsIn K mainGlobals "result_of" = some (some (.ref f18)))
    (l18 : K.lookup f18 = some ⟨oc18, od18, .func (PySem.W.fnOf "result_of" "result_of" (defArgs s_result_of) (defBody s_result_of) (defScope s_result_of) .none kV18 dc18 pm18 an18 cd18 ct18), sl18⟩) (c18 : PySem.W.codeIn K cd18 "result_of" = true) (k18 : PySem.W.keepIn K (.ref f18) = true)
    (a19 : PySem.W.nsIn K mainGlobals "is_ascending" = some (some (.ref f19)))
    (l19 : K.lookup f19 = some ⟨oc19, od19, .func (PySem.W.fnOf "is_ascending" "is_ascending" (defArgs s_is_ascending) (defBody s_is_ascending) (defScope s_is_ascending) .none kV19 dc19 pm19 an19 cd19 ct19), sl19⟩) (c19 : PySem.W.codeIn K cd19 "is_ascending" = true) (k19 : PySem.W.keepIn K (.ref f19) = true)
    (a20 : PySem.W.nsIn K mainGlobals "are_pieces_of" = some (some (.ref f20)))
    (l20 : K.lookup f20 = some ⟨oc20, od20, .func (PySem.W.fnOf "are_pieces_of" "are_pieces_of" (defArgs s_are_pieces_of) (defBody s_are_pieces_of) (defScope s_are_pieces_of) .none kV20 dc20 pm20 an20 cd20 ct20), sl20⟩) (c20 : PySem.W.codeIn K cd20 "are_pieces_of" = true) (k20 : PySem.W.keepIn K (.ref f20) = true)
    {pr21 : Addr} {re21 : List Value} (a21 : PySem.W.findIn K (.ref C) "pieces" = some (some (.ref pr21))) (pg21 : PySem.W.specialIn K (.ref pr21) "__get__" = some (some (.builtin "property.__get__"))) (pt21 : PySem.W.takesIn K (.ref pr21) = some true) (rc21 : PySem.W.recIn K pr21 "property" = some (.ref f21 :: re21))
    (l21 : K.lookup f21 = some ⟨oc21, od21, .func (PySem.W.fnOf "pieces" "Book.pieces" (defArgs s_Book_pieces) (defBody s_Book_pieces) (defScope s_Book_pieces) .none kV21 dc21 pm21 an21 cd21 ct21), sl21⟩) (c21 : PySem.W.codeIn K cd21 "Book.pieces" = true) (k21 : PySem.W.keepIn K (.ref f21) = true)
    (a22 : PySem.W.findIn K (.ref C) "__sub__" = some (some (.ref f22))) (i22 : PySem.W.isFn K (.ref f22) = true)
    (l22 : K.lookup f22 = some ⟨oc22, od22, .func (PySem.W.fnOf "__sub__" "Book.__sub__" (defArgs s_Book___sub__) (defBody s_Book___sub__) (defScope s_Book___sub__) .none kV22 dc22 pm22 an22 cd22 ct22), sl22⟩) (c22 : PySem.W.codeIn K cd22 "Book.__sub__" = true) (k22 : PySem.W.keepIn K (.ref f22) = true)
    (a23 : PySem.W.findIn K (.ref C) "__eq__" = some (some (.ref f23))) (i23 : PySem.W.isFn K (.ref f23) = true)
    (l23 : K.lookup f23 = some ⟨oc23, od23, .func (PySem.W.fnOf "__eq__" "Book.__eq__" (defArgs s_Book___eq__) (defBody s_Book___eq__) (defScope s_Book___eq__) .none kV23 dc23 pm23 an23 cd23 ct23), sl23⟩) (c23 : PySem.W.codeIn K cd23 "Book.__eq__" = true) (k23 : PySem.W.keepIn K (.ref f23) = true)
    (a24 : PySem.W.nsIn K mainGlobals "_law_dice" = some (some (.ref f24)))
    (l24 : K.lookup f24 = some ⟨oc24, od24, .func (PySem.W.fnOf "_law_dice" "_law_dice" (defArgs s__law_dice) (defBody s__law_dice) (defScope s__law_dice) .none kV24 dc24 pm24 an24 cd24 ct24), sl24⟩) (c24 : PySem.W.codeIn K cd24 "_law_dice" = true) (k24 : PySem.W.keepIn K (.ref f24) = true)
    (a25 : PySem.W.nsIn K mainGlobals "_law_roll" = some (some (.ref f25)))
    (l25 : K.lookup f25 = some ⟨oc25, od25, .func (PySem.W.fnOf "_law_roll" "_law_roll" (defArgs s__law_roll) (defBody s__law_roll) (defScope s__law_roll) .none kV25 dc25 pm25 an25 cd25 ct25), sl25⟩) (c25 : PySem.W.codeIn K cd25 "_law_roll" = true) (k25 : PySem.W.keepIn K (.ref f25) = true)
    (a26 : PySem.W.nsIn K mainGlobals "_law_pick" = some (some (.ref f26)))
    (l26 : K.lookup f26 = some ⟨oc26, od26, .func (PySem.W.fnOf "_law_pick" "_law_pick" (defArgs s__law_pick) (defBody s__law_pick) (defScope s__law_pick) .none kV26 dc26 pm26 an26 cd26 ct26), sl26⟩) (c26 : PySem.W.codeIn K cd26 "_law_pick" = true) (k26 : PySem.W.keepIn K (.ref f26) = true)
    (a27 : PySem.W.nsIn K mainGlobals "_law_letters" = some (some (.ref f27)))
    (l27 : K.lookup f27 = some ⟨oc27, od27, .func (PySem.W.fnOf "_law_letters" "_law_letters" (defArgs s__law_letters) (defBody s__law_letters) (defScope s__law_letters) .none kV27 dc27 pm27 an27 cd27 ct27), sl27⟩) (c27 : PySem.W.codeIn K cd27 "_law_letters" = true) (k27 : PySem.W.keepIn K (.ref f27) = true)
    (a28 : PySem.W.nsIn K mainGlobals "_law_some" = some (some (.ref f28)))
    (l28 : K.lookup f28 = some ⟨oc28, od28, .func (PySem.W.fnOf "_law_some" "_law_some" (defArgs s__law_some) (defBody s__law_some) (defScope s__law_some) .none kV28 dc28 pm28 an28 cd28 ct28), sl28⟩) (c28 : PySem.W.codeIn K cd28 "_law_some" = true) (k28 : PySem.W.keepIn K (.ref f28) = true)
    (a29 : PySem.W.nsIn K mainGlobals "_law_prices" = some (some (.ref f29)))
    (l29 : K.lookup f29 = some ⟨oc29, od29, .func (PySem.W.fnOf "_law_prices" "_law_prices" (defArgs s__law_prices) (defBody s__law_prices) (defScope s__law_prices) .none kV29 dc29 pm29 an29 cd29 ct29), sl29⟩) (c29 : PySem.W.codeIn K cd29 "_law_prices" = true) (k29 : PySem.W.keepIn K (.ref f29) = true)
    (a30 : PySem.W.nsIn K mainGlobals "_law_all" = some (some (.ref f30)))
    (l30 : K.lookup f30 = some ⟨oc30, od30, .func (PySem.W.fnOf "_law_all" "_law_all" (defArgs s__law_all) (defBody s__law_all) (defScope s__law_all) .none kV30 dc30 pm30 an30 cd30 ct30), sl30⟩) (c30 : PySem.W.codeIn K cd30 "_law_all" = true) (k30 : PySem.W.keepIn K (.ref f30) = true)
    (a31 : PySem.W.nsIn K mainGlobals "_law_least" = some (some (.ref f31)))
    (l31 : K.lookup f31 = some ⟨oc31, od31, .func (PySem.W.fnOf "_law_least" "_law_least" (defArgs s__law_least) (defBody s__law_least) (defScope s__law_least) .none kV31 dc31 pm31 an31 cd31 ct31), sl31⟩) (c31 : PySem.W.codeIn K cd31 "_law_least" = true) (k31 : PySem.W.keepIn K (.ref f31) = true)
    (a32 : PySem.W.nsIn K mainGlobals "_law_same" = some (some (.ref f32)))
    (l32 : K.lookup f32 = some ⟨oc32, od32, .func (PySem.W.fnOf "_law_same" "_law_same" (defArgs s__law_same) (defBody s__law_same) (defScope s__law_same) .none kV32 dc32 pm32 an32 cd32 ct32), sl32⟩) (c32 : PySem.W.codeIn K cd32 "_law_same" = true) (k32 : PySem.W.keepIn K (.ref f32) = true)
    (a33 : PySem.W.nsIn K mainGlobals "_law_tight" = some (some (.ref f33)))
    (l33 : K.lookup f33 = some ⟨oc33, od33, .func (PySem.W.fnOf "_law_tight" "_law_tight" (defArgs s__law_tight) (defBody s__law_tight) (defScope s__law_tight) .none kV33 dc33 pm33 an33 cd33 ct33), sl33⟩) (c33 : PySem.W.codeIn K cd33 "_law_tight" = true) (k33 : PySem.W.keepIn K (.ref f33) = true)
    (a34 : PySem.W.nsIn K mainGlobals "_law_choices_right" = some (some (.ref f34)))
    (l34 : K.lookup f34 = some ⟨oc34, od34, .func (PySem.W.fnOf "_law_choices_right" "_law_choices_right" (defArgs s__law_choices_right) (defBody s__law_choices_right) (defScope s__law_choices_right) .none kV34 dc34 pm34 an34 cd34 ct34), sl34⟩) (c34 : PySem.W.codeIn K cd34 "_law_choices_right" = true) (k34 : PySem.W.keepIn K (.ref f34) = true)
    (a35 : PySem.W.nsIn K mainGlobals "_law_right" = some (some (.ref f35)))
    (l35 : K.lookup f35 = some ⟨oc35, od35, .func (PySem.W.fnOf "_law_right" "_law_right" (defArgs s__law_right) (defBody s__law_right) (defScope s__law_right) .none kV35 dc35 pm35 an35 cd35 ct35), sl35⟩) (c35 : PySem.W.codeIn K cd35 "_law_right" = true) (k35 : PySem.W.keepIn K (.ref f35) = true)
    (a36 : PySem.W.nsIn K mainGlobals "law" = some (some (.ref f36)))
    (l36 : K.lookup f36 = some ⟨oc36, od36, .func (PySem.W.fnOf "law" "law" (defArgs s_law) (defBody s_law) (defScope s_law) .none kV36 dc36 pm36 an36 cd36 ct36), sl36⟩) (c36 : PySem.W.codeIn K cd36 "law" = true) (k36 : PySem.W.keepIn K (.ref f36) = true)
    (z_abs : PySem.W.nsIn K mainGlobals "abs" = some none)
    (z_all : PySem.W.nsIn K mainGlobals "all" = some none)
    (z_bool : PySem.W.nsIn K mainGlobals "bool" = some none)
    (z_dict : PySem.W.nsIn K mainGlobals "dict" = some none)
    (z_int : PySem.W.nsIn K mainGlobals "int" = some none)
    (z_isinstance : PySem.W.nsIn K mainGlobals "isinstance" = some none)
    (z_len : PySem.W.nsIn K mainGlobals "len" = some none)
    (z_list : PySem.W.nsIn K mainGlobals "list" = some none)
    (z_max : PySem.W.nsIn K mainGlobals "max" = some none)
    (z_min : PySem.W.nsIn K mainGlobals "min" = some none)
    (z_range : PySem.W.nsIn K mainGlobals "range" = some none)
    (z_repr : PySem.W.nsIn K mainGlobals "repr" = some none)
    (z_sorted : PySem.W.nsIn K mainGlobals "sorted" = some none)
    (z_str : PySem.W.nsIn K mainGlobals "str" = some none)
    (z_tuple : PySem.W.nsIn K mainGlobals "tuple" = some none)
    {t_MAX_ALPHABET : Tok} (y_MAX_ALPHABET : PySem.W.nsIn K mainGlobals "MAX_ALPHABET" = some (some (.int 4 t_MAX_ALPHABET)))
    {t_MAX_PIECES : Tok} (y_MAX_PIECES : PySem.W.nsIn K mainGlobals "MAX_PIECES" = some (some (.int 12 t_MAX_PIECES)))
    {t_MAX_PRICE : Tok} (y_MAX_PRICE : PySem.W.nsIn K mainGlobals "MAX_PRICE" = some (some (.int 99 t_MAX_PRICE)))
    {t_PIECE_SIGNS : Tok} (y_PIECE_SIGNS : PySem.W.nsIn K mainGlobals "PIECE_SIGNS" = some (some (.int 5 t_PIECE_SIGNS)))
    : ∃ fd : FuncData, (∀ (s : Shared) (v : Value), BindsTo s fd ⟨[v], []⟩ [("script", v)]) ∧ ∀ base : Heap, K.In base → base.Ns mainGlobals mg → FnG l.prog w K mg base CX0 12 fa fd ["script"] (spLaw K) := by
  have e := hfa.symm.trans (PySem.W.mg_of X G0 a36)
  cases e
  have T : Txt K mg C := ⟨⟨pg, hd, po, sa⟩, ⟨⟨pg, hd, po, sa⟩, iha, ihn, iht, ihm, if_pos (beq_self_eq_true _)⟩, n_own_prices, n_own_pieces, n_own_alphabet, n_own_longest, n_own_dearest, PySem.W.mg_of X G0 aC, x_mo, x_ne, x_sf, x_rs, x_ts, x_tr, x_ap, PySem.W.mg_none_of X G0 z_abs, PySem.W.mg_none_of X G0 z_all, PySem.W.mg_none_of X G0 z_bool, PySem.W.mg_none_of X G0 z_dict, PySem.W.mg_none_of X G0 z_int, PySem.W.mg_none_of X G0 z_isinstance, PySem.W.mg_none_of X G0 z_len, PySem.W.mg_none_of X G0 z_list, PySem.W.mg_none_of X G0 z_max, PySem.W.mg_none_of X G0 z_min, PySem.W.mg_none_of X G0 z_range, PySem.W.mg_none_of X G0 z_repr, PySem.W.mg_none_of X G0 z_sorted, PySem.W.mg_none_of X G0 z_str, PySem.W.mg_none_of X G0 z_tuple, ⟨_, PySem.W.mg_of X G0 y_MAX_ALPHABET⟩, ⟨_, PySem.W.mg_of X G0 y_MAX_PIECES⟩, ⟨_, PySem.W.mg_of X G0 y_MAX_PRICE⟩, ⟨_, PySem.W.mg_of X G0 y_PIECE_SIGNS⟩⟩
  have F0 := fun_mk (st := s_is_integer) l0 c0 k0
  have b0 := F0.binds (ps := ["value"]) fun _ _ _ _ _ _ us hl => match us, hl with | [_], _ => rfl
  have F1 := fun_mk (st := s_is_word) l1 c1 k1
  have b1 := F1.binds (ps := ["value"]) fun _ _ _ _ _ _ us hl => match us, hl with | [_], _ => rfl
  have F2 := fun_mk (st := s_is_piece) l2 c2 k2
  have b2 := F2.binds (ps := ["value"]) fun _ _ _ _ _ _ us hl => match us, hl with | [_], _ => rfl
  have F3 := fun_mk (st := s_is_integer_within) l3 c3 k3
  have b3 := F3.binds (ps := ["value", "least", "most"]) fun _ _ _ _ _ _ us hl => match us, hl with | [_, _, _], _ => rfl
  have F4 := fun_mk (st := s_is_price) l4 c4 k4
  have b4 := F4.binds (ps := ["value"]) fun _ _ _ _ _ _ us hl => match us, hl with | [_], _ => rfl
  have F5 := fun_mk (st := s_are_prices) l5 c5 k5
  have b5 := F5.binds (ps := ["value"]) fun _ _ _ _ _ _ us hl => match us, hl with | [_], _ => rfl
  have F6 := fun_mk (st := s_Book___init__) l6 c6 k6
  have b6 := F6.binds (ps := ["self", "prices"]) fun _ _ _ _ _ _ us hl => match us, hl with | [_, _], _ => rfl
  have F7 := fun_mk (st := s_Book_prices) l7 c7 k7
  have b7 := F7.binds (ps := ["self"]) fun _ _ _ _ _ _ us hl => match us, hl with | [_], _ => rfl
  have F8 := fun_mk (st := s_least_price) l8 c8 k8
  have b8 := F8.binds (ps := ["prices", "text"]) fun _ _ _ _ _ _ us hl => match us, hl with | [_, _], _ => rfl
  have F9 := fun_mk (st := s_require_book) l9 c9 k9
  have b9 := F9.binds (ps := ["value"]) fun _ _ _ _ _ _ us hl => match us, hl with | [_], _ => rfl
  have F10 := fun_mk (st := s_require_comparable) l10 c10 k10
  have b10 := F10.binds (ps := ["book", "other"]) fun _ _ _ _ _ _ us hl => match us, hl with | [_, _], _ => rfl
  have F11 := fun_mk (st := s_dearer_in) l11 c11 k11
  have b11 := F11.binds (ps := ["book", "other"]) fun _ _ _ _ _ _ us hl => match us, hl with | [_, _], _ => rfl
  have F12 := fun_mk (st := s_is_nowhere_dearer) l12 c12 k12
  have b12 := F12.binds (ps := ["book", "other"]) fun _ _ _ _ _ _ us hl => match us, hl with | [_, _], _ => rfl
  have F13 := fun_mk (st := s_dearer_piece) l13 c13 k13
  have b13 := F13.binds (ps := ["book", "other"]) fun _ _ _ _ _ _ us hl => match us, hl with | [_, _], _ => rfl
  have F14 := fun_mk (st := s_are_as_cheap) l14 c14 k14
  have b14 := F14.binds (ps := ["book", "other"]) fun _ _ _ _ _ _ us hl => match us, hl with | [_, _], _ => rfl
  have F15 := fun_mk (st := s_needless_in) l15 c15 k15
  have b15 := F15.binds (ps := ["book"]) fun _ _ _ _ _ _ us hl => match us, hl with | [_], _ => rfl
  have F16 := fun_mk (st := s_needless) l16 c16 k16
  have b16 := F16.binds (ps := ["book"]) fun _ _ _ _ _ _ us hl => match us, hl with | [_], _ => rfl
  have F17 := fun_mk (st := s_least_book) l17 c17 k17
  have b17 := F17.binds (ps := ["book"]) fun _ _ _ _ _ _ us hl => match us, hl with | [_], _ => rfl
  have F18 := fun_mk (st := s_result_of) l18 c18 k18
  have b18 := F18.binds (ps := ["prices"]) fun _ _ _ _ _ _ us hl => match us, hl with | [_], _ => rfl
  have F19 := fun_mk (st := s_is_ascending) l19 c19 k19
  have b19 := F19.binds (ps := ["values"]) fun _ _ _ _ _ _ us hl => match us, hl with | [_], _ => rfl
  have F20 := fun_mk (st := s_are_pieces_of) l20 c20 k20
  have b20 := F20.binds (ps := ["book", "value"]) fun _ _ _ _ _ _ us hl => match us, hl with | [_, _], _ => rfl
  have F21 := fun_mk (st := s_Book_pieces) l21 c21 k21
  have b21 := F21.binds (ps := ["self"]) fun _ _ _ _ _ _ us hl => match us, hl with | [_], _ => rfl
  have F22 := fun_mk (st := s_Book___sub__) l22 c22 k22
  have b22 := F22.binds (ps := ["self", "pieces"]) fun _ _ _ _ _ _ us hl => match us, hl with | [_, _], _ => rfl
  have F23 := fun_mk (st := s_Book___eq__) l23 c23 k23
  have b23 := F23.binds (ps := ["self", "other"]) fun _ _ _ _ _ _ us hl => match us, hl with | [_, _], _ => rfl
  have F24 := fun_mk (st := s__law_dice) l24 c24 k24
  have b24 := F24.binds (ps := ["script", "spot"]) fun _ _ _ _ _ _ us hl => match us, hl with | [_, _], _ => rfl
  have F25 := fun_mk (st := s__law_roll) l25 c25 k25
  have b25 := F25.binds (ps := ["dice", "upto"]) fun _ _ _ _ _ _ us hl => match us, hl with | [_, _], _ => rfl
  have F26 := fun_mk (st := s__law_pick) l26 c26 k26
  have b26 := F26.binds (ps := ["dice", "items"]) fun _ _ _ _ _ _ us hl => match us, hl with | [_, _], _ => rfl
  have F27 := fun_mk (st := s__law_letters) l27 c27 k27
  have b27 := F27.binds (ps := ["dice", "signs", "many"]) fun _ _ _ _ _ _ us hl => match us, hl with | [_, _, _], _ => rfl
  have F28 := fun_mk (st := s__law_some) l28 c28 k28
  have b28 := F28.binds (ps := ["dice", "items", "many"]) fun _ _ _ _ _ _ us hl => match us, hl with | [_, _, _], _ => rfl
  have F29 := fun_mk (st := s__law_prices) l29 c29 k29
  have b29 := F29.binds (ps := ["dice", "signs", "many", "upto"]) fun _ _ _ _ _ _ us hl => match us, hl with | [_, _, _, _], _ => rfl
  have F30 := fun_mk (st := s__law_all) l30 c30 k30
  have b30 := F30.binds (ps := ["prices", "signs", "size"]) fun _ _ _ _ _ _ us hl => match us, hl with | [_, _, _], _ => rfl
  have F31 := fun_mk (st := s__law_least) l31 c31 k31
  have b31 := F31.binds (ps := ["prices", "text"]) fun _ _ _ _ _ _ us hl => match us, hl with | [_, _], _ => rfl
  have F32 := fun_mk (st := s__law_same) l32 c32 k32
  have b32 := F32.binds (ps := ["one", "two", "signs", "texts"]) fun _ _ _ _ _ _ us hl => match us, hl with | [_, _, _, _], _ => rfl
  have F33 := fun_mk (st := s__law_tight) l33 c33 k33
  have b33 := F33.binds (ps := ["book"]) fun _ _ _ _ _ _ us hl => match us, hl with | [_], _ => rfl
  have F34 := fun_mk (st := s__law_choices_right) l34 c34 k34
  have b34 := F34.binds (ps := ["dice", "book", "plain", "signs", "least"]) fun _ _ _ _ _ _ us hl => match us, hl with | [_, _, _, _, _], _ => rfl
  have F35 := fun_mk (st := s__law_right) l35 c35 k35
  have b35 := F35.binds (ps := ["dice"]) fun _ _ _ _ _ _ us hl => match us, hl with | [_], _ => rfl
  have F36 := fun_mk (st := s_law) l36 c36 k36
  refine ⟨PySem.W.fnOf "law" "law" (defArgs s_law) (defBody s_law) (defScope s_law) .none kV36 dc36 pm36 an36 cd36 ct36, fun s v => .of_eq rfl, fun base _ _ => ?_⟩
  have h_is_integer : HasO l.prog w K mg base CX0 1 "is_integer" ["value"] (spIsI K isInteger) := .mk' F0 (PySem.W.mg_of X G0 a0) b0 (ok_is_integer F0 T)
  have h_is_word : HasO l.prog w K mg base CX0 1 "is_word" ["value"] (spIs K isWord) := .mk' F1 (PySem.W.mg_of X G0 a1) b1 (ok_is_word F1 T)
  have h_is_piece : HasO l.prog w K mg base CX0 2 "is_piece" ["value"] (spIs K isPiece) := .mk' F2 (PySem.W.mg_of X G0 a2) b2 (ok_is_piece F2 T h_is_word)
  have h_is_integer_within : HasO l.prog w K mg base CX0 2 "is_integer_within" ["value", "least", "most"] (spWithin K) := .mk' F3 (PySem.W.mg_of X G0 a3) b3 (ok_is_integer_within F3 T h_is_integer)
  have h_is_price : HasO l.prog w K mg base CX0 3 "is_price" ["value"] (spIsI K isPrice) := .mk' F4 (PySem.W.mg_of X G0 a4) b4 (ok_is_price F4 T h_is_integer_within)
  have h_are_prices : HasO l.prog w K mg base CX0 4 "are_prices" ["value"] (spArePrices K) := .mk' F5 (PySem.W.mg_of X G0 a5) b5 (ok_are_prices F5 T h_is_piece h_is_price)
  have h_Book : C8.Mak l.prog w K mg base 5 "Book" C (spBook C K) [] := ⟨_, _, ["self", "prices"], [], ⟨mk, a6, i6, kc⟩, ok_Book___init__ F6 T h_are_prices, PySem.W.mg_of X G0 aC, b6, .nil⟩
  have h_Book_prices : HasP l.prog w K mg base 1 C "prices" (spPrices C) := ⟨pr7, _, _, ⟨pg, hd, po, sa⟩, ⟨a7, pg7, pt7, ⟨_, rc7⟩⟩, ok_Book_prices F7 T, b7⟩
  have h_least_price : HasO l.prog w K mg base CX0 4 "least_price" ["prices", "text"] (spLeastPrice) := .mk' F8 (PySem.W.mg_of X G0 a8) b8 (ok_least_price F8 T)
  have h_require_book : HasO l.prog w K mg base CX0 1 "require_book" ["value"] (spReqBook C) := .mk' F9 (PySem.W.mg_of X G0 a9) b9 (ok_require_book F9 T)
  have h_require_comparable : HasO l.prog w K mg base CX0 2 "require_comparable" ["book", "other"] (spReqCmp C) := .mk' F10 (PySem.W.mg_of X G0 a10) b10 (ok_require_comparable F10 T h_require_book)
  have h_dearer_in : HasO l.prog w K mg base CX0 5 "dearer_in" ["book", "other"] (spDearer C) := .mk' F11 (PySem.W.mg_of X G0 a11) b11 (ok_dearer_in F11 T h_least_price)
  have h_is_nowhere_dearer : HasO l.prog w K mg base CX0 6 "is_nowhere_dearer" ["book", "other"] (spNowhere C) := .mk' F12 (PySem.W.mg_of X G0 a12) b12 (ok_is_nowhere_dearer F12 T h_require_comparable h_dearer_in)
  have h_dearer_piece : HasO l.prog w K mg base CX0 6 "dearer_piece" ["book", "other"] (spDearer C) := .mk' F13 (PySem.W.mg_of X G0 a13) b13 (ok_dearer_piece F13 T h_require_comparable h_dearer_in)
  have h_are_as_cheap : HasO l.prog w K mg base CX0 6 "are_as_cheap" ["book", "other"] (spAsCheap C) := .mk' F14 (PySem.W.mg_of X G0 a14) b14 (ok_are_as_cheap F14 T h_require_comparable h_dearer_in)
  have h_needless_in : HasO l.prog w K mg base CX0 5 "needless_in" ["book"] (spNeedIn C) := .mk' F15 (PySem.W.mg_of X G0 a15) b15 (ok_needless_in F15 T h_least_price)
  have h_needless : HasO l.prog w K mg base CX0 6 "needless" ["book"] (spNeed C) := .mk' F16 (PySem.W.mg_of X G0 a16) b16 (ok_needless F16 T h_require_book h_needless_in)
  have h_least_book : HasO l.prog w K mg base CX0 7 "least_book" ["book"] (spLeast C) := .mk' F17 (PySem.W.mg_of X G0 a17) b17 (ok_least_book F17 T h_Book h_require_book h_needless_in)
  have h_result_of : HasO l.prog w K mg base CX0 7 "result_of" ["prices"] (spResult C) := .mk' F18 (PySem.W.mg_of X G0 a18) b18 (ok_result_of F18 T h_Book h_are_prices)
  have h_is_ascending : HasO l.prog w K mg base CX0 1 "is_ascending" ["values"] (spAsc1) := .mk' F19 (PySem.W.mg_of X G0 a19) b19 (ok_is_ascending F19 T)
  have h_are_pieces_of : HasO l.prog w K mg base CX0 3 "are_pieces_of" ["book", "value"] (spPo1 C) := .mk' F20 (PySem.W.mg_of X G0 a20) b20 (ok_are_pieces_of F20 T h_is_ascending h_is_piece)
  have h_Book_pieces : HasP l.prog w K mg base 1 C "pieces" (spPieces C) := ⟨pr21, _, _, ⟨pg, hd, po, sa⟩, ⟨a21, pg21, pt21, ⟨_, rc21⟩⟩, ok_Book_pieces F21 T, b21⟩
  have h_Book___sub__ : C8.Met l.prog w K mg base 8 C "__sub__" (spSub1 C) [] := ⟨_, _, ["self", "pieces"], [], ⟨pg, hd, po, sa⟩, ⟨a22, i22, k22⟩, ok_Book___sub__ F22 T h_result_of h_are_pieces_of, b22, .nil⟩
  have h_Book___eq__ : C8.Met l.prog w K mg base 1 C "__eq__" (spEqB C) [] := ⟨_, _, ["self", "other"], [], ⟨pg, hd, po, sa⟩, ⟨a23, i23, k23⟩, ok_Book___eq__ F23 T, b23, .nil⟩
  have h__law_dice : Has l.prog w K mg base CX0 1 "_law_dice" ["script", "spot"] (spDice K) := .mk' F24 (PySem.W.mg_of X G0 a24) b24 (ok__law_dice F24 T)
  have h__law_roll : Has l.prog w K mg base CX0 1 "_law_roll" ["dice", "upto"] (spRoll) := .mk' F25 (PySem.W.mg_of X G0 a25) b25 (ok__law_roll F25 T)
  have h__law_pick : Has l.prog w K mg base CX0 2 "_law_pick" ["dice", "items"] (spPick K) := .mk' F26 (PySem.W.mg_of X G0 a26) b26 (ok__law_pick F26 T h__law_roll)
  have h__law_letters : Has l.prog w K mg base CX0 3 "_law_letters" ["dice", "signs", "many"] (spLetters K) := .mk' F27 (PySem.W.mg_of X G0 a27) b27 (ok__law_letters F27 T h__law_pick)
  have h__law_some : Has l.prog w K mg base CX0 2 "_law_some" ["dice", "items", "many"] (spSome K) := .mk' F28 (PySem.W.mg_of X G0 a28) b28 (ok__law_some F28 T h__law_roll)
  have h__law_prices : Has l.prog w K mg base CX0 4 "_law_prices" ["dice", "signs", "many", "upto"] (spPrices6 K) := .mk' F29 (PySem.W.mg_of X G0 a29) b29 (ok__law_prices F29 T h__law_some h__law_roll h__law_pick)
  have h__law_all : Has l.prog w K mg base CX0 2 "_law_all" ["prices", "signs", "size"] (spAll K) := .mk' F30 (PySem.W.mg_of X G0 a30) b30 (ok__law_all F30 T)
  have h__law_least : Has l.prog w K mg base CX0 2 "_law_least" ["prices", "text"] (spLawLeast) := .mk' F31 (PySem.W.mg_of X G0 a31) b31 (ok__law_least F31 T)
  have h__law_same : Has l.prog w K mg base CX0 3 "_law_same" ["one", "two", "signs", "texts"] (spSame K) := .mk' F32 (PySem.W.mg_of X G0 a32) b32 (ok__law_same F32 T h__law_all h__law_least)
  have h__law_tight : Has l.prog w K mg base CX0 9 "_law_tight" ["book"] (spTight C) := .mk' F33 (PySem.W.mg_of X G0 a33) b33 (ok__law_tight F33 T h_Book_prices h_Book_pieces h_Book___sub__ h__law_least h_dearer_piece)
  have h__law_choices_right : Has l.prog w K mg base CX0 9 "_law_choices_right" ["dice", "book", "plain", "signs", "least"] (spChoices K C) := .mk' F34 (PySem.W.mg_of X G0 a34) b34 (ok__law_choices_right F34 T h_Book h_Book___eq__ h__law_some h__law_roll h_least_book h_are_as_cheap h_is_nowhere_dearer)
  have h__law_right : Has l.prog w K mg base CX0 10 "_law_right" ["dice"] (spRight 600) := .mk' F35 (PySem.W.mg_of X G0 a35) b35 (ok__law_right F35 T h_Book h_Book_prices h_Book___eq__ h__law_some h__law_prices h__law_roll h__law_pick h_least_book h_needless h_are_as_cheap h__law_choices_right h__law_letters h__law_same h__law_tight)
  exact ok_law F36 T h__law_right h__law_dice
end K09
open PySem PySem.W PyProof.Rows
set_option maxRecDepth 100000 in
set_option maxHeartbeats 0 in
theorem PySem.Challenge.cw_cutbehind_k09_whole_least_books_holds : PySem.Challenge.rw_cutbehind_k09_whole_least_books.Holds := by
  w_on; o_law; k_head; (case hw => w_witness2)
  k_fill
  refine G.walk_g (l := PySem.Challenge.rw_cutbehind_k09_whole_least_books) (n := 63) (k := 12) (x := "script") (sp := fun K => G.spLaw K) rfl (by decide) rfl ⟨rfl, by decide, by decide⟩ (fun w h Y => PySem.W.kIn_of Y) ?F (fun K H a ns hl _ hS => ⟨a, ns, rfl, hS, hl, fun _ => rfl⟩)
  case F =>
    intro w mg fa h KX G0 hmg
    refine' K09.all_mk (l := PySem.Challenge.rw_cutbehind_k09_whole_least_books) KX G0 hmg ?aC ?pg ?hd ?po ?sa ?mk ?kc ?iha ?ihn ?iht ?ihm ?n_own_prices ?n_own_pieces ?n_own_alphabet ?n_own_longest ?n_own_dearest ?x_mo ?x_ne ?x_sf ?x_rs ?x_ts ?x_tr ?x_ap ?a0 ?l0 ?c0 ?k0 ?a1 ?l1 ?c1 ?k1 ?a2 ?l2 ?c2 ?k2 ?a3 ?l3 ?c3 ?k3 ?a4 ?l4 ?c4 ?k4 ?a5 ?l5 ?c5 ?k5 ?a6 ?i6 ?l6 ?c6 ?k6 ?a7 ?pg7 ?pt7 ?rc7 ?l7 ?c7 ?k7 ?a8 ?l8 ?c8 ?k8 ?a9 ?l9 ?c9 ?k9 ?a10 ?l10 ?c10 ?k10 ?a11 ?l11 ?c11 ?k11 ?a12 ?l12 ?c12 ?k12 ?a13 ?l13 ?c13 ?k13 ?a14 ?l14 ?c14 ?k14 ?a15 ?l15 ?c15 ?k15 ?a16 ?l16 ?c16 ?k16 ?a17 ?l17 ?c17 ?k17 ?a18 ?l18 ?c18 ?k18 ?a19 ?l19 ?c19 ?k19 ?a20 ?l20 ?c20 ?k20 ?a21 ?pg21 ?pt21 ?rc21 ?l21 ?c21 ?k21 ?a22 ?i22 ?l22 ?c22 ?k22 ?a23 ?i23 ?l23 ?c23 ?k23 ?a24 ?l24 ?c24 ?k24 ?a25 ?l25 ?c25 ?k25 ?a26 ?l26 ?c26 ?k26 ?a27 ?l27 ?c27 ?k27 ?a28 ?l28 ?c28 ?k28 ?a29 ?l29 ?c29 ?k29 ?a30 ?l30 ?c30 ?k30 ?a31 ?l31 ?c31 ?k31 ?a32 ?l32 ?c32 ?k32 ?a33 ?l33 ?c33 ?k33 ?a34 ?l34 ?c34 ?k34 ?a35 ?l35 ?c35 ?k35 ?a36 ?l36 ?c36 ?k36 ?z_abs ?z_all ?z_bool ?z_dict ?z_int ?z_isinstance ?z_len ?z_list ?z_max ?z_min ?z_range ?z_repr ?z_sorted ?z_str ?z_tuple ?y_MAX_ALPHABET ?y_MAX_PIECES ?y_MAX_PRICE ?y_PIECE_SIGNS
    (case aC => k_is)
    (case pg => k_is)
    (case hd => k_is)
    (case po => k_is)
    (case sa => k_is)
    (case mk => k_is)
    (case kc => k_is)
    (case iha => k_is)
    (case ihn => k_is)
    (case iht => k_is)
    (case ihm => k_is)
    (case n_own_prices => k_is)
    (case n_own_pieces => k_is)
    (case n_own_alphabet => k_is)
    (case n_own_longest => k_is)
    (case n_own_dearest => k_is)
    (case x_mo => k_is)
    (case x_ne => k_is)
    (case x_sf => k_is)
    (case x_rs => k_is)
    (case x_ts => k_is)
    (case x_tr => k_is)
    (case x_ap => k_is)
    (case a0 => k_is)
    (case l0 => k_is)
    (case c0 => k_is)
    (case k0 => k_is)
    (case a1 => k_is)
    (case l1 => k_is)
    (case c1 => k_is)
    (case k1 => k_is)
    (case a2 => k_is)
    (case l2 => k_is)
    (case c2 => k_is)
    (case k2 => k_is)
    (case a3 => k_is)
    (case l3 => k_is)
    (case c3 => k_is)
    (case k3 => k_is)
    (case a4 => k_is)
    (case l4 => k_is)
    (case c4 => k_is)
    (case k4 => k_is)
    (case a5 => k_is)
    (case l5 => k_is)
    (case c5 => k_is)
    (case k5 => k_is)
    (case a6 => k_is)
    (case i6 => k_is)
    (case l6 => k_is)
    (case c6 => k_is)
    (case k6 => k_is)
    (case a7 => k_is)
    (case pg7 => k_is)
    (case pt7 => k_is)
    (case rc7 => k_is)
    (case l7 => k_is)
    (case c7 => k_is)
    (case k7 => k_is)
    (case a8 => k_is)
    (case l8 => k_is)
    (case c8 => k_is)
    (case k8 => k_is)
    (case a9 => k_is)
    (case l9 => k_is)
    (case c9 => k_is)
    (case k9 => k_is)
    (case a10 => k_is)
    (case l10 => k_is)
    (case c10 => k_is)
    (case k10 => k_is)
    (case a11 => k_is)
    (case l11 => k_is)
    (case c11 => k_is)
    (case k11 => k_is)
    (case a12 => k_is)
    (case l12 => k_is)
    (case c12 => k_is)
    (case k12 => k_is)
    (case a13 => k_is)
    (case l13 => k_is)
    (case c13 => k_is)
    (case k13 => k_is)
    (case a14 => k_is)
    (case l14 => k_is)
    (case c14 => k_is)
    (case k14 => k_is)
    (case a15 => k_is)
    (case l15 => k_is)
    (case c15 => k_is)
    (case k15 => k_is)
    (case a16 => k_is)
    (case l16 => k_is)
    (case c16 => k_is)
    (case k16 => k_is)
    (case a17 => k_is)
    (case l17 => k_is)
    (case c17 => k_is)
    (case k17 => k_is)
    (case a18 => k_is)
    (case l18 => k_is)
    (case c18 => k_is)
    (case k18 => k_is)
    (case a19 => k_is)
    (case l19 => k_is)
    (case c19 => k_is)
    (case k19 => k_is)
    (case a20 => k_is)
    (case l20 => k_is)
    (case c20 => k_is)
    (case k20 => k_is)
    (case a21 => k_is)
    (case pg21 => k_is)
    (case pt21 => k_is)
    (case rc21 => k_is)
    (case l21 => k_is)
    (case c21 => k_is)
    (case k21 => k_is)
    (case a22 => k_is)
    (case i22 => k_is)
    (case l22 => k_is)
    (case c22 => k_is)
    (case k22 => k_is)
    (case a23 => k_is)
    (case i23 => k_is)
    (case l23 => k_is)
    (case c23 => k_is)
    (case k23 => k_is)
    (case a24 => k_is)
    (case l24 => k_is)
    (case c24 => k_is)
    (case k24 => k_is)
    (case a25 => k_is)
    (case l25 => k_is)
    (case c25 => k_is)
    (case k25 => k_is)
    (case a26 => k_is)
    (case l26 => k_is)
    (case c26 => k_is)
    (case k26 => k_is)
    (case a27 => k_is)
    (case l27 => k_is)
    (case c27 => k_is)
    (case k27 => k_is)
    (case a28 => k_is)
    (case l28 => k_is)
    (case c28 => k_is)
    (case k28 => k_is)
    (case a29 => k_is)
    (case l29 => k_is)
    (case c29 => k_is)
    (case k29 => k_is)
    (case a30 => k_is)
    (case l30 => k_is)
    (case c30 => k_is)
    (case k30 => k_is)
    (case a31 => k_is)
    (case l31 => k_is)
    (case c31 => k_is)
    (case k31 => k_is)
    (case a32 => k_is)
    (case l32 => k_is)
    (case c32 => k_is)
    (case k32 => k_is)
    (case a33 => k_is)
    (case l33 => k_is)
    (case c33 => k_is)
    (case k33 => k_is)
    (case a34 => k_is)
    (case l34 => k_is)
    (case c34 => k_is)
    (case k34 => k_is)
    (case a35 => k_is)
    (case l35 => k_is)
    (case c35 => k_is)
    (case k35 => k_is)
    (case a36 => k_is)
    (case l36 => k_is)
    (case c36 => k_is)
    (case k36 => k_is)
    (case z_abs => k_is)
    (case z_all => k_is)
    (case z_bool => k_is)
    (case z_dict => k_is)
    (case z_int => k_is)
    (case z_isinstance => k_is)
    (case z_len => k_is)
    (case z_list => k_is)
    (case z_max => k_is)
    (case z_min => k_is)
    (case z_range => k_is)
    (case z_repr => k_is)
    (case z_sorted => k_is)
    (case z_str => k_is)
    (case z_tuple => k_is)
    (case y_MAX_ALPHABET => k_is)
    (case y_MAX_PIECES => k_is)
    (case y_MAX_PRICE => k_is)
    (case y_PIECE_SIGNS => k_is)
#print axioms PySem.Challenge.cw_cutbehind_k09_whole_least_books_holds
