import PyProof.Rows.All
import Wide.All
import OpenK.AllK
import Wide.FinOn
import PyProof.EqAt
import PyProof.EqKinds
import PyProof.TupleCall
import HandS.ForMost
import HandS.Wide
import HandS.IsInst
import HandS.Walk
import HandS.Style
import HandS.More
import HandS.TupAny
import HandS.TupMul
import HandS.Set
import HandS.SetTxt0
import HandS.SetTxtIn
import HandS.SetFor
import HandS.TupSets
import HandS.DictComp
import HandS.ListItems
import HandS.Property
import KE.KDictCopyH
import HandS.Codes
import HandS.DictTup
import KE.KSortTup
import PyProof.Rows.SortKeyStr
import HandS.OwnEq
import HandS.Deep
import KE.KOpsOwn
import KE.KDictWalk
import KE.KDictExact
import HandS.Small
import HandS.TryOnly
import PySem.Challenge.RW_cutbehind_k05_whole_books_put_together
set_option Elab.async false
set_option linter.all false
set_option maxRecDepth 100000
set_option maxHeartbeats 4000000
/-! The part that every claim shares: defs that are run where no repr is under way (FnG), and rules for what the hand layer lacks. -/
namespace G
open PySem PySem.Spec PyProof.Rows L2
/-! ### a def's promise where no guarded builtin is running -/
structure FnG (P : Program) (w : World) (K : PySem.W.Frag) (mg : Str → Option Value) (base : Heap) (CX : CXT) (k : Nat) (f : Addr) (fd : FuncData) (ps : List Str) (sp : Sp) : Prop where
  cnt : ∀ {vs H Q E}, sp vs H Q E → vs.length = ps.length
  go : ∀ {A : Around} {outer : List Env} {s : Shared} {H : Hp} {args : Args} {us : List Value} {vs : List V} {Q : VK} {E : XK}, A.guards = some [] → Room k A → Env0 P w K mg base A outer s H →
    BindsTo s fd args (ps.zip us) → Vals vs us → sp vs H Q E → codeAny (model P w) A (.call (.ref f) args) (CR CX outer P w H s Q E) s
section
variable {P : Program} {w : World} {K : PySem.W.Frag} {mg : Str → Option Value} {base : Heap} {CX : CXT} {k : Nat} {f : Addr} {fd : FuncData} {ps : List Str} {sp : Sp}
theorem FnG.of (F : FnOk P w K mg base CX k f fd ps sp) : FnG P w K mg base CX k f fd ps sp :=
  ⟨fun h => F.len _ _ _ _ h, fun {A outer s H args us vs Q E} _ hr e0 hb hv hs => F.run A outer s H args us vs Q E hr e0 hb hv hs⟩
theorem FnG.mono {j : Nat} (F : FnG P w K mg base CX j f fd ps sp) (h : j ≤ k) : FnG P w K mg base CX k f fd ps sp :=
  ⟨F.cnt, fun hg hr => F.go hg (hr.mono h)⟩
end
/-- the rule for a def of the text, by its body; the body's reader is told that nothing guarded runs -/
theorem fn_gK {CX : CXT} {P : Program} {w : World} {K : PySem.W.Frag} {mg : Str → Option Value} {base : Heap} {k : Nat} {f : Addr} {x qual : Str} {st : Stmt} {fd : FuncData} {N ps : List Str} {sp : Sp}
    (F : Fun K x qual st f fd) (S : FnScope N ps (defScope st)) (cnt : ∀ vs H Q E, sp vs H Q E → vs.length = ps.length)
    (body : ∀ (cdv : Value), fd.code = cdv → ∀ (A : Around) (outer : List Env) (s : Shared) (H : Hp) (vs : List V) (Q : VK) (E : XK), (A.deeper (envOfC qual (defScope st) s.heap.objs.size f cdv)).guards = some [] →
      Room k (A.deeper (envOfC qual (defScope st) s.heap.objs.size f cdv)) → sp vs H Q E →
      ∃ t, PSs (cxOf CX P w K mg base N qual (defScope st) f cdv A outer s H E) (defBody st) t ∧ t { nx := fun _ H' => Q .non H', rt := Q } (start N vs) H) :
    FnG P w K mg base CX (k + 1) f fd ps sp := by
  obtain ⟨oc, od, kV, doc, pm, an, cdv, ct, osl, hfd, look, code⟩ := F.ex
  subst hfd
  refine ⟨fun h => cnt _ _ _ _ h, ?_⟩
  intro A outer s H args us vs Q E hg room env0 hbind hvals want
  have kin : K.In s.heap := env0.mod.kin.keeps fun b o q => (env0.bs b o q).1
  have nolim : s.heap.NoLimit := env0.mod.nolimit.keeps fun b o q => (env0.bs b o q).1
  have kinds : ∀ y ∈ ps.zip us, (defScope st).names.lookup y.1 = some .local ∨ ((defScope st).names.lookup y.1 = some .cell ∧ ((cellsFrom (s.heap.objs.size + 1) (defScope st).names []).lookup y.1).isSome = true) := by
    rintro ⟨n, v⟩ hy
    cases S.par n (List.of_mem_zip hy).1 with
    | inl q => exact Or.inl q
    | inr q => exact Or.inr ⟨q, PySem.W.cellsFrom_some _ _ _ (Or.inl q)⟩
  refine codeAny_call_function room.depth (kin _ _ look) rfl S.co S.gen rfl (PySem.W.codeRec_of kin code) (hbind _ _ _ _ ?_)
  refine wpAny_newFunctionEnv_cells S.kind kinds ?_
  intro env he s1 z
  subst he
  refine ⟨nolim.keeps z.toInCall.keep, codeAny_func ?_⟩
  obtain ⟨t, ht, hq⟩ := body cdv rfl A outer s H vs Q E hg (room.deeper _) want
  have I0 := inv_start (CX := CX) (P := P) (w := w) (mg := mg) (base := base) (qual := qual) (E := E) S room.hd env0 (cnt _ _ _ _ want) hvals z
  refine wpAny_mono (ht.run [] s1 (start N vs) H _ I0 hq) ?_ (fun _ _ q => q)
  intro fl s' hs
  cases fl with
  | ret u =>
    obtain ⟨v, σ', H', J, rv, q⟩ := hs
    exact ⟨v, H', J.os, J.bare, J.base, J.hok, rv, q⟩
  | next =>
    obtain ⟨σ', H', J, q⟩ := hs
    exact ⟨V.non, H', J.os, J.bare, J.base, J.hok, rfl, q⟩
  | brk => exact hs.elim fun _ z => z.elim fun _ z => False.elim z.2
  | cont => exact hs.elim fun _ z => z.elim fun _ z => False.elim z.2
theorem fn_g {CX : CXT} {P : Program} {w : World} {K : PySem.W.Frag} {mg : Str → Option Value} {base : Heap} {k : Nat} {f : Addr} {x qual : Str} {st : Stmt} {fd : FuncData} {N ps : List Str} {sp : Sp}
    (F : Fun K x qual st f fd) (S : FnScope N ps (defScope st)) (cnt : ∀ vs H Q E, sp vs H Q E → vs.length = ps.length)
    (body : ∀ (cdv : Value) (A : Around) (outer : List Env) (s : Shared) (H : Hp) (vs : List V) (Q : VK) (E : XK), (A.deeper (envOfC qual (defScope st) s.heap.objs.size f cdv)).guards = some [] →
      Room k (A.deeper (envOfC qual (defScope st) s.heap.objs.size f cdv)) → sp vs H Q E →
      ∃ t, PSs (cxOf CX P w K mg base N qual (defScope st) f cdv A outer s H E) (defBody st) t ∧ t { nx := fun _ H' => Q .non H', rt := Q } (start N vs) H) :
    FnG P w K mg base CX (k + 1) f fd ps sp := fn_gK F S cnt fun cdv _ => body cdv
/-- a def that lets nothing out, its code object known -/
theorem fn_gC {P : Program} {w : World} {K : PySem.W.Frag} {mg : Str → Option Value} {base : Heap} {k : Nat} {f c : Addr} {x qual : Str} {st : Stmt} {fd : FuncData} {N ps : List Str} {sp : Sp}
    (F : Fun K x qual st f fd) (hc : fd.code = .ref c) (S : FnScope N ps (defScope st)) (cnt : ∀ vs H Q E, sp vs H Q E → vs.length = ps.length)
    (body : ∀ (A : Around) (outer : List Env) (s : Shared) (H : Hp) (vs : List V) (Q : VK) (E : XK), (A.deeper (envOfC qual (defScope st) s.heap.objs.size f (.ref c))).guards = some [] →
      Room k (A.deeper (envOfC qual (defScope st) s.heap.objs.size f (.ref c))) → sp vs H Q E →
      ∃ t, PSs (cxOf CX0 P w K mg base N qual (defScope st) f (.ref c) A outer s H E).nox (defBody st) t ∧ t { nx := fun _ H' => Q .non H', rt := Q } (start N vs) H) :
    FnG P w K mg base CX0 (k + 1) f fd ps sp := fn_gK F S cnt fun cdv e A outer s H vs Q E hg hr h => by
  rw [hc] at e
  subst e
  obtain ⟨t, ht, hq⟩ := body A outer s H vs Q E hg hr h
  exact ⟨t, ht.nox, hq⟩
/-- a def that lets nothing out -/
theorem fn_g0 {P : Program} {w : World} {K : PySem.W.Frag} {mg : Str → Option Value} {base : Heap} {k : Nat} {f : Addr} {x qual : Str} {st : Stmt} {fd : FuncData} {N ps : List Str} {sp : Sp}
    (F : Fun K x qual st f fd) (S : FnScope N ps (defScope st)) (cnt : ∀ vs H Q E, sp vs H Q E → vs.length = ps.length)
    (body : ∀ (cdv : Value) (A : Around) (outer : List Env) (s : Shared) (H : Hp) (vs : List V) (Q : VK) (E : XK), (A.deeper (envOfC qual (defScope st) s.heap.objs.size f cdv)).guards = some [] →
      Room k (A.deeper (envOfC qual (defScope st) s.heap.objs.size f cdv)) → sp vs H Q E →
      ∃ t, PSs (cxOf CX0 P w K mg base N qual (defScope st) f cdv A outer s H E).nox (defBody st) t ∧ t { nx := fun _ H' => Q .non H', rt := Q } (start N vs) H) :
    FnG P w K mg base CX0 (k + 1) f fd ps sp := fn_g F S cnt fun cdv A outer s H vs Q E hg hr h => by
  obtain ⟨t, ht, hq⟩ := body cdv A outer s H vs Q E hg hr h
  exact ⟨t, ht.nox, hq⟩

/-! ### a def as its callers use it -/
structure Has (P : Program) (w : World) (K : PySem.W.Frag) (mg : Str → Option Value) (base : Heap) (CX : CXT) (k : Nat) (x : Str) (ps : List Str) (sp : Sp) : Prop where
  ex : ∃ f fd, FnG P w K mg base CX k f fd ps sp ∧ mg x = some (.ref f) ∧ PySem.W.keepIn K (.ref f) = true ∧ Binds K fd ps []
theorem Has.mono {P : Program} {w : World} {K : PySem.W.Frag} {mg : Str → Option Value} {base : Heap} {CX : CXT} {j k : Nat} {x : Str} {ps : List Str} {sp : Sp} (F : Has P w K mg base CX j x ps sp) (h : j ≤ k) : Has P w K mg base CX k x ps sp := by
  obtain ⟨f, fd, G, r⟩ := F.ex
  exact ⟨f, fd, G.mono h, r⟩
theorem Has.mk' {P : Program} {w : World} {K : PySem.W.Frag} {mg : Str → Option Value} {base : Heap} {CX : CXT} {k : Nat} {x qual : Str} {ps : List Str} {sp : Sp} {f : Addr} {fd : FuncData} {st : Stmt} (F : Fun K x qual st f fd) (hm : mg x = some (.ref f)) (hb : Binds K fd ps [])
    (G : FnG P w K mg base CX k f fd ps sp) : Has P w K mg base CX k x ps sp := ⟨f, fd, G, hm, F.kp, hb⟩
section
variable {X : Cx} {CX : CXT} {k : Nat} {x : Str} {ps : List Str} {sp : Sp} {E : XK} {p pos : Pos} {e : Expr} {es : List Expr} {t : TA}
theorem run_g {f : Addr} {fd : FuncData} {pins : List (Addr × Obj)} {σ : L2.St} {H : Hp} {s : Shared} {Q : VK} {us : List Value} {vs : List V} (F : FnG X.prog X.w X.K X.mg X.base CX k f fd ps sp) (hg : X.A.guards = some []) (hr : Room k X.A) (hb : Binds X.K fd ps []) (hx : Passes CX X E)
    (I : Inv X pins σ H s) (r : Vals vs us) (h : sp vs H Q E) : wpAny (model X.prog X.w) X.A (call (.ref f) us) (EP X pins σ Q) X.xe s := by
  have hl : (us ++ []).length = ps.length := by
    rw [List.append_nil, ← r.length]
    exact F.cnt h
  have hb' := hb s us I.kIn hl
  rw [List.append_nil] at hb'
  refine wpAny_call (codeAny_mono (F.go hg hr I.env0 hb' r h) ?_)
  intro res s' q
  cases res with
  | error err => exact hx pins σ H s err s' I q
  | ok fl =>
    cases fl with
    | ret u => exact I.after q
    | next => exact q.elim
    | brk => exact q.elim
    | cont => exact q.elim
theorem pe_has (F : Has X.prog X.w X.K X.mg X.base CX k x ps sp) (hg : X.A.guards = some []) (hr : Room k X.A) (hx : Passes CX X E) (ha : PA X (e :: es) t) (hl : Gl X x := by rfl)
    (hdb : (x == ("__debug__" : Str)) = false := by decide) (he : starEach (e :: es) X.env = (false, eval e X.env) :: starEach es X.env := by rfl) (hpl : (backTo pos (starEach es X.env)).any (·.1) = false := by rfl) :
    PE X (.Call (.Name x p) (e :: es) [] pos) (tCall sp [] E t) := by
  obtain ⟨f, fd, G, hm, hk, hb⟩ := F.ex
  constructor
  intro pins s σ H Q I h
  refine wpAny_Call_Name_kw (ld_glob I hl hm ?_ hdb)
  refine PySem.W.callWith_K (h₀ := X.base) I.ok.mod.kin hk (thn (ha.run pos pins s σ H _ I h) ?_) he hpl
  rintro us s1 ⟨vs, H1, I1, r, q⟩
  refine ⟨I1.kIn, run_g G hg hr hb hx I1 r ?_⟩
  have q' : sp (vs ++ []) H1 Q E := q
  rw [List.append_nil] at q'
  exact q'
theorem pe_has0 (F : Has X.prog X.w X.K X.mg X.base CX k x ps sp) (hg : X.A.guards = some []) (hr : Room k X.A) (hx : Passes CX X E) (hl : Gl X x := by rfl) (hdb : (x == ("__debug__" : Str)) = false := by decide) :
    PE X (.Call (.Name x p) [] [] pos) (tCall sp [] E tNil) := by
  obtain ⟨f, fd, G, hm, hk, hb⟩ := F.ex
  constructor
  intro pins s σ H Q I h
  refine wpAny_Call_Name_kw (ld_glob I hl hm ?_ hdb)
  exact PySem.W.callWith_K0 I.kIn hk (run_g (us := []) (vs := []) G hg hr hb hx I .nil h)
end

/-! ### rules for ints of any size, texts, lists, repr -/
section
variable {X : Cx}
def CPowW (i j : Int) : Prop := 0 ≤ j ∧ (Builtin.Int.intBits i : Int) * j ≤ 2 ^ 27
theorem op_powW : OpR X (binaryOp .Pow) (rI CPowW fun i j => .int (i ^ j.toNat)) := by
  intro pins s σ H x y v u Q I rx ry h
  obtain ⟨i, j, rfl, rfl, ⟨h1, h2⟩, q⟩ := h
  obtain ⟨t1, rfl⟩ := rx
  obtain ⟨t2, rfl⟩ := ry
  exact pow_int h1 h2 ⟨V.int _, H, I.tok _, ⟨_, rfl⟩, q⟩
/-- a text said n times, n at least 2 -/
def sRep (z : Str) (n : Nat) : Str := ⟨(List.replicate n z.cps).foldl (· ++ ·) #[]⟩
def rMulS : R2 := fun x y H Q => ∃ (z : Str) (n : Int), x = .str z ∧ y = .int n ∧ 1 < n ∧ n < 2 ^ 40 ∧ 0 < z.length ∧ z.length * n.toNat ≤ sizeLine ∧ Q (.str (sRep z n.toNat)) H
theorem op_mulS : OpR X (binaryOp .Mult) rMulS := by
  intro pins s σ H x y v u Q I rx ry h
  obtain ⟨z, n, rfl, rfl, h1, h2, h3, h4, q⟩ := h
  obtain ⟨t1, rfl⟩ := rx
  obtain ⟨t2, rfl⟩ := ry
  have hz : sizeLine = 16777216 := sizeLine_eq
  have c0 : ¬ n < 1 := by omega
  have c1 : (n == 1 || z.length == 0) = false := by
    have a : (n == 1) = false := beq_eq_false_iff_ne.mpr (by omega)
    have b : (z.length == 0) = false := beq_eq_false_iff_ne.mpr (by omega)
    rw [a, b]
    rfl
  have h5 : (z.length * n.toNat : Nat) ≤ 16777216 := by rw [← hz]; exact h4
  refine PySem.P.mul_str ?_ ?_ ?_ ?_
  · have a : ¬ n < -(2 ^ 63 : Int) := by omega
    have b : ¬ n ≥ 2 ^ 63 := by omega
    rw [decide_eq_false a, decide_eq_false b]
    rfl
  · intro _ _ hgt
    have hn0 : (0 : Int) < n := by omega
    have e1 : (z.length : Int) ≤ 16777216 := by
      have : z.length * 1 ≤ z.length * n.toNat := Nat.mul_le_mul_left _ (by omega)
      omega
    have e2 : (8388608 : Int) ≤ (2 ^ 63 - 1) / n := by
      rw [Int.le_ediv_iff_mul_le hn0]
      have : 8388608 * n < 8388608 * 2 ^ 40 := by omega
      have e3 : (8388608 : Int) * 2 ^ 40 = 2 ^ 63 := by decide
      omega
    have e4 : (z.length : Int) ≤ 8388608 := by
      have : z.length * 2 ≤ z.length * n.toNat := Nat.mul_le_mul_left _ (by omega)
      omega
    omega
  · intro _ _
    unfold Builtin.Str.tooLong
    have : ¬ (z.length * n.toNat) > sizeLine := by omega
    simpa using this
  · rw [if_neg c0, c1]
    exact ⟨by
      show (sRep z n.toNat).length ≤ sizeLine
      exact fits_reps (by unfold Builtin.Str.tooLong; simpa using (show ¬ (z.length * n.toNat) > sizeLine by omega)), ⟨V.str _, H, I.tok _, ⟨_, rfl⟩, q⟩⟩

/-- the signs of a text, each a text -/
def signsV (z : Str) : List V := z.cps.toList.map fun c => V.str ⟨#[c]⟩
def rListS : List V → Hp → VK → Prop := fun xs H Q => ∃ z : Str, xs = [.str z] ∧ z.length ≤ sizeLine ∧ ∀ p, H p = none → Q (.ref p) (upd H p (.lst (signsV z)))
theorem vals_at : ∀ (xs : List V) (us : List Value), us.length = xs.length → (∀ (j : Nat) (u : Value), us[j]? = some u → ∃ x, xs[j]? = some x ∧ RelV x u) → Vals xs us
  | [], [], _, _ => .nil
  | [], _ :: _, n, _ => by cases n
  | _ :: _, [], n, _ => by cases n
  | x :: xs, u :: us, n, at' => by
    obtain ⟨y, ey, ry⟩ := at' 0 u rfl
    cases ey
    refine .cons ry (vals_at xs us (Nat.succ.inj n) ?_)
    intro j v hv
    exact at' (j + 1) v hv
theorem call_list_str (hc : X.calm = true) : CallR X (.type "list") rListS := by
  intro pins s σ H xs us Q I r h
  obtain ⟨z, rfl, hz, q⟩ := h
  obtain ⟨u, rfl, t, rfl⟩ := vals1 r
  refine PySem.call_list_str (I.ok.hd hc) z t ?_ hz
  intro h' tk acc c' keeps at' items
  have lenA : acc.toList.length = (signsV z).length := by
    unfold signsV
    rw [List.length_map, Array.length_toList, Array.length_toList]
    exact items.1
  have va : Vals (signsV z) acc.toList := vals_at _ _ lenA fun j u hu => by
    have hj : acc[j]? = some u := by simpa using hu
    obtain ⟨c, tk2, e1, rfl⟩ := items.2 j u hj
    refine ⟨V.str ⟨#[c]⟩, ?_, ⟨tk2, rfl⟩⟩
    unfold signsV
    have e2 : z.cps.toList[j]? = some c := by simpa using e1
    rw [List.getElem?_map, e2]
    rfl
  have lz : (signsV z).length ≤ sizeLine := by
    unfold signsV
    rw [List.length_map, Array.length_toList]
    exact hz
  refine ⟨.ref s.heap.objs.size, _, I.laid (t' := tk) (o := .lst (signsV z)) keeps (Nat.le_refl _) ?_, rfl, q _ (I.hok.fresh (Nat.le_refl _))⟩
  exact ⟨lz, acc.toList, c', va, by simpa using at'⟩

/-- repr of data of any depth (no dict within) -/
def rRepr (K : PySem.W.Frag) : List V → Hp → VK → Prop := fun xs H Q => ∃ x d, xs = [x] ∧ Dp K H x d ∧ d.showable = true ∧ d.hasDict = false ∧ d.depth ≤ 60 ∧ d.shown.length ≤ sizeLine ∧ Q (.str d.shown) H
theorem call_repr (hg : X.A.guards = some []) (hu : X.A.units + 64 < cLine) : CallR X (.builtin "repr") (rRepr X.K) := by
  intro pins s σ H xs us Q I r h
  obtain ⟨x, d, rfl, hd, hs, hD, hdep, hz, q⟩ := h
  obtain ⟨u, rfl, rx⟩ := vals1 r
  obtain ⟨as, rd⟩ := Dp.reads I d x u hd rx
  have fin : ∀ h' t tk, (∀ b o, s.heap.get? b = some o → h'.get? b = some o) → EP X pins σ Q (.str d.shown t) { s with heap := h', toks := tk } := fun h' t tk keeps =>
    ⟨V.str d.shown, H, I.kept keeps, ⟨t, rfl⟩, q⟩
  cases rd with
  | none =>
    simp only [PyData.shown] at fin
    exact PySem.P.repr_of_none (fin _ _ _ fun _ _ e => e)
  | bool b =>
    simp only [PyData.shown] at fin
    exact PySem.P.repr_of_bool (fin _ _ _ fun _ _ e => e)
  | int i t =>
    simp only [PyData.shown] at fin
    exact PySem.P.repr_of_int (by simpa [PyData.showable] using hs) (fin _ _ _ fun _ _ e => e)
  | str z t =>
    simp only [PyData.shown] at fin hz
    exact PySem.P.repr_of_str (fin _ _ _ fun _ _ e => e) hz
  | list a b c e => exact repr_of_reads' (.list a b c e) hs (PyData.noDict_hsm hD) hg (by omega) (fun _ _ e => e) fin hz
  | tuple a b c e => exact repr_of_reads' (.tuple a b c e) hs (PyData.noDict_hsm hD) hg (by omega) (fun _ _ e => e) fin hz
  | dict a b c e f => cases hD
end

/-! ### the end of a law row, for a law that is run where nothing guarded runs -/
theorem end_g {P : Program} {w : World} {K : PySem.W.Frag} {mg mb : Str → Option Value} {k : Nat} {fa a : Addr} {fd : FuncData} {x : Str} {sp : Sp} {s₁ : Shared} {vs : List Value} {ns : List Int}
    (kin : K.In s₁.heap) (nsM : s₁.heap.Ns mainGlobals mg) (nsB : s₁.heap.Ns builtinsNs mb) (plainB : ∀ x : Str, x ≠ "__name__" → mb x = bootBuiltins x) (nolim : s₁.heap.NoLimit) (gens : s₁.gens = #[])
    (at' : s₁.heap.get? a = some { cls := .type "list", data := .seq vs.toArray }) (areI : IntsAre vs ns) (short : ns.length ≤ sizeLine) (room : Room k callerA)
    (F : ∀ base : Heap, K.In base → base.Ns mainGlobals mg → FnG P w K mg base CX0 k fa fd [x] sp) (bind : ∀ (s : Shared) (u : Value), BindsTo s fd ⟨[u], []⟩ [(x, u)])
    (prom : ∀ H : Hp, Only H → SqL K H a (ns.map V.int) → sp [.ref a] H (fun v _ => v = .bl true) fun _ _ _ => False) :
    codeAny (model P w) callerA (.call (.ref fa) ⟨[.ref a], []⟩) (fun r s' => r = .ok (.ret (.bool true)) ∧ OldK s₁.heap s'.heap ∧ s'.os = s₁.os ∧ AllBare s'.gens) s₁ := by
  have hv := vals_ints areI
  have hlen := areI.length
  have go : ∀ H : Hp, Only H → SqL K H a (ns.map V.int) → HOk P w H s₁.heap → (∀ b, H b ≠ none → b = a) → (H a ≠ none → K.lookup a = none) →
      codeAny (model P w) callerA (.call (.ref fa) ⟨[.ref a], []⟩) (fun r s' => r = .ok (.ret (.bool true)) ∧ OldK s₁.heap s'.heap ∧ s'.os = s₁.os ∧ AllBare s'.gens) s₁ := by
    intro H only sq hok one notK
    have dictFree : ∀ {b : Addr} {o : Obj} {es : Array DictEntry} {ep : Nat}, s₁.heap.get? b = some o → o.data = .dict es ep → H b = none := by
      intro b o es ep e d
      match hb : H b with
      | none => rfl
      | some u =>
        have eb := one b (by rw [hb]; exact fun z => by cases z)
        rw [eb, at'] at e
        cases e
        exact absurd d (fun z => by cases z)
    have nsT : ∀ {b : Addr} {m : Str → Option Value}, s₁.heap.Ns b m → (hidT s₁.heap H).Ns b m := by
      rintro b m ⟨o, es, ep, e, d, rest⟩
      exact ⟨o, es, ep, hidT_get e (dictFree e d), d, rest⟩
    have kinT : K.In (hidT s₁.heap H) := by
      intro b o e
      refine hidT_get (kin b o e) ?_
      match hb : H b with
      | none => rfl
      | some u =>
        have nz : H b ≠ none := by rw [hb]; exact fun z => by cases z
        have eb := one b nz
        rw [eb] at nz e
        rw [notK nz] at e
        cases e
    have modT : Mod K mg (hidT s₁.heap H) := by
      refine ⟨kinT, nsT nsM, ⟨mb, nsT nsB, plainB⟩, ?_⟩
      obtain ⟨mc, l1, l2⟩ := nolim
      exact ⟨mc, nsT l1, l2⟩
    have start0 : Env0 P w K mg (hidT s₁.heap H) callerA [] s₁ H :=
      ⟨rfl, modT, fun _ _ e => of_hidT e, Nat.le_of_eq (hidT_size _ _), trivial, fun _ z => (List.not_mem_nil z).elim, hok, .of_eq gens⟩
    have ran := (F _ kinT (nsT nsM)).go (args := ⟨[.ref a], []⟩) (us := [.ref a]) (vs := [.ref a]) rfl room start0 (bind s₁ (.ref a)) (.cons rfl .nil) (prom H only sq)
    refine codeAny_mono ran ?_
    intro r s' h
    match r, h with
    | .ok (.ret u), ⟨v, H', os, bare, un, hok', rel, val⟩ =>
      have val' : v = .bl true := val
      subst val'
      have eu : u = Value.bool true := rel
      subst eu
      refine ⟨rfl, OldK.of_keep ?_, os, bare⟩
      intro b o e
      match hb : H b with
      | none => exact un.keep b o e hb (fun z => (List.not_mem_nil z).elim) (fun z => (List.not_mem_nil z).elim)
      | some _ =>
        rcases only b with z | ⟨ob, xs, z⟩
        · rw [hb] at z
          cases z
        · have old := (hok b _ z).1
          have new := (hok' b _ (un.frzs b ob _ z)).1
          rw [e] at old
          cases old
          exact new
    | .ok .next, z => exact False.elim z
    | .ok .brk, z => exact False.elim z
    | .ok .cont, z => exact False.elim z
    | .error _, z => exact False.elim z
  match hk : K.lookup a with
  | some o =>
    have e := kin a o hk
    rw [at'] at e
    cases e
    refine go (fun _ => none) (fun _ => Or.inl rfl) (Or.inr ⟨_, vs.toArray, _, hk, rfl, rfl, rfl, ?_, by simpa using hv⟩) (fun _ _ z => by cases z) (fun _ z => absurd rfl z) fun z => absurd rfl z
    rw [List.size_toArray, hlen]
    exact short
  | none =>
    let H1 : Hp := fun b => if b = a then some (.frz { cls := .type "list", data := .seq vs.toArray } (.lst (ns.map V.int))) else none
    have here : H1 a = some (.frz { cls := .type "list", data := .seq vs.toArray } (.lst (ns.map V.int))) := if_pos rfl
    have away : ∀ {b}, b ≠ a → H1 b = none := fun hb => if_neg hb
    refine go H1 (fun b => ?_) (Or.inl (Or.inr ⟨_, here⟩)) (fun b u z => ?_) (fun b z => ?_) fun _ => hk
    · by_cases hb : b = a
      · rw [hb]
        exact Or.inr ⟨_, _, here⟩
      · exact Or.inl (away hb)
    · by_cases hb : b = a
      · rw [hb] at z ⊢
        rw [here] at z
        cases z
        exact ⟨at', by rw [List.length_map]; exact short, vs, _, hv, at'⟩
      · rw [away hb] at z
        cases z
    · by_cases hb : b = a
      · exact hb
      · exact absurd (away hb) z
theorem walk_g {l : PySem.W.OpenLaw} {n k : Nat} {q : Program} {loose : List Str} {XP : (Str → Option Value) → Heap → Prop} {YP : World → Heap → Prop} {d : DefRec} {K : Params → PySem.W.Frag} {sp : PySem.W.Frag → Sp} {x : Str}
    (many : l.most = some n) (fits : n ≤ sizeLine) (plain : d.params.defaults = []) (room : Room k callerA) (hY : ∀ (w : World) (h : Heap), YP w h → (K w.params).In h)
    (F : ∀ (w : World) (mg : Str → Option Value) (fa : Addr) (h : Heap), (K w.params).In h → h.Ns mainGlobals mg → mg d.name = some (.ref fa) →
      ∃ fd : FuncData, (∀ (s : Shared) (u : Value), BindsTo s fd ⟨[u], []⟩ [(x, u)]) ∧ ∀ base : Heap, (K w.params).In base → base.Ns mainGlobals mg → FnG l.prog w (K w.params) mg base CX0 k fa fd [x] (sp (K w.params)))
    (prom : ∀ (K : PySem.W.Frag) (H : Hp) (a : Addr) (ns : List Int), ns.length ≤ n → Only H → SqL K H a (ns.map V.int) → sp K [.ref a] H (fun v _ => v = .bl true) fun _ _ _ => False) :
    PySem.W.WalkO q loose XP YP l.row.toRowW d [] (fun f vs => PySem.call f vs) := by
  refine Att.attach_call many plain ?_
  intro w s₀ s₁ mg mb fa o pm cd doc a vs ns G Y ho hd hcd hmg hobj hints hlen hgens
  obtain ⟨fd, bind, hF⟩ := F w mg fa _ (hY w _ Y) G.T.g hmg
  exact end_g (hY w _ Y) G.T.g G.T.b G.T.builtins G.T.nolimit hgens hobj hints (Nat.le_trans hlen fits) room hF bind fun H only sq => prom _ H a ns hlen only sq
end G
/-! The layer's rules with the written part K named, so that they serve within a comprehension. -/
namespace G
open PySem PySem.Spec PyProof.Rows L2
section
variable {X : Cx} (K : PySem.W.Frag)
theorem g_ix_list (e : X.K = K := by rfl) : IxR X (rIxL K) := by
  subst e
  exact ix_list
theorem g_ix_tup (e : X.K = K := by rfl) : IxR X (rIxT K) := by
  subst e
  exact ix_tup
theorem g_ix_seq (e : X.K = K := by rfl) : IxR X (rIx K) := by
  subst e
  exact ix_seq
def rLenQ : List V → Hp → VK → Prop := fun xs H Q => ∃ p ys, xs = [.ref p] ∧ (SqL K H p ys ∨ SqT K H p ys) ∧ Q (.int (ys.length : Int)) H
theorem g_len_seq (e : X.K = K := by rfl) : CallR X (.builtin "len") (rLenQ K) := by
  subst e
  exact call_len_seq
def rLenG : List V → Hp → VK → Prop := fun xs H Q => ∃ x n, xs = [x] ∧ LenV K x H n ∧ Q (.int (n : Int)) H
theorem g_len (e : X.K = K := by rfl) : CallR X (.builtin "len") (rLenG K) := by
  subst e
  exact call_len
def rListQ : List V → Hp → VK → Prop := fun xs H Q => ∃ p ys, xs = [.ref p] ∧ (SqL K H p ys ∨ SqT K H p ys) ∧ ∀ l, H l = none → Q (.ref l) (upd H l (.lst ys))
theorem g_list_of (e : X.K = K := by rfl) : CallR X (.type "list") (rListQ K) := by
  subst e
  exact call_list_of
def rListAny : List V → Hp → VK → Prop := fun xs H Q => rListS xs H Q ∨ rListQ K xs H Q
theorem g_list_any (hc : X.calm = true) (e : X.K = K := by rfl) : CallR X (.type "list") (rListAny K) := fun pins s σ H xs us Q I r h => by
  rcases h with h | h
  · exact call_list_str hc pins s σ H xs us Q I r h
  · exact g_list_of K e pins s σ H xs us Q I r h
def rDictP : List V → Hp → VK → Prop := fun xs H Q => ∃ (a : Addr) (ps : List Addr) (kvs : List (Key × V)), xs = [.ref a] ∧ SqL K H a (ps.map V.ref) ∧ Paired (fun p kv => SqT K H p [kV kv.1, kv.2]) ps kvs ∧ ∀ p, H p = none → Q (.ref p) (upd H p (.dK (mergeK [] kvs)))
theorem g_dictP (hc : X.calm = true) (e : X.K = K := by rfl) : CallR X (.type "dict") (rDictP K) := by
  subst e
  exact call_dictP hc
def rTupQ : List V → Hp → VK → Prop := fun xs H Q => ∃ p ys, xs = [.ref p] ∧ ((SqL K H p ys ∧ ∀ l, H l = none → Q (.ref l) (upd H l (.tup ys))) ∨ (SqT K H p ys ∧ Q (.ref p) H))
theorem g_tuple_of (e : X.K = K := by rfl) : CallR X (.type "tuple") (rTupQ K) := by
  subst e
  exact call_tuple_of
theorem g_isi (e : X.K = K := by rfl) : CallR X (.builtin "isinstance") (rIsi K) := by
  subst e
  exact call_isi
theorem g_isiT (e : X.K = K := by rfl) : CallR X (.builtin "isinstance") (rIsiT K) := by
  subst e
  exact call_isiT
theorem g_all (hc : X.calm = true) (e : X.K = K := by rfl) : CallR X (.builtin "all") (rAll K) := by
  subst e
  exact cr_all hc
theorem g_any (hc : X.calm = true) (e : X.K = K := by rfl) : CallR X (.builtin "any") (rAny K) := by
  subst e
  exact cr_any hc
theorem g_sum (hc : X.calm = true) (e : X.K = K := by rfl) : CallR X (.builtin "sum") (rSum K) := by
  subst e
  exact cr_sum hc
theorem g_max (hc : X.calm = true) (e : X.K = K := by rfl) : CallR X (.builtin "max") (rMax K) := by
  subst e
  exact cr_max hc
theorem g_min (hc : X.calm = true) (e : X.K = K := by rfl) : CallR X (.builtin "min") (rMin K) := by
  subst e
  exact cr_min hc
theorem g_sortedS (e : X.K = K := by rfl) : CallR X (.builtin "sorted") (rSortedS K) := by
  subst e
  exact cr_sortedS
theorem g_in_seq (e : X.K = K := by rfl) : OpR X (compareOp .In) (rIn K false) := by
  subst e
  exact op_in_seq
theorem g_notIn_seq (e : X.K = K := by rfl) : OpR X (compareOp .NotIn) (rIn K true) := by
  subst e
  exact op_notIn_seq
theorem g_eqD (hu : X.A.units + 64 < cLine) (e : X.K = K := by rfl) : OpR X (compareOp .Eq) (rEqD K) := by
  subst e
  exact op_eqD hu
theorem g_neD (hu : X.A.units + 64 < cLine) (e : X.K = K := by rfl) : OpR X (compareOp .NotEq) (rNeD K) := by
  subst e
  exact op_neD hu
theorem g_sl_list (e : X.K = K := by rfl) : SlR X (rSlL K) := by
  subst e
  exact sl_list
theorem g_sl_tup (e : X.K = K := by rfl) : SlR X (rSlA K) := by
  subst e
  exact sl_tupA
theorem g_repr (hg : X.A.guards = some []) (hu : X.A.units + 64 < cLine) (e : X.K = K := by rfl) : CallR X (.builtin "repr") (rRepr K) := by
  subst e
  exact call_repr hg hu
theorem g_fld {x : Expr} {f : Str} {pos : Pos} {ta : TE} (he : PE X x ta) (hb : attributeBase x f X.env (eval x X.env) = eval x X.env := by rfl) (e : X.K = K := by rfl) : PE X (.Attribute x f pos) (tFld K ta f) := by
  subst e
  exact pe_fld he hb
theorem g_list {tg l : Expr} {tl : TE} (hl : PE X l tl) (e : X.K = K := by rfl) : PI X tg l (iList K tl) := by
  subst e
  exact pi_list hl
theorem g_tuple {tg l : Expr} {tl : TE} (hl : PE X l tl) (e : X.K = K := by rfl) : PI X tg l (iTup K tl) := by
  subst e
  exact pi_tup hl
theorem g_tup {es : List Expr} {k : Nat} {t : TGs} {n : Nat} {pos : Pos} (hc : X.calm = true) (h : PGs X es t) (hn : (assignEach es X.env).length = n := by rfl) (hst : (assignEach es X.env).findIdx? (·.1) = none := by rfl) (e : X.K = K := by rfl) :
    PG X (.Tuple es k pos) (gTup K n t) := by
  subst e
  exact pg_tup hc h hn hst
/-- sep.join(a list or a tuple of texts) -/
def rJoin : V → List V → Hp → VK → Prop := fun x xs H Q => ∃ a p, ∃ ys : List Str, x = .str a ∧ xs = [.ref p] ∧ (SqL K H p (ys.map V.str) ∨ SqT K H p (ys.map V.str)) ∧ (ys.map (·.length)).sum + ys.length * a.length ≤ 16777216 ∧ Q (.str (Txt.join a ys)) H
theorem g_join {o x : Expr} {to te : TE} {apos pos : Pos} (ho : PE X o to) (he : PE X x te) (hs : starEach [x] X.env = [(false, eval x X.env)] := by rfl) (hbase : attributeBase o "join" X.env (eval o X.env) = eval o X.env := by rfl) (hline : (apos.endLine == pos.line) = true := by rfl) (e : X.K = K := by rfl) :
    PE X (.Call (.Attribute o "join" apos) [x] [] pos) (tM1 (rJoin K) to te) := by
  subst e
  exact pe_join ho he hs hbase hline
theorem g_bm0 {T name id : String} {o : Expr} {to : TE} {r : V → List V → Hp → VK → Prop} {apos cpos : Pos} (pa : PlainAttrs T) (slot : Slot T name id) (hty : typeOf (.builtin id) = pure (.type "method_descriptor")) (hm : MtR X id r) (ho : PE X o to)
    (hb : attributeBase o name X.env (eval o X.env) = eval o X.env := by rfl) (hl : (apos.endLine == cpos.line) = true := by rfl) (e : X.K = K := by rfl) : PE X (.Call (.Attribute o name apos) [] [] cpos) (tBM0 K T r to) := by
  subst e
  exact pe_bm0 pa slot hty hm ho hb hl
theorem g_bm {T name id : String} {o x : Expr} {xs : List Expr} {to : TE} {t : TA} {r : V → List V → Hp → VK → Prop} {apos cpos : Pos} (pa : PlainAttrs T) (slot : Slot T name id) (hty : typeOf (.builtin id) = pure (.type "method_descriptor")) (hm : MtR X id r) (ho : PE X o to) (ha : PA X (x :: xs) t)
    (hb : attributeBase o name X.env (eval o X.env) = eval o X.env := by rfl) (hf : ((backTo cpos (starEach (x :: xs) X.env)).all (fun y => !y.1) && (backToKw cpos (keywordEach [] X.env)).all (fun y => y.1.isSome) &&
      decide ((x :: xs).length + ([] : List Keyword).length + (if ([] : List Keyword).isEmpty then 0 else 1) < 30)) = true := by rfl)
    (hl : (apos.endLine == cpos.line) = true := by rfl) (hs : starEach (x :: xs) X.env = (false, eval x X.env) :: starEach xs X.env := by rfl) (hp : (backTo cpos (starEach xs X.env)).any (·.1) = false := by rfl) (e : X.K = K := by rfl) :
    PE X (.Call (.Attribute o name apos) (x :: xs) [] cpos) (tBM K T r to t) := by
  subst e
  exact pe_bm pa slot hty hm ho ha hb hf hl hs hp
end
end G
namespace G
open PySem PySem.Spec PyProof.Rows L2
theorem itT {c : Bool} {A B : Prop} (hc : c = true) (h : A) : if c = true then A else B := by
  rw [if_pos hc]
  exact h
theorem itF {c : Bool} {A B : Prop} (hc : c = false) (h : B) : if c = true then A else B := by
  rw [hc, if_neg Bool.false_ne_true]
  exact h
/-- an if on a Bool that is not known -/
theorem itB {c : Bool} {A B : Prop} (h1 : c = true → A) (h2 : c = false → B) : if c = true then A else B := by
  cases c
  · exact itF rfl (h2 rfl)
  · exact itT rfl (h1 rfl)
/-! ### kinds of values -/
def isStr : V → Bool | .str _ => true | _ => false
def isBl : V → Bool | .bl _ => true | _ => false
def isIntB : V → Bool | .int _ => true | .bl _ => true | _ => false
def Tyd (K : PySem.W.Frag) (H : Hp) (x : V) : Prop := ∃ t, TyX K H x t ∧ PySem.W.kitOne K t (.type "str") = some (isStr x) ∧ PySem.W.kitOne K t (.type "int") = some (isIntB x) ∧ PySem.W.kitOne K t (.type "bool") = some (isBl x)
section
variable {K : PySem.W.Frag} {H : Hp} {x : V}
theorem tyd_of {T : String} {a b c : Bool} (h : TyX K H x (.type T)) (ha : kitB T "str" = some a) (hb : kitB T "int" = some b) (hc : kitB T "bool" = some c) (ea : isStr x = a) (eb : isIntB x = b) (ec : isBl x = c) : Tyd K H x :=
  ⟨_, h, by rw [ea]; exact kit_ty ha, by rw [eb]; exact kit_ty hb, by rw [ec]; exact kit_ty hc⟩
theorem tyd_non  : Tyd K H .non := tyd_of (a := false) (b := false) (c := false) (.base .non) (by decide +kernel) (by decide +kernel) (by decide +kernel) rfl rfl rfl
theorem tyd_bl (b : Bool) : Tyd K H (.bl b) := tyd_of (a := false) (b := true) (c := true) (.base (.bl b)) (by decide +kernel) (by decide +kernel) (by decide +kernel) rfl rfl rfl
theorem tyd_int (i : Int) : Tyd K H (.int i) := tyd_of (a := false) (b := true) (c := false) (.base (.int i)) (by decide +kernel) (by decide +kernel) (by decide +kernel) rfl rfl rfl
theorem tyd_str (z : Str) : Tyd K H (.str z) := tyd_of (a := true) (b := false) (c := false) (.base (.str z)) (by decide +kernel) (by decide +kernel) (by decide +kernel) rfl rfl rfl
theorem tyd_lst {a : Addr} {xs : List V} (h : H a = some (.lst xs)) : Tyd K H (.ref a) := tyd_of (a := false) (b := false) (c := false) (.base (.lst h)) (by decide +kernel) (by decide +kernel) (by decide +kernel) rfl rfl rfl
theorem tyd_tup {a : Addr} {xs : List V} (h : H a = some (.tup xs)) : Tyd K H (.ref a) := tyd_of (a := false) (b := false) (c := false) (.base (.tup h)) (by decide +kernel) (by decide +kernel) (by decide +kernel) rfl rfl rfl
theorem tyd_dK {a : Addr} {kvs : List (Key × V)} (h : H a = some (.dK kvs)) : Tyd K H (.ref a) := tyd_of (a := false) (b := false) (c := false) (.base (.dK h)) (by decide +kernel) (by decide +kernel) (by decide +kernel) rfl rfl rfl
end
/-! ### texts as lists of codes -/
abbrev cs (z : Str) : List Nat := z.cps.toList
theorem cs_len (z : Str) : (cs z).length = z.length := by
  show z.cps.toList.length = z.cps.size
  simp
theorem str_ext {x y : Str} (h : cs x = cs y) : x = y := by
  obtain ⟨a⟩ := x
  obtain ⟨b⟩ := y
  have : a = b := Array.toList_inj.mp h
  rw [this]
theorem cs_app (x y : Str) : cs (x ++ y) = cs x ++ cs y := by
  show (x.cps ++ y.cps).toList = _
  simp
def lett (c : Nat) : Bool := decide (97 ≤ c) && decide (c ≤ 122)
def isWord : V → Bool | .str z => !(cs z).isEmpty && (cs z).all lett | _ => false
def isSign : V → Bool | .str z => decide ((cs z).length = 1) && (cs z).all lett | _ => false
def isText : V → Bool | .str z => decide ((cs z).length ≤ 8000) && (cs z).all lett | _ => false
def isPiece : V → Bool | .str z => decide (1 ≤ (cs z).length) && decide ((cs z).length ≤ 5) && (cs z).all lett | _ => false
def isInteger : V → Bool | .int i => decide (i.natAbs < 10 ^ 60) | _ => false
theorem lt_one {a b : Nat} : decide (([a] : List Nat) < [b]) = decide (a < b) := by
  by_cases h : a < b
  · rw [decide_eq_true h, decide_eq_true (List.cons_lt_cons_iff.mpr (Or.inl h))]
  · rw [decide_eq_false h, decide_eq_false (fun z => ?_)]
    rcases List.cons_lt_cons_iff.mp z with z | ⟨_, z⟩
    · exact h z
    · cases z
theorem lett_eq (c : Nat) : (!decide (([c] : List Nat) < [97])) = decide (97 ≤ c) ∧ (!decide (([122] : List Nat) < [c])) = decide (c ≤ 122) := by
  rw [lt_one, lt_one]
  constructor
  · by_cases h : c < 97
    · rw [decide_eq_true h, decide_eq_false (by omega)]
      rfl
    · rw [decide_eq_false h, decide_eq_true (by omega)]
      rfl
  · by_cases h : 122 < c
    · rw [decide_eq_true h, decide_eq_false (by omega)]
      rfl
    · rw [decide_eq_false h, decide_eq_true (by omega)]
      rfl
theorem abs_lt (i : Int) : decide ((if i < 0 then -i else i) < (10 : Int) ^ (60 : Int).toNat) = isInteger (.int i) := by
  show _ = decide (i.natAbs < 10 ^ 60)
  have e : (10 : Int) ^ (60 : Int).toNat = ((10 ^ 60 : Nat) : Int) := by decide +kernel
  rw [e]
  generalize (10 ^ 60 : Nat) = m
  by_cases h : i.natAbs < m
  · rw [decide_eq_true h, decide_eq_true]
    split <;> omega
  · rw [decide_eq_false h, decide_eq_false]
    split <;> omega
def szV : V → Prop | .str z => z.length ≤ 100000 | _ => True
theorem fits_sz {n : Nat} (h : n ≤ 100000) : n ≤ sizeLine := Nat.le_trans h (by decide)
theorem same_new {H : Hp} {p : Addr} {o : HO} (h : H p = none) : Same H (upd H p o) := fun b u e => by
  rw [upd_ne (ne_of_none e h)]
  exact e
/-- is_integer, is_word and the like: any value, told by a function on values -/
def spIs (K : PySem.W.Frag) (p : V → Bool) : Sp := fun vs H Q _ => ∃ x, vs = [x] ∧ Tyd K H x ∧ szV x ∧ ∀ H', Same H H' → Q (.bl (p x)) H'
theorem v_str_ne {z : Str} : (!decide (V.str z = V.str "")) = !(cs z).isEmpty := by
  by_cases h : cs z = []
  · have e : z = "" := str_ext (by rw [h]; rfl)
    rw [e]
    rfl
  · have e : V.str z ≠ V.str "" := fun q => h (by rw [V.str.inj q]; rfl)
    rw [decide_eq_false e]
    cases hz : cs z with
    | nil => exact absurd hz h
    | cons a l => rfl
theorem v_str_eq {z : Str} : decide (V.str z = V.str "") = (cs z).isEmpty := by
  have := v_str_ne (z := z)
  cases h1 : decide (V.str z = V.str "") <;> cases h2 : (cs z).isEmpty <;> rw [h1, h2] at this <;> first | rfl | cases this
theorem lett_of {c : Nat} (h : decide (97 ≤ c) = true) : lett c = decide (c ≤ 122) := by
  unfold lett
  rw [h]
  rfl
theorem lett_no {c : Nat} (h : decide (97 ≤ c) = false) : lett c = false := by
  unfold lett
  rw [h]
  rfl
theorem one_sign {z : Str} (h : (cs z).length = 1) : ∃ c, z = ⟨#[c]⟩ := by
  match hz : cs z, h with
  | [c], _ => exact ⟨c, str_ext (by rw [hz])⟩
theorem v_len_eq {z : Str} {n : Nat} : decide (V.int (z.length : Int) = V.int (n : Int)) = decide ((cs z).length = n) := by
  rw [cs_len]
  by_cases h : z.length = n
  · rw [decide_eq_true h, decide_eq_true (by rw [h])]
  · rw [decide_eq_false h, decide_eq_false (fun q => h (by have := V.int.inj q; omega))]
theorem v_len_eq1 {z : Str} : decide (V.int (z.length : Int) = V.int 1) = decide ((cs z).length = 1) := v_len_eq (n := 1)
theorem sign_one (c : Nat) : isSign (.str ⟨#[c]⟩) = lett c := by
  show (decide (([c] : List Nat).length = 1) && ([c] : List Nat).all lett) = lett c
  simp
/-! ### a comprehension whose element changes nothing -/
theorem wipe_set {σ : L2.St} {j : Nat} {v : V} : wipe ((wipe σ [j]).set j (some v)) [j] = wipe σ [j] := by
  show ((σ.set j none).set j (some v)).set j none = σ.set j none
  rw [List.set_set, List.set_set]
theorem lcp_str {z : Str} {te : TE} {j : Nat} {σ : L2.St} {H1 : Hp} {D : Addr} {Qd : Hp → Prop} (f : Nat → V) (hz : z.length ≤ sizeLine)
    (hs : ∀ (c : Nat) (acc : List V) (N : VK), c ∈ cs z → N (f c) (upd H1 D (.lst acc)) → te ((wipe σ [j]).set j (some (.str ⟨#[c]⟩))) (upd H1 D (.lst acc)) N) (hd : Qd (upd H1 D (.lst ((cs z).map f)))) :
    ∃ W : Nat → Nat → Hp → Prop, (∃ m, W 0 m (upd H1 D (.lst []))) ∧ ∀ i m H, W i m H →
      ((Its z).stop i H ∧ Qd H) ∨ ((Its z).go i H ∧ ∃ Nx : Hp → Prop, (∀ H', Nx H' → ∃ m', m' < m ∧ W (i + 1) m' H') ∧ ∀ x H', (Its z).yld i H x H' → gName j x (wipe σ [j]) H' fun σ2 H2 => wipe σ2 [j] = wipe σ [j] ∧ tYes σ2 H2 fun b H3 =>
        if b = true then te σ2 H3 fun y H4 => ∃ acc, H4 D = some (.lst acc) ∧ acc.length < sizeLine ∧ Nx (upd H4 D (.lst (acc ++ [y]))) else Nx H3) := by
  have hl := cs_len z
  refine ⟨fun i m H => m = (cs z).length - i ∧ i ≤ (cs z).length ∧ H = upd H1 D (.lst (((cs z).take i).map f)), ⟨_, rfl, Nat.zero_le _, rfl⟩, ?_⟩
  rintro i m H ⟨rfl, hi, rfl⟩
  by_cases hlt : i < (cs z).length
  · have hlt' : i < z.cps.size := by rw [hl] at hlt; exact hlt
    refine .inr ⟨hlt', fun H' => H' = upd H1 D (.lst (((cs z).take (i + 1)).map f)), fun H' e => ⟨(cs z).length - (i + 1), by omega, rfl, hlt, e⟩, ?_⟩
    rintro x H' ⟨rfl, c, hc, rfl⟩
    have hc' : (cs z)[i]? = some c := by simpa [cs] using hc
    refine ⟨wipe_set, hs c _ _ (List.mem_of_getElem? hc') ⟨_, upd_same, ?_, ?_⟩⟩
    · rw [List.length_map, List.length_take]
      omega
    · rw [upd_upd]
      have : (cs z).take (i + 1) = (cs z).take i ++ [c] := by
        rw [List.take_add_one, hc']
        rfl
      rw [this, List.map_append]
      rfl
  · have e : i = (cs z).length := by omega
    refine .inl ⟨by show z.cps.size ≤ i; rw [e, hl]; exact Nat.le_refl _, ?_⟩
    rw [e, List.take_length]
    exact hd

/-! ### the dice of the laws: a list of three ints -/
def Big (i : Int) : Prop := 0 ≤ i ∧ i.natAbs < 2 ^ 2500
/-- dice at l, good for n further rolls -/
def Dice (H : Hp) (l : Addr) (n : Nat) : Prop := ∃ d0 d1 d2 : Int, H l = some (.lst [.int d0, .int d1, .int d2]) ∧ Big d0 ∧ Big d1 ∧ 0 ≤ d2 ∧ d2 + n ≤ 2 ^ 62
/-- all but l is as it was -/
def Kp (l : Addr) (H H' : Hp) : Prop := ∀ b o, H b = some o → b ≠ l → H' b = some o
theorem Kp.refl (l : Addr) (H : Hp) : Kp l H H := fun _ _ e _ => e
theorem Kp.trans {l : Addr} {H H1 H2 : Hp} (a : Kp l H H1) (b : Kp l H1 H2) : Kp l H H2 := fun c o e n => b c o (a c o e n) n
theorem Kp.of {l : Addr} {H H' : Hp} (a : Same H H') : Kp l H H' := fun c o e _ => a c o e
theorem Kp.upd {l : Addr} {H : Hp} {o : HO} : Kp l H (upd H l o) := fun b u e n => by
  rw [upd_ne n]
  exact e
theorem Kp.new {l p : Addr} {H H' : Hp} {o : HO} (a : Kp l H H') (h : H' p = none) : Kp l H (L2.upd H' p o) := a.trans (.of (same_new h))
/-- what was not there ahead may change -/
theorem Kp.mut {l p : Addr} {H H' : Hp} {o : HO} (a : Kp l H H') (h : H p = none) : Kp l H (L2.upd H' p o) := fun b u e n => by
  rw [upd_ne (ne_of_none e h)]
  exact a b u e n
theorem Kp.seq {K : PySem.W.Frag} {l a : Addr} {H H' : Hp} {xs : List V} (k : Kp l H H') (n : a ≠ l) (h : SqL K H a xs) : SqL K H' a xs := by
  rcases h with (h | ⟨o, h⟩) | h
  · exact Or.inl (Or.inl (k _ _ h n))
  · exact Or.inl (Or.inr ⟨o, k _ _ h n⟩)
  · exact Or.inr h
theorem Kp.tup {K : PySem.W.Frag} {l a : Addr} {H H' : Hp} {xs : List V} (k : Kp l H H') (n : a ≠ l) (h : SqT K H a xs) : SqT K H' a xs := by
  rcases h with (h | ⟨o, h⟩) | h
  · exact Or.inl (Or.inl (k _ _ h n))
  · exact Or.inl (Or.inr ⟨o, k _ _ h n⟩)
  · exact Or.inr h
theorem Dice.ne {H : Hp} {l p : Addr} {n : Nat} (d : Dice H l n) (h : H p = none) : p ≠ l := by
  obtain ⟨_, _, _, e, _⟩ := d
  exact (ne_of_none e h).symm
theorem Dice.le {H : Hp} {l : Addr} {n m : Nat} (d : Dice H l n) (h : m ≤ n) : Dice H l m := by
  obtain ⟨d0, d1, d2, e, h0, h1, h2, h3⟩ := d
  exact ⟨d0, d1, d2, e, h0, h1, h2, by omega⟩
theorem Dice.same {H H' : Hp} {l : Addr} {n : Nat} (d : Dice H l n) (s : Same H H') : Dice H' l n := by
  obtain ⟨d0, d1, d2, e, r⟩ := d
  exact ⟨d0, d1, d2, s _ _ e, r⟩
theorem Dice.upd {H : Hp} {l p : Addr} {o : HO} {n : Nat} (d : Dice H l n) (h : p ≠ l) : Dice (L2.upd H p o) l n := by
  obtain ⟨d0, d1, d2, e, r⟩ := d
  exact ⟨d0, d1, d2, by rw [upd_ne h.symm]; exact e, r⟩
theorem big_mod {x : Int} {m : Int} (h : 0 < m) (hm : m.natAbs ≤ 2 ^ 2420) : 0 ≤ x % m ∧ (x % m).natAbs < 2 ^ 2420 := by
  have h1 := Int.emod_nonneg x (by omega : m ≠ 0)
  have h2 := Int.emod_lt_of_pos x h
  refine ⟨h1, ?_⟩
  generalize (2 ^ 2420 : Nat) = M at hm
  omega
theorem pow_mono2 : (2 : Nat) ^ 2420 * 4 + 2 ^ 2420 ≤ 2 ^ 2500 := by decide +kernel
theorem big_of {x : Int} (h0 : 0 ≤ x) (h : x.natAbs < 2 ^ 2420) : Big x := ⟨h0, by
  have := pow_mono2
  generalize (2 ^ 2420 : Nat) = M at *
  generalize (2 ^ 2500 : Nat) = N at *
  omega⟩
theorem big_zero : Big 0 := ⟨Int.le_refl _, by decide +kernel⟩
theorem one_small : (131071 * 64 + 5 : Nat) ≤ 2 ^ 2420 := by decide +kernel
theorem big_seed {x b s : Int} (h0 : 0 ≤ x) (h : x.natAbs < 2 ^ 2420) (hb : 0 ≤ b ∧ b ≤ 1) (hs : 0 ≤ s ∧ s ≤ 64) : Big (2 * x + b + 131071 * s + 3) := by
  have h1 := pow_mono2
  have h2 := one_small
  refine ⟨by omega, ?_⟩
  generalize (2 ^ 2420 : Nat) = M at *
  generalize (2 ^ 2500 : Nat) = N at *
  omega
theorem big_div {x u : Int} (h : Big x) (hu : 1 ≤ u) : Big (x / u) := by
  obtain ⟨h0, h1⟩ := h
  have a := Int.ediv_nonneg h0 (by omega : (0 : Int) ≤ u)
  have b : x / u ≤ x := Int.ediv_le_self u h0
  refine ⟨a, ?_⟩
  generalize (2 ^ 2500 : Nat) = N at *
  omega
/-- an expression with two ways, joined: an int under p on both -/
theorem tif_int {t : TT} {ta tb : TE} {σ : L2.St} {H : Hp} {Q : VK} {c : Bool} (p : Int → Prop) (ht : ∀ N : Bool → Hp → Prop, N c H → t σ H N)
    (ha : c = true → ∀ N : VK, (∀ i, p i → N (.int i) H) → ta σ H N) (hb : c = false → ∀ N : VK, (∀ i, p i → N (.int i) H) → tb σ H N) (hq : ∀ i, p i → Q (.int i) H) : tIf t ta tb σ H Q := by
  refine ht _ ?_
  exact itB (fun e => ha e _ hq) (fun e => hb e _ hq)
/-- _law_dice -/
def spDice (K : PySem.W.Frag) : Sp := fun vs H Q _ => ∃ (a : Addr) (ns : List Int) (s : Int), vs = [.ref a, .int s] ∧ SqL K H a (ns.map V.int) ∧ ns.length ≤ 63 ∧ 0 ≤ s ∧ s ≤ 64 ∧ ∀ l H', H l = none → Same H H' → Dice H' l (2 ^ 60) → Q (.ref l) H'
/-- _law_roll -/
def spRoll : Sp := fun vs H Q _ => ∃ (l : Addr) (u : Int) (n : Nat), vs = [.ref l, .int u] ∧ 1 ≤ u ∧ u ≤ 2 ^ 40 ∧ Dice H l (n + 1) ∧ ∀ r H', 0 ≤ r → r < u → Kp l H H' → Dice H' l n → Q (.int r) H'
/-- what the laws pick from: a list, a tuple, a text -/
inductive Seq (K : PySem.W.Frag) (H : Hp) (l : Addr) : V → List V → Prop
  | lst {a : Addr} {ys : List V} (n : a ≠ l) (h : SqL K H a ys) : Seq K H l (.ref a) ys
  | tup {a : Addr} {ys : List V} (n : a ≠ l) (h : SqT K H a ys) : Seq K H l (.ref a) ys
  | str {z : Str} {ys : List V} (h : z.length ≤ 1000) (e : ys = signsV z) : Seq K H l (.str z) ys
theorem Seq.kp {K : PySem.W.Frag} {H H' : Hp} {l : Addr} {x : V} {ys : List V} (s : Seq K H l x ys) (k : Kp l H H') : Seq K H' l x ys := by
  cases s with
  | lst n h => exact .lst n (k.seq n h)
  | tup n h => exact .tup n (k.tup n h)
  | str h e => exact .str h e
/-- _law_pick -/
def spPick (K : PySem.W.Frag) : Sp := fun vs H Q _ => ∃ (l : Addr) (x : V) (ys : List V) (n : Nat), vs = [.ref l, x] ∧ Seq K H l x ys ∧ ys ≠ [] ∧ ys.length ≤ 1000 ∧ Dice H l (n + 1) ∧ ∀ y H', y ∈ ys → Kp l H H' → Dice H' l n → Q y H'
theorem signsV_len (z : Str) : (signsV z).length = z.length := by
  unfold signsV
  rw [List.length_map, cs_len]

abbrev ch (c : Nat) : Str := ⟨#[c]⟩
abbrev chV (c : Nat) : V := .str (ch c)
def sOf (l : List Nat) : Str := ⟨l.toArray⟩
theorem cs_sOf (l : List Nat) : cs (sOf l) = l := by simp [sOf]
theorem sOf_cs (z : Str) : sOf (cs z) = z := str_ext (cs_sOf _)
theorem sOf_len (l : List Nat) : (sOf l).length = l.length := by rw [← cs_len, cs_sOf]
theorem signsV_eq (z : Str) : signsV z = (cs z).map chV := rfl
theorem joinL_one : ∀ l : List Nat, TL.joinL [] (l.map fun c => [c]) = l
  | [] => rfl
  | [a] => rfl
  | a :: b :: r => by
    show [a] ++ ([] ++ TL.joinL [] ((b :: r).map fun c => [c])) = a :: b :: r
    rw [joinL_one (b :: r)]
    rfl
theorem join_ch (l : List Nat) : Txt.join "" (l.map ch) = sOf l := by
  refine str_ext ?_
  rw [cs_sOf, TL.join_eq]
  have h := TL.tl_join "" (l.map ch)
  rw [List.map_map] at h
  exact h.trans (joinL_one l)
theorem sum_ch (l : List Nat) : ((l.map ch).map (·.length)).sum = l.length := by
  induction l with
  | nil => rfl
  | cons a r ih =>
    rw [List.map_cons, List.map_cons, List.sum_cons, ih]
    show 1 + r.length = r.length + 1
    omega
/-- _law_letters -/
def spLetters (K : PySem.W.Frag) : Sp := fun vs H Q _ => ∃ (l : Addr) (x : V) (cl : List Nat) (m n : Nat), vs = [.ref l, x, .int (m : Int)] ∧ Seq K H l x (cl.map chV) ∧ cl ≠ [] ∧ cl.length ≤ 1000 ∧ m ≤ 10000 ∧ Dice H l (n + m) ∧
  ∀ (zs : List Nat) H', zs.length = m → (∀ c ∈ zs, c ∈ cl) → Kp l H H' → Dice H' l n → Q (.str (sOf zs)) H'

/-! ### what repr shows -/
structure Shw (d : PyData) (k n : Nat) : Prop where
  s : d.showable = true
  h : d.hasDict = false
  dp : d.depth ≤ k
  len : d.shown.length ≤ n
theorem shw_bool (b : Bool) : Shw (.bool b) 0 5 := ⟨by simp [PyData.showable], by simp [PyData.hasDict], by simp [PyData.depth], by cases b <;> simp only [PyData.shown] <;> decide +kernel⟩
theorem shw_none : Shw .none 0 4 := ⟨by simp [PyData.showable], by simp [PyData.hasDict], by simp [PyData.depth], by simp only [PyData.shown]; decide +kernel⟩
theorem shw_int {i : Int} (h : i.natAbs.log2 < 1920) : Shw (.int i) 0 1921 := ⟨by simpa [PyData.showable] using h, by simp [PyData.hasDict], by simp [PyData.depth], by simp only [PyData.shown]; exact int_text_len_1921 h⟩
theorem Shw.le {d : PyData} {k n k' n' : Nat} (a : Shw d k n) (hk : k ≤ k') (hn : n ≤ n') : Shw d k' n' := ⟨a.s, a.h, Nat.le_trans a.dp hk, Nat.le_trans a.len hn⟩
theorem shownAll_map : ∀ ds : List PyData, PyData.shownAll ds = ds.map PyData.shown
  | [] => by simp [PyData.shownAll]
  | d :: r => by simp [PyData.shownAll, shownAll_map r]
theorem textFrom_le : ∀ (ts : List Str) (k : Nat) (acc : Str) (n : Nat), (∀ t ∈ ts, t.length ≤ n) → (textFrom k acc ts).length ≤ acc.length + ts.length * (n + 2)
  | [], k, acc, n, _ => by
    show acc.length ≤ acc.length + 0 * (n + 2)
    omega
  | t :: r, k, acc, n, h => by
    have h1 := textFrom_le r (k + 1) (acc ++ (if k > 0 then ", " else "" : String) ++ t) n fun x hx => h x (List.mem_cons_of_mem _ hx)
    have h2 := h t List.mem_cons_self
    rw [strLen_append, strLen_append] at h1
    have h3 : ((if k > 0 then ", " else "" : String) : Str).length ≤ 2 := by split <;> decide +kernel
    show (textFrom (k + 1) _ r).length ≤ acc.length + (r.length + 1) * (n + 2)
    rw [Nat.add_mul]
    omega
theorem shwAll {ds : List PyData} {k n : Nat} (h : ∀ d ∈ ds, Shw d k n) : PyData.showableAll ds = true ∧ PyData.hasDictAll ds = false ∧ PyData.depthAll ds ≤ k ∧ ∀ t ∈ PyData.shownAll ds, t.length ≤ n := by
  induction ds with
  | nil => exact ⟨by simp [PyData.showableAll], by simp [PyData.hasDictAll], by simp [PyData.depthAll], by simp [PyData.shownAll]⟩
  | cons d r ih =>
    obtain ⟨a1, a2, a3, a4⟩ := h d List.mem_cons_self
    obtain ⟨b1, b2, b3, b4⟩ := ih fun x hx => h x (List.mem_cons_of_mem _ hx)
    refine ⟨by simp [PyData.showableAll, a1, b1], by simp [PyData.hasDictAll, a2, b2], ?_, ?_⟩
    · simp only [PyData.depthAll]
      omega
    · intro t ht
      simp only [PyData.shownAll] at ht
      rcases List.mem_cons.mp ht with rfl | ht
      · exact a4
      · exact b4 t ht
theorem shw_list {ds : List PyData} {k n : Nat} (h : ∀ d ∈ ds, Shw d k n) : Shw (.list ds) (k + 1) (ds.length * (n + 2) + 2) := by
  obtain ⟨b1, b2, b3, b4⟩ := shwAll h
  refine ⟨by simpa [PyData.showable] using b1, by simpa [PyData.hasDict] using b2, by simp only [PyData.depth]; omega, ?_⟩
  simp only [PyData.shown]
  unfold listText
  rw [strLen_append]
  have h1 := textFrom_le _ 0 "[" n b4
  rw [shownAll_map, List.length_map] at h1
  rw [shownAll_map]
  have h2 : ((("[" : String) : Str)).length = 1 := by decide +kernel
  have h3 : ((("]" : String) : Str)).length = 1 := by decide +kernel
  omega
/-- a list of truths as data -/
def dBools (bs : List Bool) : PyData := .list (bs.map PyData.bool)
theorem shw_bools (bs : List Bool) : Shw (dBools bs) 1 (bs.length * 7 + 2) := by
  have h := shw_list (ds := bs.map PyData.bool) (k := 0) (n := 5) fun d hd => by
    obtain ⟨b, _, rfl⟩ := List.mem_map.mp hd
    exact shw_bool b
  rw [List.length_map] at h
  exact h
theorem dpAll_bools {K : PySem.W.Frag} {H : Hp} : ∀ bs : List Bool, DpAll K H (bs.map V.bl) (bs.map PyData.bool)
  | [] => .nil
  | b :: r => .cons (.bl b) (dpAll_bools r)
theorem dp_bools {K : PySem.W.Frag} {H : Hp} {a : Addr} {bs : List Bool} (h : SqL K H a (bs.map V.bl)) : Dp K H (.ref a) (dBools bs) := .lst h (dpAll_bools bs)
/-- repr(a list of truths), as rRepr asks -/
theorem repr_bools {K : PySem.W.Frag} {H : Hp} {a : Addr} {bs : List Bool} {Q : VK} (h : H a = some (.lst (bs.map V.bl))) (hn : bs.length ≤ 1000) (q : Q (.str (dBools bs).shown) H) : rRepr K [.ref a] H Q := by
  obtain ⟨s, hd, dp, len⟩ := shw_bools bs
  exact ⟨_, dBools bs, rfl, dp_bools (SqL.of h), s, hd, by omega, Nat.le_trans len (fits_sz (by omega)), q⟩
theorem mem_all {p : V → Bool} {ys : List V} {y : V} (h : ys.all p = true) (hy : y ∈ ys) : p y = true := List.all_eq_true.mp h y hy
def vIn (lo hi : Int) : V → Bool | .int i => decide (lo ≤ i) && decide (i ≤ hi) | _ => false
theorem vIn_of {lo hi : Int} {y : V} (h : vIn lo hi y = true) : ∃ i, y = .int i ∧ lo ≤ i ∧ i ≤ hi := by
  cases y with
  | int i =>
    have h' : (decide (lo ≤ i) && decide (i ≤ hi)) = true := h
    rw [Bool.and_eq_true] at h'
    exact ⟨i, rfl, of_decide_eq_true h'.1, of_decide_eq_true h'.2⟩
  | _ => cases h
theorem pick_int {lo hi : Int} {ys : List V} {y : V} (h : ys.all (vIn lo hi) = true) (hy : y ∈ ys) : ∃ i, y = .int i ∧ lo ≤ i ∧ i ≤ hi := vIn_of (mem_all h hy)
/-- a promise of a part of a law: it is right, c rolls are made -/
def spRight (c : Nat) : Sp := fun vs H Q _ => ∃ (l : Addr) (n : Nat), vs = [.ref l] ∧ Dice H l (n + c) ∧ ∀ H', Kp l H H' → Dice H' l n → Q (.bl true) H'
/-- is_integer: of any value, no size asked -/
def spIsI (K : PySem.W.Frag) (p : V → Bool) : Sp := fun vs H Q _ => ∃ x, vs = [x] ∧ Tyd K H x ∧ ∀ H', Same H H' → Q (.bl (p x)) H'
theorem Dice.new {H : Hp} {l p : Addr} {o : HO} {n : Nat} (d : Dice H l n) (h : H p = none) : Dice (L2.upd H p o) l n := d.upd (d.ne h)
/-- what a drawn odd value is: of a known kind, as long as it stands, and no integer -/
def OddI (K : PySem.W.Frag) (l : Addr) (H : Hp) (y : V) : Prop := (∀ H', Kp l H H' → Tyd K H' y) ∧ isInteger y = false
theorem isI_near {near r : Int} (h0 : 0 ≤ near + r) (s : Int) (hs : s = 1 ∨ s = -1) : isInteger (.int ((near + r) * s)) = decide (near + r < (10 : Int) ^ (60 : Int).toNat) := by
  show decide (((near + r) * s).natAbs < 10 ^ 60) = _
  have e : (10 : Int) ^ (60 : Int).toNat = ((10 ^ 60 : Nat) : Int) := by decide +kernel
  have e2 : ((near + r) * s).natAbs = (near + r).natAbs := by
    rcases hs with rfl | rfl
    · rw [Int.mul_one]
    · rw [Int.mul_neg, Int.mul_one, Int.natAbs_neg]
  rw [e, e2]
  generalize (10 ^ 60 : Nat) = m
  by_cases h : near + r < (m : Int)
  · rw [decide_eq_true h, decide_eq_true (by omega)]
  · rw [decide_eq_false h, decide_eq_false (by omega)]
theorem log_of {i : Int} (h : i.natAbs < 2 ^ 300) : i.natAbs.log2 < 1920 := Nat.lt_of_lt_of_le (PySem.Flt.log2_lt_of (by decide) h) (by decide)
theorem reprB (bs : List Bool) (hn : bs.length ≤ 1000) : (dBools bs).showable = true ∧ (dBools bs).hasDict = false ∧ (dBools bs).depth ≤ 60 ∧ (dBools bs).shown.length ≤ sizeLine := by
  obtain ⟨s, hd, dp, len⟩ := shw_bools bs
  exact ⟨s, hd, by omega, Nat.le_trans len (fits_sz (by omega))⟩
/-! ### texts made of pieces of texts -/
theorem isText_of {z : Str} (h1 : (cs z).length ≤ 8000) (h2 : ∀ c ∈ cs z, lett c = true) : isText (.str z) = true := by
  show (decide ((cs z).length ≤ 8000) && (cs z).all lett) = true
  rw [decide_eq_true h1, List.all_eq_true.mpr h2]
  rfl
theorem isPiece_of {z : Str} (h2 : ∀ c ∈ cs z, lett c = true) : isPiece (.str z) = (decide (1 ≤ (cs z).length) && decide ((cs z).length ≤ 5)) := by
  show (decide (1 ≤ (cs z).length) && decide ((cs z).length ≤ 5) && (cs z).all lett) = _
  rw [List.all_eq_true.mpr h2, Bool.and_true]
theorem isSign_of {z : Str} (h2 : ∀ c ∈ cs z, lett c = true) : isSign (.str z) = decide ((cs z).length = 1) := by
  show (decide ((cs z).length = 1) && (cs z).all lett) = _
  rw [List.all_eq_true.mpr h2, Bool.and_true]
theorem spoilt {z : Str} {c : Nat} (hc : c ∈ cs z) (h : lett c = false) : isText (.str z) = false ∧ isPiece (.str z) = false ∧ isSign (.str z) = false ∧ isWord (.str z) = false := by
  have e : (cs z).all lett = false := by
    cases q : (cs z).all lett with
    | false => rfl
    | true =>
      rw [List.all_eq_true.mp q c hc] at h
      cases h
  refine ⟨?_, ?_, ?_, ?_⟩
  · show (_ && (cs z).all lett) = false
    rw [e, Bool.and_false]
  · show (_ && (cs z).all lett) = false
    rw [e, Bool.and_false]
  · show (_ && (cs z).all lett) = false
    rw [e, Bool.and_false]
  · show (_ && (cs z).all lett) = false
    rw [e, Bool.and_false]
theorem cs_cut (z : Str) (lo hi : Option Int) : cs (cutS z lo hi) = ((cs z).drop (HT.sIx z.length 0 lo)).take (HT.sIx z.length z.length hi - HT.sIx z.length 0 lo) := by
  unfold cutS
  simp
theorem cut_sub {z : Str} {lo hi : Option Int} {c : Nat} (h : c ∈ cs (cutS z lo hi)) : c ∈ cs z := by
  rw [cs_cut] at h
  exact List.mem_of_mem_drop (List.mem_of_mem_take h)
theorem sIx_pos {n d : Nat} {i : Int} (h : 0 ≤ i) : HT.sIx n d (some i) = min i.toNat n := by
  show (if i < 0 then _ else _) = _
  rw [if_neg (by omega)]
theorem cut_len {z : Str} {a b : Int} (ha : 0 ≤ a) (hab : a ≤ b) (hb : b ≤ z.length) : (cs (cutS z (some a) (some b))).length = (b - a).toNat := by
  rw [cs_cut, sIx_pos ha, sIx_pos (by omega), List.length_take, List.length_drop, cs_len]
  omega
theorem cut_lenFrom {z : Str} {a : Int} (ha : 0 ≤ a) (hb : a ≤ z.length) : (cs (cutS z (some a) none)).length = z.length - a.toNat := by
  rw [cs_cut, sIx_pos ha, List.length_take, List.length_drop, cs_len]
  show min (z.length - _) _ = _
  omega
theorem cut_lenTo {z : Str} {b : Int} (h0 : 0 ≤ b) (hb : b ≤ z.length) : (cs (cutS z none (some b))).length = b.toNat := by
  rw [cs_cut, sIx_pos h0, List.length_take, List.length_drop, cs_len]
  show min (min b.toNat z.length - 0) (z.length - 0) = _
  omega
theorem str_app_len (x y : Str) : (x ++ y).length = x.length + y.length := strLen_append x y
/-- two ways joined, whatever the test and the ways do -/
theorem tif_join {t : TT} {ta tb : TE} {σ : L2.St} {H : Hp} {Q : VK} (P : Hp → Prop) (R : V → Hp → Prop) (ht : ∀ N : Bool → Hp → Prop, (∀ c H1, P H1 → N c H1) → t σ H N)
    (ha : ∀ H1, P H1 → ∀ N : VK, (∀ v H2, R v H2 → N v H2) → ta σ H1 N) (hb : ∀ H1, P H1 → ∀ N : VK, (∀ v H2, R v H2 → N v H2) → tb σ H1 N) (hq : ∀ v H2, R v H2 → Q v H2) : tIf t ta tb σ H Q :=
  ht _ fun c H1 p => itB (fun _ => ha H1 p _ hq) (fun _ => hb H1 p _ hq)
/-- a <= b <= c of known ints, as a value -/
theorem chain_le {ta tb tc : TE} {σ : L2.St} {H : Hp} {Q : VK} {a b c : Int} (ha : ∀ N : VK, N (.int a) H → ta σ H N) (hb : ∀ N : VK, N (.int b) H → tb σ H N) (hc : ∀ N : VK, N (.int c) H → tc σ H N)
    (q : Q (.bl (decide (a ≤ b) && decide (b ≤ c))) H) : tChain (rI0 fun i j => .bl (decide (i ≤ j))) (rI0 fun i j => .bl (decide (i ≤ j))) ta tb tc σ H Q := by
  refine ha _ (hb _ ⟨a, b, rfl, rfl, _, rfl, ?_⟩)
  refine itB (fun e => ?_) (fun e => ?_)
  · refine hc _ ⟨b, c, rfl, rfl, ?_⟩
    rw [e] at q
    exact q
  · rw [e] at q
    exact q
theorem odd_of {z : Str} {o : Nat} (h : (cs z).all (fun c => !lett c) = true) (ho : o ∈ z.cps.toList) : lett o = false := by
  have := List.all_eq_true.mp h o ho
  simpa using this
theorem v_int_eq {a b : Int} : decide (V.int a = V.int b) = decide (a = b) := by
  by_cases h : a = b
  · rw [decide_eq_true h, decide_eq_true (by rw [h])]
  · rw [decide_eq_false h, decide_eq_false (fun q => h (V.int.inj q))]
theorem sz_of' {z : Str} (h : z.length ≤ 100000) : szV (.str z) := h
theorem sign_no {z : Str} (h : (cs z).length ≠ 1) : isSign (.str z) = false := by
  show (decide ((cs z).length = 1) && (cs z).all lett) = false
  rw [decide_eq_false h]
  rfl
theorem piece_no {z : Str} (h : 5 < (cs z).length) : isPiece (.str z) = false := by
  show (decide (1 ≤ (cs z).length) && decide ((cs z).length ≤ 5) && (cs z).all lett) = false
  rw [decide_eq_false (by omega : ¬ (cs z).length ≤ 5), Bool.and_false]
  rfl
theorem ne_self {z : Str} : V.bl (!decide (V.str z = V.str z)) = V.bl false := by
  rw [decide_eq_true rfl]
  rfl
theorem is_self {z : Str} : V.bl (decide (V.str z = V.str z)) = V.bl true := by rw [decide_eq_true rfl]
theorem foldl_cat : ∀ (n : Nat) (a acc : Array Nat), ((List.replicate n a).foldl (· ++ ·) acc).toList = acc.toList ++ (List.replicate n a.toList).flatten
  | 0, a, acc => by simp
  | n + 1, a, acc => by
    rw [List.replicate_succ, List.foldl_cons, foldl_cat n a (acc ++ a), List.replicate_succ, List.flatten_cons]
    simp
theorem cs_rep (z : Str) (n : Nat) : cs (sRep z n) = (List.replicate n (cs z)).flatten := by
  have h := foldl_cat n z.cps #[]
  rw [show (#[] : Array Nat).toList = [] from rfl, List.nil_append] at h
  exact h
theorem rep_mem {z : Str} {n c : Nat} (h : c ∈ cs (sRep z n)) : c ∈ cs z := by
  rw [cs_rep] at h
  obtain ⟨l, hl, hc⟩ := List.mem_flatten.mp h
  rw [List.eq_of_mem_replicate hl] at hc
  exact hc
theorem sum_rep : ∀ n k : Nat, (List.replicate n k).sum = n * k
  | 0, k => by simp
  | n + 1, k => by
    rw [List.replicate_succ, List.sum_cons, sum_rep n k, Nat.add_mul]
    omega
theorem rep_len (z : Str) (n : Nat) : (sRep z n).length = n * z.length := by
  rw [← cs_len, cs_rep, List.length_flatten, List.map_replicate, sum_rep, cs_len]
theorem Kp.sameOf {l : Addr} {H H1 H2 : Hp} (s : Same H H1) (k : Kp l H1 H2) (h : H l = none) : Same H H2 := fun b o e => k b o (s b o e) (ne_of_none e h)
def spLaw (K : PySem.W.Frag) : Sp := fun vs H Q _ => ∃ (a : Addr) (ns : List Int), vs = [.ref a] ∧ SqL K H a (ns.map V.int) ∧ ns.length ≤ 63 ∧ ∀ H', Q (.bl true) H'
/-- how many cells are looked at -/
theorem cells_bound {n : Nat} {m : Int} (hm : 1 ≤ m) : 1 ≤ (if (if (n : Int) < m then (n : Int) else m) > 1 then (if (n : Int) < m then (n : Int) else m) else 1) ∧ (if (if (n : Int) < m then (n : Int) else m) > 1 then (if (n : Int) < m then (n : Int) else m) else 1) ≤ m := by
  split <;> split <;> omega
theorem small1000' {n : Nat} (h : n ≤ 100000) : n < sizeLine := Nat.lt_of_le_of_lt h (by decide)
/-- _law_some: drawn items of a row, each at most once -/
def spSome (K : PySem.W.Frag) : Sp := fun vs H Q _ => ∃ (l : Addr) (x : V) (ys : List V) (m n : Nat), vs = [.ref l, x, .int (m : Int)] ∧ Seq K H l x ys ∧ ys.length ≤ 1000 ∧ m ≤ 1000 ∧ Dice H l (n + m) ∧
  ∀ p zs rest H', H p = none → (zs ++ rest).Perm ys → zs.length = min m ys.length → H' p = some (.lst zs) → Kp l H H' → Dice H' l n → Q (.ref p) H'
theorem ix_pos {n : Nat} {r : Int} (h0 : 0 ≤ r) (h1 : r < n) : seqIndex? r n = some r.toNat := (ixN_seq (n := n) (i := r) (j := r.toNat) (by unfold ixN; rw [if_pos h0, if_pos h1])).1
theorem erase_perm {α : Type} : ∀ {l : List α} {k : Nat} {y : α}, l[k]? = some y → (y :: l.eraseIdx k).Perm l
  | [], k, y, h => by simp at h
  | a :: r, 0, y, h => by
    have e : a = y := by simpa using h
    subst e
    exact List.Perm.refl _
  | a :: r, k + 1, y, h => by
    have ih := erase_perm (l := r) (k := k) (y := y) (by simpa using h)
    show (y :: a :: r.eraseIdx k).Perm (a :: r)
    exact (List.Perm.swap a y _).trans (ih.cons a)
theorem big_cut {x c : Int} (h0 : 0 ≤ x) (h : x.natAbs < 2 ^ 2420) (hc : 0 ≤ c) : Big (if x - c > 0 then x - c else 0) := by
  split
  · refine big_of (by omega) ?_
    generalize (2 ^ 2420 : Nat) = M at h ⊢
    omega
  · exact big_zero
theorem atI_neg {α : Type} {xs : List α} {j : Nat} (h : j < xs.length) : atI xs (-(j : Int) - 1) = xs[xs.length - 1 - j]? := by
  have e : ixN xs.length (-(j : Int) - 1) = some (xs.length - 1 - j) := by
    unfold ixN
    rw [if_neg (by omega), if_pos (by omega)]
    congr 1
    omega
  unfold atI
  rw [e]
  rfl
end G
/-! sorted(set(text)): sets of texts as tracked things. -/
namespace G
open PySem PySem.Spec PyProof.Rows L2 PySem.Froz
def txO (e : Int × Value) : Str := match e.2 with | .str k _ => k | _ => ⟨#[]⟩
/-- the payload holds the texts l, and can be gone through -/
structure SsOk (P : Program) (w : World) (D : SD) (l : List Str) : Prop where
  tx : TxOk P w D l
  pm : (D.1.toList.map txO).Perm l
  ris : Ris D.2.2.place.toList
  led : w.params.followText "set-order" = true ∨ D.2.2.led = true
section
variable {P : Program} {w : World} {A : Around} {E : Value → Shared → Prop} {s : Shared}
theorem SsOk.add {D : SD} {l : List Str} {k : Str} (u : Tok) (O : SsOk P w D l) : SsOk P w (addTx (hashStr w k) (.str k u) D) (k :: l) := by
  have F := add_ok (k := k) u O.tx
  obtain ⟨⟨_, _, _, _⟩, pm, ris, led⟩ := O
  obtain ⟨es, ep, t⟩ := D
  have p1 := layNew_perm t es (hashStr w k) (.str k u)
  have r1 := layNew_ris t es (hashStr w k) (.str k u) ris
  have d1 := layNew_led t es (hashStr w k) (.str k u)
  unfold addTx at F ⊢
  generalize layNew t es (hashStr w k) (.str k u) = Z at p1 r1 d1 F ⊢
  obtain ⟨es1, t1, wd, gv⟩ := Z
  dsimp only at p1 r1 d1 F ⊢
  have r2 : Ris (if t1.plain = true then { t1 with plain := false } else t1).place.toList := by
    split <;> exact r1
  have d2 : (if t1.plain = true then { t1 with plain := false } else t1).led = t.led := by
    split <;> exact d1
  generalize (if t1.plain = true then { t1 with plain := false } else t1) = t2 at r2 d2 F ⊢
  have q1 : (es1.toList.map txO).Perm (k :: l) := by
    refine (p1.map txO).trans ?_
    rw [Array.toList_push, List.map_append]
    exact List.perm_append_comm.trans (List.Perm.cons _ pm)
  have dl : w.params.followText "set-order" = true ∨ t2.led = true := led.imp id fun z => by rw [d2]; exact z
  refine ⟨F, ?_, ?_, ?_⟩
  · unfold tailTx
    split
    · exact ((relayAll_perm t2 es1 _).map txO).trans q1
    · exact q1
  · unfold tailTx
    split
    · exact relayAll_ris t2 es1 _
    · exact r2
  · unfold tailTx
    split
    · exact dl.imp id fun z => by
        show (relayAll t2 es1 _).2.1.led = true
        rw [relayAll_led]
        exact z
    · exact dl
/-- the set of texts at a -/
def SsAt (P : Program) (w : World) (h : Heap) (a : Addr) (l : List Str) : Prop := ∃ D, h.get? a = some (sObj "set" D) ∧ SsOk P w D l
theorem SsAt.at {h h' : Heap} {a : Addr} {l : List Str} (x : SsAt P w h a l) (k : ∀ o, h.get? a = some o → h'.get? a = some o) : SsAt P w h' a l := by
  obtain ⟨D, ho, r⟩ := x
  exact ⟨D, k _ ho, r⟩
theorem ss_hashed {a : Addr} {l : List Str} {k : Str} {u : Tok} {Q : Bool → Shared → Prop} (x : SsAt P w s.heap a l) (room : l.length + 1 < scanBound)
    (h : ∀ b h', Heap.SameBut a s.heap h' → SsAt P w h' a (if k ∈ l then l else k :: l) → Q b { s with heap := h' }) : wpAny (model P w) A (setAddHashed a (.str k u) (hashStr w k)) Q E s := by
  obtain ⟨D, ho, O⟩ := x
  by_cases hk : k ∈ l
  · rw [if_pos hk] at h
    have O' := O
    obtain ⟨⟨el, mem, sz, fit⟩, pm, ris, led⟩ := O'
    obtain ⟨es, ep, t⟩ := D
    have hd : (sObj "set" (es, ep, t)).data = .set es ep t := rfl
    have hkey : (strKind P w).is k (.str k u) = true := is_str k u
    have hs : es.size = l.length := sz
    unfold setAddHashed setAddHashedIn
    refine wpAny_holding (wpAny_bind (wpAny_setState_of ho hd fit ?_))
    dsimp only
    rw [byScan_of rfl (by omega) el]
    simp only [↓reduceIte]
    unfold setAddByScan
    refine wpAny_bind ?_
    refine wpAny_bind (wpAny_rule ?_)
    refine wpAny_bind (wpAny_setScan_of (knd := strKind P w) (k := k) hkey ho hd fit el ?_)
    obtain ⟨e, he, q⟩ := (mem k).mp hk
    cases hf : List.findIdx? (fun e => (strKind P w).is k e.2) es.toList with
    | none =>
      have c := List.findIdx?_eq_none_iff.mp hf e he
      rw [q] at c
      cases c
    | some j =>
      dsimp only
      exact wpAny_pure (wpAny_pure (h false s.heap (Heap.SameBut.refl a s.heap) ⟨_, ho, O⟩))
  · rw [if_neg hk] at h
    exact add_x ho O.tx hk room (h true _ (Heap.SameBut.update s.heap a _) ⟨_, get_upd _ ho rfl, O.add u⟩)
theorem ss_fresh {h : Heap} {a : Addr} (ho : h.get? a = some { cls := .type "set", dict := none, data := .set #[] 0 (.fresh 0 0 (!w.params.followText "set-order")) }) : SsAt P w h a [] :=
  ⟨(#[], 0, .fresh 0 0 (!w.params.followText "set-order")), ho, ⟨.nil rfl, .nil, List.Pairwise.nil, by
    show _ ∨ (!w.params.followText "set-order") = true
    cases w.params.followText "set-order" <;> simp⟩⟩
/-- one text after the other goes into the set -/
theorem ss_loop {I : Addr} {fp wr : List Addr} {G : Array GenState → Array GenState → Prop} {n : Nat} {Pv : Nat → Value → Prop} {St : Nat → Shared → Prop} {R : Result → Shared → Prop}
    (W : WalksS P w A.in1 I fp wr G n Pv St) {S : Addr} (hSf : S ∉ fp) (f : Nat → Str) (hb : n + 1 < scanBound) (hv : ∀ i v, Pv i v → ∃ u, v = .str (f i) u) :
    ∀ (k i : Nat) (s : Shared) (l : List Str), n - i = k → i ≤ n → St i s → SsAt P w s.heap S l → l.Nodup → l.length ≤ i → (∀ y, y ∈ l ↔ ∃ j, j < i ∧ y = f j) →
      (∀ s' l', Moved (S :: wr) G s s' → SsAt P w s'.heap S l' → l'.Nodup → l'.length ≤ n → (∀ y, y ∈ l' ↔ ∃ j, j < n ∧ y = f j) → R (.ok (.ret .none)) s') →
      codeAny (model P w) A (.builtin "set.update.loop" ⟨[.ref S, .ref I], []⟩) R s := by
  have hSw : S ∉ wr := fun h => hSf (W.sub _ h)
  have up : ∀ b ∈ wr, b ∈ S :: wr := fun b hb => List.mem_cons_of_mem _ hb
  intro k
  induction k with
  | zero =>
    intro i s l e hi st x nd ln mem q
    obtain rfl : i = n := by omega
    refine codeAny_builtin F.entry_set_update_loop ?_
    rw [Around.under_plainId F.plain_set_update_loop _]
    refine wpAny_bind (W.done s _ _ st fun s' hm => ?_)
    exact wpAny_pure (q s' l (hm.mono up) (x.at fun o e => hm.heap S o hSw e) nd ln mem)
  | succ k ih =>
    intro i s l e hi st x nd ln mem q
    have lt : i < n := by omega
    refine codeAny_builtin F.entry_set_update_loop ?_
    rw [Around.under_plainId F.plain_set_update_loop _]
    refine wpAny_bind (W.item i s _ _ lt st fun v s' hP st' hm => ?_)
    obtain ⟨u, rfl⟩ := hv i v hP
    have x' := x.at fun o e => hm.heap S o hSw e
    show wpAny _ A.in1 (holding [Value.str (f i) u] (setAdd S (.str (f i) u)) >>= _) _ _ s'
    refine wpAny_bind (wpAny_holding ?_)
    unfold setAdd
    refine wpAny_holding (wpAny_bind ((strKind P w).pyHash (k := f i) (is_str _ _) ?_))
    refine ss_hashed (s := { s' with toks := s'.toks + 1 }) x' (by omega) fun b h' sb x2 => ?_
    refine wpAny_pure ⟨plainId_quiet F.plain_set_update_loop _, ih (i + 1) _ (if f i ∈ l then l else f i :: l) (by omega) lt (W.frame _ s' _ _ st' (Nat.le_succ _) fun b hb o e => ?_) x2 ?_ ?_ ?_ fun s2 l2 m2 y2 n2 ln2 mm2 => ?_⟩
    · rw [sb.2 b fun h => hSf (h ▸ hb)]
      exact e
    · split
      · exact nd
      · rename_i h
        exact List.nodup_cons.mpr ⟨h, nd⟩
    · split
      · omega
      · rw [List.length_cons]
        omega
    · intro y
      have step : (∃ j, j < i + 1 ∧ y = f j) ↔ (∃ j, j < i ∧ y = f j) ∨ y = f i := ⟨fun ⟨j, h1, h2⟩ => by
        rcases Nat.lt_or_ge j i with c | c
        · exact .inl ⟨j, c, h2⟩
        · exact .inr (by rw [h2, show j = i by omega]), fun h => by
        rcases h with ⟨j, h1, h2⟩ | h
        · exact ⟨j, by omega, h2⟩
        · exact ⟨i, by omega, h⟩⟩
      rw [step, ← mem]
      split
      · rename_i h
        exact ⟨.inl, fun z => z.elim id fun e => e ▸ h⟩
      · rw [List.mem_cons]
        exact Or.comm
    · refine q s2 l2 (Moved.trans W.gtrans ((hm.mono up).then_heap (Nat.le_succ _) fun b o hb e => ?_) m2) y2 n2 ln2 mm2
      rw [sb.2 b fun h => hb (h ▸ List.mem_cons_self)]
      exact e
/-- the signs of a text, each once -/
def OnceOf (z : Str) (l : List Str) : Prop := l.Nodup ∧ l.length ≤ z.length ∧ ∀ y, y ∈ l ↔ ∃ c ∈ cs z, y = ch c
theorem once_of {z : Str} {l : List Str} (nd : l.Nodup) (ln : l.length ≤ z.cps.size) (m : ∀ y, y ∈ l ↔ ∃ j, j < z.cps.size ∧ y = ⟨#[z.cps.getD j 0]⟩) : OnceOf z l := by
  refine ⟨nd, ln, fun y => (m y).trans ⟨fun ⟨j, h1, h2⟩ => ⟨z.cps.getD j 0, ?_, h2⟩, fun ⟨c, h1, h2⟩ => ?_⟩⟩
  · have e : z.cps.getD j 0 = z.cps[j] := by simp [Array.getD, h1]
    rw [e]
    exact Array.mem_toList_iff.mpr (Array.getElem_mem h1)
  · obtain ⟨j, hj, e⟩ := List.mem_iff_getElem.mp h1
    have hj' : j < z.cps.size := by simpa [cs] using hj
    refine ⟨j, hj', ?_⟩
    rw [h2, ← e]
    unfold ch
    simp [Array.getD, hj', cs]
end
end G
namespace G
open PySem PySem.Spec PyProof.Rows L2 PySem.Froz
section
variable {P : Program} {w : World} {A : Around} {E : Value → Shared → Prop} {s : Shared}
abbrev emptySet (w : World) : Obj := { cls := .type "set", dict := none, data := .set #[] 0 (.fresh 0 0 (!w.params.followText "set-order")) }
/-- set(z), z a text -/
theorem ss_call {z : Str} {t : Tok} {Q : Value → Shared → Prop} (hh : A.handled = none) (hb : z.cps.size + 1 < scanBound)
    (h : ∀ (h' : Heap) (tk : Nat) l, SsAt P w h' s.heap.objs.size l → OnceOf z l → (∀ b o, s.heap.get? b = some o → h'.get? b = some o) → Q (.ref s.heap.objs.size) { s with heap := h', toks := tk }) :
    wpAny (model P w) A (call (.type "set") [.str z t]) Q E s := by
  obtain ⟨c, tl, hmro⟩ := F.called_set.mro
  have hmade := F.called_set.made
  have hsub := F.called_set.sub
  refine wpAny_call (codeAny_of_tree ?_)
  show wpAny _ _ (callAny (.type "set") _) _ _ _
  refine wpAny_pure ⟨Code.quiet_builtin _ (by decide +kernel), codeAny_builtin F.entry_type_call ?_⟩
  rw [Around.under_plain (weight_type_call_type "set" [.str z t] []) rfl]
  have h1 := F.called_set.notType
  have h2 := F.called_set.canCreate
  have hct := F.typeCall_set_1 (.str z t)
  repeat (any_goals (first | assumption | wp_step))
  refine codeAny_mono (code_set_led1 (.str z t) (E := E) (Q₁ := fun obj s₁ => obj = .ref s.heap.objs.size ∧ s₁ = { s with heap := s.heap.push (emptySet w) }) ⟨rfl, rfl⟩) fun r s₁ hr => ?_
  cases r with
  | error e => exact hr
  | ok fl =>
    cases fl with
    | ret obj =>
      obtain ⟨rfl, rfl⟩ := hr
      have hS : (s.heap.push (emptySet w)).get? s.heap.objs.size = some (emptySet w) := Heap.get?_push_size _ rfl
      have hT : Shared.TypeIs { s with heap := s.heap.push (emptySet w) } (.ref s.heap.objs.size) "set" := ⟨_, hS, rfl⟩
      have hli := F.called_set.init.lookup
      have hbi := F.called_set.init.bind (.ref s.heap.objs.size)
      repeat (any_goals (first | assumption | wp_step))
      refine codeAny_mono (codeAny_call_builtin (R := wants (fun r s₂ => r = .none ∧ ∃ h' tk l, s₂ = { s with heap := h', toks := tk } ∧ SsAt P w h' s.heap.objs.size l ∧ OnceOf z l ∧
          (∀ b o, s.heap.get? b = some o → h'.get? b = some o)) E) F.called_set.init.plain F.entry_set_init (check_set_init_1 hT ?_)) fun r₂ s₂ hr₂ => ?_
      · have anyS : ∀ {A' : Around} {E' : Value → Shared → Prop} {s' : Shared} {Q' : Bool → Shared → Prop}, Q' false s' → wpAny (model P w) A' (Builtin.Frozenset.isAnySet (.str z t)) Q' E' s' := fun q => by
          unfold Builtin.Frozenset.isAnySet orM
          refine wpAny_bind (wpAny_isInstance (typeIs_str _ _ _) PySem.F.sub_str_set ?_)
          exact wpAny_isInstance (typeIs_str _ _ _) PySem.F.sub_str_frozenset q
        have hne : (Value.type "str" == Value.type "dict") = false := by decide
        have hh3 : A.in1.in1.in1.handled = none := by simp [hh]
        unfold Builtin.«set.__init__» noKeywords Builtin.Frozenset.updateFrom
        generalize hPI : pyIter = PI
        generalize hAS : Builtin.Frozenset.isAnySet = AS at anyS
        wp_walk
        refine anyS ?_
        subst hAS
        wp_walk
        subst hPI
        refine wpAny_pyIter_str fun o St hW hst => ?_
        refine wpAny_bind (wpAny_runValue ?_)
        have hz : (s.heap.push (emptySet w)).objs.size = s.heap.objs.size + 1 := Heap.size_push ..
        have hnI : s.heap.objs.size ∉ [(s.heap.push (emptySet w)).objs.size] := by
          rw [hz, List.mem_singleton]
          omega
        refine ss_loop (P := P) (w := w) ((hW _ hh3).toS) hnI (fun i => ⟨#[z.cps.getD i 0]⟩) hb (fun i v hv => ?_) (z.cps.size - 0) 0 _ [] (by omega) (Nat.zero_le _) hst (ss_fresh (Heap.get?_push_of_some _ hS)) .nil (Nat.le_refl _) (fun y => ⟨fun h => (List.not_mem_nil h).elim, fun ⟨j, h, _⟩ => absurd h (Nat.not_lt_zero _)⟩) fun s' l hm x nd ln mem => ?_
        · obtain ⟨c, u, hc, rfl⟩ := hv
          refine ⟨u, ?_⟩
          congr 3
          simp [Array.getD, (Array.getElem?_eq_some_iff.mp hc).1, ← (Array.getElem?_eq_some_iff.mp hc).2]
        · obtain ⟨h', g2, d', tk', os'⟩ := s'
          have eg : g2 = s.gens := hm.gens
          have ed : d' = s.drawn := hm.drawn
          have eo : os' = s.os := hm.os
          subst eg; subst ed; subst eo
          refine wpAny_pure ?_
          show wpAny _ _ (ret Value.none) _ _ _
          refine wpAny_pure ⟨rfl, h', tk', l, rfl, x, once_of nd ln mem, fun b o' e => ?_⟩
          have b0 := Heap.lt_size e
          refine hm.heap b o' (fun hb => ?_) (Heap.get?_push_of_some _ (Heap.get?_push_of_some _ e))
          rw [hz] at hb
          rcases List.mem_cons.mp hb with z | z
          · exact absurd b0 (by rw [z]; exact Nat.lt_irrefl _)
          · exact absurd b0 (by rw [List.mem_singleton.mp z]; exact Nat.not_lt_of_le (Nat.le_succ _))
      · cases r₂ with
        | error e => exact hr₂
        | ok fl₂ =>
          cases fl₂ with
          | ret r =>
            obtain ⟨rfl, h', tk, l, rfl, x, oz, hk⟩ := hr₂
            repeat (any_goals (first | assumption | wp_step))
            exact h _ _ _ x oz hk
          | _ => exact hr₂.elim
    | _ => exact hr.elim
/-- sorted(a), a a set of texts -/
theorem ss_sorted {a : Addr} {l : List Str} {Q : Value → Shared → Prop} (x : SsAt P w s.heap a l) (hh : A.handled = none) (few : l.length < 64)
    (q : ∀ s' p (out : Array Value) (c : Nat) ys, (∀ b o, s.heap.get? b = some o → s'.heap.get? b = some o) → s'.gens = s.gens → s'.os = s.os → s.heap.objs.size ≤ p → s'.heap.get? p = some (seqObj "list" out c) →
      StrsAre out.toList ys → ys.Perm l → sortedS ys = true → Q (.ref p) s') : wpAny (model P w) A (call (.builtin "sorted") [.ref a]) Q E s := by
  obtain ⟨D, ho, O⟩ := x
  obtain ⟨es, ep, t⟩ := D
  have sz : es.size = l.length := O.tx.sz
  refine Calls.call_function_entry kind_sorted plain_sorted entry_sorted (args_sorted1 _) ?_
  unfold Builtin.«sorted»
  refine wpAny_bind (m := checkCount "sorted" 1 1 _) (wpAny_pure ?_)
  refine wpAny_bind (collect_set (A := A.in1) hh ⟨_, ho, rfl, rfl⟩ O.tx.fit (by show es.size < 4096; omega) O.ris O.led fun s1 vs k1 hz g1 o1 pm => ?_)
  have hlen : vs.length = l.length := by rw [pm.length_eq, List.length_map, Array.length_toList, sz]
  -- what the values say
  have texts : ∀ {vs : List Value}, (∀ v ∈ vs, ∃ e ∈ es.toList, v = e.2) → ∃ ws, StrsAre vs ws ∧ ws = vs.map (fun v => txO (0, v)) := by
    intro vs
    induction vs with
    | nil => exact fun _ => ⟨[], .nil, rfl⟩
    | cons v r ih =>
      intro hv
      obtain ⟨ws, h1, h2⟩ := ih fun u hu => hv u (List.mem_cons_of_mem _ hu)
      obtain ⟨e, he, rfl⟩ := hv v List.mem_cons_self
      obtain ⟨⟨k, hk, _⟩, _⟩ := O.tx.el e he
      obtain ⟨u, hu⟩ := Value.isStrOf_shape hk
      refine ⟨k :: ws, ?_, ?_⟩
      · rw [hu]
        exact .cons k u h1
      · rw [List.map_cons, ← h2, hu]
        rfl
  obtain ⟨ws, hw, ew⟩ := texts fun v hv => by
    obtain ⟨e, he, r⟩ := List.mem_map.mp (pm.mem_iff.mp hv)
    exact ⟨e, he, r.symm⟩
  have pw : ws.Perm l := by
    rw [ew]
    refine (pm.map _).trans ?_
    rw [List.map_map]
    exact O.pm
  refine wpAny_bind (wpAny_newList ?_ (by rw [hlen, sizeLine_eq]; omega))
  have hoL : (s1.heap.push (seqObj "list" vs.toArray 0)).get? s1.heap.objs.size = some (seqObj "list" vs.toArray 0) := Heap.get?_push_size _ rfl
  refine wpAny_bind (wpAny_holding (wpAny_call_entry slot_list_sort ⟨_, hoL, rfl⟩ entry_list_sort (list_sort_treeK strKind_oneLt hoL hw.keysOf (fun v₁ v₂ rest e => keyKind_strs (by rw [← e]; exact hw)) (by rw [hlen]; exact few) fun st' hp hs => ⟨_, rfl, ?_⟩) (args_list_sort _)))
  obtain ⟨ys, a1, a2, a3⟩ := sorted_out_str hw hp hs
  generalize (arrOf st').map (·.2) = out at a1 ⊢
  obtain ⟨c, hc⟩ := sortedHeap_at (vs := vs) (out := out) hoL
  refine wpAny_pure ⟨_, rfl, q _ s1.heap.objs.size out c ys (fun b u e => ?_) g1 o1 hz hc a1 (a2.trans pw) a3⟩
  have e1 := k1 b u e
  have lt := Heap.lt_size e1
  show (sortedHeap (s1.heap.push (seqObj "list" vs.toArray 0)) s1.heap.objs.size vs out).get? b = some u
  rw [sortedHeap_old (Nat.ne_of_lt lt) (by rw [Heap.size_push]; exact Nat.lt_succ_of_lt lt)]
  exact Heap.get?_push_of_some _ e1
end
/-- the set of texts at a, tracked -/
def SsO (P : Program) (w : World) (a : Addr) (l : List Str) : HO := .ext fun h => SsAt P w h a l
theorem ss_new {P : Program} {w : World} {H : Hp} {h : Heap} {a : Addr} {l : List Str} (x : SsAt P w h a l) : ObjOk P w H h a (SsO P w a l) := by
  obtain ⟨D, ho, _⟩ := id x
  exact ⟨x, ⟨_, ho⟩, fun h1 h2 p k => SsAt.at p k⟩
section
variable {X : Cx}
def rSetTx (P : Program) (w : World) : List V → Hp → VK → Prop := fun xs H Q => ∃ z : Str, xs = [.str z] ∧ z.length ≤ 4000 ∧ ∀ p l, H p = none → OnceOf z l → Q (.ref p) (upd H p (SsO P w p l))
theorem cr_setTx (hc : X.calm = true) : CallR X (.type "set") (rSetTx X.prog X.w) := by
  intro pins s σ H xs us Q I r h
  obtain ⟨z, rfl, hz, q⟩ := h
  obtain ⟨u, rfl, t, rfl⟩ := vals1 r
  have hz' : z.cps.size ≤ 4000 := hz
  refine ss_call (P := X.prog) (w := X.w) (I.ok.hd hc) (by unfold scanBound; omega) fun h' tk l x oz k => ?_
  exact ⟨.ref s.heap.objs.size, upd H s.heap.objs.size (SsO X.prog X.w s.heap.objs.size l), I.laid (t' := tk) k (Nat.le_refl _) (ss_new x), rfl, q _ l (I.hok.fresh (Nat.le_refl _)) oz⟩
def rSortTx (P : Program) (w : World) : List V → Hp → VK → Prop := fun xs H Q => ∃ a l, xs = [.ref a] ∧ H a = some (SsO P w a l) ∧ l.length < 64 ∧ ∀ p ys, H p = none → ys.Perm l → sortedS ys = true → Q (.ref p) (upd H p (.lst (ys.map V.str)))
theorem cr_sortTx (hc : X.calm = true) : CallR X (.builtin "sorted") (rSortTx X.prog X.w) := by
  intro pins s σ H vs us Q I r h
  obtain ⟨a, l, rfl, ha, few, q⟩ := h
  have x : SsAt X.prog X.w s.heap a l := (I.hok a _ ha).1
  obtain ⟨u, rfl, ru⟩ := vals1 r
  cases ru
  refine ss_sorted x (I.ok.hd hc) few fun s' p out c ys k g o hp hg hs pm so => ?_
  have hn : H p = none := I.hok.fresh hp
  have hl : (ys.map V.str).length ≤ sizeLine := by rw [List.length_map, pm.length_eq, sizeLine_eq]; omega
  have J : Inv X pins σ (upd H p (.lst (ys.map V.str))) { s with heap := s'.heap, gens := s'.gens, drawn := s'.drawn, toks := s'.toks } :=
    I.call (ch := []) (Un.laid k hp hn) (I.hok.laid k hp ⟨hl, out.toList, c, vals_of_strs hs, hg⟩) (by rw [g]; exact I.bare) (fun _ z => nomatch z)
  have e : s' = { s with heap := s'.heap, gens := s'.gens, drawn := s'.drawn, toks := s'.toks } := by
    cases s'
    cases s
    cases o
    rfl
  rw [e]
  exact ⟨.ref p, _, J, rfl, q p ys hn pm so⟩
end
end G
/-! set(texts) | set(texts): a table laid anew, in plain Lean. -/
namespace G
open PySem PySem.Spec PyProof.Rows L2 PySem.Froz
/-- masks whose round meets each slot -/
def RndOk (m : Nat) : Prop := (∀ j, j ≤ m → ∃ b, b ≤ m ∧ lcgN m b = j) ∧ lcgN m (m + 1) = 0
theorem rnd_of {n : Nat} (h : ((List.range (n + 1)).all fun j => (List.range (n + 1)).any fun b => lcgN n b == j) = true) (h0 : lcgN n (n + 1) = 0) : RndOk n := ⟨fun j hj => by
  obtain ⟨b, hb, e⟩ := List.any_eq_true.mp (List.all_eq_true.mp h j (List.mem_range.mpr (Nat.lt_succ_of_le hj)))
  exact ⟨b, Nat.le_of_lt_succ (List.mem_range.mp hb), beq_iff_eq.mp e⟩, h0⟩
theorem rnd7 : RndOk 7 := rnd_of (by decide +kernel) (by decide +kernel)
theorem rnd15 : RndOk 15 := rnd_of (by decide +kernel) (by decide +kernel)
theorem rnd31 : RndOk 31 := rnd_of (by decide +kernel) (by decide +kernel)
theorem rnd63 : RndOk 63 := rnd_of (by decide +kernel) (by decide +kernel)
theorem rnd_mod {m : Nat} (R : RndOk m) : ∀ k, lcgN m (m + 1 + k) = lcgN m k
  | 0 => R.2
  | k + 1 => by
    show (lcgN m (m + 1 + k) * 5 + 1) % (m + 1) = (lcgN m k * 5 + 1) % (m + 1)
    rw [rnd_mod R k]
theorem rnd_all {m : Nat} (R : RndOk m) {i j : Nat} (hi : i ≤ m) (hj : j ≤ m) : ∃ k, k ≤ m ∧ lcgI m i k = j := by
  obtain ⟨a, ha, ea⟩ := R.1 i hi
  obtain ⟨b, hb, eb⟩ := R.1 j hj
  rw [← ea]
  rcases Nat.lt_or_ge b a with c | c
  · exact ⟨b + (m + 1) - a, by omega, by rw [lcgN_add, show a + (b + (m + 1) - a) = m + 1 + b by omega, rnd_mod R, eb]⟩
  · exact ⟨b - a, by omega, by rw [lcgN_add, show a + (b - a) = b by omega, eb]⟩
theorem rnd_meets {m : Nat} (R : RndOk m) (h : Int) {j : Nat} (hj : j ≤ m) : ∃ n, n ≤ m + 12 ∧ runI m (SetTable.bits h) n = j := by
  obtain ⟨k, hk, e⟩ := rnd_all R (runI_le m (SetTable.bits h) 12) hj
  exact ⟨12 + k, by omega, by rw [runI_tail (bits_lt h)]; exact e⟩
theorem free_some {m b : Nat} {owner : Array (Option Nat)} {j : Nat} (hn : owner.getD j (some 0) = none) : ∀ (f n n' : Nat), n ≤ n' → n' < n + f → runI m b n' = j →
    ∃ x, SetTable.layClean.free m owner f (runI m b n) (b / 32 ^ n) = some x ∧ x ≤ m ∧ owner.getD x (some 0) = none
  | 0, n, n', h1, h2, _ => absurd h2 (by omega)
  | f + 1, n, n', h1, h2, e => by
    have h5 := runEnd_bd (runI_le m b n)
    unfold SetTable.layClean.free
    cases hf : (List.range (SetTable.runEnd m (runI m b n) + 1 - runI m b n)).find? fun k => (owner.getD (runI m b n + k) (some 0)).isNone with
    | some k =>
      dsimp only
      have h3 := List.find?_some hf
      have h4 := List.mem_range.mp (List.mem_of_find?_eq_some hf)
      exact ⟨_, rfl, by omega, Option.isNone_iff_eq_none.mp h3⟩
    | none =>
      have ne : n ≠ n' := fun q => by
        subst q
        have h6 := List.find?_eq_none.mp hf 0 (List.mem_range.mpr (by omega))
        rw [Nat.add_zero, e, hn] at h6
        exact h6 rfl
      have ih := free_some hn f (n + 1) n' (by omega) (by omega) e
      dsimp only
      show ∃ x, SetTable.layClean.free m owner f ((runI m b n * 5 + 1 + b / 32 ^ n / 32) % (m + 1)) (b / 32 ^ n / 32) = some x ∧ _
      rw [pow_div]
      exact ih
def occ (l : List (Option Nat)) : List Nat := l.filterMap id
theorem none_in : ∀ {l : List (Option Nat)}, (occ l).length < l.length → ∃ j, j < l.length ∧ l[j]? = some none
  | [], h => absurd h (Nat.not_lt_zero _)
  | none :: r, _ => ⟨0, Nat.succ_pos _, rfl⟩
  | some x :: r, h => by
    have h' : (occ r).length + 1 < r.length + 1 := h
    obtain ⟨j, h1, h2⟩ := none_in (l := r) (by omega)
    exact ⟨j + 1, Nat.succ_lt_succ h1, h2⟩
theorem set_occ : ∀ {l : List (Option Nat)} {j k : Nat}, l[j]? = some none → (occ (l.set j (some k))).Perm (k :: occ l)
  | [], j, k, h => by cases h
  | a :: r, 0, k, h => by
    have e : a = none := Option.some.inj h
    subst e
    exact List.Perm.refl _
  | a :: r, j + 1, k, h => by
    have ih := set_occ (l := r) (j := j) (k := k) h
    cases a with
    | none => exact ih
    | some x => exact (ih.cons x).trans (List.Perm.swap k x _)
def layStep (m : Nat) (acc : Option (Array (Option Nat) × Nat)) (h : Int) : Option (Array (Option Nat) × Nat) := do
  let (owner, k) ← acc
  let j ← SetTable.layClean.free m owner (SetTable.turns m) (SetTable.bits h % (m + 1)) (SetTable.bits h)
  pure (owner.setIfInBounds j (some k), k + 1)
theorem lay_one {m : Nat} (R : RndOk m) {owner : Array (Option Nat)} {k : Nat} (hs : owner.size = m + 1) (ho : (occ owner.toList).Perm (List.range k)) (hk : k ≤ m) (h : Int) :
    ∃ owner', layStep m (some (owner, k)) h = some (owner', k + 1) ∧ owner'.size = m + 1 ∧ (occ owner'.toList).Perm (List.range (k + 1)) := by
  have hl : (occ owner.toList).length < owner.toList.length := by
    rw [ho.length_eq, List.length_range, Array.length_toList]
    omega
  obtain ⟨j, h1, h2⟩ := none_in hl
  rw [Array.length_toList] at h1
  have h3 : owner.getD j (some 0) = none := by
    rw [Array.getElem?_toList] at h2
    rw [Array.getD_eq_getD_getElem?, h2]
    rfl
  obtain ⟨n', h4, h5⟩ := rnd_meets R h (j := j) (by omega)
  obtain ⟨x, h6, h7, h8⟩ := free_some (m := m) (b := SetTable.bits h) h3 (SetTable.turns m) 0 n' (Nat.zero_le _) (by unfold SetTable.turns; omega) h5
  have h6' : SetTable.layClean.free m owner (SetTable.turns m) (SetTable.bits h % (m + 1)) (SetTable.bits h) = some x := by
    have e : SetTable.bits h / 32 ^ 0 = SetTable.bits h := by rw [Nat.pow_zero, Nat.div_one]
    rw [e] at h6
    exact h6
  have h9 : owner.toList[x]? = some none := by
    rw [Array.getElem?_toList, Array.getElem?_eq_getElem (by omega)]
    rw [Array.getD_eq_getD_getElem?, Array.getElem?_eq_getElem (by omega)] at h8
    exact congrArg some h8
  refine ⟨owner.setIfInBounds x (some k), ?_, by rw [Array.size_setIfInBounds]; exact hs, ?_⟩
  · show (SetTable.layClean.free m owner (SetTable.turns m) (SetTable.bits h % (m + 1)) (SetTable.bits h) >>= fun j => pure (owner.setIfInBounds j (some k), k + 1)) = _
    rw [h6']
    rfl
  · rw [Array.toList_setIfInBounds]
    refine (set_occ h9).trans ?_
    rw [List.range_succ]
    exact (ho.cons k).trans (List.perm_append_comm (l₁ := [k]))
theorem lay_all {m : Nat} (R : RndOk m) : ∀ (hs : List Int) {owner : Array (Option Nat)} {k : Nat}, owner.size = m + 1 → (occ owner.toList).Perm (List.range k) → k + hs.length ≤ m + 1 →
    ∃ owner', hs.foldl (layStep m) (some (owner, k)) = some (owner', k + hs.length) ∧ owner'.size = m + 1 ∧ (occ owner'.toList).Perm (List.range (k + hs.length))
  | [], owner, k, h1, h2, _ => ⟨owner, rfl, h1, h2⟩
  | h :: r, owner, k, h1, h2, h3 => by
    rw [List.length_cons] at h3
    obtain ⟨o1, a1, a2, a3⟩ := lay_one R h1 h2 (by omega) h
    obtain ⟨o2, b1, b2, b3⟩ := lay_all R r a2 a3 (by omega)
    have e : k + (h :: r).length = k + 1 + r.length := by rw [List.length_cons]; omega
    rw [e]
    refine ⟨o2, ?_, b2, b3⟩
    rw [List.foldl_cons, a1]
    exact b1
theorem lay_clean {m : Nat} (R : RndOk m) (hs : Array Int) (h : hs.size ≤ m) : ∃ owner, SetTable.layClean m hs = some owner ∧ owner.size = m + 1 ∧ (occ owner.toList).Perm (List.range hs.size) := by
  have z : (occ (Array.replicate (m + 1) (none : Option Nat)).toList).Perm (List.range 0) := by
    rw [Array.toList_replicate]
    have : ∀ n, occ (List.replicate n (none : Option Nat)) = [] := fun n => by
      induction n with
      | zero => rfl
      | succ n ih => exact ih
    rw [this]
    exact List.Perm.refl _
  obtain ⟨o, h1, h2, h3⟩ := lay_all R hs.toList (owner := Array.replicate (m + 1) none) (k := 0) Array.size_replicate z (by rw [Array.length_toList]; omega)
  rw [Nat.zero_add, Array.length_toList] at h1 h3
  refine ⟨o, ?_, h2, h3⟩
  show (hs.foldl (layStep m) (some (Array.replicate (m + 1) none, 0))).map (·.1) = some o
  rw [← Array.foldl_toList, h1]
  rfl
theorem range_get {α : Type} {d : α} : ∀ (l : List α), (List.range l.length).map (fun j => l.getD j d) = l := fun l => by
  refine List.ext_getElem? fun i => ?_
  rw [List.getElem?_map]
  by_cases h : i < l.length
  · rw [List.getElem?_range h, List.getElem?_eq_getElem h]
    show some (l.getD i d) = _
    rw [List.getD_eq_getElem?_getD, List.getElem?_eq_getElem h]
    rfl
  · rw [List.getElem?_eq_none (by rw [List.length_range]; omega), List.getElem?_eq_none (by omega)]
    rfl
theorem laid_ok {m finger moves : Nat} {led plain : Bool} {hs : Array Int} (R : RndOk m) (h : hs.size ≤ m) : ∃ (t : SetTable) (order : Array Nat), SetTable.laid m finger moves led plain hs = some (t, order) ∧ order.toList.Perm (List.range hs.size) ∧
    t.mask = m ∧ t.place.size = hs.size ∧ t.dummies = #[] ∧ Ris t.place.toList ∧ t.led = led ∧ t.plain = plain := by
  obtain ⟨owner, h1, h2, h3⟩ := lay_clean R hs h
  have e1 : (((List.range (m + 1)).filterMap fun j => (owner.getD j none).map (j, ·)).map (·.2)) = occ owner.toList := by
    rw [List.map_filterMap]
    have e2 : (fun j : Nat => Option.map (fun x : Nat × Nat => x.2) ((owner.getD j none).map (j, ·))) = fun j => id (owner.toList.getD j none) := by
      funext j
      rw [Option.map_map, Array.getD_eq_getD_getElem?, List.getD_eq_getElem?_getD, Array.getElem?_toList]
      show Option.map id _ = _
      rw [Option.map_id]
    rw [e2]
    unfold occ
    conv => rhs; rw [← range_get (d := none) owner.toList]
    rw [List.filterMap_map, Array.length_toList, h2]
    rfl
  have r := ris_live (fun j => owner.getD j none) (List.range (m + 1)) (by unfold Ris; first | exact List.pairwise_lt_range | exact List.pairwise_lt_range _)
  have e3 : (((List.range (m + 1)).filterMap fun j => (owner.getD j none).map (j, ·))).length = hs.size := by
    have := congrArg List.length e1
    rw [List.length_map] at this
    rw [this, h3.length_eq, List.length_range]
  refine ⟨{ mask := m, place := (((List.range (m + 1)).filterMap fun j => (owner.getD j none).map (j, ·)).map (·.1)).toArray, dummies := #[], finger, led, moves, plain }, (((List.range (m + 1)).filterMap fun j => (owner.getD j none).map (j, ·)).map (·.2)).toArray, ?_, ?_, rfl, ?_, rfl, ?_, rfl, rfl⟩
  · unfold SetTable.laid
    rw [h1]
    rfl
  · show ((((List.range (m + 1)).filterMap fun j => (owner.getD j none).map (j, ·)).map (·.2))).Perm _
    rw [e1]
    exact h3
  · show (((List.range (m + 1)).filterMap fun j => (owner.getD j none).map (j, ·)).map (·.1)).toArray.size = _
    rw [List.size_toArray, List.length_map]
    exact e3
  · exact r.1
/-- the entries in the new order are the same ones -/
theorem order_perm {α : Type} {es : Array α} {order : Array Nat} (h : order.toList.Perm (List.range es.size)) : (order.filterMap (es[·]?)).toList.Perm es.toList := by
  rw [Array.toList_filterMap]
  refine (h.filterMap _).trans ?_
  rw [filterMap_getElem?_range]
theorem size_above : ∀ w, w ≤ 48 → RndOk (SetTable.sizeAbove w - 1) ∧ w < SetTable.sizeAbove w ∧ SetTable.sizeAbove w ≤ 64 := by
  have h : ((List.range 49).all fun w => (decide (SetTable.sizeAbove w = 8) || decide (SetTable.sizeAbove w = 16) || decide (SetTable.sizeAbove w = 32) || decide (SetTable.sizeAbove w = 64)) && decide (w < SetTable.sizeAbove w)) = true := by decide +kernel
  intro w hw
  have h1 := List.all_eq_true.mp h w (List.mem_range.mpr (by omega))
  rw [Bool.and_eq_true, Bool.or_eq_true, Bool.or_eq_true, Bool.or_eq_true, decide_eq_true_eq, decide_eq_true_eq, decide_eq_true_eq, decide_eq_true_eq, decide_eq_true_eq] at h1
  obtain ⟨((q | q) | q) | q, h2⟩ := h1
  · rw [q]; exact ⟨rnd7, by omega, by omega⟩
  · rw [q]; exact ⟨rnd15, by omega, by omega⟩
  · rw [q]; exact ⟨rnd31, by omega, by omega⟩
  · rw [q]; exact ⟨rnd63, by omega, by omega⟩
end G
/-! set(texts) | set(texts): the rules. -/
namespace G
open PySem PySem.Spec PyProof.Rows L2 PySem.Froz
section
variable {P : Program} {w : World} {A : Around} {E : Value → Shared → Prop} {s : Shared}
theorem st_store {a : Addr} {es es' : Array (Int × Value)} {ep : Nat} {t t' : SetTable} {Q : Unit → Shared → Prop} (ho : s.heap.get? a = some (sObj "set" (es, ep, t))) (hz : es'.size ≤ sizeLine)
    (h : Q () { s with heap := s.heap.update a (fun _ => sObj "set" (es', ep + 1, t')) }) : wpAny (model P w) A (storeSet a es' t') Q E s := by
  refine wpAny_storeSet_of ho rfl ?_ hz
  rw [upd_const _ ho]
  exact h
theorem st_relay {a : Addr} {es : Array (Int × Value)} {ep wanted : Nat} {t : SetTable} {Q : Unit → Shared → Prop} (ho : s.heap.get? a = some (sObj "set" (es, ep, t))) (hf : t.fits es.size = true) (R : RndOk (SetTable.sizeAbove wanted - 1)) (hn : es.size ≤ SetTable.sizeAbove wanted - 1) (h64 : SetTable.sizeAbove wanted ≤ 64)
    (h : ∀ (es' : Array (Int × Value)) (t' : SetTable), es'.toList.Perm es.toList → t'.fits es'.size = true → Ris t'.place.toList → t'.led = t.led → t'.plain = t.plain → t'.mask = SetTable.sizeAbove wanted - 1 → t'.dummies = #[] → Q () { s with heap := s.heap.update a (fun _ => sObj "set" (es', ep + 1, t')) }) :
    wpAny (model P w) A (setRelay a wanted) Q E s := by
  obtain ⟨t', order, h1, h2, h3, h4, h5, h6, h7, h8⟩ := laid_ok (m := SetTable.sizeAbove wanted - 1) (finger := t.finger) (moves := t.movedTo (SetTable.sizeAbove wanted - 1)) (led := t.led) (plain := t.plain) (hs := es.map (·.1)) R (by rw [Array.size_map]; exact hn)
  rw [Array.size_map] at h2 h4
  have pm := order_perm (es := es) h2
  have sz : (order.filterMap (es[·]?)).size = es.size := by rw [← Array.length_toList, pm.length_eq, Array.length_toList]
  have e : t.relaid (es.map (·.1)) wanted = some (t', order) := h1
  have z64 : 64 ≤ sizeLine := by rw [sizeLine_eq]; decide
  unfold setRelay
  refine wpAny_bind (wpAny_setState_of ho rfl hf ?_)
  dsimp only
  refine wp_if_neg (by omega) ?_
  try refine wpAny_bind (wpAny_pure ?_)
  rw [e]
  refine wpAny_bind (wpAny_of_eq (a := (order.filterMap (es[·]?), t')) ?_ ?_)
  · have hc : ((order.filterMap (es[·]?)).size != es.size) = false := by rw [sz]; simp
    show (if ((order.filterMap (es[·]?)).size != es.size) = true then _ else _) = _
    rw [hc]
    rfl
  · refine st_store ho (by rw [sz]; omega) (h _ t' pm ?_ h6 h7 h8 h3 h5)
    unfold SetTable.fits SetTable.fill
    rw [sz, h4, h5, h3, Bool.and_eq_true]
    exact ⟨beq_self_eq_true _, decide_eq_true (by show es.size + 0 ≤ _; omega)⟩
theorem st_room {a : Addr} {es : Array (Int × Value)} {ep more : Nat} {t : SetTable} {Q : Unit → Shared → Prop} (ho : s.heap.get? a = some (sObj "set" (es, ep, t))) (hf : t.fits es.size = true) (hr : Ris t.place.toList) (hw : (es.size + more) * 2 ≤ 48)
    (h : ∀ (h' : Heap) (es' : Array (Int × Value)) (ep' : Nat) (t' : SetTable), Heap.SameBut a s.heap h' → h'.get? a = some (sObj "set" (es', ep', t')) → es'.toList.Perm es.toList → t'.fits es'.size = true → Ris t'.place.toList → t'.led = t.led → t'.plain = t.plain →
      ((t' = t ∧ (t.fill + more) * 5 < t.mask * 3) ∨ (RndOk t'.mask ∧ es.size + more ≤ t'.mask ∧ t'.dummies = #[])) → Q () { s with heap := h' }) :
    wpAny (model P w) A (setRoomFor a more) Q E s := by
  have hp : t.place.size = es.size := by
    unfold SetTable.fits at hf
    rw [Bool.and_eq_true] at hf
    exact beq_iff_eq.mp hf.1
  unfold setRoomFor
  refine wpAny_bind (wpAny_setState_of ho rfl hf ?_)
  dsimp only
  unfold SetTable.roomFor
  by_cases c : (t.fill + more) * 5 ≥ t.mask * 3
  · rw [if_pos c]
    dsimp only
    rw [hp]
    obtain ⟨z1, z2, z3⟩ := size_above _ hw
    refine st_relay ho hf z1 (by omega) z3 fun es' t' a1 a2 a3 a4 a5 a6 a7 => ?_
    exact h _ es' (ep + 1) t' (Heap.SameBut.update _ a _) (get_upd _ ho rfl) a1 a2 a3 a4 a5 (.inr ⟨by rw [a6]; exact z1, by rw [a6]; omega, a7⟩)
  · rw [if_neg c]
    exact wpAny_pure (h s.heap es ep t (Heap.SameBut.refl a _) ho (.refl _) hf hr rfl rfl (.inl ⟨rfl, by omega⟩))
theorem SsOk.relaid {es es' : Array (Int × Value)} {ep ep' : Nat} {t t' : SetTable} {l : List Str} (O : SsOk P w (es, ep, t) l) (p : es'.toList.Perm es.toList) (hf : t'.fits es'.size = true) (hr : Ris t'.place.toList) (hl : w.params.followText "set-order" = true ∨ t'.led = true) : SsOk P w (es', ep', t') l :=
  ⟨O.tx.perm p hf, (p.map txO).trans O.pm, hr, hl⟩
/-- all of a set goes into a new one -/
theorem st_merge_new {r a : Addr} {l : List Str} {each : Sem Unit} {Q : Unit → Shared → Prop} (x : SsAt P w s.heap a l) (hr : s.heap.get? r = some (emptySet w)) (ne : r ≠ a) (l0 : l ≠ []) (l12 : l.length ≤ 12)
    (h : ∀ h', Heap.SameBut r s.heap h' → SsAt P w h' r l → Q () { s with heap := h' }) : wpAny (model P w) A (setMerge r a each) Q E s := by
  obtain ⟨⟨eo, epo, to⟩, ho, O⟩ := x
  have sz : eo.size = l.length := O.tx.sz
  have lp : 0 < l.length := List.length_pos_iff.mpr l0
  have ne' : (r == a) = false := beq_eq_false_iff_ne.mpr ne
  unfold setMerge
  refine wp_if_neg (by rw [ne']; exact Bool.false_ne_true) ?_
  try refine wpAny_bind (wpAny_pure ?_)
  refine wpAny_bind (wpAny_setState_of ho rfl O.tx.fit ?_)
  dsimp only
  refine wp_if_neg (by unfold Array.isEmpty; rw [sz]; simp; omega) ?_
  try refine wpAny_bind (wpAny_pure ?_)
  refine wpAny_bind (st_room (es := #[]) (ep := 0) (t := .fresh 0 0 (!w.params.followText "set-order")) hr rfl .nil (by show (0 + eo.size) * 2 ≤ 48; omega) fun h1 es1 ep1 t1 sb1 g1 pm1 fit1 ris1 led1 plain1 hd1 => ?_)
  have z1 : es1 = #[] := by
    have := pm1.length_eq
    rw [Array.length_toList] at this
    exact Array.eq_empty_of_size_eq_zero this
  subst z1
  have p0 : t1.place.size = 0 := by
    unfold SetTable.fits at fit1
    rw [Bool.and_eq_true] at fit1
    exact beq_iff_eq.mp fit1.1
  have d0 : t1.dummies = #[] := by
    rcases hd1 with ⟨q, _⟩ | ⟨_, _, q⟩
    · rw [q]
      rfl
    · exact q
  have mk : RndOk t1.mask ∧ eo.size ≤ t1.mask := by
    rcases hd1 with ⟨q, q2⟩ | ⟨q, q2, _⟩
    · rw [q]
      have q3 : (0 + eo.size) * 5 < 7 * 3 := q2
      exact ⟨rnd7, by show eo.size ≤ 7; omega⟩
    · have q3 : 0 + eo.size ≤ t1.mask := q2
      exact ⟨q, by omega⟩
  have f0 : (t1.fill != 0) = false := by
    unfold SetTable.fill
    rw [p0, d0]
    rfl
  have led : w.params.followText "set-order" = true ∨ (t1.led && to.led) = true := by
    rcases O.led with q | q
    · exact .inl q
    · rw [led1]
      cases hb : w.params.followText "set-order" with
      | true => exact .inl rfl
      | false => exact .inr (by rw [show to.led = true from q]; rfl)
  have ho1 : h1.get? a = some (sObj "set" (eo, epo, to)) := (sb1.2 a (Ne.symm ne)).trans ho
  have szl : eo.size ≤ sizeLine := by rw [sizeLine_eq]; omega
  refine wpAny_bind (wpAny_setState_of (s := { s with heap := h1 }) g1 rfl fit1 ?_)
  dsimp only
  unfold SetTable.road
  rw [f0]
  by_cases c : (t1.mask == to.mask && to.dummies.isEmpty) = true
  · simp only [Bool.false_eq_true, ↓reduceIte, c]
    refine st_store (s := { s with heap := h1 }) g1 szl (h _ (sb1.trans (Heap.SameBut.update _ r _)) ⟨_, get_upd _ g1 rfl, O.relaid (.refl _) O.tx.fit O.ris led⟩)
  · simp only [Bool.false_eq_true, ↓reduceIte, c]
    obtain ⟨t', order, b1, b2, b3, b4, b5, b6, b7, b8⟩ := laid_ok (m := t1.mask) (finger := t1.finger) (moves := t1.moves) (led := t1.led && to.led) (plain := t1.plain && to.plain) (hs := eo.map (·.1)) mk.1 (by rw [Array.size_map]; exact mk.2)
    rw [Array.size_map] at b2 b4
    have pm := order_perm (es := eo) b2
    have sz2 : (order.filterMap (eo[·]?)).size = eo.size := by rw [← Array.length_toList, pm.length_eq, Array.length_toList]
    rw [b1]
    refine wpAny_bind (wpAny_of_eq (a := (order.filterMap (eo[·]?), t')) ?_ ?_)
    · have hc : ((order.filterMap (eo[·]?)).size != eo.size) = false := by rw [sz2]; simp
      show (if ((order.filterMap (eo[·]?)).size != eo.size) = true then _ else _) = _
      rw [hc]
      rfl
    · refine st_store (s := { s with heap := h1 }) g1 (by rw [sz2]; exact szl) (h _ (sb1.trans (Heap.SameBut.update _ r _)) ⟨_, get_upd _ g1 rfl, O.relaid pm ?_ b6 (by rw [b7]; exact led)⟩)
      unfold SetTable.fits SetTable.fill
      rw [sz2, b4, b5, b3, Bool.and_eq_true]
      exact ⟨beq_self_eq_true _, decide_eq_true (by show eo.size + 0 ≤ _; exact mk.2)⟩
end
end G
/-! set(texts) | set(texts): one set goes into another one. -/
namespace G
open PySem PySem.Spec PyProof.Rows L2 PySem.Froz
section
variable {P : Program} {w : World} {A : Around} {E : Value → Shared → Prop} {s : Shared}
theorem st_walkA {a : Addr} {D : SD} {l : List Str} {Q : Array (Int × Value) → Shared → Prop} (ho : s.heap.get? a = some (sObj "set" D)) (O : SsOk P w D l) (h : ∀ (es' : Array (Int × Value)) d, es'.toList.Perm D.1.toList → Q es' { s with drawn := d }) :
    wpAny (model P w) A (setWalk a) Q E s := by
  obtain ⟨es, ep, t⟩ := D
  unfold setWalk
  refine wpAny_bind (wpAny_setState_of ho rfl O.tx.fit ?_)
  dsimp only
  refine wpAny_bind (wpAny_byText ?_)
  cases hb : w.params.followText "set-order" with
  | true =>
    refine wp_if_pos rfl ?_
    exact wpAny_bind (wpAny_askSetting (wpAny_pure (h _ s.drawn (pick_perm _ _))))
  | false =>
    refine wp_if_neg Bool.false_ne_true ?_
    try refine wpAny_bind (wpAny_pure ?_)
    by_cases c : (!t.plain && decide (es.size > 1)) = true
    · refine wp_if_pos c ?_
      exact wpAny_bind (drawOrder_at _ _ _ _ (by rw [Array.length_toList]; exact Nat.le_refl _) fun ys d p => wpAny_pure (h ys.toArray d (by rw [List.toList_toArray]; exact p)))
    · refine wp_if_neg c ?_
      try refine wpAny_bind (wpAny_pure ?_)
      have hl : t.led = true := by
        rcases O.led with q | q
        · rw [hb] at q
          cases q
        · exact q
      refine wpAny_bind (wpAny_of_eq (a := ()) ?_ (wpAny_pure (h es s.drawn (.refl _))))
      show (if (!t.led && decide (es.size > 1)) = true then unsupported "set:maker-not-led" else pure ()) = pure ()
      rw [hl]
      rfl
theorem st_quiet {as : List Addr} {Q : Bool → Shared → Prop} (ho : ∀ a ∈ as, ∃ l, SsAt P w s.heap a l) (h : Q true s) : wpAny (model P w) A (setsQuiet as) Q E s := by
  unfold setsQuiet
  refine wpAny_bind (wpAny_forIn_list _ (fun rest b s' => b = (none, ()) ∧ s' = s ∧ ∀ a ∈ rest, ∃ l, SsAt P w s.heap a l) _ ?_ ?_ as _ ⟨rfl, rfl, ho⟩)
  · rintro a rest b s' ⟨rfl, rfl, hr⟩
    obtain ⟨l, ⟨es, ep, t⟩, hoa, O⟩ := hr a List.mem_cons_self
    refine wpAny_bind (wpAny_setEntries_of hoa rfl O.tx.fit ?_)
    refine wpAny_bind (wpAny_forIn_array' _ (fun rest2 b2 s2 => b2 = (none, ()) ∧ s2 = s' ∧ ∀ e ∈ rest2, e ∈ es.toList) _ ?_ ?_ es _ ⟨rfl, rfl, fun e h => h⟩)
    · rintro ⟨hh, x⟩ rest2 b2 s2 ⟨rfl, rfl, h2⟩
      obtain ⟨⟨k, hk, _⟩, _⟩ := O.tx.el _ (h2 _ List.mem_cons_self)
      obtain ⟨u, hu⟩ := Value.isStrOf_shape hk
      dsimp only at hu
      subst hu
      exact wpAny_pure ⟨rfl, rfl, fun e h => h2 e (List.mem_cons_of_mem _ h)⟩
    · rintro b2 s2 ⟨rfl, rfl, _⟩
      exact wpAny_pure ⟨rfl, rfl, fun b hb => hr b (List.mem_cons_of_mem _ hb)⟩
  · rintro b s' ⟨rfl, rfl, _⟩
    exact wpAny_pure h
theorem st_walk {a r : Addr} {D : SD} {l2 l1 : List Str} {Q : Array (Int × Value) → Shared → Prop} (ho : s.heap.get? a = some (sObj "set" D)) (O : SsOk P w D l2) (x1 : SsAt P w s.heap r l1) (l64 : l1.length ≤ 64)
    (h : ∀ (es' : Array (Int × Value)) h' d, es'.toList.Perm D.1.toList → Heap.SameBut r s.heap h' → SsAt P w h' r l1 → Q es' { s with heap := h', drawn := d }) : wpAny (model P w) A (setWalkUnseen a [r] (some r)) Q E s := by
  have x1' := x1
  have x2 : SsAt P w s.heap a l2 := ⟨D, ho, O⟩
  obtain ⟨es, ep, t⟩ := D
  unfold setWalkUnseen
  refine wpAny_bind (wpAny_setState_of ho rfl O.tx.fit ?_)
  dsimp only
  refine wpAny_bind (wpAny_byText ?_)
  by_cases c : (w.params.followText "set-order" || (t.led && t.plain) || decide (es.size ≤ 1)) = true
  · refine wp_if_pos c ?_
    exact st_walkA ho O fun es' d p => h es' s.heap d p (Heap.SameBut.refl r _) x1
  · refine wp_if_neg c ?_
    try refine wpAny_bind (wpAny_pure ?_)
    refine wpAny_bind (st_quiet (fun b hb => ?_) ?_)
    · rcases List.mem_cons.mp hb with rfl | hb
      · exact ⟨_, x2⟩
      · rw [List.mem_singleton.mp hb]
        exact ⟨_, x1⟩
    refine wp_if_neg (by simp) ?_
    try refine wpAny_bind (wpAny_pure ?_)
    refine wpAny_bind (wpAny_rule ?_)
    obtain ⟨⟨ef, epf, tf⟩, hof, Of⟩ := x1
    have szf : ef.size = l1.length := Of.tx.sz
    have hb : w.params.followText "set-order" = false := by
      cases q : w.params.followText "set-order" with
      | false => rfl
      | true =>
        rw [q] at c
        exact absurd rfl c
    have ld : ∀ {D : SD} {l : List Str}, SsOk P w D l → D.2.2.led = true := fun O => by
      rcases O.led with q | q
      · rw [hb] at q
        cases q
      · exact q
    refine wpAny_bind (wpAny_setState_of hof rfl Of.tx.fit ?_)
    dsimp only
    by_cases c2 : ((tf.led && !t.led) || (tf.plain && !t.plain)) = true
    · refine wp_if_pos c2 ?_
      refine wpAny_bind (st_store hof (by rw [szf, sizeLine_eq]; omega) (wpAny_pure (h es _ s.drawn (.refl _) (Heap.SameBut.update _ r _) ⟨_, get_upd _ hof rfl, Of.relaid (.refl _) Of.tx.fit Of.ris (.inr ?_)⟩)))
      show (tf.led && t.led) = true
      rw [show tf.led = true from ld Of, show t.led = true from ld O]
      rfl
    · refine wp_if_neg c2 ?_
      try refine wpAny_bind (wpAny_pure ?_)
      exact wpAny_pure (h es s.heap s.drawn (.refl _) (Heap.SameBut.refl r _) x1')
/-- all of a set goes into one that has something -/
theorem st_merge {r a : Addr} {l1 l2 : List Str} {id : String} {Q : Unit → Shared → Prop} (x1 : SsAt P w s.heap r l1) (x2 : SsAt P w s.heap a l2) (ne : r ≠ a) (n1 : l1 ≠ []) (n2 : l2 ≠ []) (few : l1.length + l2.length ≤ 24) (nd : l1.Nodup)
    (h : ∀ h' d l', Heap.SameBut r s.heap h' → SsAt P w h' r l' → l'.Nodup → (∀ y, y ∈ l' ↔ y ∈ l1 ∨ y ∈ l2) → l'.length ≤ l1.length + l2.length → Q () { s with heap := h', drawn := d }) : wpAny (model P w) A (Builtin.Frozenset.merge id r a) Q E s := by
  obtain ⟨⟨eo, epo, to⟩, ho, O⟩ := x2
  obtain ⟨⟨er, epr, tr⟩, hr, R⟩ := x1
  have sz : eo.size = l2.length := O.tx.sz
  have szr : er.size = l1.length := R.tx.sz
  have lp1 : 0 < l1.length := List.length_pos_iff.mpr n1
  have lp2 : 0 < l2.length := List.length_pos_iff.mpr n2
  have ne' : (r == a) = false := beq_eq_false_iff_ne.mpr ne
  unfold Builtin.Frozenset.merge
  refine wpAny_bind (wpAny_setEpoch_of ho rfl O.tx.fit ?_)
  unfold setMerge
  refine wp_if_neg (by rw [ne']; exact Bool.false_ne_true) ?_
  try refine wpAny_bind (wpAny_pure ?_)
  refine wpAny_bind (wpAny_setState_of ho rfl O.tx.fit ?_)
  dsimp only
  refine wp_if_neg (by unfold Array.isEmpty; rw [sz]; simp; omega) ?_
  try refine wpAny_bind (wpAny_pure ?_)
  refine wpAny_bind (st_room hr R.tx.fit R.ris (by rw [szr, sz]; omega) fun h1 es1 ep1 t1 sb1 g1 pm1 fit1 ris1 led1 plain1 hd1 => ?_)
  have R1 : SsOk P w (es1, ep1, t1) l1 := R.relaid pm1 fit1 ris1 (by rw [led1]; exact R.led)
  have f1 : (t1.fill != 0) = true := by
    have p1 : t1.place.size = es1.size := by
      unfold SetTable.fits at fit1
      rw [Bool.and_eq_true] at fit1
      exact beq_iff_eq.mp fit1.1
    have := pm1.length_eq
    rw [Array.length_toList, Array.length_toList] at this
    unfold SetTable.fill
    rw [bne_iff_ne]
    omega
  refine wpAny_bind (wpAny_setState_of (s := { s with heap := h1 }) g1 rfl fit1 ?_)
  dsimp only
  unfold SetTable.road
  rw [f1]
  simp only [↓reduceIte]
  have ho1 : h1.get? a = some (sObj "set" (eo, epo, to)) := (sb1.2 a (Ne.symm ne)).trans ho
  refine wpAny_bind (st_walk (s := { s with heap := h1 }) (l1 := l1) ho1 O ⟨_, g1, R1⟩ (by omega) fun es' h2 d2 pm2 sb2 x2 => ?_)
  refine wpAny_bind (wpAny_forIn_array' _ (fun rest b s' => ∃ h' d acc, s' = { s with heap := h', drawn := d } ∧ Heap.SameBut r s.heap h' ∧ SsAt P w h' r acc ∧ acc.Nodup ∧ (∀ y, (y ∈ acc ∨ y ∈ rest.map txO) ↔ (y ∈ l1 ∨ y ∈ l2)) ∧ acc.length + rest.length ≤ l1.length + l2.length ∧ ∀ e ∈ rest, e ∈ eo.toList) _ ?_ ?_ es' _ ⟨h2, d2, l1, rfl, sb1.trans sb2, x2, nd, fun y => ?_, ?_, fun e he => pm2.mem_iff.mp he⟩)
  · rintro ⟨hh, x⟩ rest b s' ⟨h', d, acc, rfl, sb, xa, nda, mem, len, inn⟩
    obtain ⟨⟨k, hk, hk2⟩, _⟩ := O.tx.el _ (inn _ List.mem_cons_self)
    obtain ⟨u, hu⟩ := Value.isStrOf_shape hk
    have hk3 : hh = hashStr w k := hk2
    dsimp only at hu
    subst hu
    subst hk3
    rw [List.length_cons] at len
    refine wpAny_bind (wpAny_holding (ss_hashed (s := { s with heap := h', drawn := d }) xa (by unfold scanBound; omega) fun bb h3 sb3 x3 => ?_))
    have ho3 : h3.get? a = some (sObj "set" (eo, epo, to)) := (sb3.2 a (Ne.symm ne)).trans ((sb.2 a (Ne.symm ne)).trans ho)
    have un : ∀ {Q' : Unit → Shared → Prop}, Q' () { s with heap := h3, drawn := d } → wpAny (model P w) A (Builtin.Frozenset.unchanged id a epo) Q' E { s with heap := h3, drawn := d } := fun q => by
      unfold Builtin.Frozenset.unchanged
      refine wpAny_bind (wpAny_setEpoch_of (s := { s with heap := h3, drawn := d }) ho3 rfl O.tx.fit ?_)
      refine wp_if_neg (by simp) ?_
      exact wpAny_pure q
    refine wpAny_bind (un ?_)
    refine wpAny_bind (wpAny_setState_of (s := { s with heap := h3, drawn := d }) ho3 rfl O.tx.fit ?_)
    refine wp_if_neg (by simp) ?_
    refine wpAny_pure ⟨h3, d, _, rfl, sb.trans sb3, x3, ?_, fun y => ?_, ?_, fun e he => inn e (List.mem_cons_of_mem _ he)⟩
    · split
      · exact nda
      · rename_i q
        exact List.nodup_cons.mpr ⟨q, nda⟩
    · rw [← mem y, List.map_cons, List.mem_cons]
      show _ ↔ y ∈ acc ∨ y = k ∨ y ∈ rest.map txO
      split
      · rename_i q
        exact ⟨fun z => z.elim .inl fun z => .inr (.inr z), fun z => z.elim .inl fun z => z.elim (fun e => .inl (e ▸ q)) .inr⟩
      · rw [List.mem_cons]
        exact ⟨fun z => z.elim (fun z => z.elim (fun e => .inr (.inl e)) .inl) fun z => .inr (.inr z), fun z => z.elim (fun z => .inl (.inr z)) fun z => z.elim (fun e => .inl (.inl e)) .inr⟩
    · split
      · omega
      · rw [List.length_cons]
        omega
  · rintro b s' ⟨h', d, acc, rfl, sb, xa, nda, mem, len, inn⟩
    refine wpAny_pure (h h' d acc sb xa nda (fun y => ?_) (by simpa using len))
    rw [← mem y, List.map_nil]
    exact ⟨.inl, fun z => z.elim (fun q => q) fun z => (List.not_mem_nil z).elim⟩
  · have e1 : y ∈ es'.toList.map txO ↔ y ∈ l2 := ((pm2.map txO).trans O.pm).mem_iff
    rw [e1]
  · have e2 : es'.toList.length = eo.size := pm2.length_eq.trans Array.length_toList
    omega
end
end G
/-! set(texts) | set(texts): the operator. -/
namespace G
open PySem PySem.Spec PyProof.Rows L2 PySem.Froz
theorem entry_set_or : entryFor table "set.__or__" = some Builtin.«frozenset.__or__» :=
  entryFor_alias (id' := "frozenset.__or__") (by kernel_rfl) rfl (by decide +kernel) (by kernel_rfl)
section
variable {P : Program} {w : World} {A : Around} {E : Value → Shared → Prop} {s : Shared}
theorem st_copy {a : Addr} {l : List Str} {Q : Value → Shared → Prop} (x : SsAt P w s.heap a l) (l0 : l ≠ []) (l12 : l.length ≤ 12)
    (h : ∀ h', (∀ b o, s.heap.get? b = some o → h'.get? b = some o) → SsAt P w h' s.heap.objs.size l → Q (.ref s.heap.objs.size) { s with heap := h' }) : wpAny (model P w) A (Builtin.Frozenset.copyOf a) Q E s := by
  obtain ⟨D, ho, O⟩ := x
  have T1 : s.TypeIs (.ref a) "set" := ⟨_, ho, rfl⟩
  unfold Builtin.Frozenset.copyOf Builtin.Frozenset.baseOf
  refine wpAny_bind (wpAny_bind (wpAny_isInstance (b := true) T1 sub_set_self ?_))
  refine wpAny_pure ?_
  refine wpAny_bind (m := newSet (.type "set")) ?_
  unfold newSet
  refine wpAny_bind (wpAny_byText ?_)
  simp only [newObj]
  refine wpAny_bind (wpAny_alloc (wpAny_pure ?_))
  have hr : (s.heap.push (emptySet w)).get? s.heap.objs.size = some (emptySet w) := Heap.get?_push_size _ rfl
  have x' : SsAt P w (s.heap.push (emptySet w)) a l := SsAt.at ⟨D, ho, O⟩ fun o e => Heap.get?_push_of_some _ e
  have lt := Heap.lt_size ho
  refine wpAny_bind (m := Builtin.Frozenset.addrOf (.ref s.heap.objs.size)) (wpAny_pure ?_)
  refine wpAny_bind (st_merge_new (s := { s with heap := s.heap.push (emptySet w) }) x' hr (Nat.ne_of_gt lt) l0 l12 fun h' sb y => ?_)
  refine wpAny_pure (h h' (fun b o e => ?_) y)
  rw [sb.2 b (Nat.ne_of_lt (Heap.lt_size e))]
  exact Heap.get?_push_of_some _ e
theorem any_set {a : Addr} {l : List Str} {Q : Bool → Shared → Prop} (x : SsAt P w s.heap a l) (q : Q true s) : wpAny (model P w) A (Builtin.Frozenset.isAnySet (.ref a)) Q E s := by
  obtain ⟨D, ho, O⟩ := x
  unfold Builtin.Frozenset.isAnySet orM
  exact wpAny_bind (wpAny_isInstance (b := true) ⟨_, ho, rfl⟩ sub_set_self (wpAny_pure q))
theorem st_or {a b : Addr} {l1 l2 : List Str} {Q : Value → Shared → Prop} (x1 : SsAt P w s.heap a l1) (x2 : SsAt P w s.heap b l2) (ne : b ≠ a) (n1 : l1 ≠ []) (n2 : l2 ≠ []) (e1 : l1.length ≤ 12) (e2 : l2.length ≤ 12) (nd : l1.Nodup)
    (h : ∀ h' d l', (∀ b o, s.heap.get? b = some o → h'.get? b = some o) → SsAt P w h' s.heap.objs.size l' → l'.Nodup → (∀ y, y ∈ l' ↔ y ∈ l1 ∨ y ∈ l2) → l'.length ≤ l1.length + l2.length → Q (.ref s.heap.objs.size) { s with heap := h', drawn := d }) :
    wpAny (model P w) A (binaryOp .BitOr (.ref a) (.ref b)) Q E s := by
  obtain ⟨D1, ho1, O1⟩ := id x1
  obtain ⟨D2, ho2, O2⟩ := id x2
  have T1 : s.TypeIs (.ref a) "set" := ⟨_, ho1, rfl⟩
  have T2 : s.TypeIs (.ref b) "set" := ⟨_, ho2, rfl⟩
  refine wpAny_binaryOp_same T1 T2 F.fills_set_or F.slot_set_or ?_
  refine wpAny_call_entry F.slot_set_or T1 entry_set_or ?_ (F.args_set_or_2 _ _)
  unfold Builtin.«frozenset.__or__»
  show wpAny _ _ (Builtin.Frozenset.slot1 "__or__" ⟨[.ref a, .ref b], []⟩ >>= _) _ _ _
  refine wpAny_bind (wpAny_of_eq (a := (Value.ref a, Value.ref b)) (by rfl) ?_)
  dsimp only
  simp only [Bool.false_eq_true, ↓reduceIte]
  refine wpAny_bind ?_
  unfold andM
  refine wpAny_bind (any_set x1 ?_)
  refine (any_set x2 ?_)
  refine wp_if_neg (by simp) ?_
  refine wpAny_bind (m := Builtin.Frozenset.addrOf (.ref a)) (wpAny_pure ?_)
  refine wpAny_bind ?_
  show wpAny _ _ (Builtin.Frozenset.copyOf a >>= _) _ _ _
  refine wpAny_bind (st_copy x1 n1 e1 fun h1 k1 y1 => ?_)
  dsimp only
  refine wp_if_pos (by simp [ne]) ?_
  refine wpAny_bind (m := Builtin.Frozenset.addrOf (.ref s.heap.objs.size)) (wpAny_pure ?_)
  refine wpAny_bind (wpAny_holding ?_)
  unfold Builtin.Frozenset.updateFrom
  have x3 : SsAt P w h1 b l2 := x2.at fun o e => k1 b o e
  refine wpAny_bind (any_set (s := { s with heap := h1 }) x3 ?_)
  refine wp_if_pos rfl ?_
  refine wpAny_bind (m := Builtin.Frozenset.addrOf (.ref b)) (wpAny_pure ?_)
  refine st_merge (s := { s with heap := h1 }) y1 x3 (Nat.ne_of_gt (Heap.lt_size ho2)) n1 n2 (by omega) nd fun h' d l' sb y nd' mem len => ?_
  refine wpAny_pure (wpAny_pure ⟨_, rfl, by simp, h h' d l' (fun c o e => ?_) y nd' mem len⟩)
  rw [sb.2 c (Nat.ne_of_lt (Heap.lt_size e))]
  exact k1 c o e
end
end G
/-! set(tuple of texts), and the rules for sets | sets. -/
namespace G
open PySem PySem.Spec PyProof.Rows L2 PySem.Froz
theorem sub_tuple_set : isSubtype (.type "tuple") (.type "set") = pure false := by rw [isSubtype_type]; kernel_rfl
theorem sub_tuple_frozenset : isSubtype (.type "tuple") (.type "frozenset") = pure false := by rw [isSubtype_type]; kernel_rfl
/-- the texts of a list, each once -/
def OnceL (ys l : List Str) : Prop := l.Nodup ∧ l.length ≤ ys.length ∧ ∀ y, y ∈ l ↔ y ∈ ys
section
variable {P : Program} {w : World} {A : Around} {E : Value → Shared → Prop} {s : Shared}
theorem st_call {a : Addr} {items : Array Value} {ys : List Str} {Q : Value → Shared → Prop} (hh : A.handled = none) (ht : s.heap.IsTuple a items) (hi : StrsAre items.toList ys) (hb : ys.length + 1 < scanBound)
    (h : ∀ (h' : Heap) (tk : Nat) l, SsAt P w h' s.heap.objs.size l → OnceL ys l → (∀ b o, s.heap.get? b = some o → h'.get? b = some o) → Q (.ref s.heap.objs.size) { s with heap := h', toks := tk }) :
    wpAny (model P w) A (call (.type "set") [.ref a]) Q E s := by
  obtain ⟨c, tl, hmro⟩ := F.called_set.mro
  have hmade := F.called_set.made
  have hsub := F.called_set.sub
  have hin : items.size = ys.length := by rw [← Array.length_toList, hi.len_eq]
  refine wpAny_call (codeAny_of_tree ?_)
  show wpAny _ _ (callAny (.type "set") _) _ _ _
  refine wpAny_pure ⟨Code.quiet_builtin _ (by decide +kernel), codeAny_builtin F.entry_type_call ?_⟩
  rw [Around.under_plain (weight_type_call_type "set" [.ref a] []) rfl]
  have h1 := F.called_set.notType
  have h2 := F.called_set.canCreate
  have hct := F.typeCall_set_1 (.ref a)
  repeat (any_goals (first | assumption | wp_step))
  refine codeAny_mono (code_set_led1 (.ref a) (E := E) (Q₁ := fun obj s₁ => obj = .ref s.heap.objs.size ∧ s₁ = { s with heap := s.heap.push (emptySet w) }) ⟨rfl, rfl⟩) fun r s₁ hr => ?_
  cases r with
  | error e => exact hr
  | ok fl =>
    cases fl with
    | ret obj =>
      obtain ⟨rfl, rfl⟩ := hr
      have hS : (s.heap.push (emptySet w)).get? s.heap.objs.size = some (emptySet w) := Heap.get?_push_size _ rfl
      have hT : Shared.TypeIs { s with heap := s.heap.push (emptySet w) } (.ref s.heap.objs.size) "set" := ⟨_, hS, rfl⟩
      have hli := F.called_set.init.lookup
      have hbi := F.called_set.init.bind (.ref s.heap.objs.size)
      repeat (any_goals (first | assumption | wp_step))
      refine codeAny_mono (codeAny_call_builtin (R := wants (fun r s₂ => r = .none ∧ ∃ h' tk l, s₂ = { s with heap := h', toks := tk } ∧ SsAt P w h' s.heap.objs.size l ∧ OnceL ys l ∧
          (∀ b o, s.heap.get? b = some o → h'.get? b = some o)) E) F.called_set.init.plain F.entry_set_init (check_set_init_1 hT ?_)) fun r₂ s₂ hr₂ => ?_
      · have ht1 : (s.heap.push (emptySet w)).IsTuple a items := ht.push _
        have htT : Shared.TypeIs { s with heap := s.heap.push (emptySet w) } (.ref a) "tuple" := ht1.typeIs (s := { s with heap := s.heap.push (emptySet w) })
        have anyS : ∀ {A' : Around} {E' : Value → Shared → Prop} {Q' : Bool → Shared → Prop}, Q' false { s with heap := s.heap.push (emptySet w) } → wpAny (model P w) A' (Builtin.Frozenset.isAnySet (.ref a)) Q' E' { s with heap := s.heap.push (emptySet w) } := fun q => by
          unfold Builtin.Frozenset.isAnySet orM
          refine wpAny_bind (wpAny_isInstance htT sub_tuple_set ?_)
          exact wpAny_isInstance htT sub_tuple_frozenset q
        have hne : (Value.type "tuple" == Value.type "dict") = false := by decide
        have hh3 : A.in1.in1.in1.handled = none := by simp [hh]
        unfold Builtin.«set.__init__» noKeywords Builtin.Frozenset.updateFrom
        generalize hPI : pyIter = PI
        generalize hAS : Builtin.Frozenset.isAnySet = AS at anyS
        wp_walk
        refine anyS ?_
        subst hAS
        wp_walk
        subst hPI
        refine wpAny_pyIter_tuple (s := { s with heap := s.heap.push (emptySet w) }) ht1 ?_
        refine wpAny_bind (wpAny_runValue ?_)
        have hz : (s.heap.push (emptySet w)).objs.size = s.heap.objs.size + 1 := Heap.size_push ..
        have la : a < s.heap.objs.size := by
          obtain ⟨o, ho, _⟩ := ht
          exact Heap.lt_size ho
        have hnI : s.heap.objs.size ∉ [(s.heap.push (emptySet w)).objs.size, a] := by
          intro hm
          rcases List.mem_cons.mp hm with z | z
          · rw [hz] at z
            exact absurd z (Nat.ne_of_lt (Nat.lt_succ_self _))
          · exact absurd (List.mem_singleton.mp z) (Nat.ne_of_gt la)
        refine ss_loop (P := P) (w := w) ((Walks.tuple (prog := P) (w := w) (A := A.in1.in1.in1) hh3 (s.heap.push (emptySet w)).objs.size a (by rw [hz]; exact Nat.ne_of_lt (Nat.lt_succ_of_lt la)) items).toS) hnI (fun i => ys.getD i ⟨#[]⟩) (by rw [hin]; exact hb) (fun i v hv => ?_) (items.size - 0) 0 _ [] (by omega) (Nat.zero_le _)
          ⟨⟨_, Heap.get?_push_size _ rfl, rfl, rfl⟩, ht1.push _⟩ (ss_fresh (Heap.get?_push_of_some _ hS)) .nil (Nat.le_refl _) (fun y => ⟨fun h => (List.not_mem_nil h).elim, fun ⟨j, h, _⟩ => absurd h (Nat.not_lt_zero _)⟩) fun s' l hm x nd ln mem => ?_
        · obtain ⟨y, t, rfl, hy⟩ := hi.item i v (by rw [Array.getElem?_toList]; exact hv)
          exact ⟨t, by rw [List.getD_eq_getElem?_getD, hy]; rfl⟩
        · obtain ⟨h', g2, d', tk', os'⟩ := s'
          have eg : g2 = s.gens := hm.gens
          have ed : d' = s.drawn := hm.drawn
          have eo : os' = s.os := hm.os
          subst eg; subst ed; subst eo
          refine wpAny_pure ?_
          show wpAny _ _ (ret Value.none) _ _ _
          refine wpAny_pure ⟨rfl, h', tk', l, rfl, x, ⟨nd, by rw [← hin]; exact ln, fun y => (mem y).trans ⟨fun ⟨j, h1, h2⟩ => ?_, fun hy => ?_⟩⟩, fun b o' e => ?_⟩
          · rw [h2, List.getD_eq_getElem?_getD, List.getElem?_eq_getElem (by omega)]
            exact List.getElem_mem _
          · obtain ⟨j, hj, e⟩ := List.mem_iff_getElem.mp hy
            exact ⟨j, by omega, by rw [List.getD_eq_getElem?_getD, List.getElem?_eq_getElem hj, ← e]; rfl⟩
          · have b0 := Heap.lt_size e
            refine hm.heap b o' (fun hb => ?_) (Heap.get?_push_of_some _ (Heap.get?_push_of_some _ e))
            rw [hz] at hb
            rcases List.mem_cons.mp hb with z | z
            · exact absurd b0 (by rw [z]; exact Nat.lt_irrefl _)
            · exact absurd b0 (by rw [List.mem_singleton.mp z]; exact Nat.not_lt_of_le (Nat.le_succ _))
      · cases r₂ with
        | error e => exact hr₂
        | ok fl₂ =>
          cases fl₂ with
          | ret r =>
            obtain ⟨rfl, h', tk, l, rfl, x, oz, hk⟩ := hr₂
            repeat (any_goals (first | assumption | wp_step))
            exact h _ _ _ x oz hk
          | _ => exact hr₂.elim
    | _ => exact hr.elim
end
section
variable {X : Cx}
/-- set(t), t a tuple of texts -/
def rSetTt (K : PySem.W.Frag) (P : Program) (w : World) : List V → Hp → VK → Prop := fun xs H Q => ∃ (a : Addr) (ys : List Str), xs = [.ref a] ∧ SqT K H a (ys.map V.str) ∧ ys.length ≤ 1000 ∧ ∀ p l, H p = none → OnceL ys l → Q (.ref p) (upd H p (SsO P w p l))
theorem cr_setTt (hc : X.calm = true) : CallR X (.type "set") (rSetTt X.K X.prog X.w) := by
  intro pins s σ H xs us Q I r h
  obtain ⟨a, ys, rfl, ha, hz, q⟩ := h
  obtain ⟨u, rfl, ru⟩ := vals1 r
  cases ru
  obtain ⟨its, r1, p1, _⟩ := I.tuple ha
  refine st_call (P := X.prog) (w := X.w) (items := its.toArray) (ys := ys) (I.ok.hd hc) p1 (by simpa using strs_of_vals r1) (by unfold scanBound; omega) fun h' tk l x oz k => ?_
  exact ⟨.ref s.heap.objs.size, upd H s.heap.objs.size (SsO X.prog X.w s.heap.objs.size l), I.laid (t' := tk) k (Nat.le_refl _) (ss_new x), rfl, q _ l (I.hok.fresh (Nat.le_refl _)) oz⟩
/-- set | set -/
def rOrSs (P : Program) (w : World) : R2 := fun x y H Q => ∃ (a b : Addr) (l1 l2 : List Str), x = .ref a ∧ y = .ref b ∧ H a = some (SsO P w a l1) ∧ H b = some (SsO P w b l2) ∧ b ≠ a ∧ l1 ≠ [] ∧ l2 ≠ [] ∧ l1.length ≤ 12 ∧ l2.length ≤ 12 ∧ l1.Nodup ∧
  ∀ p l, H p = none → l.Nodup → l.length ≤ l1.length + l2.length → (∀ z, z ∈ l ↔ z ∈ l1 ∨ z ∈ l2) → Q (.ref p) (upd H p (SsO P w p l))
theorem op_orSs : OpR X (binaryOp .BitOr) (rOrSs X.prog X.w) := by
  intro pins s σ H x y v u Q I rx ry h
  obtain ⟨a, b, l1, l2, rfl, rfl, ha, hb, ne, n1, n2, e1, e2, nd, q⟩ := h
  cases rx
  cases ry
  have x1 : SsAt X.prog X.w s.heap a l1 := (I.hok a _ ha).1
  have x2 : SsAt X.prog X.w s.heap b l2 := (I.hok b _ hb).1
  refine st_or (P := X.prog) (w := X.w) x1 x2 ne n1 n2 e1 e2 nd fun h' d l k y nd' mem len => ?_
  have hp : s.heap.objs.size ≤ s.heap.objs.size := Nat.le_refl _
  have hn : H s.heap.objs.size = none := I.hok.fresh hp
  have J : Inv X pins σ (upd H s.heap.objs.size (SsO X.prog X.w s.heap.objs.size l)) { s with heap := h', gens := s.gens, drawn := d, toks := s.toks } :=
    I.call (ch := []) (Un.laid k hp hn) (I.hok.laid k hp (ss_new y)) I.bare (fun _ z => nomatch z)
  exact ⟨.ref s.heap.objs.size, _, J, rfl, q _ l hn nd' len mem⟩
end
end G
namespace G
open PySem PySem.Spec PyProof.Rows L2
/-! ### comprehensions over anything that is walked, whose parts leave all that was tracked -/
section
variable {α : Type} {J : It} {G : Hp → Prop} {Y : Nat → Hp → V → Hp → Prop}
theorem take_fm {its : List α} {i : Nat} {a : α} {β : Type} (h : α → Option β) (e : its[i]? = some a) : (its.take (i + 1)).filterMap h = (its.take i).filterMap h ++ (h a).toList := by
  rw [List.take_add_one, e, List.filterMap_append]
  cases hh : h a <;> simp [hh]
theorem lcs (its : List α) (w : Walk J its.length G Y) (h : α → Option V) {g : TG} {tt : TT} {te : TE} {vs : List Nat} {σ : L2.St} {H1 : Hp} {D : Addr} {Qd : Hp → Prop} (hD : H1 D = none) (hz : its.length ≤ 1000000) (hG : ∀ H, Same H1 H → G H)
    (hs : ∀ i a x H H', its[i]? = some a → Same H1 H → Y i H x H' → ∀ (N : VK) (M : Hp → Prop), (∀ v H3, h a = some v → Same H H3 → N v H3) → (∀ H3, h a = none → Same H H3 → M H3) →
      g x (wipe σ vs) H' fun σ2 H2 => wipe σ2 vs = wipe σ vs ∧ tt σ2 H2 fun b H3 => if b = true then te σ2 H3 N else M H3)
    (hd : ∀ H, Same H1 H → H D = some (.lst (its.filterMap h)) → Qd H) :
    ∃ W : Nat → Nat → Hp → Prop, (∃ m, W 0 m (upd H1 D (.lst []))) ∧ ∀ i m H, W i m H →
      (J.stop i H ∧ Qd H) ∨ (J.go i H ∧ ∃ Nx : Hp → Prop, (∀ H', Nx H' → ∃ m', m' < m ∧ W (i + 1) m' H') ∧ ∀ x H', J.yld i H x H' → g x (wipe σ vs) H' fun σ2 H2 => wipe σ2 vs = wipe σ vs ∧ tt σ2 H2 fun b H3 =>
        if b = true then te σ2 H3 fun y H4 => ∃ acc, H4 D = some (.lst acc) ∧ acc.length < sizeLine ∧ Nx (upd H4 D (.lst (acc ++ [y]))) else Nx H3) := by
  refine lc_it w (fun i H => Same H1 H ∧ H D = some (.lst ((its.take i).filterMap h))) ⟨same_new hD, upd_same⟩ (fun i H _ p => hG H p.1) ?_ (fun H p => hd H p.1 (by rw [p.2, List.take_length]))
  rintro i x H H' hi ⟨s, e⟩ y
  obtain ⟨a, ha⟩ : ∃ a, its[i]? = some a := ⟨_, List.getElem?_eq_getElem hi⟩
  have short : ((its.take i).filterMap h).length < sizeLine := by
    have h1 := List.length_filterMap_le h (its.take i)
    rw [List.length_take] at h1
    exact Nat.lt_of_le_of_lt (by omega : _ ≤ 1000000) (by decide)
  refine hs i a x H H' ha s y _ _ (fun v H3 hv s3 => ⟨_, s3 _ _ e, short, fun b o q => ?_, ?_⟩) (fun H3 hv s3 => ⟨s.trans s3, ?_⟩)
  · rw [upd_ne (ne_of_none q hD)]
    exact s3 _ _ (s _ _ q)
  · rw [upd_same, take_fm h ha, hv]
    rfl
  · rw [s3 _ _ e, take_fm h ha, hv]
    show _ = some (HO.lst (_ ++ []))
    rw [List.append_nil]
end
/-- the pairs of a dict, each a new tuple -/
def YKV (kvs : List (Key × V)) : Nat → Hp → V → Hp → Prop := fun i H x H' => ∃ T k v, kvs[i]? = some (k, v) ∧ x = .ref T ∧ H T = none ∧ H' = upd H T (.tup [kV k, v])
theorem walk_kv {d : Addr} {o : Obj} {kvs : List (Key × V)} : Walk (Iti d o kvs) kvs.length (fun H => H d = some (.frz o (.dK kvs))) (YKV kvs) :=
  ⟨fun _ _ hi q => ⟨q, hi⟩, fun _ q => ⟨q, Nat.le_refl _⟩, fun _ _ _ _ _ _ y => y⟩
/-- the end of a body: an object that is not changed any more -/
def tFrz (t : TS) : TS := fun D σ H => t { D with nx := fun σ' H' => ∃ d u, H' d = some u ∧ Mut (some u) ∧ ∀ od, D.nx σ' (upd H' d (.frz od u)) } σ H
theorem pss_frz {X : Cx} {body : List Stmt} {t : TS} (h : PSs X body t) : PSs X body (tFrz t) := by
  refine ⟨fun pins s σ H D I hw => thn (h.run pins s σ H _ I hw) fun f s1 q => ?_⟩
  cases f with
  | next =>
    obtain ⟨σ', H', I1, d, u, hd, mu, k⟩ := q
    obtain ⟨od, I2⟩ := I1.lock hd mu
    exact ⟨σ', _, I2, k od⟩
  | brk => exact q
  | cont => exact q
  | ret v => exact q
/-! ### attributes by name -/
theorem lk_at {k : Str} {v : V} {r : List (Str × V)} : List.lookup k ((k, v) :: r) = some v := by
  have e : (k == k) = true := beq_self_eq_true k
  simp only [List.lookup, e]
theorem lk_by {k g : Str} {v : V} {r : List (Str × V)} (h : (k == g) = false) : List.lookup k ((g, v) :: r) = List.lookup k r := by
  simp only [List.lookup, h]
theorem pf_by {f g : Str} {v x : V} {r : List (Str × V)} (h : ¬ g = f) : putF f v ((g, x) :: r) = (g, x) :: putF f v r := if_neg h
/-! ### books -/
abbrev Ps := List (Str × Int)
def kvOf (ps : Ps) : List (Key × V) := ps.map fun p => (Sum.inr p.1, V.int p.2)
def lens (ps : Ps) : List Int := ps.map fun p => (p.1.length : Int)
def fees (ps : Ps) : List Int := ps.map (·.2)
def sgn (ps : Ps) : List Str := (ps.map (·.1)).filter fun z => decide (z.length = 1)
def IsMax (m : Int) (l : List Int) : Prop := m ∈ l ∧ ∀ y ∈ l, y ≤ m
def bookF (d tp ta : Addr) (L M : Int) : List (Str × V) := [("own_prices", .ref d), ("own_pieces", .ref tp), ("own_alphabet", .ref ta), ("own_longest", .int L), ("own_dearest", .int M)]
structure BookAt (C : Addr) (H : Hp) (b : Addr) (ps : Ps) (L M : Int) (dx d tp ta : Addr) (od : Obj) : Prop where
  ob : H b = some (.ins C dx (bookF d tp ta L M))
  dc : H d = some (.frz od (.dK (kvOf ps)))
  pi : H tp = some (.tup (ps.map fun p => V.str p.1))
  al : H ta = some (.tup ((sgn ps).map V.str))
  lo : IsMax L (lens ps)
  de : IsMax M (fees ps)
theorem BookAt.same {C : Addr} {H H' : Hp} {b : Addr} {ps : Ps} {L M : Int} {dx d tp ta : Addr} {od : Obj} (B : BookAt C H b ps L M dx d tp ta od) (s : Same H H') : BookAt C H' b ps L M dx d tp ta od :=
  ⟨s _ _ B.ob, s _ _ B.dc, s _ _ B.pi, s _ _ B.al, B.lo, B.de⟩
section
variable {d tp ta : Addr} {L M : Int}
theorem bf_prices : (bookF d tp ta L M).lookup ("own_prices" : Str) = some (.ref d) := lk_at
theorem bf_pieces : (bookF d tp ta L M).lookup ("own_pieces" : Str) = some (.ref tp) := (lk_by (by decide +kernel)).trans lk_at
theorem bf_alphabet : (bookF d tp ta L M).lookup ("own_alphabet" : Str) = some (.ref ta) := (lk_by (by decide +kernel)).trans ((lk_by (by decide +kernel)).trans lk_at)
theorem bf_longest : (bookF d tp ta L M).lookup ("own_longest" : Str) = some (.int L) := (lk_by (by decide +kernel)).trans ((lk_by (by decide +kernel)).trans ((lk_by (by decide +kernel)).trans lk_at))
theorem bf_dearest : (bookF d tp ta L M).lookup ("own_dearest" : Str) = some (.int M) := (lk_by (by decide +kernel)).trans ((lk_by (by decide +kernel)).trans ((lk_by (by decide +kernel)).trans ((lk_by (by decide +kernel)).trans lk_at)))
theorem bf_no {m : Str} (h1 : (m == ("own_prices" : Str)) = false) (h2 : (m == ("own_pieces" : Str)) = false) (h3 : (m == ("own_alphabet" : Str)) = false) (h4 : (m == ("own_longest" : Str)) = false) (h5 : (m == ("own_dearest" : Str)) = false) :
    (bookF d tp ta L M).lookup m = none := (lk_by h1).trans ((lk_by h2).trans ((lk_by h3).trans ((lk_by h4).trans ((lk_by h5).trans rfl))))
theorem bf_made : putF "own_dearest" (.int M) (putF "own_longest" (.int L) (putF "own_alphabet" (.ref ta) (putF "own_pieces" (.ref tp) (putF "own_prices" (.ref d) [])))) = bookF d tp ta L M := by
  show putF "own_dearest" (.int M) (putF "own_longest" (.int L) (putF "own_alphabet" (.ref ta) (putF "own_pieces" (.ref tp) [(("own_prices" : Str), .ref d)]))) = _
  rw [pf_by (by decide +kernel)]
  show putF "own_dearest" (.int M) (putF "own_longest" (.int L) (putF "own_alphabet" (.ref ta) [(("own_prices" : Str), .ref d), (("own_pieces" : Str), .ref tp)])) = _
  rw [pf_by (by decide +kernel), pf_by (by decide +kernel)]
  show putF "own_dearest" (.int M) (putF "own_longest" (.int L) [(("own_prices" : Str), .ref d), (("own_pieces" : Str), .ref tp), (("own_alphabet" : Str), .ref ta)]) = _
  rw [pf_by (by decide +kernel), pf_by (by decide +kernel), pf_by (by decide +kernel)]
  show putF "own_dearest" (.int M) [(("own_prices" : Str), .ref d), (("own_pieces" : Str), .ref tp), (("own_alphabet" : Str), .ref ta), (("own_longest" : Str), .int L)] = _
  rw [pf_by (by decide +kernel), pf_by (by decide +kernel), pf_by (by decide +kernel), pf_by (by decide +kernel)]
  rfl
end
/-! ### a def of the program as its callers use it (no word of guards) -/
structure HasO (P : Program) (w : World) (K : PySem.W.Frag) (mg : Str → Option Value) (base : Heap) (CX : CXT) (k : Nat) (x : Str) (ps : List Str) (sp : Sp) : Prop where
  ex : ∃ f fd, FnOk P w K mg base CX k f fd ps sp ∧ mg x = some (.ref f) ∧ PySem.W.keepIn K (.ref f) = true ∧ Binds K fd ps []
section
variable {P : Program} {w : World} {K : PySem.W.Frag} {mg : Str → Option Value} {base : Heap} {CX : CXT} {k : Nat} {x qual : Str} {ps : List Str} {sp : Sp}
theorem HasO.toG (F : HasO P w K mg base CX k x ps sp) : Has P w K mg base CX k x ps sp := by
  obtain ⟨f, fd, G, r⟩ := F.ex
  exact ⟨f, fd, .of G, r⟩
theorem HasO.mk' {f : Addr} {fd : FuncData} {st : Stmt} (F : Fun K x qual st f fd) (hm : mg x = some (.ref f)) (hb : Binds K fd ps []) (G : FnOk P w K mg base CX k f fd ps sp) : HasO P w K mg base CX k x ps sp := ⟨f, fd, G, hm, F.kp, hb⟩
end
section
variable {X : Cx} {CX : CXT} {k : Nat} {x : Str} {ps : List Str} {sp : Sp} {E : XK} {p pos : Pos} {e : Expr} {es : List Expr} {t : TA}
theorem pe_hasO (F : HasO X.prog X.w X.K X.mg X.base CX k x ps sp) (hr : Room k X.A) (hx : Passes CX X E) (ha : PA X (e :: es) t) (hl : Gl X x := by rfl)
    (hdb : (x == ("__debug__" : Str)) = false := by decide) (he : starEach (e :: es) X.env = (false, eval e X.env) :: starEach es X.env := by rfl) (hpl : (backTo pos (starEach es X.env)).any (·.1) = false := by rfl) :
    PE X (.Call (.Name x p) (e :: es) [] pos) (tCall sp [] E t) := by
  obtain ⟨f, fd, G, hm, hk, hb⟩ := F.ex
  exact pe_call G hr hl hm hk hb .nil hx ha hdb he hpl
end
/-! ### a dict that a walk locks -/
theorem unlock {H H' : Hp} {a : Addr} {u : HO} {od : Obj} (h : H a = some u) (s : Same (upd H a (.frz od u)) H') : Same H (upd H' a u) := fun b o e => by
  by_cases hb : b = a
  · rw [hb] at e ⊢
    rw [h] at e
    cases e
    exact upd_same
  · rw [upd_ne hb]
    exact s _ _ (by rw [upd_ne hb]; exact e)
theorem lock_ne {H : Hp} {a D : Addr} {o : HO} (h : upd H a o D = none) : D ≠ a := fun e => by
  rw [e, upd_same] at h
  cases h
theorem lock_free {H : Hp} {a D : Addr} {o : HO} (h : upd H a o D = none) : H D = none := by
  rw [upd_ne (lock_ne h)] at h
  exact h
/-- [elt for piece in a dict of texts for sign in piece], elt a value of the sign alone -/
theorem lc2_ks {kvs : List (Key × V)} {zs : List Str} {te : TE} {j1 j2 : Nat} {σ : L2.St} {H1 : Hp} {D d : Addr} {od : Obj} {Qd : Hp → Prop} (hk : kvs.map (·.1) = zs.map Sum.inr) (f : Nat → V) (hd0 : H1 d = some (.frz od (.dK kvs))) (hD : H1 D = none)
    (hz : ((zs.map cs).flatten).length ≤ 100000) (hw : ∀ v, wipe ((wipe σ [j1, j2]).set j1 (some v)) [j1, j2] = wipe σ [j1, j2])
    (hw1 : ∀ v u, wipe ((wipe ((wipe σ [j1, j2]).set j1 (some v)) [j2]).set j2 (some u)) [j2] = wipe ((wipe σ [j1, j2]).set j1 (some v)) [j2])
    (hv : ∀ v, ((wipe σ [j1, j2]).set j1 (some v))[j1]? = some (some v))
    (hs : ∀ z ∈ zs, ∀ c ∈ cs z, ∀ H, Same H1 H → ∀ N : VK, (∀ H', Same H H' → N (f c) H') → te ((wipe ((wipe σ [j1, j2]).set j1 (some (.str z))) [j2]).set j2 (some (chV c))) H N)
    (hd : ∀ H, Same H1 H → H D = some (.lst ((zs.map cs).flatten.map f)) → Qd H) :
    ∃ W : Nat → Nat → Hp → Prop, (∃ m, W 0 m (upd H1 D (.lst []))) ∧ ∀ i m H, W i m H →
      ((Itk d od kvs).stop i H ∧ Qd H) ∨ ((Itk d od kvs).go i H ∧ ∃ Nx : Hp → Prop, (∀ H', Nx H' → ∃ m', m' < m ∧ W (i + 1) m' H') ∧ ∀ x H', (Itk d od kvs).yld i H x H' → gName j1 x (wipe σ [j1, j2]) H' fun σ2 H2 => wipe σ2 [j1, j2] = wipe σ [j1, j2] ∧ tYes σ2 H2 fun b H3 =>
        if b = true then iStr (tVar j1) σ2 H3 fun J1 H4 => ∃ W1 : Nat → Nat → Hp → Prop, (∃ m, W1 0 m H4) ∧ ∀ j k H, W1 j k H →
          (J1.stop j H ∧ Nx H) ∨ (J1.go j H ∧ ∃ Nx1 : Hp → Prop, (∀ H', Nx1 H' → ∃ k', k' < k ∧ W1 (j + 1) k' H') ∧ ∀ x H', J1.yld j H x H' → gName j2 x (wipe σ2 [j2]) H' fun σ3 H5 => wipe σ3 [j2] = wipe σ2 [j2] ∧ tYes σ3 H5 fun b H6 =>
            if b = true then te σ3 H6 fun y H7 => ∃ acc, H7 D = some (.lst acc) ∧ acc.length < sizeLine ∧ Nx1 (upd H7 D (.lst (acc ++ [y]))) else Nx1 H6)
        else Nx H3) := by
  have len : kvs.length = zs.length := by
    have h := congrArg List.length hk
    rwa [List.length_map, List.length_map] at h
  have keep : ∀ {H : Hp} {o : HO}, Same H1 H → Same H1 (upd H D o) := fun s b o e => by
    rw [upd_ne (ne_of_none e hD)]
    exact s _ _ e
  have part : ∀ (i : Nat) (z : Str), zs[i]? = some z → ∀ j, ((((zs.take i).map cs).flatten.map f) ++ ((cs z).take j).map f).length ≤ 100000 := by
    intro i z hi j
    have e1 : zs = zs.take i ++ z :: zs.drop (i + 1) := by
      obtain ⟨hlt, hz'⟩ := List.getElem?_eq_some_iff.mp hi
      rw [← hz', List.getElem_cons_drop, List.take_append_drop]
    have e2 := hz
    rw [e1, List.map_append, List.flatten_append, List.map_cons, List.flatten_cons, List.length_append, List.length_append] at e2
    rw [List.length_append, List.length_map, List.length_map, List.length_take]
    omega
  refine ⟨fun i m H => m = kvs.length - i ∧ i ≤ kvs.length ∧ Same H1 H ∧ H D = some (.lst (((zs.take i).map cs).flatten.map f)), ⟨_, rfl, Nat.zero_le _, same_new hD, upd_same⟩, ?_⟩
  rintro i m H ⟨rfl, hi, s, e⟩
  have fz := s _ _ hd0
  by_cases hlt : i < kvs.length
  · refine .inr ⟨⟨fz, hlt⟩, fun H' => Same H1 H' ∧ H' D = some (.lst (((zs.take (i + 1)).map cs).flatten.map f)), fun H' q => ⟨kvs.length - (i + 1), by omega, rfl, hlt, q⟩, ?_⟩
    rintro x H' ⟨rfl, k, v, ek, rfl⟩
    obtain ⟨z, hz1⟩ : ∃ z, zs[i]? = some z := ⟨_, List.getElem?_eq_getElem (by omega)⟩
    have ez : k = Sum.inr z := by
      have h1 := congrArg (fun l => l[i]?) hk
      simp only [List.getElem?_map, ek, hz1] at h1
      exact Option.some.inj h1
    subst ez
    have hzm := List.mem_of_getElem? hz1
    refine ⟨hw _, _, hv _, z, rfl, fun j k' H' => k' = (cs z).length - j ∧ j ≤ (cs z).length ∧ Same H1 H' ∧ H' D = some (.lst ((((zs.take i).map cs).flatten.map f) ++ ((cs z).take j).map f)), ⟨_, rfl, Nat.zero_le _, s, by simpa using e⟩, ?_⟩
    rintro j k' H2 ⟨rfl, hj, s2, e2⟩
    have lz := cs_len z
    by_cases hjl : j < (cs z).length
    · refine .inr ⟨by show j < z.cps.size; rw [lz] at hjl; exact hjl, fun H' => Same H1 H' ∧ H' D = some (.lst ((((zs.take i).map cs).flatten.map f) ++ ((cs z).take (j + 1)).map f)), fun H' q => ⟨(cs z).length - (j + 1), by omega, rfl, hjl, q⟩, ?_⟩
      rintro x H3 ⟨rfl, c, hc, rfl⟩
      have hc' : (cs z)[j]? = some c := by simpa [cs] using hc
      refine ⟨hw1 _ _, hs z hzm c (List.mem_of_getElem? hc') _ s2 _ fun H4 s4 => ⟨_, s4 _ _ e2, Nat.lt_of_le_of_lt (part i z hz1 j) (by decide), keep (s2.trans s4), ?_⟩⟩
      rw [upd_same, List.append_assoc]
      congr 3
      have : (cs z).take (j + 1) = (cs z).take j ++ [c] := by
        rw [List.take_add_one, hc']
        rfl
      rw [this, List.map_append]
      rfl
    · have ej : j = (cs z).length := by omega
      subst ej
      refine .inl ⟨by show z.cps.size ≤ _; rw [lz]; exact Nat.le_refl _, s2, ?_⟩
      rw [List.take_length] at e2
      rw [e2]
      have : (zs.take (i + 1)).map cs = (zs.take i).map cs ++ [cs z] := by
        rw [List.take_add_one, hz1, List.map_append]
        rfl
      rw [this, List.flatten_append, List.map_append]
      simp
  · have ei : i = kvs.length := by omega
    subst ei
    refine .inl ⟨⟨fz, Nat.le_refl _⟩, hd H s ?_⟩
    rw [len, List.take_length] at e
    exact e
/-! ### the values of a dict, as a view -/
def vwV (d r : Addr) : HO := .ext fun h => h.IsValuesView r d
section
variable {X : Cx}
theorem mt_values : MtR X "dict.values" (fun x xs H Q => ∃ d kvs, x = .ref d ∧ xs = [] ∧ Rd H d (.dK kvs) ∧ ∀ r, H r = none → Q (.ref r) (upd H r (vwV d r))) := by
  intro pins s σ H x xs v us Q I rx rs h
  obtain ⟨d, kvs, rfl, rfl, hd, q⟩ := h
  cases rx
  cases rs
  obtain ⟨_, low, vs, _, hdo⟩ := dk_rd I.hok hd
  refine call_meetsIn PySem.F.slot_dict_values hdo.typeIs PySem.F.entry_dict_values (PySem.F.args_dict_values_1 _) (meets_dict_values (mixKind X.prog X.w) d low) ⟨⟨vs, hdo⟩, ?_⟩
  have view : (s.heap.push { cls := .type "dict_values", data := .fields #[.ref d] }).IsValuesView s.heap.objs.size d := ⟨_, Heap.get?_push_size _ rfl, rfl, rfl⟩
  refine ⟨.ref s.heap.objs.size, _, I.laid (o := vwV d s.heap.objs.size) (fun _ _ e => Heap.get?_push_of_some _ e) (Nat.le_refl _) ⟨view, ⟨_, Heap.get?_push_size _ rfl⟩, ?_⟩, rfl, q _ (I.hok.fresh (Nat.le_refl _))⟩
  rintro h1 h2 ⟨o, a, b, c⟩ k
  exact ⟨o, k o a, b, c⟩
theorem call_listVw (hc : X.calm = true) : CallR X (.type "list") (fun xs H Q => ∃ r d kvs, xs = [.ref r] ∧ H r = some (vwV d r) ∧ Rd H d (.dK kvs) ∧ ∀ p, H p = none → Q (.ref p) (upd H p (.lst (kvs.map (·.2))))) := by
  intro pins s σ H xs us Q I rs h
  obtain ⟨r, d, kvs, rfl, hr, hd, q⟩ := h
  obtain ⟨u, rfl, ru⟩ := vals1 rs
  cases ru
  obtain ⟨short, low, vs, rel, hdo⟩ := dk_rd I.hok hd
  obtain ⟨ep, at'⟩ := hdo.dictAt
  have view : s.heap.IsValuesView r d := (I.hok r _ hr).1
  have nl : kvs.length = vs.length := rel.length
  refine PySem.W.kdl_call (PySem.W.kdl_values (knd := mixKind X.prog X.w) (kvs := vs) (ep := ep)) (I.ok.hd hc) ⟨view, at'⟩ (by omega) ?_
  intro h' tk acc c' keeps new items
  have va : Vals (kvs.map (·.2)) acc.toList := vals_at _ _ (by rw [Array.length_toList, List.length_map, items.1, nl]) fun j w hw => by
    obtain ⟨k, hk⟩ := items.2 j w (by simpa using hw)
    obtain ⟨p, hp, rp⟩ : ∃ p, kvs[j]? = some p ∧ RelV p.2 w := by
      have jl : j < kvs.length := by
        have := (List.getElem?_eq_some_iff.mp hk).1
        omega
      refine ⟨kvs[j], List.getElem?_eq_getElem jl, ?_⟩
      obtain ⟨y, hy, ry⟩ := LiI.paired_get rel (List.getElem?_eq_getElem jl)
      rw [hk] at hy
      cases hy
      exact ry.2
    exact ⟨p.2, by rw [List.getElem?_map, hp]; rfl, rp⟩
  refine ⟨.ref s.heap.objs.size, _, I.laid (t' := tk) (o := .lst (kvs.map (·.2))) keeps (Nat.le_refl _) ⟨by rw [List.length_map]; exact short, acc.toList, c', va, by simpa using new⟩, rfl, q _ (I.hok.fresh (Nat.le_refl _))⟩
/-- len of a dict, locked or not -/
theorem call_lenF : CallR X (.builtin "len") (fun xs H Q => ∃ a kvs, xs = [V.ref a] ∧ Rd H a (.dK kvs) ∧ Q (.int (kvs.length : Int)) H) := by
  intro pins s σ H xs us Q I rs h
  obtain ⟨a, kvs, rfl, ha, q⟩ := h
  obtain ⟨u, rfl, ru⟩ := vals1 rs
  cases ru
  exact d_len I (by first | exact ha | exact Or.inl ha) fun t s' J => ⟨.int kvs.length, H, J, ⟨t, rfl⟩, q⟩
end
/-! ### what a dict of prices is -/
def inRange (x : V) (a b : Int) : Bool := match x with | .int i => decide (i.natAbs < 10 ^ 60) && (decide (a ≤ i) && decide (i ≤ b)) | _ => false
def isPrice (x : V) : Bool := inRange x 1 99
def keyStrs (kvs : List (Key × V)) : List Str := kvs.filterMap fun kv => match kv.1 with | .inr z => some z | .inl _ => none
def arePrices (kvs : List (Key × V)) : Bool :=
  (decide (1 ≤ (kvs.length : Int)) && decide ((kvs.length : Int) ≤ 12)) && (kvs.all fun kv => isPiece (kV kv.1) && isPrice kv.2) && decide (((keyStrs kvs).filter fun z => decide ((cs z).length = 1)).length ≤ 4) &&
    ((keyStrs kvs).map cs).flatten.all fun c => (valV kvs (Sum.inr (ch c))).isSome
/-- what was tracked is so still, or locked -/
def Sim (H H' : Hp) : Prop := ∀ b o, H b = some o → H' b = some o ∨ ∃ od, H' b = some (.frz od o)
theorem Sim.of {H H' : Hp} (s : Same H H') : Sim H H' := fun b o e => Or.inl (s b o e)
theorem Sim.lock {H : Hp} {a : Addr} {u : HO} {od : Obj} (h : H a = some u) : Sim H (upd H a (.frz od u)) := fun b o e => by
  by_cases hb : b = a
  · rw [hb] at e ⊢
    rw [h] at e
    cases e
    exact Or.inr ⟨od, upd_same⟩
  · exact Or.inl (by rw [upd_ne hb]; exact e)
theorem Sim.then {H H1 H2 : Hp} (a : Sim H H1) (s : Same H1 H2) : Sim H H2 := fun b o e => by
  rcases a b o e with h | ⟨od, h⟩
  · exact Or.inl (s _ _ h)
  · exact Or.inr ⟨od, s _ _ h⟩
theorem Sim.after {H H1 H2 : Hp} (s : Same H H1) (a : Sim H1 H2) : Sim H H2 := fun b o e => a b o (s b o e)
/-- of a known kind, as long as it stands, locked or not -/
def TydS (K : PySem.W.Frag) (H : Hp) (x : V) : Prop := ∀ H', Sim H H' → Tyd K H' x
section
variable {K : PySem.W.Frag} {H : Hp}
theorem TydS.now {x : V} (t : TydS K H x) : Tyd K H x := t H (.of (Same.refl H))
theorem TydS.same {H' : Hp} {x : V} (t : TydS K H x) (s : Same H H') : TydS K H' x := fun H2 z => t H2 (Sim.after s z)
theorem tydS_non : TydS K H .non := fun _ _ => tyd_non
theorem tydS_bl (b : Bool) : TydS K H (.bl b) := fun _ _ => tyd_bl b
theorem tydS_int (i : Int) : TydS K H (.int i) := fun _ _ => tyd_int i
theorem tydS_str (z : Str) : TydS K H (.str z) := fun _ _ => tyd_str z
theorem tydS_lst {a : Addr} {xs : List V} (h : H a = some (.lst xs)) : TydS K H (.ref a) := fun H' z => by
  rcases z a _ h with h | ⟨od, h⟩
  · exact tyd_lst h
  · exact tyd_of (a := false) (b := false) (c := false) (.base (.frz h)) (by decide +kernel) (by decide +kernel) (by decide +kernel) rfl rfl rfl
theorem tydS_tup {a : Addr} {xs : List V} (h : H a = some (.tup xs)) : TydS K H (.ref a) := fun H' z => by
  rcases z a _ h with h | ⟨od, h⟩
  · exact tyd_tup h
  · exact tyd_of (a := false) (b := false) (c := false) (.fTuple h) (by decide +kernel) (by decide +kernel) (by decide +kernel) rfl rfl rfl
theorem tydS_dK {a : Addr} {kvs : List (Key × V)} (h : H a = some (.dK kvs)) : TydS K H (.ref a) := fun H' z => by
  rcases z a _ h with h | ⟨od, h⟩
  · exact tyd_dK h
  · exact tyd_of (a := false) (b := false) (c := false) (.fDict h) (by decide +kernel) (by decide +kernel) (by decide +kernel) rfl rfl rfl
end
def KvOk (K : PySem.W.Frag) (H : Hp) (kvs : List (Key × V)) : Prop := ∀ kv ∈ kvs, szV (kV kv.1) ∧ TydS K H kv.2
theorem tyd_key {K : PySem.W.Frag} {H : Hp} (k : Key) : Tyd K H (kV k) := by
  cases k with
  | inl i => exact tyd_int i
  | inr z => exact tyd_str z
def spWithin (K : PySem.W.Frag) : Sp := fun vs H Q _ => ∃ x a b, vs = [x, .int a, .int b] ∧ Tyd K H x ∧ ∀ H', Same H H' → Q (.bl (inRange x a b)) H'
def spArePrices (K : PySem.W.Frag) : Sp := fun vs H Q _ => ∃ x, vs = [x] ∧
  ((∃ t, TyX K H x t ∧ PySem.W.kitOne K t (.type "dict") = some false ∧ ∀ H', Same H H' → Q (.bl false) H') ∨
   ∃ a kvs, x = .ref a ∧ H a = some (.dK kvs) ∧ kvs.length ≤ 1000 ∧ KvOk K H kvs ∧ ∀ H', Same H H' → Q (.bl (arePrices kvs)) H')
theorem piece_key {k : Key} (h : isPiece (kV k) = true) : ∃ z, k = Sum.inr z ∧ 1 ≤ (cs z).length ∧ (cs z).length ≤ 5 ∧ ∀ c ∈ cs z, lett c = true := by
  cases k with
  | inl i => cases h
  | inr z =>
    have h' : (decide (1 ≤ (cs z).length) && decide ((cs z).length ≤ 5) && (cs z).all lett) = true := h
    rw [Bool.and_eq_true, Bool.and_eq_true] at h'
    exact ⟨z, rfl, of_decide_eq_true h'.1.1, of_decide_eq_true h'.1.2, List.all_eq_true.mp h'.2⟩
theorem keys_of {kvs : List (Key × V)} (h : (kvs.all fun kv => isPiece (kV kv.1) && isPrice kv.2) = true) : kvs.map (·.1) = (keyStrs kvs).map Sum.inr := by
  induction kvs with
  | nil => rfl
  | cons a r ih =>
    rw [List.all_cons, Bool.and_eq_true, Bool.and_eq_true] at h
    obtain ⟨z, ez, _⟩ := piece_key h.1.1
    obtain ⟨k, v⟩ := a
    dsimp only at ez
    subst ez
    show Sum.inr z :: _ = Sum.inr z :: _
    rw [ih h.2]
    rfl
theorem keyStrs_piece {kvs : List (Key × V)} (h : (kvs.all fun kv => isPiece (kV kv.1) && isPrice kv.2) = true) : ∀ z ∈ keyStrs kvs, 1 ≤ (cs z).length ∧ (cs z).length ≤ 5 ∧ ∀ c ∈ cs z, lett c = true := by
  intro z hz
  obtain ⟨kv, hkv, e⟩ := List.mem_filterMap.mp hz
  have h1 := List.all_eq_true.mp h kv hkv
  rw [Bool.and_eq_true] at h1
  obtain ⟨y, ey, r⟩ := piece_key h1.1
  obtain ⟨k, v⟩ := kv
  dsimp only at ey e
  subst ey
  cases e
  exact r
theorem flat_len {zs : List Str} (h : ∀ z ∈ zs, (cs z).length ≤ 5) : ((zs.map cs).flatten).length ≤ 5 * zs.length := by
  induction zs with
  | nil => exact Nat.zero_le _
  | cons a r ih =>
    rw [List.map_cons, List.flatten_cons, List.length_append, List.length_cons]
    have h1 := h a List.mem_cons_self
    have h2 := ih fun z hz => h z (List.mem_cons_of_mem _ hz)
    omega
theorem singles : ∀ kvs : List (Key × V), (kvs.filterMap fun kv => match kv.1 with | .inr z => if decide ((cs z).length = 1) = true then some (V.str z) else none | .inl _ => none) = ((keyStrs kvs).filter fun z => decide ((cs z).length = 1)).map V.str
  | [] => rfl
  | (.inl i, v) :: r => singles r
  | (.inr z, v) :: r => by
    have ih := singles r
    have e : keyStrs ((Sum.inr z, v) :: r) = z :: keyStrs r := rfl
    rw [e, List.filter_cons, List.filterMap_cons]
    dsimp only
    cases h : decide ((cs z).length = 1) with
    | true =>
      rw [if_pos rfl, if_pos rfl, List.map_cons, ih]
    | false =>
      rw [if_neg Bool.false_ne_true, if_neg Bool.false_ne_true, ih]
/-! ### dict comprehensions; walks of lists and tuples told by a function -/
section
variable {α : Type} {J : It} {G : Hp → Prop} {Y : Nat → Hp → V → Hp → Prop}
theorem valV_none {κ : Type} [DecidableEq κ] {kvs : List (κ × V)} {k : κ} (h : k ∉ kvs.map (·.1)) : valV kvs k = none := by
  cases e : valV kvs k with
  | none => rfl
  | some v => exact absurd (valV_in e) h
theorem dcs (its : List α) (w : Walk J its.length G Y) (h : α → Key × V) (nd : (its.map fun a => (h a).1).Nodup) {g : TG} {tt : TT} {tk tv : TE} {vs : List Nat} {σ : L2.St} {H1 : Hp} {D : Addr} {Qd : Hp → Prop} (hD : H1 D = none) (hz : its.length ≤ 100000) (hG : ∀ H, Same H1 H → G H)
    (hs : ∀ i a x H H', its[i]? = some a → Same H1 H → Y i H x H' → ∀ (N : V → V → Hp → Prop) (M : Hp → Prop), (∀ H3, Same H H3 → N (kV (h a).1) (h a).2 H3) →
      g x (wipe σ vs) H' fun σ2 H2 => wipe σ2 vs = wipe σ vs ∧ tt σ2 H2 fun b H3 => if b = true then tk σ2 H3 fun y H4 => tv σ2 H4 fun z H5 => N y z H5 else M H3)
    (hd : ∀ H, Same H1 H → H D = some (.dK (its.map h)) → Qd H) :
    ∃ W : Nat → Nat → Hp → Prop, (∃ m, W 0 m (upd H1 D (.dK []))) ∧ ∀ i m H, W i m H →
      (J.stop i H ∧ Qd H) ∨ (J.go i H ∧ ∃ Nx : Hp → Prop, (∀ H', Nx H' → ∃ m', m' < m ∧ W (i + 1) m' H') ∧ ∀ x H', J.yld i H x H' → g x (wipe σ vs) H' fun σ2 H2 => wipe σ2 vs = wipe σ vs ∧ tt σ2 H2 fun b H3 =>
        if b = true then tk σ2 H3 fun y H4 => tv σ2 H4 fun z H5 => ∃ kvs k, y = kV k ∧ H5 D = some (.dK kvs) ∧ kvs.length < sizeLine ∧ Nx (upd H5 D (.dK (putK kvs k z))) else Nx H3) := by
  refine ⟨fun i m H => m = its.length - i ∧ i ≤ its.length ∧ Same H1 H ∧ H D = some (.dK ((its.take i).map h)), ⟨_, rfl, Nat.zero_le _, same_new hD, upd_same⟩, ?_⟩
  rintro i m H ⟨rfl, hi, s, e⟩
  by_cases hlt : i < its.length
  · obtain ⟨a, ha⟩ : ∃ a, its[i]? = some a := ⟨_, List.getElem?_eq_getElem hlt⟩
    refine .inr ⟨w.goes i H hlt (hG H s), fun H' => Same H1 H' ∧ H' D = some (.dK ((its.take (i + 1)).map h)), fun H' q => ⟨its.length - (i + 1), by omega, rfl, hlt, q⟩, ?_⟩
    intro x H' y
    refine hs i a x H H' ha s (w.yields i H x H' hlt (hG H s) y) _ _ fun H3 s3 => ⟨_, (h a).1, rfl, s3 _ _ e, ?_, fun b o q => ?_, ?_⟩
    · rw [List.length_map, List.length_take]
      exact Nat.lt_of_le_of_lt (by omega : _ ≤ 100000) (by decide)
    · rw [upd_ne (ne_of_none q hD)]
      exact s3 _ _ (s _ _ q)
    · have e1 : its.take (i + 1) = its.take i ++ [a] := by
        rw [List.take_add_one, ha]
        rfl
      have e2 : valV ((its.take i).map h) (h a).1 = none := valV_none fun m => by
        rw [List.map_map] at m
        have nd' : ((its.take (i + 1)).map fun a => (h a).1).Nodup := nd.sublist ((List.take_sublist _ _).map _)
        rw [e1, List.map_append] at nd'
        exact (List.nodup_append.mp nd').2.2 _ m _ (List.mem_singleton.mpr rfl) rfl
      rw [upd_same, putK_new _ e2, e1, List.map_append]
      rfl
  · have ei : i = its.length := by omega
    subst ei
    refine .inl ⟨w.stops H (hG H s), hd H s ?_⟩
    rw [e, List.take_length]
end
theorem walk_listF {β : Type} {K : PySem.W.Frag} {a : Addr} (f : β → V) (ys : List β) : Walk (Itl K a) ys.length (fun H => SqL K H a (ys.map f)) (fun i H x H' => H' = H ∧ ∃ b, ys[i]? = some b ∧ x = f b) := by
  have w := walk_list (K := K) (a := a) (xs := ys.map f)
  rw [List.length_map] at w
  refine w.mono (fun _ h => h) ?_
  rintro i H x H' hi _ ⟨rfl, hx⟩
  rw [List.getElem?_map] at hx
  cases e : ys[i]? with
  | none =>
    rw [e] at hx
    cases hx
  | some b =>
    rw [e] at hx
    exact ⟨rfl, b, rfl, (Option.some.inj hx).symm⟩
theorem walk_tupF {β : Type} {K : PySem.W.Frag} {a : Addr} (f : β → V) (ys : List β) : Walk (Itt K a) ys.length (fun H => SqT K H a (ys.map f)) (fun i H x H' => H' = H ∧ ∃ b, ys[i]? = some b ∧ x = f b) := by
  have w := walk_tup (K := K) (a := a) (xs := ys.map f)
  rw [List.length_map] at w
  refine w.mono (fun _ h => h) ?_
  rintro i H x H' hi _ ⟨rfl, hx⟩
  rw [List.getElem?_map] at hx
  cases e : ys[i]? with
  | none =>
    rw [e] at hx
    cases hx
  | some b =>
    rw [e] at hx
    exact ⟨rfl, b, rfl, (Option.some.inj hx).symm⟩
/-! ### a book is made -/
def priceIn (kvs : List (Key × V)) (z : Str) : Int := match valV kvs (Sum.inr z) with | some (.int p) => p | _ => 0
def psOf (kvs : List (Key × V)) (ys : List Str) : Ps := ys.map fun z => (z, priceIn kvs z)
theorem fm_some {α β : Type} (f : α → β) (l : List α) : l.filterMap (fun a => some (f a)) = l.map f := by
  rw [List.filterMap_eq_map']
theorem price_of_key {kvs : List (Key × V)} (h : (kvs.all fun kv => isPiece (kV kv.1) && isPrice kv.2) = true) {z : Str} (hz : z ∈ keyStrs kvs) : valV kvs (Sum.inr z) = some (.int (priceIn kvs z)) ∧ 1 ≤ priceIn kvs z ∧ priceIn kvs z ≤ 99 := by
  have hm : (Sum.inr z : Key) ∈ kvs.map (·.1) := by
    rw [keys_of h]
    exact List.mem_map.mpr ⟨z, hz, rfl⟩
  cases e : valV kvs (Sum.inr z : Key) with
  | none => exact absurd hm (valV_not e)
  | some v =>
    obtain ⟨kv, hkv, e1⟩ : ∃ kv ∈ kvs, kv.2 = v := by
      unfold valV at e
      cases e2 : kvs.find? (fun kv => decide (kv.1 = (Sum.inr z : Key))) with
      | none =>
        rw [e2] at e
        cases e
      | some kv =>
        rw [e2] at e
        exact ⟨kv, List.mem_of_find?_eq_some e2, Option.some.inj e⟩
    have h1 := List.all_eq_true.mp h kv hkv
    rw [Bool.and_eq_true] at h1
    have h2 := h1.2
    rw [e1] at h2
    cases v with
    | int p =>
      have h3 : (decide (p.natAbs < 10 ^ 60) && (decide (1 ≤ p) && decide (p ≤ 99))) = true := h2
      rw [Bool.and_eq_true, Bool.and_eq_true] at h3
      have e3 : priceIn kvs z = p := by
        unfold priceIn
        rw [e]
      rw [e3]
      exact ⟨rfl, of_decide_eq_true h3.2.1, of_decide_eq_true h3.2.2⟩
    | _ => cases h2
theorem ap_parts {kvs : List (Key × V)} (h : arePrices kvs = true) : (1 ≤ kvs.length ∧ kvs.length ≤ 12) ∧ (kvs.all fun kv => isPiece (kV kv.1) && isPrice kv.2) = true ∧ ((keyStrs kvs).filter fun z => decide ((cs z).length = 1)).length ≤ 4 ∧
    (((keyStrs kvs).map cs).flatten.all fun c => (valV kvs (Sum.inr (ch c))).isSome) = true := by
  unfold arePrices at h
  rw [Bool.and_eq_true, Bool.and_eq_true, Bool.and_eq_true, Bool.and_eq_true] at h
  obtain ⟨⟨⟨⟨a, b⟩, c⟩, d⟩, e⟩ := h
  have a' := of_decide_eq_true a
  have b' := of_decide_eq_true b
  exact ⟨⟨by omega, by omega⟩, c, of_decide_eq_true d, e⟩
theorem not_there {H H' : Hp} {a : Addr} (s : Same H H') (h : H' a = none) : H a = none := by
  cases e : H a with
  | none => rfl
  | some o =>
    rw [s _ _ e] at h
    cases h
theorem nd_of_map {α β : Type} {f : α → β} {l : List α} (h : (l.map f).Nodup) : l.Nodup := List.Pairwise.of_map f (fun _ _ n e => n (congrArg f e)) h
theorem nd_map {α β : Type} {f : α → β} (hf : ∀ a b, f a = f b → a = b) {l : List α} (h : l.Nodup) : (l.map f).Nodup := List.Pairwise.map f (fun a b n e => n (hf a b e)) h
section
variable {x y z u v : V}
theorem pf2 : putF "own_pieces" y [(("own_prices" : Str), x)] = [(("own_prices" : Str), x), ("own_pieces", y)] := by
  rw [pf_by (by decide +kernel)]
  rfl
theorem pf3 : putF "own_alphabet" z [(("own_prices" : Str), x), ("own_pieces", y)] = [(("own_prices" : Str), x), ("own_pieces", y), ("own_alphabet", z)] := by
  rw [pf_by (by decide +kernel), pf_by (by decide +kernel)]
  rfl
theorem pf4 : putF "own_longest" u [(("own_prices" : Str), x), ("own_pieces", y), ("own_alphabet", z)] = [(("own_prices" : Str), x), ("own_pieces", y), ("own_alphabet", z), ("own_longest", u)] := by
  rw [pf_by (by decide +kernel), pf_by (by decide +kernel), pf_by (by decide +kernel)]
  rfl
theorem pf5 : putF "own_dearest" v [(("own_prices" : Str), x), ("own_pieces", y), ("own_alphabet", z), ("own_longest", u)] = [(("own_prices" : Str), x), ("own_pieces", y), ("own_alphabet", z), ("own_longest", u), ("own_dearest", v)] := by
  rw [pf_by (by decide +kernel), pf_by (by decide +kernel), pf_by (by decide +kernel), pf_by (by decide +kernel)]
  rfl
end
theorem sgn_fm (kvs : List (Key × V)) (ys : List Str) : (ys.filterMap fun z => if decide ((cs z).length = 1) = true then some (V.str z) else none) = (sgn (psOf kvs ys)).map V.str := by
  induction ys with
  | nil => rfl
  | cons z r ih =>
    have e : sgn (psOf kvs (z :: r)) = if decide (z.length = 1) = true then z :: sgn (psOf kvs r) else sgn (psOf kvs r) := by
      unfold sgn psOf
      rw [List.map_cons, List.map_cons, List.filter_cons]
    rw [e, List.filterMap_cons, cs_len, ih]
    cases decide (z.length = 1) <;> rfl
theorem kv_keys (ps : Ps) : (kvOf ps).map (fun kv => kV kv.1) = ps.map fun p => V.str p.1 := by
  unfold kvOf
  rw [List.map_map]
  rfl
theorem kv_vals (ps : Ps) : (kvOf ps).map (·.2) = (fees ps).map V.int := by
  unfold kvOf fees
  rw [List.map_map, List.map_map]
  rfl
/-- Book.__init__ on a right dict -/
def spBook (C : Addr) (K : PySem.W.Frag) : Sp := fun vs H Q _ => ∃ (b dx a : Addr) (kvs : List (Key × V)), vs = [.ref b, .ref a] ∧ H b = some (.ins C dx []) ∧ H a = some (.dK kvs) ∧ KvOk K H kvs ∧ arePrices kvs = true ∧ (kvs.map (·.1)).Nodup ∧
  ∀ H' ys L M d tp ta od, ys.Perm (keyStrs kvs) → sortedS ys = true → BookAt C H' b (psOf kvs ys) L M dx d tp ta od → (∀ c o, H c = some o → c ≠ b → H' c = some o) → Q .non H'
end G
/-! Cheapest prices, in plain Lean: cuts by a tariff, the least fee. -/
namespace G
open PySem PySem.Spec PyProof.Rows L2
abbrev Tf := Str → Option Int
def Cut (F : Tf) (l : List Nat) (c : Ps) : Prop := (∀ p ∈ c, F p.1 = some p.2) ∧ (c.map fun p => cs p.1).flatten = l
def fee (c : Ps) : Int := (c.map (·.2)).sum
def Least (F : Tf) (l : List Nat) (m : Int) : Prop := (∃ c, Cut F l c ∧ fee c = m) ∧ ∀ c, Cut F l c → m ≤ fee c
def Over (F : Tf) (l : List Nat) : Prop := ∀ c ∈ l, ∃ p, F (ch c) = some p
structure Good (F : Tf) : Prop where
  pos : ∀ z p, F z = some p → 1 ≤ p ∧ p ≤ 99
  len : ∀ z p, F z = some p → 1 ≤ (cs z).length ∧ (cs z).length ≤ 5
  cov : ∀ z p, F z = some p → Over F (cs z)
open Classical in
noncomputable def lp (F : Tf) (l : List Nat) : Int := if h : ∃ m, Least F l m then h.choose else 0
section
variable {F F1 F2 : Tf} {l a b : List Nat} {m n : Int} {c d : Ps} {z : Str} {p : Int}
theorem Least.uniq (h : Least F l m) (k : Least F l n) : m = n := by
  obtain ⟨⟨c, hc, rfl⟩, hm⟩ := h
  obtain ⟨⟨d, hd, rfl⟩, hn⟩ := k
  have := hm d hd
  have := hn c hc
  omega
theorem lp_of (h : Least F l m) : lp F l = m := by
  have hx : ∃ m, Least F l m := ⟨m, h⟩
  unfold lp
  rw [dif_pos hx]
  exact hx.choose_spec.uniq h
theorem fee_app : fee (c ++ d) = fee c + fee d := by
  unfold fee
  rw [List.map_append, List.sum_append]
theorem Cut.app (h : Cut F a c) (k : Cut F b d) : Cut F (a ++ b) (c ++ d) := by
  refine ⟨fun p hp => ?_, ?_⟩
  · rcases List.mem_append.mp hp with q | q
    · exact h.1 p q
    · exact k.1 p q
  · rw [List.map_append, List.flatten_append, h.2, k.2]
theorem Cut.one (h : F z = some p) : Cut F (cs z) [(z, p)] := ⟨fun q hq => by rw [List.mem_singleton.mp hq]; exact h, by simp⟩
theorem Cut.nil : Cut F [] [] := ⟨fun _ h => (List.not_mem_nil h).elim, rfl⟩
theorem fee_one : fee [(z, p)] = p := by simp [fee]
theorem fee_nil : fee [] = 0 := rfl
theorem fee_cons {q : Str × Int} : fee (q :: c) = q.2 + fee c := rfl
theorem fee_pos (G : Good F) : ∀ c : Ps, (∀ p ∈ c, F p.1 = some p.2) → 0 ≤ fee c
  | [], _ => Int.le_refl _
  | q :: r, h => by
    have h1 := (G.pos _ _ (h q List.mem_cons_self)).1
    have h2 := fee_pos G r fun p hp => h p (List.mem_cons_of_mem _ hp)
    rw [fee_cons]
    omega
theorem cut_ex (o : Over F l) : ∃ c, Cut F l c := by
  induction l with
  | nil => exact ⟨[], Cut.nil⟩
  | cons x r ih =>
    obtain ⟨c, hc⟩ := ih fun y hy => o y (List.mem_cons_of_mem _ hy)
    obtain ⟨p, hp⟩ := o x List.mem_cons_self
    exact ⟨_, (Cut.one hp).app hc⟩
theorem least_ex (G : Good F) (o : Over F l) : ∃ m, Least F l m := by
  obtain ⟨c0, h0⟩ := cut_ex o
  have go : ∀ n : Nat, ∀ c, Cut F l c → (fee c).toNat = n → ∃ m, Least F l m := by
    intro n
    induction n using Nat.strongRecOn with
    | ind n ih =>
      intro c hc hn
      by_cases hx : ∃ d, Cut F l d ∧ fee d < fee c
      · obtain ⟨d, hd, lt⟩ := hx
        have := fee_pos G d hd.1
        exact ih (fee d).toNat (by omega) d hd rfl
      · refine ⟨fee c, ⟨c, hc, rfl⟩, fun d hd => ?_⟩
        by_cases q : fee c ≤ fee d
        · exact q
        · exact absurd ⟨d, hd, by omega⟩ hx
  exact go _ c0 h0 rfl
theorem lp_least (G : Good F) (o : Over F l) : Least F l (lp F l) := by
  obtain ⟨m, h⟩ := least_ex G o
  rw [lp_of h]
  exact h
theorem lp_nil (G : Good F) : lp F [] = 0 := lp_of ⟨⟨[], Cut.nil, rfl⟩, fun c hc => fee_pos G c hc.1⟩
theorem lp_le (G : Good F) (h : Cut F l c) (o : Over F l) : lp F l ≤ fee c := (lp_least G o).2 c h
theorem lp_cut (G : Good F) (o : Over F l) : ∃ c, Cut F l c ∧ fee c = lp F l := (lp_least G o).1
theorem Over.app (h : Over F a) (k : Over F b) : Over F (a ++ b) := fun c hc => by
  rcases List.mem_append.mp hc with q | q
  · exact h c q
  · exact k c q
theorem Over.left (h : Over F (a ++ b)) : Over F a := fun c hc => h c (List.mem_append_left _ hc)
theorem Over.right (h : Over F (a ++ b)) : Over F b := fun c hc => h c (List.mem_append_right _ hc)
theorem Over.take (h : Over F l) (i : Nat) : Over F (l.take i) := fun c hc => h c (List.mem_of_mem_take hc)
theorem Over.drop (h : Over F l) (i : Nat) : Over F (l.drop i) := fun c hc => h c (List.mem_of_mem_drop hc)
theorem lp_add (G : Good F) (ha : Over F a) (hb : Over F b) : lp F (a ++ b) ≤ lp F a + lp F b := by
  obtain ⟨c, hc, e1⟩ := lp_cut G ha
  obtain ⟨d, hd, e2⟩ := lp_cut G hb
  have := lp_le G (hc.app hd) (ha.app hb)
  rw [fee_app, e1, e2] at this
  exact this
theorem lp_piece (G : Good F) (h : F z = some p) : lp F (cs z) ≤ p := by
  have := lp_le G (Cut.one h) (G.cov z p h)
  rwa [fee_one] at this
theorem lp_app (G : Good F) (ha : Over F a) (h : F z = some p) : lp F (a ++ cs z) ≤ lp F a + p := by
  have h1 := lp_add G ha (G.cov z p h)
  have h2 := lp_piece G h
  omega
/-- the last piece of a cheapest cut -/
theorem lp_last (G : Good F) (o : Over F l) (ne : l ≠ []) : ∃ z p a, F z = some p ∧ l = a ++ cs z ∧ lp F l = lp F a + p := by
  obtain ⟨c, hc, e⟩ := lp_cut G o
  have nc : c ≠ [] := fun q => ne (by rw [← hc.2, q]; rfl)
  obtain ⟨d, q, rfl⟩ : ∃ d q, c = d ++ [q] := ⟨c.dropLast, c.getLast nc, (List.dropLast_concat_getLast nc).symm⟩
  have hq := hc.1 q (List.mem_append_right _ (List.mem_singleton.mpr rfl))
  have hl : l = (d.map fun p => cs p.1).flatten ++ cs q.1 := by
    rw [← hc.2, List.map_append, List.flatten_append]
    simp
  have hd : Cut F (d.map fun p => cs p.1).flatten d := ⟨fun p hp => hc.1 p (List.mem_append_left _ hp), rfl⟩
  have oa : Over F (d.map fun p => cs p.1).flatten := by
    rw [hl] at o
    exact o.left
  refine ⟨q.1, q.2, _, hq, hl, ?_⟩
  have h1 := lp_le G hd oa
  have h2 := lp_app G oa hq
  rw [← hl] at h2
  rw [fee_app] at e
  have h3 : fee [q] = q.2 := fee_one (z := q.1)
  rw [h3] at e
  omega
/-- one step of the row of cheapest prices -/
theorem lp_step (G : Good F) (o : Over F l) (ne : l ≠ []) {ys : List Int} (hin : ∀ y ∈ ys, ∃ z p a, F z = some p ∧ l = a ++ cs z ∧ y = lp F a + p)
    (hall : ∀ z p a, F z = some p → l = a ++ cs z → lp F a + p ∈ ys) (hm : m ∈ ys) (hl : ∀ y ∈ ys, m ≤ y) : m = lp F l := by
  obtain ⟨z, p, a, h1, h2, h3⟩ := lp_last G o ne
  have h4 := hl _ (hall z p a h1 h2)
  obtain ⟨z', p', a', h5, h6, h7⟩ := hin m hm
  have h8 := lp_app G (a := a') (by rw [h6] at o; exact o.left) h5
  rw [← h6] at h8
  omega
/-- dearer on no piece, dearer on no text -/
theorem lp_mono (G1 : Good F1) (G2 : Good F2) (h : ∀ z p, F2 z = some p → Over F1 (cs z) ∧ lp F1 (cs z) ≤ p) (o1 : Over F1 l) (o2 : Over F2 l) : lp F1 l ≤ lp F2 l := by
  obtain ⟨c, hc, e⟩ := lp_cut G2 o2
  rw [← e]
  have go : ∀ (c : Ps) (l : List Nat), Cut F2 l c → Over F1 l → lp F1 l ≤ fee c := by
    intro c
    induction c with
    | nil =>
      intro l hc _
      rw [← hc.2]
      exact Int.le_of_eq (lp_nil G1)
    | cons q r ih =>
      intro l hc ol
      have hl : l = cs q.1 ++ (r.map fun p => cs p.1).flatten := hc.2.symm
      rw [hl] at ol ⊢
      obtain ⟨h1, h2⟩ := h _ _ (hc.1 q List.mem_cons_self)
      have h3 := ih _ ⟨fun p hp => hc.1 p (List.mem_cons_of_mem _ hp), rfl⟩ ol.right
      have h4 := lp_add G1 ol.left ol.right
      rw [fee_cons]
      omega
  exact go c l hc o1
end
/-- the tariff of a dict -/
def tfD (kvs : List (Key × V)) : Tf := fun z => match valV kvs (Sum.inr z) with | some (.int p) => some p | _ => none
theorem tf_some {kvs : List (Key × V)} {z : Str} {p : Int} : tfD kvs z = some p ↔ valV kvs (Sum.inr z) = some (.int p) := by
  unfold tfD
  constructor
  · intro h
    split at h
    · rename_i q e
      rw [e, Option.some.inj h]
    · cases h
  · intro h
    rw [h]
theorem ks_mem {kvs : List (Key × V)} {z : Str} : z ∈ keyStrs kvs ↔ (Sum.inr z : Key) ∈ kvs.map (·.1) := by
  unfold keyStrs
  rw [List.mem_filterMap, List.mem_map]
  constructor
  · rintro ⟨⟨k, v⟩, h1, h2⟩
    cases k with
    | inl i => cases h2
    | inr y =>
      cases h2
      exact ⟨_, h1, rfl⟩
  · rintro ⟨⟨k, v⟩, h1, h2⟩
    dsimp only at h2
    subst h2
    exact ⟨_, h1, rfl⟩
theorem good_of {kvs : List (Key × V)} (av : arePrices kvs = true) : Good (tfD kvs) := by
  obtain ⟨_, al, _, fs⟩ := ap_parts av
  have key : ∀ {z p}, tfD kvs z = some p → z ∈ keyStrs kvs := fun h => ks_mem.mpr (valV_in (tf_some.mp h))
  refine ⟨fun z p h => ?_, fun z p h => ?_, fun z p h c hc => ?_⟩
  · obtain ⟨h1, h2, h3⟩ := price_of_key al (key h)
    rw [tf_some.mp h] at h1
    have : p = priceIn kvs z := V.int.inj (Option.some.inj h1)
    rw [this]
    exact ⟨h2, h3⟩
  · obtain ⟨h1, h2, _⟩ := keyStrs_piece al z (key h)
    exact ⟨h1, h2⟩
  · have h1 := List.all_eq_true.mp fs c (List.mem_flatten.mpr ⟨cs z, List.mem_map.mpr ⟨z, key h, rfl⟩, hc⟩)
    have h2 : (Sum.inr (ch c) : Key) ∈ kvs.map (·.1) := by
      cases e : valV kvs (Sum.inr (ch c)) with
      | none =>
        rw [e] at h1
        cases h1
      | some v => exact valV_in e
    exact ⟨_, tf_some.mpr (price_of_key al (ks_mem.mpr h2)).1⟩

theorem valV_mem {kvs : List (Key × V)} {k : Key} {v : V} (h : valV kvs k = some v) : (k, v) ∈ kvs := by
  unfold valV at h
  cases e : kvs.find? (fun kv => decide (kv.1 = k)) with
  | none =>
    rw [e] at h
    cases h
  | some kv =>
    rw [e] at h
    have h1 : kv.2 = v := Option.some.inj h
    have h2 : kv.1 = k := by simpa using List.find?_some e
    have h3 := List.mem_of_find?_eq_some e
    rw [← h1, ← h2]
    exact h3
/-- a dict of texts and prices -/
structure Tar (kvs : List (Key × V)) : Prop where
  good : Good (tfD kvs)
  mem : ∀ kv ∈ kvs, ∃ z p, kv = (Sum.inr z, V.int p) ∧ tfD kvs z = some p
  len : kvs.length ≤ 1000
theorem tar_of {kvs : List (Key × V)} (av : arePrices kvs = true) (nd : (kvs.map (·.1)).Nodup) : Tar kvs := by
  obtain ⟨⟨n1, n2⟩, al, _, fs⟩ := ap_parts av
  refine ⟨good_of av, fun kv hkv => ?_, by omega⟩
  have h1 := List.all_eq_true.mp al kv hkv
  rw [Bool.and_eq_true] at h1
  obtain ⟨z, ez, _⟩ := piece_key h1.1
  have h3 := val_nodup nd kv hkv
  rw [ez] at h3
  have hz : z ∈ keyStrs kvs := ks_mem.mpr (List.mem_map.mpr ⟨kv, hkv, ez⟩)
  obtain ⟨h4, _⟩ := price_of_key al hz
  rw [h4] at h3
  refine ⟨z, priceIn kvs z, ?_, tf_some.mpr h4⟩
  rw [Option.some.inj h3, ← ez]
theorem val_fun {g : Str → Int} : ∀ {ys : List Str} {z : Str}, valV (ys.map fun y => ((Sum.inr y : Key), V.int (g y))) (Sum.inr z) = if z ∈ ys then some (.int (g z)) else none
  | [], z => by
    rw [if_neg (List.not_mem_nil)]
    rfl
  | y :: r, z => by
    by_cases h : y = z
    · subst h
      rw [if_pos List.mem_cons_self, List.map_cons, valV_pos rfl]
    · rw [List.map_cons, valV_neg (fun e => h (Sum.inr.inj e)), val_fun]
      by_cases q : z ∈ r
      · rw [if_pos q, if_pos (List.mem_cons_of_mem _ q)]
      · rw [if_neg q, if_neg fun m => ?_]
        rcases List.mem_cons.mp m with e | e
        · exact h e.symm
        · exact q e
theorem kvOf_ps {kvs : List (Key × V)} {ys : List Str} : kvOf (psOf kvs ys) = ys.map fun y => ((Sum.inr y : Key), V.int (priceIn kvs y)) := by
  unfold kvOf psOf
  rw [List.map_map]
  rfl
theorem tf_psOf {kvs : List (Key × V)} {ys : List Str} (al : (kvs.all fun kv => isPiece (kV kv.1) && isPrice kv.2) = true) (pm : ys.Perm (keyStrs kvs)) : tfD (kvOf (psOf kvs ys)) = tfD kvs := by
  funext z
  unfold tfD
  rw [kvOf_ps, val_fun]
  by_cases h : z ∈ ys
  · rw [if_pos h, (price_of_key al (pm.mem_iff.mp h)).1]
  · rw [if_neg h, valV_none fun m => h (pm.mem_iff.mpr (ks_mem.mpr m))]
theorem tar_book {kvs : List (Key × V)} {ys : List Str} (av : arePrices kvs = true) (pm : ys.Perm (keyStrs kvs)) : Tar (kvOf (psOf kvs ys)) := by
  obtain ⟨⟨n1, n2⟩, al, _, fs⟩ := ap_parts av
  have e := tf_psOf al pm
  refine ⟨by rw [e]; exact good_of av, fun kv hkv => ?_, ?_⟩
  · rw [kvOf_ps] at hkv
    obtain ⟨y, hy, rfl⟩ := List.mem_map.mp hkv
    refine ⟨y, _, rfl, ?_⟩
    rw [e]
    exact tf_some.mpr (price_of_key al (pm.mem_iff.mp hy)).1
  · have h := congrArg List.length (keys_of al)
    rw [List.length_map, List.length_map] at h
    rw [kvOf_ps, List.length_map, pm.length_eq]
    omega
/-- a book as Book(prices) made it -/
structure Book1 (C : Addr) (H : Hp) (b : Addr) (kvs : List (Key × V)) : Prop where
  av : arePrices kvs = true
  nd : (kvs.map (·.1)).Nodup
  ex : ∃ ys L M dx d tp ta od, ys.Perm (keyStrs kvs) ∧ sortedS ys = true ∧ BookAt C H b (psOf kvs ys) L M dx d tp ta od
theorem Book1.same {C : Addr} {H H' : Hp} {b : Addr} {kvs : List (Key × V)} (B : Book1 C H b kvs) (s : Same H H') : Book1 C H' b kvs := by
  obtain ⟨ys, L, M, dx, d, tp, ta, od, h1, h2, h3⟩ := B.ex
  exact ⟨B.av, B.nd, ys, L, M, dx, d, tp, ta, od, h1, h2, h3.same s⟩
theorem kvOk_of {K : PySem.W.Frag} {H : Hp} {kvs : List (Key × V)} (al : (kvs.all fun kv => isPiece (kV kv.1) && isPrice kv.2) = true) : KvOk K H kvs := by
  intro kv hkv
  have h1 := List.all_eq_true.mp al kv hkv
  rw [Bool.and_eq_true] at h1
  obtain ⟨z, ez, _, h2, _⟩ := piece_key h1.1
  constructor
  · rw [ez]
    show z.length ≤ 100000
    rw [← cs_len]
    omega
  · have h3 := h1.2
    generalize kv.2 = v at h3
    cases v with
    | int p => exact tydS_int p
    | _ => cases h3
/-- Book(prices), as pe_mk asks -/
theorem made_book {C a x dx : Addr} {K : PySem.W.Frag} {H : Hp} {kvs : List (Key × V)} {Q : VK} {E : XK} (hx : H x = none) (hdx : H dx = none) (ha : H a = some (.dK kvs)) (av : arePrices kvs = true) (nd : (kvs.map (·.1)).Nodup) (q : ∀ H', Same H H' → Book1 C H' x kvs → Q .non H') :
    spBook C K (.ref x :: ([.ref a] ++ [])) (upd (upd H dx (.own x)) x (.ins C dx [])) Q E := by
  refine ⟨x, dx, a, kvs, rfl, upd_same, ?_, kvOk_of (ap_parts av).2.1, av, nd, ?_⟩
  · rw [upd_ne (ne_of_none ha hx), upd_ne (ne_of_none ha hdx)]
    exact ha
  · intro H' ys L M d tp ta od pm so B k
    refine q H' (fun c o e => k c o ?_ (ne_of_none e hx)) ⟨av, nd, ys, L, M, dx, d, tp, ta, od, pm, so, B⟩
    rw [upd_ne (ne_of_none e hx), upd_ne (ne_of_none e hdx)]
    exact e
/-! ### ends of texts -/
theorem ends_iff {x y : Str} : Txt.endswith x y = true ↔ ∃ a, cs x = a ++ cs y := by
  have l1 := cs_len x
  have l2 := cs_len y
  unfold Txt.endswith
  rw [StrLaws.subAt_eq, Nat.zero_add, Bool.and_eq_true, decide_eq_true_eq, beq_iff_eq]
  constructor
  · rintro ⟨h1, h2⟩
    refine ⟨(cs x).take (x.length - y.length), ?_⟩
    have h3 : ((cs x).drop (x.length - y.length)).take y.length = (cs x).drop (x.length - y.length) := List.take_of_length_le (by rw [List.length_drop]; omega)
    have h4 : (cs x).drop (x.length - y.length) = cs y := h3.symm.trans h2
    rw [← h4, List.take_append_drop]
  · rintro ⟨a, h⟩
    have h0 := congrArg List.length h
    rw [List.length_append] at h0
    refine ⟨by omega, ?_⟩
    show ((cs x).drop (x.length - y.length)).take y.length = cs y
    have e : x.length - y.length = a.length := by omega
    rw [h, e, List.drop_left, List.take_of_length_le (by omega)]
/-! ### rows of cheapest prices -/
noncomputable def rowV (F : Tf) (l : List Nat) (n : Nat) : List V := (List.range n).map fun j => V.int (lp F (l.take j))
theorem rowV_len {F : Tf} {l : List Nat} {n : Nat} : (rowV F l n).length = n := by
  unfold rowV
  rw [List.length_map, List.length_range]
theorem rowV_at {F : Tf} {l : List Nat} {n j : Nat} (h : j < n) : (rowV F l n)[j]? = some (.int (lp F (l.take j))) := by
  unfold rowV
  rw [List.getElem?_map, List.getElem?_range h]
  rfl
theorem rowV_succ {F : Tf} {l : List Nat} {n : Nat} : rowV F l (n + 1) = rowV F l n ++ [.int (lp F (l.take n))] := by
  unfold rowV
  rw [List.range_succ, List.map_append]
  rfl
theorem rowV_one {F : Tf} {l : List Nat} (G : Good F) : rowV F l 1 = [.int 0] := by
  show [V.int (lp F (l.take 0))] = _
  rw [List.take_zero, lp_nil G]
theorem atI_last {α : Type} {xs : List α} {v : α} : atI (xs ++ [v]) (-1) = some v := by
  have e : ixN (xs ++ [v]).length (-1) = some xs.length := by
    rw [List.length_append, List.length_singleton]
    unfold ixN
    rw [if_neg (by omega), if_pos (by omega)]
    congr 1
    omega
  unfold atI
  rw [e]
  show (xs ++ [v])[xs.length]? = some v
  simp
noncomputable def candG (F : Tf) (l : List Nat) (e : Nat) (st : Str) : Key × V → Option Int := fun kv => match kv with
  | (.inr y, .int p) => if Txt.endswith st y = true then some (lp F (l.take (e - y.length)) + p) else none
  | _ => none
theorem cand_min {kvs : List (Key × V)} {l : List Nat} {e : Nat} {st : Str} (T : Tar kvs) (ov : Over (tfD kvs) l) (hst : cs st = l.take e) (he : 1 ≤ e) (hel : e ≤ l.length) :
    0 < (kvs.filterMap (candG (tfD kvs) l e st)).length ∧ ∀ m ∈ kvs.filterMap (candG (tfD kvs) l e st), (∀ y ∈ kvs.filterMap (candG (tfD kvs) l e st), m ≤ y) → m = lp (tfD kvs) (l.take e) := by
  have le : (l.take e).length = e := by
    rw [List.length_take]
    omega
  have ne : l.take e ≠ [] := fun q => by
    rw [q] at le
    simp at le
    omega
  have ove : Over (tfD kvs) (l.take e) := ov.take e
  have part : ∀ {a : List Nat} {y : Str}, l.take e = a ++ cs y → a = l.take (e - y.length) := by
    intro a y h
    have h1 := congrArg List.length h
    rw [List.length_append, le, cs_len] at h1
    have h2 : (l.take e).take (e - y.length) = a := by
      rw [h, List.take_append_of_le_length (by omega), List.take_of_length_le (by omega)]
    rw [← h2, List.take_take]
    congr 1
    omega
  have hin : ∀ y ∈ kvs.filterMap (candG (tfD kvs) l e st), ∃ z p a, tfD kvs z = some p ∧ l.take e = a ++ cs z ∧ y = lp (tfD kvs) a + p := by
    intro y hy
    obtain ⟨kv, hkv, g⟩ := List.mem_filterMap.mp hy
    obtain ⟨z, p, rfl, hp⟩ := T.mem kv hkv
    have g' : (if Txt.endswith st z = true then some (lp (tfD kvs) (l.take (e - z.length)) + p) else none) = some y := g
    by_cases q : Txt.endswith st z = true
    · rw [if_pos q] at g'
      obtain ⟨a, ha⟩ := ends_iff.mp q
      rw [hst] at ha
      refine ⟨z, p, a, hp, ha, ?_⟩
      rw [part ha]
      exact (Option.some.inj g').symm
    · rw [if_neg q] at g'
      cases g'
  have hall : ∀ z p a, tfD kvs z = some p → l.take e = a ++ cs z → lp (tfD kvs) a + p ∈ kvs.filterMap (candG (tfD kvs) l e st) := by
    intro z p a hp ha
    refine List.mem_filterMap.mpr ⟨(Sum.inr z, V.int p), valV_mem (tf_some.mp hp), ?_⟩
    show (if Txt.endswith st z = true then some (lp (tfD kvs) (l.take (e - z.length)) + p) else none) = _
    rw [if_pos (ends_iff.mpr ⟨a, by rw [hst]; exact ha⟩), ← part ha]
  constructor
  · obtain ⟨z, p, a, h1, h2, _⟩ := lp_last T.good ove ne
    exact List.length_pos_of_mem (hall z p a h1 h2)
  · intro m hm hl
    exact lp_step T.good ove ne hin hall hm hl
theorem fm_int {α : Type} {g : α → Option Int} {l : List α} : l.filterMap (fun a => (g a).map V.int) = (l.filterMap g).map V.int := by
  rw [List.map_filterMap]
theorem same_mut {H H' : Hp} {a : Addr} {o : HO} (s : Same H H') (h : H a = none) : Same H (upd H' a o) := fun b u e => by
  rw [upd_ne (ne_of_none e h)]
  exact s _ _ e
theorem cs_cutTo {z : Str} {i : Nat} (h : i ≤ z.length) : cs (cutS z none (some (i : Int))) = (cs z).take i := by
  rw [cs_cut, sIx_pos (by omega)]
  show ((cs z).drop 0).take (min (Int.toNat (i : Int)) z.length - 0) = _
  rw [List.drop_zero, Int.toNat_natCast]
  congr 1
  omega
noncomputable def costF (F : Tf) (l : List Nat) (s : Nat) : Option Int := (F (sOf (l.drop s))).map fun p => lp F (l.take s) + p
noncomputable def costs (F : Tf) (l : List Nat) : List Int := (List.range (l.length - (l.length - 5))).filterMap fun i => costF F l (l.length - 5 + i)
theorem cost_min {F : Tf} {l : List Nat} (G : Good F) (o : Over F l) (ne : l ≠ []) : 0 < (costs F l).length ∧ ∀ m ∈ costs F l, (∀ y ∈ costs F l, m ≤ y) → m = lp F l := by
  have hin : ∀ y ∈ costs F l, ∃ z p a, F z = some p ∧ l = a ++ cs z ∧ y = lp F a + p := by
    intro y hy
    obtain ⟨i, hi, g⟩ := List.mem_filterMap.mp hy
    have g' : (F (sOf (l.drop (l.length - 5 + i)))).map (fun p => lp F (l.take (l.length - 5 + i)) + p) = some y := g
    cases e : F (sOf (l.drop (l.length - 5 + i))) with
    | none =>
      rw [e] at g'
      cases g'
    | some p =>
      rw [e] at g'
      exact ⟨_, p, l.take (l.length - 5 + i), e, by rw [cs_sOf, List.take_append_drop], (Option.some.inj g').symm⟩
  have hall : ∀ z p a, F z = some p → l = a ++ cs z → lp F a + p ∈ costs F l := by
    intro z p a hp ha
    obtain ⟨n1, n2⟩ := G.len z p hp
    have hl := congrArg List.length ha
    rw [List.length_append] at hl
    have e1 : l.length - 5 + (a.length - (l.length - 5)) = a.length := by omega
    refine List.mem_filterMap.mpr ⟨a.length - (l.length - 5), List.mem_range.mpr (by omega), ?_⟩
    show costF F l (l.length - 5 + (a.length - (l.length - 5))) = _
    rw [e1]
    unfold costF
    have e2 : l.drop a.length = cs z := by rw [ha, List.drop_left]
    have e3 : l.take a.length = a := by rw [ha, List.take_left]
    rw [e2, e3, sOf_cs, hp]
    rfl
  constructor
  · obtain ⟨z, p, a, h1, h2, _⟩ := lp_last G o ne
    exact List.length_pos_of_mem (hall z p a h1 h2)
  · intro m hm hl
    exact lp_step G o ne hin hall hm hl
theorem tar_val {kvs : List (Key × V)} (T : Tar kvs) (z : Str) : valV kvs (Sum.inr z) = (tfD kvs z).map V.int := by
  cases e : valV kvs (Sum.inr z : Key) with
  | none =>
    unfold tfD
    rw [e]
    rfl
  | some v =>
    obtain ⟨y, p, e1, e2⟩ := T.mem _ (valV_mem e)
    have e3 : z = y := Sum.inr.inj (congrArg Prod.fst e1)
    subst e3
    rw [e2]
    have e4 : v = V.int p := congrArg Prod.snd e1
    rw [e4]
    rfl
theorem cs_cutAB {z : Str} {a b : Nat} (hab : a ≤ b) (hb : b ≤ z.length) : cs (cutS z (some (a : Int)) (some (b : Int))) = ((cs z).take b).drop a := by
  have e1 : min a z.length = a := by omega
  have e2 : min b z.length = b := by omega
  rw [cs_cut, sIx_pos (by omega), sIx_pos (by omega), Int.toNat_natCast, Int.toNat_natCast, List.drop_take, e1, e2]
theorem cs_cutFrom {z : Str} {a : Nat} (h : a ≤ z.length) : cs (cutS z (some (a : Int)) none) = (cs z).drop a := by
  rw [cs_cut, sIx_pos (by omega), Int.toNat_natCast]
  have e : min a z.length = a := by omega
  rw [e]
  show ((cs z).drop a).take (z.length - a) = _
  exact List.take_of_length_le (by rw [List.length_drop, cs_len]; omega)
theorem max0 (n : Nat) : (if (n : Int) - 5 > 0 then (n : Int) - 5 else 0) = ((n - 5 : Nat) : Int) := by split <;> omega
/-- _law_least, of a dict that is locked or not -/
def spLawLeast : Sp := fun vs H Q _ => ∃ d kvs z, vs = [.ref d, .str z] ∧ Rd H d (.dK kvs) ∧ Tar kvs ∧ Over (tfD kvs) (cs z) ∧ z.length ≤ 10000 ∧ ∀ H', Same H H' → Q (.int (lp (tfD kvs) (cs z))) H'
theorem fm_range_succ {α : Type} {g : Nat → Option α} {j : Nat} : (List.range (j + 1)).filterMap g = (List.range j).filterMap g ++ (g j).toList := by
  rw [List.range_succ, List.filterMap_append]
  congr 1
theorem rd_same {H H' : Hp} {d : Addr} {u : HO} (r : Rd H d u) (s : Same H H') : Rd H' d u := by
  rcases r with h | ⟨od, h⟩
  · exact .inl (s _ _ h)
  · exact .inr ⟨od, s _ _ h⟩
/-! ### tables of cheapest prices -/
structure TblOk (F : Tf) (S : Str → Prop) (kf : List (Key × V)) : Prop where
  val : ∀ z, S z → valV kf (Sum.inr z) = some (.int (lp F (cs z)))
  key : ∀ kv ∈ kf, ∃ z, kv.1 = Sum.inr z ∧ S z
theorem TblOk.congr {F : Tf} {S S' : Str → Prop} {kf : List (Key × V)} (T : TblOk F S kf) (h : ∀ z, S z ↔ S' z) : TblOk F S' kf :=
  ⟨fun z hz => T.val z ((h z).mpr hz), fun kv hkv => (T.key kv hkv).imp fun z q => ⟨q.1, (h z).mp q.2⟩⟩
theorem put_mem {kvs : List (Key × V)} {k : Key} {v : V} {kv : Key × V} (h : kv ∈ putK kvs k v) : kv.1 = k ∨ kv ∈ kvs := by
  unfold putK at h
  by_cases q : (kvs.any fun kv => decide (kv.1 = k)) = true
  · rw [if_pos q] at h
    obtain ⟨x, hx, rfl⟩ := List.mem_map.mp h
    by_cases e : x.1 = k
    · rw [if_pos e]
      exact Or.inl e
    · rw [if_neg e]
      exact Or.inr hx
  · rw [if_neg q] at h
    rcases List.mem_append.mp h with h | h
    · exact Or.inr h
    · rw [List.mem_singleton.mp h]
      exact Or.inl rfl
theorem put_len {kvs : List (Key × V)} {k : Key} {v : V} : (putK kvs k v).length ≤ kvs.length + 1 := by
  unfold putK
  split
  · rw [List.length_map]
    omega
  · rw [List.length_append]
    exact Nat.le_refl _
theorem TblOk.put {F : Tf} {S : Str → Prop} {kf : List (Key × V)} (T : TblOk F S kf) (y : Str) : TblOk F (fun z => S z ∨ z = y) (putK kf (Sum.inr y) (.int (lp F (cs y)))) := by
  refine ⟨fun z hz => ?_, fun kv hkv => ?_⟩
  · rw [valV_put]
    by_cases e : z = y
    · subst e
      rw [if_pos rfl]
    · rw [if_neg fun q => e (Sum.inr.inj q)]
      exact T.val z (hz.resolve_right e)
  · rcases put_mem hkv with h | h
    · exact ⟨y, h, Or.inr rfl⟩
    · obtain ⟨z, h1, h2⟩ := T.key kv h
      exact ⟨z, h1, Or.inl h2⟩
def tv (t : List Nat) : V := .str (sOf t)
def grow (sg : List Nat) (ts : List (List Nat)) : List (List Nat) := ts.flatMap fun t => sg.map fun c => t ++ [c]
def layerL (sg : List Nat) : Nat → List (List Nat)
  | 0 => [[]]
  | n + 1 => grow sg (layerL sg n)
theorem grow_len {sg : List Nat} : ∀ {ts : List (List Nat)}, (grow sg ts).length = ts.length * sg.length
  | [] => by simp [grow]
  | t :: r => by
    have ih := grow_len (sg := sg) (ts := r)
    unfold grow at ih ⊢
    rw [List.flatMap_cons, List.length_append, ih, List.length_map, List.length_cons, Nat.add_mul]
    omega
theorem layer_len {sg : List Nat} (n : Nat) : (layerL sg n).length = sg.length ^ n := by
  induction n with
  | zero => rfl
  | succ n ih => rw [layerL, grow_len, ih, Nat.pow_succ]
theorem layer_le {sg : List Nat} {n : Nat} (h4 : sg.length ≤ 4) (h8 : n ≤ 8) : (layerL sg n).length ≤ 65536 := by
  rw [layer_len]
  calc sg.length ^ n ≤ 4 ^ n := Nat.pow_le_pow_left h4 n
    _ ≤ 4 ^ 8 := Nat.pow_le_pow_right (by decide) h8
    _ = 65536 := by decide
theorem layer_mem {sg : List Nat} : ∀ {n : Nat} {t : List Nat}, t ∈ layerL sg n ↔ t.length = n ∧ ∀ c ∈ t, c ∈ sg
  | 0, t => by
    show t ∈ [[]] ↔ _
    rw [List.mem_singleton]
    constructor
    · rintro rfl
      exact ⟨rfl, fun _ h => (List.not_mem_nil h).elim⟩
    · rintro ⟨h, _⟩
      exact List.eq_nil_of_length_eq_zero h
  | n + 1, t => by
    show t ∈ grow sg (layerL sg n) ↔ _
    unfold grow
    rw [List.mem_flatMap]
    constructor
    · rintro ⟨u, hu, h⟩
      obtain ⟨c, hc, rfl⟩ := List.mem_map.mp h
      obtain ⟨h1, h2⟩ := layer_mem.mp hu
      refine ⟨by rw [List.length_append, h1]; rfl, fun d hd => ?_⟩
      rcases List.mem_append.mp hd with q | q
      · exact h2 d q
      · rw [List.mem_singleton.mp q]
        exact hc
    · rintro ⟨h1, h2⟩
      have ne : t ≠ [] := fun e => by
        rw [e] at h1
        cases h1
      refine ⟨t.dropLast, layer_mem.mpr ⟨by rw [List.length_dropLast, h1]; rfl, fun c hc => h2 c (List.dropLast_subset t hc)⟩, List.mem_map.mpr ⟨t.getLast ne, h2 _ (List.getLast_mem ne), List.dropLast_concat_getLast ne⟩⟩
def InAll (sg : List Nat) (n : Nat) (z : Str) : Prop := (cs z).length ≤ n ∧ ∀ c ∈ cs z, c ∈ sg
theorem inAll_zero {F : Tf} {sg : List Nat} (G : Good F) : TblOk F (InAll sg 0) [(Sum.inr (sOf []), .int 0)] := by
  refine ⟨fun z hz => ?_, fun kv hkv => ?_⟩
  · have e : z = sOf [] := str_ext (List.eq_nil_of_length_eq_zero (Nat.le_zero.mp hz.1))
    rw [e, valV_pos rfl, cs_sOf, lp_nil G]
  · rw [List.mem_singleton.mp hkv]
    exact ⟨_, rfl, Nat.le_refl _, fun c h => (List.not_mem_nil (a := c) h).elim⟩
theorem inAll_succ {sg : List Nat} {n : Nat} {z : Str} : InAll sg n z ∨ z ∈ (layerL sg (n + 1)).map sOf ↔ InAll sg (n + 1) z := by
  constructor
  · rintro (⟨h1, h2⟩ | h)
    · exact ⟨by omega, h2⟩
    · obtain ⟨t, ht, rfl⟩ := List.mem_map.mp h
      obtain ⟨h1, h2⟩ := layer_mem.mp ht
      exact ⟨by rw [cs_sOf]; omega, by rw [cs_sOf]; exact h2⟩
  · rintro ⟨h1, h2⟩
    rcases Nat.lt_or_ge n (cs z).length with h | h
    · exact Or.inr (List.mem_map.mpr ⟨cs z, layer_mem.mpr ⟨by omega, h2⟩, sOf_cs z⟩)
    · exact Or.inl ⟨h, h2⟩
theorem grow_take {sg : List Nat} {ts : List (List Nat)} {j : Nat} {t : List Nat} (h : ts[j]? = some t) : grow sg (ts.take (j + 1)) = grow sg (ts.take j) ++ sg.map fun c => t ++ [c] := by
  rw [List.take_add_one, h]
  unfold grow
  rw [List.flatMap_append]
  simp
theorem emp : Str.ofString "" = sOf [] := str_ext (by rfl)
theorem tv_at {ts : List (List Nat)} {j : Nat} {x : V} (h : (ts.map tv)[j]? = some x) : ∃ t, ts[j]? = some t ∧ x = tv t := by
  rw [List.getElem?_map] at h
  cases e : ts[j]? with
  | none =>
    rw [e] at h
    cases h
  | some t =>
    rw [e] at h
    exact ⟨t, rfl, (Option.some.inj h).symm⟩
theorem tv_app (t : List Nat) (c : Nat) : V.str (sOf t ++ ch c) = tv (t ++ [c]) := by
  unfold tv
  congr 1
  exact str_ext (by rw [cs_app, cs_sOf, cs_sOf])
theorem tbl_take {F : Tf} {S : Str → Prop} {kf : List (Key × V)} {ts : List (List Nat)} {j : Nat} {t : List Nat} (h : ts[j]? = some t) (T : TblOk F (fun z => S z ∨ z ∈ (ts.take j).map sOf) kf) :
    TblOk F (fun z => S z ∨ z ∈ (ts.take (j + 1)).map sOf) (putK kf (Sum.inr (sOf t)) (.int (lp F t))) := by
  have h1 := T.put (sOf t)
  rw [cs_sOf] at h1
  refine h1.congr fun z => ?_
  rw [List.take_add_one, h, List.map_append, List.mem_append]
  show (S z ∨ _) ∨ z = sOf t ↔ S z ∨ _ ∨ z ∈ [sOf t]
  rw [List.mem_singleton, or_assoc]
/-- _law_all -/
def spAll (K : PySem.W.Frag) : Sp := fun vs H Q _ => ∃ d kvs sa sg n, vs = [.ref d, .ref sa, .int ((n : Nat) : Int)] ∧ H d = some (.dK kvs) ∧ Tar kvs ∧ SqL K H sa (sg.map chV) ∧ (∀ c ∈ sg, ∃ p, tfD kvs (ch c) = some p) ∧ sg.length ≤ 4 ∧ n ≤ 8 ∧
  ∀ fo kf H', H fo = none → H' fo = some (.dK kf) → TblOk (tfD kvs) (InAll sg n) kf → kf.length ≤ 600000 → Same H H' → Q (.ref fo) H'
/-! ### dicts of prices while they are made -/
theorem keys_nd' {kvs : List (Key × V)} (nd : (kvs.map (·.1)).Nodup) (al : (kvs.all fun kv => isPiece (kV kv.1) && isPrice kv.2) = true) : (keyStrs kvs).Nodup := by
  rw [keys_of al] at nd
  exact nd_of_map nd
structure PrOk (sg : List Nat) (kvs : List (Key × V)) : Prop where
  mem : ∀ kv ∈ kvs, ∃ z p, kv = (Sum.inr z, V.int p) ∧ (1 ≤ (cs z).length ∧ (cs z).length ≤ 5) ∧ (∀ c ∈ cs z, c ∈ sg) ∧ 1 ≤ p ∧ p ≤ 99
  nd : (kvs.map (·.1)).Nodup
theorem PrOk.nil {sg : List Nat} : PrOk sg [] := ⟨fun _ h => (List.not_mem_nil h).elim, List.nodup_nil⟩
theorem put_keys {kvs : List (Key × V)} {k : Key} {v : V} : (putK kvs k v).map (·.1) = if (valV kvs k).isSome = true then kvs.map (·.1) else kvs.map (·.1) ++ [k] := by
  unfold putK
  rw [valV_any]
  split
  · rw [List.map_map]
    refine List.map_congr_left fun kv _ => ?_
    show (if kv.1 = k then (kv.1, v) else kv).1 = kv.1
    split <;> rfl
  · rw [List.map_append]
    rfl
theorem put_val_mem {kvs : List (Key × V)} {k : Key} {v : V} {kv : Key × V} (h : kv ∈ putK kvs k v) : kv = (k, v) ∨ kv ∈ kvs := by
  unfold putK at h
  by_cases q : (kvs.any fun kv => decide (kv.1 = k)) = true
  · rw [if_pos q] at h
    obtain ⟨x, hx, rfl⟩ := List.mem_map.mp h
    by_cases e : x.1 = k
    · rw [if_pos e, e]
      exact Or.inl rfl
    · rw [if_neg e]
      exact Or.inr hx
  · rw [if_neg q] at h
    rcases List.mem_append.mp h with h | h
    · exact Or.inr h
    · exact Or.inl (List.mem_singleton.mp h)
theorem PrOk.put {sg : List Nat} {kvs : List (Key × V)} (P : PrOk sg kvs) {z : Str} {p : Int} (h1 : 1 ≤ (cs z).length ∧ (cs z).length ≤ 5) (h2 : ∀ c ∈ cs z, c ∈ sg) (h3 : 1 ≤ p ∧ p ≤ 99) : PrOk sg (putK kvs (Sum.inr z) (.int p)) := by
  refine ⟨fun kv hkv => ?_, ?_⟩
  · rcases put_val_mem hkv with h | h
    · exact ⟨z, p, h, h1, h2, h3⟩
    · exact P.mem kv h
  · rw [put_keys]
    split
    · exact P.nd
    · rename_i q
      refine List.nodup_append.mpr ⟨P.nd, by simp, fun a ha b hb e => ?_⟩
      rw [List.mem_singleton.mp hb] at e
      rw [e] at ha
      refine q ?_
      cases e2 : valV kvs (Sum.inr z : Key) with
      | none => exact absurd ha (valV_not e2)
      | some v => rfl
theorem PrOk.merge {sg : List Nat} : ∀ {more kvs : List (Key × V)}, PrOk sg kvs → (∀ kv ∈ more, ∃ z p, kv = (Sum.inr z, V.int p) ∧ (1 ≤ (cs z).length ∧ (cs z).length ≤ 5) ∧ (∀ c ∈ cs z, c ∈ sg) ∧ 1 ≤ p ∧ p ≤ 99) →
    PrOk sg (mergeK kvs more) ∧ (mergeK kvs more).length ≤ kvs.length + more.length
  | [], kvs, P, _ => ⟨P, Nat.le_refl _⟩
  | a :: r, kvs, P, h => by
    obtain ⟨z, p, rfl, h1, h2, h3⟩ := h a List.mem_cons_self
    obtain ⟨q1, q2⟩ := PrOk.merge (more := r) (P.put h1 h2 h3) fun kv hkv => h kv (List.mem_cons_of_mem _ hkv)
    refine ⟨q1, Nat.le_trans q2 ?_⟩
    have := put_len (kvs := kvs) (k := Sum.inr z) (v := .int p)
    rw [List.length_cons]
    omega
theorem merge_has {k : Key} : ∀ {more kvs : List (Key × V)}, (k ∈ more.map (·.1) ∨ (valV kvs k).isSome = true) → (valV (mergeK kvs more) k).isSome = true
  | [], kvs, h => by
    rcases h with h | h
    · simp at h
    · exact h
  | a :: r, kvs, h => by
    refine merge_has (more := r) (kvs := putK kvs a.1 a.2) ?_
    rw [valV_put]
    by_cases e : k = a.1
    · exact Or.inr (by rw [if_pos e]; rfl)
    · rw [if_neg e]
      rcases h with h | h
      · rcases List.mem_cons.mp h with h | h
        · exact absurd h e
        · exact Or.inl h
      · exact Or.inr h
theorem nd_sub_len {α : Type} [BEq α] [LawfulBEq α] : ∀ {l1 l2 : List α}, l1.Nodup → (∀ a ∈ l1, a ∈ l2) → l1.length ≤ l2.length
  | [], _, _, _ => Nat.zero_le _
  | a :: r, l2, nd, h => by
    obtain ⟨h1, h2⟩ := List.nodup_cons.mp nd
    have h3 := nd_sub_len (l1 := r) (l2 := l2.erase a) h2 fun b hb => by
      have nb : b ≠ a := fun e => h1 (e ▸ hb)
      exact (List.mem_erase_of_ne nb).mpr (h b (List.mem_cons_of_mem _ hb))
    have h4 := h a List.mem_cons_self
    rw [List.length_erase_of_mem h4] at h3
    have := List.length_pos_of_mem h4
    rw [List.length_cons]
    omega
theorem PrOk.tf {sg : List Nat} {kvs : List (Key × V)} (P : PrOk sg kvs) {z : Str} : z ∈ keyStrs kvs ↔ ∃ p, tfD kvs z = some p := by
  rw [ks_mem]
  constructor
  · intro h
    obtain ⟨kv, hkv, e⟩ := List.mem_map.mp h
    obtain ⟨y, p, rfl, _⟩ := P.mem kv hkv
    have h2 := val_nodup P.nd _ hkv
    dsimp only at e h2
    cases e
    exact ⟨p, tf_some.mpr h2⟩
  · rintro ⟨p, h⟩
    exact valV_in (tf_some.mp h)
/-- a dict of prices over the signs sg, all of them in it -/
theorem PrOk.right {sg : List Nat} {kvs : List (Key × V)} (P : PrOk sg kvs) (hs : ∀ c ∈ sg, (valV kvs (Sum.inr (ch c))).isSome = true) (hl : ∀ c ∈ sg, lett c = true) (n4 : sg.length ≤ 4) (n0 : 1 ≤ sg.length) (n12 : kvs.length ≤ 12) :
    arePrices kvs = true ∧ ∀ c, (∃ p, tfD kvs (ch c) = some p) ↔ c ∈ sg := by
  have al : (kvs.all fun kv => isPiece (kV kv.1) && isPrice kv.2) = true := by
    rw [List.all_eq_true]
    intro kv hkv
    obtain ⟨z, p, rfl, h1, h2, h3⟩ := P.mem kv hkv
    rw [Bool.and_eq_true]
    refine ⟨?_, ?_⟩
    · show isPiece (.str z) = true
      rw [isPiece_of fun c hc => hl c (h2 c hc), decide_eq_true h1.1, decide_eq_true h1.2]
      rfl
    · show (decide (p.natAbs < 10 ^ 60) && (decide (1 ≤ p) && decide (p ≤ 99))) = true
      rw [decide_eq_true (by omega : p.natAbs < 10 ^ 60), decide_eq_true h3.1, decide_eq_true h3.2]
      rfl
  have key : ∀ {z}, z ∈ keyStrs kvs → (∀ c ∈ cs z, c ∈ sg) := by
    intro z hz
    obtain ⟨kv, hkv, e⟩ := List.mem_map.mp (ks_mem.mp hz)
    obtain ⟨y, p, rfl, _, h2, _⟩ := P.mem kv hkv
    dsimp only at e
    cases e
    exact h2
  refine ⟨?_, fun c => ⟨fun ⟨p, h⟩ => key (ks_mem.mpr (valV_in (tf_some.mp h))) c (by simp [cs]), fun h => ?_⟩⟩
  · unfold arePrices
    have e1 : 1 ≤ kvs.length := by
      cases sg with
      | nil => simp at n0
      | cons c r =>
        have := hs c List.mem_cons_self
        cases kvs with
        | nil => cases this
        | cons a r => simp
    have e3 : ((keyStrs kvs).filter fun z => decide ((cs z).length = 1)).length ≤ 4 := by
      refine Nat.le_trans (nd_sub_len (l2 := sg.map ch) ((keys_nd' P.nd al).filter _) fun z hz => ?_) (by rw [List.length_map]; exact n4)
      obtain ⟨h1, h2⟩ := List.mem_filter.mp hz
      obtain ⟨c, rfl⟩ := G.one_sign (z := z) (by simpa using h2)
      exact List.mem_map.mpr ⟨c, key h1 c (by simp [cs]), rfl⟩
    have e4 : (((keyStrs kvs).map cs).flatten.all fun c => (valV kvs (Sum.inr (ch c))).isSome) = true := by
      rw [List.all_eq_true]
      intro c hc
      obtain ⟨l, hl, hcl⟩ := List.mem_flatten.mp hc
      obtain ⟨z, hz, rfl⟩ := List.mem_map.mp hl
      exact hs c (key hz c hcl)
    rw [decide_eq_true (by omega : 1 ≤ (kvs.length : Int)), decide_eq_true (by omega : (kvs.length : Int) ≤ 12), al, decide_eq_true e3, e4]
    rfl
  · have h1 := hs c h
    cases e : valV kvs (Sum.inr (ch c) : Key) with
    | none =>
      rw [e] at h1
      cases h1
    | some v =>
      have h2 := P.tf.mp (ks_mem.mpr (valV_in e))
      exact h2
theorem kp_free {l a : Addr} {H H' : Hp} (k : Kp l H H') (n : a ≠ l) (h : H' a = none) : H a = none := by
  cases e : H a with
  | none => rfl
  | some o =>
    rw [k a o e n] at h
    cases h
theorem paired_of {α β : Type} {F : α → β → Prop} : ∀ {ps : List (α × β)}, (∀ p ∈ ps, F p.1 p.2) → Paired F (ps.map (·.1)) (ps.map (·.2))
  | [], _ => .nil
  | p :: r, h => .cons (h p List.mem_cons_self) (paired_of fun q hq => h q (List.mem_cons_of_mem _ hq))
theorem lift_map {α : Type} {f : α → V} {P : α → Prop} : ∀ {zs : List V}, (∀ v ∈ zs, ∃ w, v = f w ∧ P w) → ∃ ws : List α, zs = ws.map f ∧ ∀ w ∈ ws, P w
  | [], _ => ⟨[], rfl, fun _ h => (List.not_mem_nil h).elim⟩
  | v :: r, h => by
    obtain ⟨w, rfl, hw⟩ := h v List.mem_cons_self
    obtain ⟨ws, rfl, hws⟩ := lift_map (zs := r) fun u hu => h u (List.mem_cons_of_mem _ hu)
    refine ⟨w :: ws, rfl, fun u hu => ?_⟩
    rcases List.mem_cons.mp hu with rfl | hu
    · exact hw
    · exact hws u hu
def PairOk (sg : List Nat) (kv : Key × V) : Prop := ∃ z p, kv = (Sum.inr z, V.int p) ∧ (1 ≤ (cs z).length ∧ (cs z).length ≤ 5) ∧ (∀ c ∈ cs z, c ∈ sg) ∧ 1 ≤ p ∧ p ≤ 99
/-- a word of the menu -/
def Word (sg w : List Nat) : Prop := 2 ≤ w.length ∧ w.length ≤ 5 ∧ ∀ c ∈ w, c ∈ sg
theorem Word.piece {sg w : List Nat} (h : Word sg w) : (1 ≤ (cs (sOf w)).length ∧ (cs (sOf w)).length ≤ 5) ∧ ∀ c ∈ cs (sOf w), c ∈ sg := by
  obtain ⟨h1, h2, h3⟩ := h
  rw [cs_sOf]
  exact ⟨⟨by omega, h2⟩, h3⟩
/-! ### what is sorted -/
theorem so_pw : ∀ {ys : List Str}, sortedS ys = true → ys.Pairwise fun a b => cs a ≤ cs b
  | [], _ => .nil
  | [x], _ => by simp
  | x :: y :: r, h => by
    have h' : (!ltCps y.cps.toList x.cps.toList && risingS y r) = true := h
    rw [Bool.and_eq_true] at h'
    have ih := so_pw (ys := y :: r) h'.2
    have h1 : cs x ≤ cs y := by
      have h2 := h'.1
      rw [ltCps_eq] at h2
      exact List.not_lt.mp (by simpa using h2)
    refine List.Pairwise.cons (fun b hb => ?_) ih
    rcases List.mem_cons.mp hb with rfl | hb
    · exact h1
    · exact List.le_trans h1 ((List.pairwise_cons.mp ih).1 b hb)
theorem so_eq {ys zs : List Str} (h1 : ys.Pairwise fun a b => cs a ≤ cs b) (h2 : zs.Pairwise fun a b => cs a ≤ cs b) (p : ys.Perm zs) : ys = zs := p.eq_of_pairwise (fun a b _ _ h k => str_ext (List.le_antisymm h k)) h1 h2
def SameSigns (F1 F2 : Tf) : Prop := ∀ c, (∃ p, F1 (ch c) = some p) ↔ ∃ p, F2 (ch c) = some p
theorem sgn_ps {kvs : List (Key × V)} {ys : List Str} : sgn (psOf kvs ys) = ys.filter fun z => decide (z.length = 1) := by
  unfold sgn psOf
  rw [List.map_map]
  congr 1
  exact List.map_id' ys
theorem tf_key {kvs : List (Key × V)} {z : Str} (al : (kvs.all fun kv => isPiece (kV kv.1) && isPrice kv.2) = true) : z ∈ keyStrs kvs ↔ ∃ p, tfD kvs z = some p :=
  ⟨fun h => ⟨_, tf_some.mpr (price_of_key al h).1⟩, fun ⟨p, h⟩ => ks_mem.mpr (valV_in (tf_some.mp h))⟩
theorem keys_nd {kvs : List (Key × V)} (al : (kvs.all fun kv => isPiece (kV kv.1) && isPrice kv.2) = true) (nd : (kvs.map (·.1)).Nodup) : (keyStrs kvs).Nodup := by
  rw [keys_of al] at nd
  exact nd_of_map nd
theorem sgn_eq {kvs1 kvs2 : List (Key × V)} {ys1 ys2 : List Str} (al1 : (kvs1.all fun kv => isPiece (kV kv.1) && isPrice kv.2) = true) (al2 : (kvs2.all fun kv => isPiece (kV kv.1) && isPrice kv.2) = true)
    (nd1 : (kvs1.map (·.1)).Nodup) (nd2 : (kvs2.map (·.1)).Nodup) (pm1 : ys1.Perm (keyStrs kvs1)) (pm2 : ys2.Perm (keyStrs kvs2)) (so1 : sortedS ys1 = true) (so2 : sortedS ys2 = true) (ss : SameSigns (tfD kvs1) (tfD kvs2)) :
    sgn (psOf kvs1 ys1) = sgn (psOf kvs2 ys2) := by
  rw [sgn_ps, sgn_ps]
  refine so_eq ((so_pw so1).filter _) ((so_pw so2).filter _) ?_
  refine (List.perm_ext_iff_of_nodup ((pm1.nodup_iff.mpr (keys_nd al1 nd1)).filter _) ((pm2.nodup_iff.mpr (keys_nd al2 nd2)).filter _)).mpr fun z => ?_
  rw [List.mem_filter, List.mem_filter, pm1.mem_iff, pm2.mem_iff, tf_key al1, tf_key al2]
  constructor
  · rintro ⟨h1, h2⟩
    obtain ⟨c, rfl⟩ := one_sign (z := z) (by rw [cs_len]; simpa using h2)
    exact ⟨(ss c).mp h1, h2⟩
  · rintro ⟨h1, h2⟩
    obtain ⟨c, rfl⟩ := one_sign (z := z) (by rw [cs_len]; simpa using h2)
    exact ⟨(ss c).mpr h1, h2⟩
/-! ### tuples of texts as data -/
theorem dpAll_strs {K : PySem.W.Frag} {H : Hp} : ∀ zs : List Str, DpAll K H (zs.map V.str) (zs.map PyData.str)
  | [] => .nil
  | z :: r => .cons (.str z) (dpAll_strs r)
theorem strOk_lett {z : Str} (h : ∀ c ∈ cs z, lett c = true) : PyData.strOk z = true := by
  show z.cps.all (fun c => decide (c < 0x110000)) = true
  rw [Array.all_eq_true_iff_forall_mem]
  intro c hc
  have h1 := h c (by simpa [cs] using hc)
  unfold lett at h1
  rw [Bool.and_eq_true] at h1
  have := of_decide_eq_true h1.2
  exact decide_eq_true (by omega)
theorem shaped_strs {zs : List Str} (h : ∀ z ∈ zs, ∀ c ∈ cs z, lett c = true) : SeqAt.shaped (.tuple (zs.map PyData.str)) = true := by
  have h1 : ∀ l : List Str, (∀ z ∈ l, ∀ c ∈ cs z, lett c = true) → PyData.canLayAll0 (l.map PyData.str) = true := by
    intro l hl
    induction l with
    | nil => rfl
    | cons a r ih => simp [PyData.canLayAll0, PyData.canLay0, strOk_lett (hl a List.mem_cons_self), ih fun z hz => hl z (List.mem_cons_of_mem _ hz)]
  have h2 : ∀ l : List Str, PyData.depthAll (l.map PyData.str) = 0 := by
    intro l
    induction l with
    | nil => simp [PyData.depthAll]
    | cons a r ih => simp [PyData.depthAll, PyData.depth, ih]
  unfold SeqAt.shaped
  rw [Bool.and_eq_true]
  refine ⟨by simpa [PyData.canLay0] using h1 zs h, decide_eq_true ?_⟩
  simp only [PyData.depth, h2]
  omega
theorem eqv_strs {zs : List Str} (h : ∀ z ∈ zs, ∀ c ∈ cs z, lett c = true) : PyData.eqv (.tuple (zs.map PyData.str)) (.tuple (zs.map PyData.str)) = true :=
  SeqAt.eqv_refl _ (SeqAt.canLay_of_shaped (shaped_strs h))
/-! ### promises of cutbehind.base.compared -/
def NoDear (F1 F2 : Tf) : Prop := ∀ z p, F2 z = some p → lp F1 (cs z) ≤ p
/-- what dearer_in returns -/
def DearR (F1 F2 : Tf) (r : V) : Prop := (r = .non ∧ NoDear F1 F2) ∨ ∃ z p, r = .str z ∧ F2 z = some p ∧ p < lp F1 (cs z) ∧ ∀ z' p', F2 z' = some p' → cs z' < cs z → lp F1 (cs z') ≤ p'
def spReqBook (C : Addr) : Sp := fun vs H Q _ => ∃ b dx fs, vs = [.ref b] ∧ H b = some (.ins C dx fs) ∧ Q .non H
def Two (C : Addr) (H : Hp) (vs : List V) (k1 k2 : List (Key × V)) : Prop := ∃ b1 b2, vs = [.ref b1, .ref b2] ∧ Book1 C H b1 k1 ∧ Book1 C H b2 k2 ∧ SameSigns (tfD k1) (tfD k2)
def spReqCmp (C : Addr) : Sp := fun vs H Q _ => ∃ k1 k2, Two C H vs k1 k2 ∧ ∀ H', Same H H' → Q .non H'
def spDearer (C : Addr) : Sp := fun vs H Q _ => ∃ k1 k2, Two C H vs k1 k2 ∧ ∀ r H', Same H H' → DearR (tfD k1) (tfD k2) r → Q r H'
def spNowhere (C : Addr) : Sp := fun vs H Q _ => ∃ k1 k2, Two C H vs k1 k2 ∧ ∀ b H', Same H H' → (b = true ↔ NoDear (tfD k1) (tfD k2)) → Q (.bl b) H'
def spAsCheap (C : Addr) : Sp := fun vs H Q _ => ∃ k1 k2, Two C H vs k1 k2 ∧ ∀ b H', Same H H' → (b = true ↔ NoDear (tfD k1) (tfD k2) ∧ NoDear (tfD k2) (tfD k1)) → Q (.bl b) H'
theorem dear_non {F1 F2 : Tf} {r : V} (d : DearR F1 F2 r) : decide (r = .non) = true ↔ NoDear F1 F2 := by
  rw [decide_eq_true_eq]
  rcases d with ⟨h1, h2⟩ | ⟨z, p, h1, h2, h3, _⟩
  · exact ⟨fun _ => h2, fun _ => h1⟩
  · refine ⟨fun e => ?_, fun n => ?_⟩
    · rw [h1] at e
      cases e
    · have := n z p h2
      omega
theorem SameSigns.symm {F1 F2 : Tf} (h : SameSigns F1 F2) : SameSigns F2 F1 := fun c => (h c).symm
/-! ### lists of texts as data; heaps with a lock -/
theorem shaped_lstrs {zs : List Str} (h : ∀ z ∈ zs, ∀ c ∈ cs z, lett c = true) : SeqAt.shaped (.list (zs.map PyData.str)) = true := by
  have h1 := shaped_strs h
  unfold SeqAt.shaped at h1 ⊢
  simpa [PyData.canLay0, PyData.depth] using h1
theorem eqv_nil (zs : List Str) : PyData.eqv (.list (zs.map PyData.str)) (.list []) = zs.isEmpty := by cases zs <;> simp [PyData.eqv, PyData.eqvAll]
theorem rd_lock {H : Hp} {a b : Addr} {u v : HO} {od : Obj} (h : H a = some u) (k : H b = some v) : Rd (upd H b (.frz od v)) a u := by
  by_cases e : a = b
  · subst e
    rw [h] at k
    cases k
    exact .inr ⟨od, upd_same⟩
  · exact .inl (by rw [upd_ne e]; exact h)
theorem repr_bool {K : PySem.W.Frag} {H : Hp} {b : Bool} {Q : VK} (q : Q (.str (PyData.bool b).shown) H) : rRepr K [.bl b] H Q :=
  ⟨_, .bool b, rfl, .bl b, (shw_bool b).s, (shw_bool b).h, Nat.le_trans (shw_bool b).dp (by omega), Nat.le_trans (shw_bool b).len (fits_sz (by omega)), q⟩
/-- x == [] for a list of texts -/
theorem eq_nil {K : PySem.W.Frag} {H : Hp} {a p : Addr} {zs : List Str} {Q : VK} (h : SqL K H a (zs.map V.str)) (hp : H p = some (.lst [])) (hl : ∀ z ∈ zs, ∀ c ∈ cs z, lett c = true) (q : Q (.bl zs.isEmpty) H) : rEqD K (.ref a) (.ref p) H Q := by
  refine ⟨.list (zs.map PyData.str), .list [], .lst h (dpAll_strs zs), .lst (SqL.of hp) .nil, shaped_lstrs hl, by decide, ?_⟩
  rw [eqv_nil]
  exact q
/-! ### books under changes of lists; which texts are dearer -/
theorem Book1.keep {C : Addr} {H H' : Hp} {b : Addr} {kvs : List (Key × V)} (B : Book1 C H b kvs) (h : ∀ a o, H a = some o → (∀ xs, o ≠ .lst xs) → H' a = some o) : Book1 C H' b kvs := by
  obtain ⟨ys, L, M, dx, d, tp, ta, od, h1, h2, A⟩ := B.ex
  exact ⟨B.av, B.nd, ys, L, M, dx, d, tp, ta, od, h1, h2, h _ _ A.ob (fun _ e => by cases e), h _ _ A.dc (fun _ e => by cases e), h _ _ A.pi (fun _ e => by cases e), h _ _ A.al (fun _ e => by cases e), A.lo, A.de⟩
theorem Book1.updL {C : Addr} {H : Hp} {a b : Addr} {kvs : List (Key × V)} {xs : List V} {o : HO} (B : Book1 C H b kvs) (h : H a = some (.lst xs)) : Book1 C (upd H a o) b kvs :=
  B.keep fun c u e n => by
    rw [upd_ne fun q => ?_]
    · exact e
    · rw [q, h] at e
      exact n xs (Option.some.inj e).symm
theorem Book1.kp {C : Addr} {H H' : Hp} {l b : Addr} {kvs : List (Key × V)} {n : Nat} (B : Book1 C H b kvs) (D : Dice H l n) (k : Kp l H H') : Book1 C H' b kvs := by
  obtain ⟨d0, d1, d2, h, _⟩ := D
  refine B.keep fun c u e n => k c u e fun q => ?_
  rw [q, h] at e
  exact n _ (Option.some.inj e).symm
noncomputable def dearG (F1 F2 : Tf) : Key × V → Option Str := fun kv => match kv.1 with
  | .inr z => if lp F2 (cs z) < lp F1 (cs z) then some z else none
  | .inl _ => none
theorem Tar.mono {k1 k2 : List (Key × V)} (t1 : Tar k1) (t2 : Tar k2) (ss : SameSigns (tfD k1) (tfD k2)) (h : NoDear (tfD k1) (tfD k2)) {l : List Nat} (o : Over (tfD k1) l) : lp (tfD k1) l ≤ lp (tfD k2) l :=
  lp_mono t1.good t2.good (fun z p hz => ⟨fun c hc => (ss c).mpr (t2.good.cov z p hz c hc), h z p hz⟩) o fun c hc => (ss c).mp (o c hc)
theorem dear_iff {k1 k2 kf : List (Key × V)} {S : Str → Prop} (T : TblOk (tfD k1) S kf) (t1 : Tar k1) (t2 : Tar k2) (ss : SameSigns (tfD k1) (tfD k2)) (hS : ∀ z, S z → Over (tfD k1) (cs z)) (hk : ∀ z p, tfD k2 z = some p → S z) :
    kf.filterMap (dearG (tfD k1) (tfD k2)) = [] ↔ NoDear (tfD k1) (tfD k2) := by
  rw [List.filterMap_eq_nil_iff]
  constructor
  · intro h z p hz
    have h1 := h _ (valV_mem (T.val z (hk z p hz)))
    have h2 : (if lp (tfD k2) (cs z) < lp (tfD k1) (cs z) then some z else none) = none := h1
    have h3 := lp_piece t2.good hz
    by_cases q : lp (tfD k2) (cs z) < lp (tfD k1) (cs z)
    · rw [if_pos q] at h2
      cases h2
    · omega
  · intro n kv hkv
    obtain ⟨z, ez, hz⟩ := T.key kv hkv
    unfold dearG
    rw [ez]
    show (if lp (tfD k2) (cs z) < lp (tfD k1) (cs z) then some z else none) = none
    have := t1.mono t2 ss n (hS z hz)
    rw [if_neg (by omega)]
theorem nodear_trans {k0 k1 k2 : List (Key × V)} (t0 : Tar k0) (t1 : Tar k1) (t2 : Tar k2) (s01 : SameSigns (tfD k0) (tfD k1)) (s12 : SameSigns (tfD k1) (tfD k2)) (h : NoDear (tfD k0) (tfD k1)) (k : NoDear (tfD k1) (tfD k2)) : NoDear (tfD k0) (tfD k2) := by
  intro z p hz
  have h1 := k z p hz
  have h2 := t0.mono t1 s01 h (l := cs z) fun c hc => (s01 c).mpr ((s12 c).mpr (t2.good.cov z p hz c hc))
  omega
theorem nodear_self {k : List (Key × V)} (t : Tar k) : NoDear (tfD k) (tfD k) := fun z p hz => lp_piece t.good hz
theorem fm_str {α : Type} {g : α → Option Str} {l : List α} : l.filterMap (fun a => (g a).map V.str) = (l.filterMap g).map V.str := by
  rw [List.map_filterMap]
theorem tandv {ta tb : TE} {σ : L2.St} {H : Hp} {Q : VK} {a b : Bool} (ha : ∀ N : VK, N (.bl a) H → ta σ H N) (hb : ∀ N : VK, N (.bl b) H → tb σ H N) (q : Q (.bl (a && b)) H) : tAndV ta tb σ H Q := by
  refine ha _ ⟨a, rfl, ?_⟩
  refine itB (fun e => hb _ ?_) (fun e => ?_)
  · rw [e] at q
    exact q
  · rw [e] at q
    exact q
/-! ### the row of prices_along -/
theorem best_end {F : Tf} {l : List Nat} {L : Nat} {m : Int} (G : Good F) (o : Over F l) (ne : l ≠ []) (hL : ∀ z p, F z = some p → (cs z).length ≤ L) (hm : ∃ s, s < l.length ∧ costF F l s = some m)
    (hb : ∀ s y, l.length - L ≤ s → s < l.length → costF F l s = some y → m ≤ y) : m = lp F l := by
  refine lp_step G o ne (ys := (List.range l.length).filterMap (costF F l)) ?_ ?_ ?_ ?_
  · intro y hy
    obtain ⟨s, hs, g⟩ := List.mem_filterMap.mp hy
    have g' : (F (sOf (l.drop s))).map (fun p => lp F (l.take s) + p) = some y := g
    cases e : F (sOf (l.drop s)) with
    | none =>
      rw [e] at g'
      cases g'
    | some p =>
      rw [e] at g'
      exact ⟨_, p, l.take s, e, by rw [cs_sOf, List.take_append_drop], (Option.some.inj g').symm⟩
  · intro z p a hp ha
    have hn := (G.len z p hp).1
    have hl := congrArg List.length ha
    rw [List.length_append] at hl
    refine List.mem_filterMap.mpr ⟨a.length, List.mem_range.mpr (by omega), ?_⟩
    unfold costF
    have e2 : l.drop a.length = cs z := by rw [ha, List.drop_left]
    have e3 : l.take a.length = a := by rw [ha, List.take_left]
    rw [e2, e3, sOf_cs, hp]
    rfl
  · obtain ⟨s, hs, e⟩ := hm
    exact List.mem_filterMap.mpr ⟨s, List.mem_range.mpr hs, e⟩
  · intro y hy
    obtain ⟨s, hs, g⟩ := List.mem_filterMap.mp hy
    have hs' := List.mem_range.mp hs
    refine hb s y ?_ hs' g
    have g' : (F (sOf (l.drop s))).map (fun p => lp F (l.take s) + p) = some y := g
    cases e : F (sOf (l.drop s)) with
    | none =>
      rw [e] at g'
      cases g'
    | some p =>
      have := hL _ _ e
      rw [cs_sOf, List.length_drop] at this
      omega
theorem maxN (n m : Nat) : (if (n : Int) - (m : Int) > 0 then (n : Int) - (m : Int) else 0) = ((n - m : Nat) : Int) := by split <;> omega
/-- prices_along -/
def spAlong (C : Addr) : Sp := fun vs H Q _ => ∃ b kvs z, vs = [.ref b, .str z] ∧ Book1 C H b kvs ∧ Over (tfD kvs) (cs z) ∧ z.length ≤ 10000 ∧ ∀ p H', H p = none → H' p = some (.lst (rowV (tfD kvs) (cs z) (z.length + 1))) → Same H H' → Q (.ref p) H'
/-! ### properties -/
structure HasP (P : Program) (w : World) (K : PySem.W.Frag) (mg : Str → Option Value) (base : Heap) (k : Nat) (C : Addr) (f : Str) (sp : Sp) : Prop where
  ex : ∃ p g fd, Cls K C ∧ PropOf K C f p g ∧ FnOk P w K mg base CX0 k g fd ["self"] sp ∧ Binds K fd ["self"] []
theorem pe_prp {X : Cx} {k j : Nat} {C : Addr} {f : Str} {sp : Sp} {e : Expr} {pos : Pos} {ta : TE} (c : HasP X.prog X.w X.K X.mg X.base k C f sp) (hr : Room j X.A) (hk : k + 1 ≤ j) (he : PE X e ta)
    (hab : attributeBase e f X.env (eval e X.env) = eval e X.env := by rfl) : PE X (.Attribute e f pos) (tProp C sp [] C8.E0 ta) := by
  obtain ⟨p, g, fd, hc, hp, F, hb⟩ := c.ex
  exact pe_prop he hc hp F (hr.mono hk) hb .nil pass0 hab
/-! ### texts over a book -/
theorem inV_str {z : Str} : ∀ {zs : List Str}, inV (.str z) (zs.map V.str) = decide (z ∈ zs)
  | [] => by simp [inV]
  | a :: r => by
    have ih := inV_str (z := z) (zs := r)
    unfold inV at ih ⊢
    rw [List.map_cons, List.any_cons, ih]
    have e : eqV (.str a) (.str z) = decide (z = a) := by
      by_cases h : z = a
      · subst h
        simp [eqV]
      · have h' : ¬ a = z := fun q => h q.symm
        simp [eqV, h, h']
    rw [e]
    by_cases h : z = a <;> simp [h]
theorem flat_strs (zs : List Str) : (zs.map V.str).all flatV = true := by
  rw [List.all_map, List.all_eq_true]
  intro z _
  rfl
theorem sgn_mem {kvs : List (Key × V)} {ys : List Str} (al : (kvs.all fun kv => isPiece (kV kv.1) && isPrice kv.2) = true) (pm : ys.Perm (keyStrs kvs)) {c : Nat} : ch c ∈ sgn (psOf kvs ys) ↔ ∃ p, tfD kvs (ch c) = some p := by
  rw [sgn_ps, List.mem_filter, pm.mem_iff, tf_key al]
  exact ⟨fun h => h.1, fun h => ⟨h, rfl⟩⟩
def overB (kvs : List (Key × V)) (z : Str) : Bool := isText (.str z) && (cs z).all fun c => (tfD kvs (ch c)).isSome
theorem overB_true {kvs : List (Key × V)} {z : Str} (h1 : isText (.str z) = true) (h2 : Over (tfD kvs) (cs z)) : overB kvs z = true := by
  unfold overB
  rw [h1, Bool.true_and, List.all_eq_true]
  intro c hc
  obtain ⟨p, hp⟩ := h2 c hc
  rw [hp]
  rfl
/-- is_text_over, accepts -/
def spTextOver (C : Addr) : Sp := fun vs H Q _ => ∃ b kvs z, vs = [.ref b, .str z] ∧ Book1 C H b kvs ∧ z.length ≤ 100000 ∧ ∀ H', Same H H' → Q (.bl (overB kvs z)) H'
/-- require_text -/
def spReqText (C : Addr) : Sp := fun vs H Q _ => ∃ b kvs z, vs = [.ref b, .str z] ∧ Book1 C H b kvs ∧ z.length ≤ 100000 ∧ overB kvs z = true ∧ ∀ H', Same H H' → Q .non H'
/-- prices -/
def spPrices (C : Addr) : Sp := fun vs H Q _ => ∃ b kvs, vs = [.ref b] ∧ Book1 C H b kvs ∧ ∀ p ys H', H p = none → ys.Perm (keyStrs kvs) → sortedS ys = true → H' p = some (.dK (kvOf (psOf kvs ys))) → Same H H' → Q (.ref p) H'
/-- least_price, of a dict that is not changed -/
def spLeastPrice : Sp := fun vs H Q _ => ∃ d od kvs z, vs = [.ref d, .str z] ∧ H d = some (.frz od (.dK kvs)) ∧ Tar kvs ∧ Over (tfD kvs) (cs z) ∧ z.length ≤ 10000 ∧ ∀ H', Same H H' → Q (.int (lp (tfD kvs) (cs z))) H'
theorem rNe_nil {K : PySem.W.Frag} {H : Hp} {a p : Addr} {zs : List Str} {Q : VK} (h : SqL K H a (zs.map V.str)) (hp : H p = some (.lst [])) (hl : ∀ z ∈ zs, ∀ c ∈ cs z, lett c = true) (q : Q (.bl (!zs.isEmpty)) H) : rNeD K (.ref a) (.ref p) H Q := by
  refine ⟨.list (zs.map PyData.str), .list [], .lst h (dpAll_strs zs), .lst (SqL.of hp) .nil, shaped_lstrs hl, by decide, ?_⟩
  rw [eqv_nil]
  exact q
end G
/-! Fronts, in plain Lean. -/
namespace G
open PySem PySem.Spec PyProof.Rows L2
def Wide (F : Tf) (L : Nat) : Prop := (∃ z p, F z = some p ∧ (cs z).length = L) ∧ ∀ z p, F z = some p → (cs z).length ≤ L
def frontW (L : Nat) (l : List Nat) : List Nat := l.drop (l.length - min (L - 1) l.length)
noncomputable def frontD (F : Tf) (L : Nat) (l : List Nat) : List Int := (List.range (min (L - 1) l.length)).map fun i => lp F (l.take (l.length - (i + 1))) - lp F l
def FrontAt (H : Hp) (t : Addr) (l : List Nat) (ds : List Int) : Prop := ∃ td, H t = some (.tup [.str (sOf l), .ref td]) ∧ H td = some (.tup (ds.map V.int))
theorem FrontAt.same {H H' : Hp} {t : Addr} {l : List Nat} {ds : List Int} (f : FrontAt H t l ds) (s : Same H H') : FrontAt H' t l ds := by
  obtain ⟨td, h1, h2⟩ := f
  exact ⟨td, s _ _ h1, s _ _ h2⟩
section
variable {F : Tf} {L : Nat} {l : List Nat} {ds : List Int} {c : Nat} {m : Int}
theorem frontW_len : (frontW L l).length = min (L - 1) l.length := by
  unfold frontW
  rw [List.length_drop]
  omega
theorem frontD_len : (frontD F L l).length = min (L - 1) l.length := by
  unfold frontD
  rw [List.length_map, List.length_range]
theorem frontD_at {i : Nat} (h : i < min (L - 1) l.length) : (frontD F L l)[i]? = some (lp F (l.take (l.length - (i + 1))) - lp F l) := by
  unfold frontD
  rw [List.getElem?_map, List.getElem?_range h]
  rfl
/-- 0 and the differences: what the row says by steps back -/
theorem ahead_at {i : Nat} (h : i ≤ min (L - 1) l.length) : ((0 : Int) :: frontD F L l)[i]? = some (lp F (l.take (l.length - i)) - lp F l) := by
  cases i with
  | zero =>
    show some (0 : Int) = _
    rw [Nat.sub_zero, List.take_length]
    simp
  | succ i =>
    show (frontD F L l)[i]? = _
    exact frontD_at (by omega)
/-- the change at a sign, of any front -/
def StepR (F : Tf) (l : List Nat) (ds : List Int) (c : Nat) (m : Int) : Prop :=
  (∃ z p a y, F z = some p ∧ l ++ [c] = a ++ cs z ∧ ((0 : Int) :: ds)[(cs z).length - 1]? = some y ∧ m = p + y) ∧ ∀ z p a y, F z = some p → l ++ [c] = a ++ cs z → ((0 : Int) :: ds)[(cs z).length - 1]? = some y → m ≤ p + y
theorem StepR.uniq {n : Int} (h : StepR F l ds c m) (k : StepR F l ds c n) : m = n := by
  obtain ⟨⟨z, p, a, y, h1, h2, h3, rfl⟩, h4⟩ := h
  obtain ⟨⟨z', p', a', y', k1, k2, k3, rfl⟩, k4⟩ := k
  have := h4 z' p' a' y' k1 k2 k3
  have := k4 z p a y h1 h2 h3
  omega
def stepW (L : Nat) (l : List Nat) (c : Nat) : List Nat := (l ++ [c]).drop (l.length + 1 - (L - 1))
def stepD (L : Nat) (l : List Nat) (ds : List Int) (c : Nat) (m : Int) : List Int := (((0 : Int) :: ds).map fun x => x - m).take (stepW L l c).length
theorem stepW_len : (stepW L l c).length = min (L - 1) (l.length + 1) := by
  unfold stepW
  rw [List.length_drop, List.length_append]
  show l.length + 1 - _ = _
  omega
/-- a piece at the end of the front's signs is one at the end of the text, and the other way about -/
theorem front_suffix {z : Str} {p : Int} (W : Wide F L) (G : Good F) (hz : F z = some p) : (∃ a, frontW L l ++ [c] = a ++ cs z) ↔ ∃ a, l ++ [c] = a ++ cs z := by
  have n1 := (G.len z p hz).1
  have n2 := W.2 z p hz
  have el : l = l.take (l.length - min (L - 1) l.length) ++ frontW L l := (List.take_append_drop _ _).symm
  constructor
  · rintro ⟨a, h⟩
    refine ⟨l.take (l.length - min (L - 1) l.length) ++ a, ?_⟩
    rw [List.append_assoc, ← h, ← List.append_assoc, ← el]
  · rintro ⟨a, h⟩
    have hl := congrArg List.length h
    rw [List.length_append, List.length_append, List.length_singleton] at hl
    refine ⟨(frontW L l ++ [c]).take (min (L - 1) l.length + 1 - (cs z).length), ?_⟩
    have e1 : (frontW L l ++ [c]) = (l ++ [c]).drop (l.length - min (L - 1) l.length) := by
      rw [List.drop_append_of_le_length (by omega)]
      rfl
    have e2 : (frontW L l ++ [c]).drop (min (L - 1) l.length + 1 - (cs z).length) = cs z := by
      rw [e1, List.drop_drop, h, List.drop_append, List.drop_of_length_le (by omega)]
      have : l.length - min (L - 1) l.length + (min (L - 1) l.length + 1 - (cs z).length) - a.length = 0 := by omega
      rw [this]
      rfl
    conv => lhs; rw [← List.take_append_drop (min (L - 1) l.length + 1 - (cs z).length) (frontW L l ++ [c])]
    rw [e2]
/-- the change of a text's front is what the sign costs more -/
theorem front_change (G : Good F) (W : Wide F L) (o : Over F (l ++ [c])) : StepR F (frontW L l) (frontD F L l) c (lp F (l ++ [c]) - lp F l) := by
  have at' : ∀ {z : Str} {p : Int} {a : List Nat}, F z = some p → l ++ [c] = a ++ cs z → ((0 : Int) :: frontD F L l)[(cs z).length - 1]? = some (lp F a - lp F l) := by
    intro z p a hz h
    have n1 := (G.len z p hz).1
    have n2 := W.2 z p hz
    have hl := congrArg List.length h
    rw [List.length_append, List.length_append, List.length_singleton] at hl
    rw [ahead_at (by omega)]
    have e : l.take (l.length - ((cs z).length - 1)) = a := by
      have h2 : (l ++ [c]).take a.length = a := by rw [h, List.take_left]
      rw [List.take_append_of_le_length (by omega)] at h2
      have : l.length - ((cs z).length - 1) = a.length := by omega
      rw [this, h2]
    rw [e]
  constructor
  · obtain ⟨z, p, a, h1, h2, h3⟩ := lp_last G o (by simp)
    obtain ⟨a', ha'⟩ := (front_suffix (c := c) (l := l) W G h1).mpr ⟨a, h2⟩
    exact ⟨z, p, a', _, h1, ha', at' h1 h2, by omega⟩
  · intro z p a y h1 h2 h3
    obtain ⟨a', ha'⟩ := (front_suffix (c := c) (l := l) W G h1).mp ⟨a, h2⟩
    rw [at' h1 ha'] at h3
    have e := Option.some.inj h3
    have h4 := lp_app G (a := a') (by rw [ha'] at o; exact o.left) h1
    rw [← ha'] at h4
    omega
theorem front_stepW (hL : 1 ≤ L) : stepW L (frontW L l) c = frontW L (l ++ [c]) := by
  have e1 : (frontW L l ++ [c]) = (l ++ [c]).drop (l.length - min (L - 1) l.length) := by
    rw [List.drop_append_of_le_length (by omega)]
    rfl
  unfold stepW
  rw [e1, List.drop_drop]
  show _ = (l ++ [c]).drop ((l ++ [c]).length - min (L - 1) (l ++ [c]).length)
  rw [List.length_append, List.length_singleton, frontW_len]
  congr 1
  omega
theorem front_stepD (hL : 1 ≤ L) : stepD L (frontW L l) (frontD F L l) c (lp F (l ++ [c]) - lp F l) = frontD F L (l ++ [c]) := by
  have ln : (stepW L (frontW L l) c).length = min (L - 1) (l.length + 1) := by
    rw [stepW_len, frontW_len]
    omega
  refine List.ext_getElem? fun i => ?_
  unfold stepD
  rw [ln, List.getElem?_take]
  by_cases h : i < min (L - 1) (l.length + 1)
  · rw [if_pos h, List.getElem?_map, ahead_at (by omega), frontD_at (by rw [List.length_append]; exact h)]
    show some _ = some _
    congr 1
    have e : (l ++ [c]).take ((l ++ [c]).length - (i + 1)) = l.take (l.length - i) := by
      rw [List.length_append, List.length_singleton, List.take_append_of_le_length (by omega)]
      congr 1
      omega
    rw [e]
    dsimp only
    omega
  · rw [if_neg h, List.getElem?_eq_none]
    rw [frontD_len, List.length_append]
    show min (L - 1) (l.length + 1) ≤ i
    omega
end
/-! ### promises -/
theorem wide_of {kvs : List (Key × V)} {ys : List Str} {Ln : Nat} (av : arePrices kvs = true) (pm : ys.Perm (keyStrs kvs)) (h : IsMax (Ln : Int) (lens (psOf kvs ys))) : Wide (tfD kvs) Ln ∧ 1 ≤ Ln ∧ Ln ≤ 5 := by
  obtain ⟨_, al, _, _⟩ := ap_parts av
  obtain ⟨lm, lo⟩ := h
  obtain ⟨q, hq, e⟩ := List.mem_map.mp lm
  obtain ⟨y, hy, rfl⟩ := List.mem_map.mp hq
  have e' : (y.length : Int) = (Ln : Int) := e
  have hk := pm.mem_iff.mp hy
  obtain ⟨p, hp⟩ := (tf_key al).mp hk
  have h1 := keyStrs_piece al y hk
  have h2 := cs_len y
  refine ⟨⟨⟨y, p, hp, by omega⟩, fun z q hz => ?_⟩, by omega, by omega⟩
  have h3 := lo _ (List.mem_map.mpr ⟨(z, priceIn kvs z), List.mem_map.mpr ⟨z, pm.mem_iff.mpr ((tf_key al).mpr ⟨q, hz⟩), rfl⟩, rfl⟩)
  have h4 : (z.length : Int) ≤ (Ln : Int) := h3
  rw [cs_len]
  omega
theorem Wide.uniq {F : Tf} {L M : Nat} (h : Wide F L) (k : Wide F M) : L = M := by
  obtain ⟨⟨z, p, h1, h2⟩, h3⟩ := h
  obtain ⟨⟨y, q, k1, k2⟩, k3⟩ := k
  have := h3 y q k1
  have := k3 z p h1
  omega
/-- front_in, front_of -/
def spFrontIn (C : Addr) : Sp := fun vs H Q _ => ∃ b kvs z, vs = [.ref b, .str z] ∧ Book1 C H b kvs ∧ Over (tfD kvs) (cs z) ∧ z.length ≤ 8000 ∧ isText (.str z) = true ∧
  ∀ L t H', Wide (tfD kvs) L → FrontAt H' t (frontW L (cs z)) (frontD (tfD kvs) L (cs z)) → Same H H' → Q (.ref t) H'
/-- what step_in returns -/
def StepAt (H : Hp) (t : Addr) (l : List Nat) (ds : List Int) (m : Int) : Prop := ∃ u, H t = some (.tup [.ref u, .int m]) ∧ FrontAt H u l ds
/-- step_in, next_front -/
def spStepIn (C : Addr) : Sp := fun vs H Q _ => ∃ (b f : Addr) (kvs : List (Key × V)) (l : List Nat) (ds : List Int) (c L : Nat), vs = [.ref b, .ref f, .str (ch c)] ∧ Book1 C H b kvs ∧ FrontAt H f l ds ∧ Wide (tfD kvs) L ∧ Over (tfD kvs) l ∧ Over (tfD kvs) [c] ∧ l.length < L ∧ ds.length = l.length ∧ (∀ x ∈ l, lett x = true) ∧
  (∀ x ∈ ds, isInteger (.int x) = true) ∧ ∀ t m H', StepR (tfD kvs) l ds c m → StepAt H' t (stepW L l c) (stepD L l ds c m) m → Same H H' → Q (.ref t) H'
theorem cutV_to {xs : List V} {i : Nat} (h : i ≤ xs.length) : cutV xs none (some (i : Int)) = xs.take i := by
  unfold cutV
  rw [show HT.sIx xs.length xs.length (some (i : Int)) = i by rw [sIx_pos (by omega), Int.toNat_natCast]; omega]
  rfl
noncomputable def aheadAt (ds : List Int) (y : Str) : Int := (((0 : Int) :: ds)[(cs y).length - 1]?).getD 0
theorem ends_fm {lg : Str} {ys : List Str} : (ys.filterMap fun y => if Txt.endswith lg y = true then some (V.str y) else none) = (ys.filter fun y => Txt.endswith lg y).map V.str := by
  induction ys with
  | nil => rfl
  | cons a r ih =>
    rw [List.filterMap_cons, List.filter_cons, ih]
    cases Txt.endswith lg a <;> rfl
/-- the least candidate is the change -/
theorem step_min {kvs : List (Key × V)} {ys : List Str} {lg : Str} {l : List Nat} {ds : List Int} {c : Nat} (av : arePrices kvs = true) (pm : ys.Perm (keyStrs kvs)) (hg : cs lg = l ++ [c]) (hds : ds.length = l.length) (oc : Over (tfD kvs) [c]) :
    0 < ((ys.filter fun y => Txt.endswith lg y).map fun y => priceIn kvs y + aheadAt ds y).length ∧ ∀ m ∈ (ys.filter fun y => Txt.endswith lg y).map (fun y => priceIn kvs y + aheadAt ds y), (∀ y ∈ (ys.filter fun y => Txt.endswith lg y).map (fun y => priceIn kvs y + aheadAt ds y), m ≤ y) → StepR (tfD kvs) l ds c m := by
  obtain ⟨_, al, _, _⟩ := ap_parts av
  have good := good_of av
  have price : ∀ {y p}, tfD kvs y = some p → p = priceIn kvs y := fun {y p} h => by
    have h1 := (price_of_key al ((tf_key al).mpr ⟨p, h⟩)).1
    rw [tf_some.mp h] at h1
    exact V.int.inj (Option.some.inj h1)
  have mem : ∀ {y p a}, tfD kvs y = some p → l ++ [c] = a ++ cs y → y ∈ ys.filter fun y => Txt.endswith lg y := fun {y p a} h h2 =>
    List.mem_filter.mpr ⟨pm.mem_iff.mpr ((tf_key al).mpr ⟨p, h⟩), ends_iff.mpr ⟨a, by rw [hg]; exact h2⟩⟩
  have ah : ∀ {y p a}, tfD kvs y = some p → l ++ [c] = a ++ cs y → ((0 : Int) :: ds)[(cs y).length - 1]? = some (aheadAt ds y) := fun {y p a} h h2 => by
    have n1 := (good.len y p h).1
    have h3 := congrArg List.length h2
    rw [List.length_append, List.length_append, List.length_singleton] at h3
    unfold aheadAt
    rw [List.getElem?_eq_getElem (by rw [List.length_cons]; omega)]
    rfl
  constructor
  · rw [List.length_map]
    obtain ⟨p, hp⟩ := oc c List.mem_cons_self
    exact List.length_pos_of_mem (mem (y := ch c) (a := l) hp rfl)
  · intro m hm hle
    constructor
    · obtain ⟨y, hy, rfl⟩ := List.mem_map.mp hm
      obtain ⟨h1, h2⟩ := List.mem_filter.mp hy
      obtain ⟨a, ha⟩ := ends_iff.mp h2
      rw [hg] at ha
      obtain ⟨p, hp⟩ := (tf_key al).mp (pm.mem_iff.mp h1)
      exact ⟨y, p, a, _, hp, ha, ah hp ha, by rw [price hp]⟩
    · intro z p a y hz h2 h3
      have h4 := hle _ (List.mem_map.mpr ⟨z, mem hz h2, rfl⟩)
      rw [ah hz h2] at h3
      rw [price hz, ← Option.some.inj h3]
      exact h4
structure FrontArg (C : Addr) (H : Hp) (b f : Addr) (kvs : List (Key × V)) (l : List Nat) (ds : List Int) (L : Nat) : Prop where
  bk : Book1 C H b kvs
  fr : FrontAt H f l ds
  wd : Wide (tfD kvs) L
  ov : Over (tfD kvs) l
  ln : l.length < L
  dl : ds.length = l.length
  lt : ∀ x ∈ l, lett x = true
  di : ∀ x ∈ ds, isInteger (.int x) = true
theorem FrontArg.same {C : Addr} {H H' : Hp} {b f : Addr} {kvs : List (Key × V)} {l : List Nat} {ds : List Int} {L : Nat} (a : FrontArg C H b f kvs l ds L) (s : Same H H') : FrontArg C H' b f kvs l ds L :=
  ⟨a.bk.same s, a.fr.same s, a.wd, a.ov, a.ln, a.dl, a.lt, a.di⟩
/-- has_front_form, of a front in its form -/
def spForm (C : Addr) : Sp := fun vs H Q _ => ∃ (b f : Addr) (kvs : List (Key × V)) (l : List Nat) (ds : List Int) (L : Nat), vs = [.ref b, .ref f] ∧ FrontArg C H b f kvs l ds L ∧ ∀ H', Same H H' → Q (.bl true) H'
def spReqFront (C : Addr) : Sp := fun vs H Q _ => ∃ (b f : Addr) (kvs : List (Key × V)) (l : List Nat) (ds : List Int) (L : Nat), vs = [.ref b, .ref f] ∧ FrontArg C H b f kvs l ds L ∧ ∀ H', Same H H' → Q .non H'
def spReqSign (C : Addr) : Sp := fun vs H Q _ => ∃ (b : Addr) (kvs : List (Key × V)) (c : Nat), vs = [.ref b, .str (ch c)] ∧ Book1 C H b kvs ∧ Over (tfD kvs) [c] ∧ ∀ H', Same H H' → Q .non H'
def spNext (C : Addr) : Sp := fun vs H Q _ => ∃ (b f : Addr) (kvs : List (Key × V)) (l : List Nat) (ds : List Int) (c L : Nat), vs = [.ref b, .ref f, .str (ch c)] ∧ FrontArg C H b f kvs l ds L ∧ Over (tfD kvs) [c] ∧ lett c = true ∧
  ∀ t m H', StepR (tfD kvs) l ds c m → StepAt H' t (stepW L l c) (stepD L l ds c m) m → Same H H' → Q (.ref t) H'
/-! ### the law's helpers -/
/-- _law_shuffled, of letters -/
def spShuf (K : PySem.W.Frag) : Sp := fun vs H Q _ => ∃ (l a : Addr) (cl : List Nat) (n : Nat), vs = [.ref l, .ref a] ∧ a ≠ l ∧ SqL K H a (cl.map chV) ∧ cl.length ≤ 100 ∧ (∀ c ∈ cl, lett c = true) ∧ Dice H l (n + cl.length) ∧
  ∀ (p : Addr) (zs : List Nat) H', H p = none → p ≠ l → zs.Perm cl → H' p = some (.lst (zs.map chV)) → Kp l H H' → Dice H' l n → Q (.ref p) H'
/-- _law_letters of these laws: some letters -/
def spLett (K : PySem.W.Frag) : Sp := fun vs H Q _ => ∃ (l : Addr) (m n : Nat), vs = [.ref l, .int (m : Int)] ∧ m ≤ 26 ∧ Dice H l (n + 26) ∧
  ∀ (p : Addr) (zs : List Nat) H', H p = none → p ≠ l → zs.length = m → (∀ c ∈ zs, lett c = true) → H' p = some (.lst (zs.map chV)) → Kp l H H' → Dice H' l n → Q (.ref p) H'
theorem chs_strs (l : List Nat) : l.map chV = (l.map ch).map V.str := by
  rw [List.map_map]
  rfl
/-- _law_prices: a right dict over the signs -/
def spPrices20 (K : PySem.W.Frag) : Sp := fun vs H Q _ => ∃ (l sa ma : Addr) (sg : List Nat) (ms : List Int) (n : Nat), vs = [.ref l, .ref sa, .int 6, .int 5, .ref ma] ∧ sa ≠ l ∧ ma ≠ l ∧ SqL K H sa (sg.map chV) ∧ SqL K H ma (ms.map V.int) ∧ 1 ≤ sg.length ∧ sg.length ≤ 4 ∧ (∀ c ∈ sg, lett c = true) ∧
  1 ≤ ms.length ∧ ms.length ≤ 100 ∧ (∀ i ∈ ms, 1 ≤ i ∧ i ≤ 99) ∧ Dice H l (n + 100) ∧
  ∀ (p : Addr) (kvs : List (Key × V)) H', H p = none → p ≠ l → H' p = some (.dK kvs) → arePrices kvs = true → (kvs.map (·.1)).Nodup → (∀ c, (∃ q, tfD kvs (ch c) = some q) ↔ c ∈ sg) → Kp l H H' → Dice H' l n → Q (.ref p) H'
/-- _law_cheap -/
def spCheap : Sp := fun vs H Q _ => ∃ d kvs z, vs = [.ref d, .str z] ∧ H d = some (.dK kvs) ∧ Tar kvs ∧ Over (tfD kvs) (cs z) ∧ z.length ≤ 10000 ∧ ∀ p H', H p = none → H' p = some (.lst (rowV (tfD kvs) (cs z) (z.length + 1))) → Same H H' → Q (.ref p) H'
/-- _law_wide -/
def spWide : Sp := fun vs H Q _ => ∃ d kvs, vs = [.ref d] ∧ H d = some (.dK kvs) ∧ Tar kvs ∧ kvs ≠ [] ∧ ∀ (L : Nat) H', Wide (tfD kvs) L → 1 ≤ L → L ≤ 5 → Same H H' → Q (.int (L : Int)) H'
/-- _law_front -/
def spLawFront : Sp := fun vs H Q _ => ∃ d kvs z, vs = [.ref d, .str z] ∧ H d = some (.dK kvs) ∧ Tar kvs ∧ kvs ≠ [] ∧ Over (tfD kvs) (cs z) ∧ z.length ≤ 10000 ∧ ∀ L t H', Wide (tfD kvs) L → FrontAt H' t (frontW L (cs z)) (frontD (tfD kvs) L (cs z)) → Same H H' → Q (.ref t) H'
/-- _law_step -/
def spLawStep : Sp := fun vs H Q _ => ∃ (d f : Addr) (kvs : List (Key × V)) (l : List Nat) (ds : List Int) (c L : Nat), vs = [.ref d, .ref f, .str (ch c)] ∧ H d = some (.dK kvs) ∧ Tar kvs ∧ kvs ≠ [] ∧ FrontAt H f l ds ∧ Wide (tfD kvs) L ∧ Over (tfD kvs) [c] ∧ l.length < L ∧ ds.length = l.length ∧
  ∀ t m H', StepR (tfD kvs) l ds c m → StepAt H' t (stepW L l c) (stepD L l ds c m) m → Same H H' → Q (.ref t) H'
noncomputable def stepG (ds : List Int) (lg : Str) : Key × V → Option Int := fun kv => match kv with
  | (.inr y, .int p) => if Txt.endswith lg y = true then some (p + aheadAt ds y) else none
  | _ => none
theorem step_minT {kvs : List (Key × V)} {lg : Str} {l : List Nat} {ds : List Int} {c : Nat} (T : Tar kvs) (hg : cs lg = l ++ [c]) (hds : ds.length = l.length) (oc : Over (tfD kvs) [c]) :
    0 < (kvs.filterMap (stepG ds lg)).length ∧ ∀ m ∈ kvs.filterMap (stepG ds lg), (∀ y ∈ kvs.filterMap (stepG ds lg), m ≤ y) → StepR (tfD kvs) l ds c m := by
  have mem : ∀ {y p a}, tfD kvs y = some p → l ++ [c] = a ++ cs y → p + aheadAt ds y ∈ kvs.filterMap (stepG ds lg) := fun {y p a} h h2 => by
    refine List.mem_filterMap.mpr ⟨_, valV_mem (tf_some.mp h), ?_⟩
    show (if Txt.endswith lg y = true then some (p + aheadAt ds y) else none) = _
    rw [if_pos (ends_iff.mpr ⟨a, by rw [hg]; exact h2⟩)]
  have ah : ∀ {y p a}, tfD kvs y = some p → l ++ [c] = a ++ cs y → ((0 : Int) :: ds)[(cs y).length - 1]? = some (aheadAt ds y) := fun {y p a} h h2 => by
    have n1 := (T.good.len y p h).1
    have h3 := congrArg List.length h2
    rw [List.length_append, List.length_append, List.length_singleton] at h3
    unfold aheadAt
    rw [List.getElem?_eq_getElem (by rw [List.length_cons]; omega)]
    rfl
  constructor
  · obtain ⟨p, hp⟩ := oc c List.mem_cons_self
    exact List.length_pos_of_mem (mem (y := ch c) (a := l) hp rfl)
  · intro m hm hle
    constructor
    · obtain ⟨kv, hkv, g⟩ := List.mem_filterMap.mp hm
      obtain ⟨y, p, rfl, hp⟩ := T.mem kv hkv
      have g' : (if Txt.endswith lg y = true then some (p + aheadAt ds y) else none) = some m := g
      by_cases q : Txt.endswith lg y = true
      · rw [if_pos q] at g'
        obtain ⟨a, ha⟩ := ends_iff.mp q
        rw [hg] at ha
        exact ⟨y, p, a, _, hp, ha, ah hp ha, (Option.some.inj g').symm⟩
      · rw [if_neg q] at g'
        cases g'
    · intro z p a y hz h2 h3
      rw [ah hz h2] at h3
      rw [← Option.some.inj h3]
      exact hle _ (mem hz h2)
/-- _law_large -/
def spLarge : Sp := fun vs H Q _ => ∃ (l : Addr) (n : Nat), vs = [.ref l] ∧ Dice H l (n + 2) ∧ ∀ (i : Int) H', isInteger (.int i) = true → Kp l H H' → Dice H' l n → Q (.int i) H'
theorem isI_of {i : Int} (h : i.natAbs < 10 ^ 60) : isInteger (.int i) = true := decide_eq_true h
theorem ten60 : (10 : Int) ^ (60 : Int).toNat = ((10 ^ 60 : Nat) : Int) := by decide +kernel
theorem large60 : 1000 ≤ (10 ^ 60 : Nat) := by decide +kernel
/-! ### fronts as data -/
def dFront (l : List Nat) (ds : List Int) : PyData := .tuple [.str (sOf l), .tuple (ds.map PyData.int)]
def dStep (l : List Nat) (ds : List Int) (m : Int) : PyData := .tuple [dFront l ds, .int m]
theorem dpAll_ints {K : PySem.W.Frag} {H : Hp} : ∀ ds : List Int, DpAll K H (ds.map V.int) (ds.map PyData.int)
  | [] => .nil
  | d :: r => .cons (.int d) (dpAll_ints r)
theorem dp_front {K : PySem.W.Frag} {H : Hp} {t : Addr} {l : List Nat} {ds : List Int} (f : FrontAt H t l ds) : Dp K H (.ref t) (dFront l ds) := by
  obtain ⟨td, h1, h2⟩ := f
  exact .tup (SqT.of h1) (.cons (.str _) (.cons (.tup (SqT.of h2) (dpAll_ints ds)) .nil))
theorem dp_step {K : PySem.W.Frag} {H : Hp} {t : Addr} {l : List Nat} {ds : List Int} {m : Int} (f : StepAt H t l ds m) : Dp K H (.ref t) (dStep l ds m) := by
  obtain ⟨u, h1, h2⟩ := f
  exact .tup (SqT.of h1) (.cons (dp_front h2) (.cons (.int m) .nil))
theorem shw_tuple {ds : List PyData} {k n : Nat} (h : ∀ d ∈ ds, Shw d k n) : Shw (.tuple ds) (k + 1) (ds.length * (n + 2) + 4) := by
  obtain ⟨b1, b2, b3, b4⟩ := shwAll h
  refine ⟨by simpa [PyData.showable] using b1, by simpa [PyData.hasDict] using b2, by simp only [PyData.depth]; omega, ?_⟩
  simp only [PyData.shown]
  unfold tupleText
  rw [strLen_append, strLen_append]
  have c1 : (("(" : String) : Str).length = 1 := by decide +kernel
  have c2 : ((if (PyData.shownAll ds).length == 1 then ",)" else ")" : String) : Str).length ≤ 2 := by split <;> decide +kernel
  have c3 : piled (PyData.shownAll ds) ≤ (PyData.shownAll ds).length * (n + 2) := by
    have gen : ∀ l : List Str, (∀ t ∈ l, t.length ≤ n) → piled l ≤ l.length * (n + 2) := by
      intro l hl
      induction l with
      | nil => simp [piled]
      | cons t r ih =>
        have h1 := hl t List.mem_cons_self
        have h2 := ih fun u hu => hl u (List.mem_cons_of_mem _ hu)
        have e : piled (t :: r) = t.length + 2 + piled r := by simp [piled]
        rw [e, List.length_cons, Nat.add_mul]
        omega
    exact gen _ b4
  have c4 : (Str.join ", " (PyData.shownAll ds)).length ≤ piled (PyData.shownAll ds) := by
    by_cases q : PyData.shownAll ds = []
    · rw [q]
      decide +kernel
    · have := join_length_add _ q
      omega
  have c5 : (PyData.shownAll ds).length = ds.length := by rw [shownAll_map, List.length_map]
  rw [c5] at c3
  omega
theorem shw_str {z : Str} {n : Nat} (h : z.length ≤ n) (hc : ∀ c ∈ cs z, c < 16 ^ 8) : Shw (.str z) 0 (10 * n + 2) :=
  ⟨by simp [PyData.showable], by simp [PyData.hasDict], by simp [PyData.depth], by simp only [PyData.shown]; exact Nat.le_trans (StrLaws.reprText_len z hc) (by omega)⟩
theorem shw_front {l : List Nat} {ds : List Int} (hl : l.length ≤ 5) (hc : ∀ c ∈ l, lett c = true) (hd : ds.length ≤ 5) (hi : ∀ d ∈ ds, d.natAbs < 2 ^ 300) : Shw (dFront l ds) 2 (2 * 9700) := by
  have h1 : Shw (.str (sOf l)) 1 9650 := (shw_str (n := 5) (by rw [sOf_len]; exact hl) fun c h => by
    rw [cs_sOf] at h
    have := hc c h
    unfold lett at this
    rw [Bool.and_eq_true] at this
    have := of_decide_eq_true this.2
    exact Nat.lt_of_le_of_lt this (by decide)).le (by omega) (by omega)
  have h2 : Shw (.tuple (ds.map PyData.int)) 1 9650 := (shw_tuple (k := 0) (n := 1921) fun d hd' => by
    obtain ⟨i, hi', rfl⟩ := List.mem_map.mp hd'
    exact shw_int (log_of (hi i hi'))).le (by omega) (by
      rw [List.length_map]
      have := Nat.mul_le_mul_right (1921 + 2) hd
      omega)
  refine (shw_tuple (k := 1) (n := 9650) fun d hd' => ?_).le (by omega) (by show 2 * (9650 + 2) + 4 ≤ 2 * 9700; omega)
  simp only [List.mem_cons, List.not_mem_nil, or_false] at hd'
  rcases hd' with rfl | rfl
  · exact h1
  · exact h2
theorem shw_step {l : List Nat} {ds : List Int} {m : Int} (hl : l.length ≤ 5) (hc : ∀ c ∈ l, lett c = true) (hd : ds.length ≤ 5) (hi : ∀ d ∈ ds, d.natAbs < 2 ^ 300) (hm : m.natAbs < 2 ^ 300) : Shw (dStep l ds m) 3 40000 := by
  refine (shw_tuple (k := 2) (n := 2 * 9700) fun d hd' => ?_).le (by omega) (by show 2 * (2 * 9700 + 2) + 4 ≤ 40000; omega)
  simp only [List.mem_cons, List.not_mem_nil, or_false] at hd'
  rcases hd' with rfl | rfl
  · exact shw_front hl hc hd hi
  · exact (shw_int (log_of hm)).le (by omega) (by omega)
/-- repr of shown data -/
theorem repr_shw {K : PySem.W.Frag} {H : Hp} {x : V} {d : PyData} {k n : Nat} {Q : VK} (h : Dp K H x d) (s : Shw d k n) (hk : k ≤ 60) (hn : n ≤ 100000) (q : Q (.str d.shown) H) : rRepr K [x] H Q :=
  ⟨x, d, rfl, h, s.s, s.h, Nat.le_trans s.dp hk, Nat.le_trans s.len (fits_sz hn), q⟩
theorem lift_ch {P : Nat → Prop} : ∀ {ys : List Str}, (∀ y ∈ ys, ∃ c, y = ch c ∧ P c) → ∃ sg : List Nat, ys = sg.map ch ∧ ∀ c ∈ sg, P c
  | [], _ => ⟨[], rfl, fun _ h => (List.not_mem_nil h).elim⟩
  | y :: r, h => by
    obtain ⟨c, rfl, hc⟩ := h y List.mem_cons_self
    obtain ⟨sg, rfl, hs⟩ := lift_ch (ys := r) fun z hz => h z (List.mem_cons_of_mem _ hz)
    refine ⟨c :: sg, rfl, fun d hd => ?_⟩
    rcases List.mem_cons.mp hd with rfl | hd
    · exact hc
    · exact hs d hd
/-! ### bounds -/
theorem lp_bound {F : Tf} (G : Good F) : ∀ l, Over F l → 0 ≤ lp F l ∧ lp F l ≤ 99 * (l.length : Int)
  | [], _ => by
    rw [lp_nil G]
    exact ⟨Int.le_refl _, by decide⟩
  | c :: r, o => by
    have o1 : Over F [c] := fun d hd => o d (by rw [List.mem_singleton.mp hd]; exact List.mem_cons_self)
    have o2 : Over F r := fun d hd => o d (List.mem_cons_of_mem _ hd)
    obtain ⟨p, hp⟩ := o c List.mem_cons_self
    have h1 : lp F [c] ≤ p := lp_piece G hp
    have h2 := (G.pos _ _ hp).2
    have h3 := (lp_bound G r o2).2
    have h4 : lp F (c :: r) ≤ lp F [c] + lp F r := lp_add G o1 o2
    obtain ⟨d, hd, e⟩ := lp_cut G o
    have h5 := fee_pos G d hd.1
    rw [List.length_cons]
    omega
theorem front_small {F : Tf} {L : Nat} {l : List Nat} (G : Good F) (o : Over F l) : ∀ d ∈ frontD F L l, d.natAbs ≤ 99 * l.length := fun d hd => by
  unfold frontD at hd
  obtain ⟨i, _, rfl⟩ := List.mem_map.mp hd
  have h1 := lp_bound G _ o
  have h2 := lp_bound G _ (o.take (l.length - (i + 1)))
  have h3 : (l.take (l.length - (i + 1))).length ≤ l.length := by
    rw [List.length_take]
    omega
  omega
theorem frontW_mem {L : Nat} {l : List Nat} {c : Nat} (h : c ∈ frontW L l) : c ∈ l := List.mem_of_mem_drop h
theorem stepW_mem {L : Nat} {l : List Nat} {c d : Nat} (h : d ∈ stepW L l c) : d ∈ l ∨ d = c := by
  have h1 := List.mem_of_mem_drop h
  rcases List.mem_append.mp h1 with h | h
  · exact Or.inl h
  · exact Or.inr (List.mem_singleton.mp h)
theorem stepR_small {F : Tf} {l : List Nat} {ds : List Int} {c B : Nat} {m : Int} (G : Good F) (h : StepR F l ds c m) (hb : ∀ d ∈ ds, d.natAbs ≤ B) : m.natAbs ≤ B + 99 := by
  obtain ⟨⟨z, p, a, y, h1, _, h3, rfl⟩, _⟩ := h
  have h4 := G.pos _ _ h1
  rcases List.mem_cons.mp (List.mem_of_getElem? h3) with rfl | h5
  · omega
  · have := hb y h5
    omega
theorem stepD_small {L : Nat} {l : List Nat} {ds : List Int} {c B : Nat} {m : Int} (hm : m.natAbs ≤ B + 99) (hb : ∀ d ∈ ds, d.natAbs ≤ B) : ∀ d ∈ stepD L l ds c m, d.natAbs ≤ 2 * B + 99 := fun d hd => by
  obtain ⟨x, hx, rfl⟩ := List.mem_map.mp (List.mem_of_mem_take hd)
  rcases List.mem_cons.mp hx with rfl | h5
  · omega
  · have := hb x h5
    omega
theorem stepD_len {L : Nat} {l : List Nat} {ds : List Int} {c : Nat} {m : Int} : (stepD L l ds c m).length ≤ (stepW L l c).length := by
  unfold stepD
  rw [List.length_take]
  omega
/-! ### fronts of given books, worked out -/
def psK (kvs : List (Key × V)) : List (List Nat × Int) := kvs.filterMap fun kv => match kv with | (.inr z, .int p) => some (cs z, p) | _ => none
theorem ps_tf {kvs : List (Key × V)} (nd : (kvs.map (·.1)).Nodup) {z : Str} {p : Int} : tfD kvs z = some p ↔ (cs z, p) ∈ psK kvs := by
  unfold psK
  rw [List.mem_filterMap]
  constructor
  · intro h
    exact ⟨_, valV_mem (tf_some.mp h), rfl⟩
  · rintro ⟨⟨k, v⟩, h1, h2⟩
    have h3 := val_nodup nd _ h1
    rcases k with i | y
    · cases h2
    · cases v
      case int q =>
        have e := Option.some.inj h2
        have e1 : y = z := str_ext (Prod.mk.inj e).1
        have e2 : q = p := (Prod.mk.inj e).2
        subst e1
        subst e2
        exact tf_some.mpr h3
      all_goals cases h2
def candF (ps : List (List Nat × Int)) (w : List Nat) (d : List Int) (c : Nat) : List Int :=
  ps.filterMap fun q => if (w ++ [c]).drop ((w ++ [c]).length - q.1.length) = q.1 then (((0 : Int) :: d)[q.1.length - 1]?).map fun y => q.2 + y else none
def minI : List Int → Option Int
  | [] => none
  | a :: r => match minI r with
    | none => some a
    | some b => some (if a ≤ b then a else b)
theorem minI_none : ∀ {xs : List Int}, minI xs = none → xs = []
  | [], _ => rfl
  | a :: r, h => by
    unfold minI at h
    split at h <;> cases h
theorem minI_spec : ∀ {xs : List Int} {m : Int}, minI xs = some m → m ∈ xs ∧ ∀ y ∈ xs, m ≤ y
  | [], _, h => by cases h
  | a :: r, m, h => by
    unfold minI at h
    split at h
    · rename_i e
      have er := minI_none e
      have em := Option.some.inj h
      subst em
      rw [er]
      exact ⟨List.mem_cons_self, fun y hy => by rw [List.mem_singleton.mp hy]; exact Int.le_refl _⟩
    · rename_i b e
      obtain ⟨h1, h2⟩ := minI_spec e
      have em := Option.some.inj h
      subst em
      constructor
      · split
        · exact List.mem_cons_self
        · exact List.mem_cons_of_mem _ h1
      · intro y hy
        rcases List.mem_cons.mp hy with rfl | hy
        · split <;> omega
        · have := h2 y hy
          split <;> omega
theorem step_of {kvs : List (Key × V)} (nd : (kvs.map (·.1)).Nodup) {w : List Nat} {d : List Int} {c : Nat} {m : Int} (h : minI (candF (psK kvs) w d c) = some m) : StepR (tfD kvs) w d c m := by
  obtain ⟨h1, h2⟩ := minI_spec h
  constructor
  · obtain ⟨q, hq, e⟩ := List.mem_filterMap.mp h1
    split at e
    · rename_i s
      obtain ⟨y, hy, rfl⟩ := Option.map_eq_some_iff.mp e
      refine ⟨sOf q.1, q.2, (w ++ [c]).take ((w ++ [c]).length - q.1.length), y, (ps_tf nd).mpr (by rw [cs_sOf]; exact hq), ?_, by rw [cs_sOf]; exact hy, rfl⟩
      rw [cs_sOf]
      conv => rhs; rw [← s]
      exact (List.take_append_drop _ _).symm.trans (by rw [s])
    · cases e
  · intro z p a y hz hs hy
    refine h2 _ (List.mem_filterMap.mpr ⟨_, (ps_tf nd).mp hz, ?_⟩)
    have e : (w ++ [c]).drop ((w ++ [c]).length - (cs z).length) = cs z := by
      rw [hs, List.length_append, Nat.add_sub_cancel, List.drop_left]
    dsimp only
    rw [if_pos e, hy]
    rfl
def runF (ps : List (List Nat × Int)) (L : Nat) : List Nat → List Nat → List Int → Option (List Nat × List Int)
  | [], w, d => some (w, d)
  | c :: r, w, d => match minI (candF ps w d c) with
    | none => none
    | some m => runF ps L r (stepW L w c) (stepD L w d c m)
theorem run_front {kvs : List (Key × V)} (nd : (kvs.map (·.1)).Nodup) (G : Good (tfD kvs)) {L : Nat} (W : Wide (tfD kvs) L) (hL : 1 ≤ L) : ∀ {r l w : List Nat} {d : List Int} {w' : List Nat} {d' : List Int}, Over (tfD kvs) (l ++ r) → frontW L l = w → frontD (tfD kvs) L l = d →
    runF (psK kvs) L r w d = some (w', d') → frontW L (l ++ r) = w' ∧ frontD (tfD kvs) L (l ++ r) = d'
  | [], l, w, d, w', d', _, hw, hd, h => by
    have e := Option.some.inj h
    rw [List.append_nil, hw, hd]
    exact Prod.mk.inj e
  | c :: r, l, w, d, w', d', o, hw, hd, h => by
    unfold runF at h
    split at h
    · cases h
    · rename_i m e
      have st := step_of nd e
      have o1 : Over (tfD kvs) (l ++ [c]) := fun x hx => o x (by
        rcases List.mem_append.mp hx with h | h
        · exact List.mem_append_left _ h
        · rw [List.mem_singleton.mp h]
          exact List.mem_append_right _ List.mem_cons_self)
      have fc := front_change G W o1
      have em : m = lp (tfD kvs) (l ++ [c]) - lp (tfD kvs) l := (show StepR (tfD kvs) (frontW L l) (frontD (tfD kvs) L l) c m by rw [hw, hd]; exact st).uniq fc
      have e2 : l ++ c :: r = (l ++ [c]) ++ r := by rw [List.append_assoc]; rfl
      rw [e2]
      refine run_front nd G W hL (by rw [← e2]; exact o) ?_ ?_ h
      · rw [← hw, front_stepW hL]
      · rw [← hw, ← hd, em, front_stepD hL]
theorem run_all {kvs : List (Key × V)} (nd : (kvs.map (·.1)).Nodup) (G : Good (tfD kvs)) {L : Nat} (W : Wide (tfD kvs) L) (hL : 1 ≤ L) {r w' : List Nat} {d' : List Int} (o : Over (tfD kvs) r) (h : runF (psK kvs) L r [] [] = some (w', d')) : frontW L r = w' ∧ frontD (tfD kvs) L r = d' :=
  run_front nd G W hL (l := []) (w := []) (d := []) o (by unfold frontW; exact List.drop_nil) (by unfold frontD; rw [List.length_nil, Nat.min_zero]; rfl) h
/-- a front that comes back behind a word -/
theorem run_round {kvs : List (Key × V)} (nd : (kvs.map (·.1)).Nodup) (G : Good (tfD kvs)) {L : Nat} (W : Wide (tfD kvs) L) (hL : 1 ≤ L) {r w : List Nat} {d : List Int} (o : Over (tfD kvs) r) (h1 : runF (psK kvs) L r [] [] = some (w, d)) (h2 : runF (psK kvs) L r w d = some (w, d)) :
    ∀ n : Nat, frontW L (List.replicate (n + 1) r).flatten = w ∧ frontD (tfD kvs) L (List.replicate (n + 1) r).flatten = d
  | 0 => by
    have e : (List.replicate 1 r).flatten = r := by simp
    rw [e]
    exact run_all nd G W hL o h1
  | n + 1 => by
    obtain ⟨i1, i2⟩ := run_round nd G W hL o h1 h2 n
    have e : (List.replicate (n + 1 + 1) r).flatten = (List.replicate (n + 1) r).flatten ++ r := by
      rw [List.replicate_succ', List.flatten_append]
      simp
    rw [e]
    refine run_front nd G W hL (fun c hc => ?_) i1 i2 h2
    rcases List.mem_append.mp hc with h | h
    · obtain ⟨t, ht, hc⟩ := List.mem_flatten.mp h
      rw [(List.mem_replicate.mp ht).2] at hc
      exact o c hc
    · exact o c h
theorem wide_ps {kvs : List (Key × V)} (nd : (kvs.map (·.1)).Nodup) {L : Nat} (h : ((psK kvs).any fun q => decide (q.1.length = L)) = true) (k : ((psK kvs).all fun q => decide (q.1.length ≤ L)) = true) : Wide (tfD kvs) L := by
  constructor
  · obtain ⟨q, hq, e⟩ := List.any_eq_true.mp h
    exact ⟨sOf q.1, q.2, (ps_tf nd).mpr (by rw [cs_sOf]; exact hq), by rw [cs_sOf]; exact of_decide_eq_true e⟩
  · intro z p hz
    exact of_decide_eq_true (List.all_eq_true.mp k _ ((ps_tf nd).mp hz))
theorem over_ps {kvs : List (Key × V)} (nd : (kvs.map (·.1)).Nodup) {l : List Nat} (h : (l.all fun c => (psK kvs).any fun q => decide (q.1 = [c])) = true) : Over (tfD kvs) l := fun c hc => by
  obtain ⟨q, hq, e⟩ := List.any_eq_true.mp (List.all_eq_true.mp h c hc)
  exact ⟨q.2, (ps_tf nd).mpr (by
    show ([c], q.2) ∈ _
    rw [← of_decide_eq_true e]
    exact hq)⟩
end G
/-! sorted(d.items()) of a dict from texts to ints. -/
namespace G
open PySem PySem.W PySem.Spec PyProof.Rows
/-- the text that stands first in a tuple -/
def txK (h : Heap) (v : Value) : Str := DT.txOf (DT.seqAt0 h (DT.refOf (some v)))
def PairTI (h : Heap) (v : Value) (y : Str) (n : Int) : Prop := ∃ a t u, v = .ref a ∧ IsTup h a #[.str y t, .int n u]
theorem PairTI.tx {h : Heap} {v : Value} {y : Str} {n : Int} (x : PairTI h v y n) : txK h v = y := by
  obtain ⟨a, t, u, rfl, i⟩ := x
  have e := DT.seqAt0_of i
  unfold txK
  show DT.txOf (DT.seqAt0 h a) = y
  rw [e]
  rfl
theorem firstsTI {h : Heap} {M : Str → Int} : ∀ vs : List Value, (∀ v ∈ vs, ∃ y, PairTI h v y (M y)) → ∃ fs : List Value, KatTups h vs fs ∧ fs.length = vs.length ∧ ∀ f ∈ fs, ∃ y t, f = Value.str y t
  | [], _ => ⟨[], KatTups.nil, rfl, fun _ z => (List.not_mem_nil z).elim⟩
  | v :: r, x => by
    obtain ⟨fs, k, hl, hi⟩ := firstsTI r fun u hu => x u (List.mem_cons_of_mem _ hu)
    obtain ⟨y, a, t, u, rfl, ⟨o, ho, hc, n, hd⟩⟩ := x v List.mem_cons_self
    refine ⟨.str y t :: fs, KatTups.cons ho hc hd rfl k, congrArg (· + 1) hl, fun f hf => ?_⟩
    rcases List.mem_cons.mp hf with rfl | hf
    · exact ⟨y, t, rfl⟩
    · exact hi f hf
section
variable {prog : Program} {w : World} {A : Around} {E : Value → Shared → Prop} {s : Shared}
theorem kindTI {vs : List Value} {ρ : Str → Int} {M : Str → Int} (h2 : 2 ≤ vs.length) (x : ∀ v ∈ vs, ∃ y, PairTI s.heap v y (M y))
    (hρ : ∀ v ∈ vs, ∀ u ∈ vs, decide ((txK s.heap v).cps.toList < (txK s.heap u).cps.toList) = decide (ρ (txK s.heap v) < ρ (txK s.heap u))) (Q : SortKind → Shared → Prop)
    (h : ∀ κ, _root_.TS.Cmp prog w A s κ (pairsOf vs) (fun v => ρ (txK s.heap v)) → Q κ s) : wpAny (model prog w) A (keyKind' vs.toArray) Q E s := by
  obtain ⟨fs, k, hl, hi⟩ := firstsTI vs x
  refine kat_kind (T := Value.type "str") k (by omega) (fun f hf => ?_) rfl (h _ ?_)
  · obtain ⟨y, t, rfl⟩ := hi f hf
    exact .now
  · have hb : (Value.type "str" != Value.type "tuple") = true := by first | rfl | decide | simp
    rw [hb]
    intro p q hp hq Q' E' hQ
    rw [pairsOf_toList] at hp hq
    have mp := (mem_zip_self hp).2
    have mq := (mem_zip_self hq).2
    obtain ⟨y, py⟩ := x _ mp
    obtain ⟨z, pz⟩ := x _ mq
    have hQ1 : Q' (decide (ρ (txK s.heap p.1) < ρ (txK s.heap q.1))) s := hQ
    rw [← hρ _ mp _ mq, py.tx, pz.tx] at hQ1
    obtain ⟨a, t, u, e1, ⟨o, ho, _, n, hd⟩⟩ := py
    obtain ⟨b, t', u', e2, ⟨o', ho', _, n', hd'⟩⟩ := pz
    rw [e1, e2]
    refine kat_lt ho hd ho' hd' ?_
    show KatLex prog w A true false Q' [(Value.str y t, Value.str z t'), (Value.int (M y) u, Value.int (M z) u')] 0 s
    refine kat_cons (SeqAt.EqAt.str_str y t z t' _ _ _ _ ?_)
    refine kat_go (fun e0 => ?_) (fun e0 => ?_)
    · have e : y = z := by simpa using e0
      subst e
      have irr : decide (y.cps.toList < y.cps.toList) = false := decide_eq_false (List.lt_irrefl _)
      rw [irr] at hQ1
      refine kat_yes (kat_cons (SeqAt.EqAt.int_int (M y) u (M y) u' _ _ _ _ ?_))
      refine kat_go (fun _ => kat_yes (kat_nil hQ1)) (fun e1' => ?_)
      simp at e1'
    · refine kat_no ?_
      show wpAny _ _ (oneLt' true _ _) _ _ _
      exact oneLt_str hQ1
end
/-! ### the rank of a text among some -/
def rankOf (ks : List Str) (y : Str) : Int := (ks.countP fun k => decide (cs k < cs y) : Nat)
theorem countP_le {α : Type} {p q : α → Bool} : ∀ {l : List α}, (∀ a ∈ l, p a = true → q a = true) → l.countP p ≤ l.countP q
  | [], _ => Nat.le_refl _
  | a :: r, h => by
    have ih := countP_le (l := r) fun b hb => h b (List.mem_cons_of_mem _ hb)
    rw [List.countP_cons, List.countP_cons]
    have := h a List.mem_cons_self
    by_cases e : p a = true
    · rw [if_pos e, if_pos (this e)]
      omega
    · rw [if_neg e]
      split <;> omega
theorem countP_lt {α : Type} {p q : α → Bool} {x : α} : ∀ {l : List α}, (∀ a ∈ l, p a = true → q a = true) → x ∈ l → p x = false → q x = true → l.countP p < l.countP q
  | [], _, hx, _, _ => (List.not_mem_nil hx).elim
  | a :: r, h, hx, h1, h2 => by
    have hr : ∀ b ∈ r, p b = true → q b = true := fun b hb => h b (List.mem_cons_of_mem _ hb)
    rw [List.countP_cons, List.countP_cons]
    rcases List.mem_cons.mp hx with rfl | hx
    · have ih := countP_le hr
      rw [if_neg (by rw [h1]; exact Bool.false_ne_true), if_pos h2]
      omega
    · have ih := countP_lt hr hx h1 h2
      have := h a List.mem_cons_self
      by_cases e : p a = true
      · rw [if_pos e, if_pos (this e)]
        omega
      · rw [if_neg e]
        split <;> omega
theorem rank_lt {ks : List Str} {y z : Str} (hy : y ∈ ks) (hz : z ∈ ks) : decide (cs y < cs z) = decide (rankOf ks y < rankOf ks z) := by
  unfold rankOf
  by_cases h : cs y < cs z
  · have h1 := countP_lt (p := fun k => decide (cs k < cs y)) (q := fun k => decide (cs k < cs z)) (l := ks) (fun a _ ha => decide_eq_true (List.lt_trans (of_decide_eq_true ha) h)) hy (decide_eq_false (List.lt_irrefl _)) (decide_eq_true h)
    rw [decide_eq_true h, decide_eq_true (by omega)]
  · have h1 := countP_le (p := fun k => decide (cs k < cs z)) (q := fun k => decide (cs k < cs y)) (l := ks) fun a _ ha => by
      by_cases q : cs a < cs y
      · exact decide_eq_true q
      · exact absurd (List.lt_of_le_of_lt (List.not_lt.mp q) (of_decide_eq_true ha)) h
    rw [decide_eq_false h, decide_eq_false (by omega)]
theorem rank_le {ks : List Str} {y z : Str} (hy : y ∈ ks) (hz : z ∈ ks) (h : rankOf ks y ≤ rankOf ks z) : cs y ≤ cs z := by
  have h1 := rank_lt hz hy
  rw [decide_eq_false (by omega : ¬ rankOf ks z < rankOf ks y)] at h1
  exact List.not_lt.mp (of_decide_eq_false h1)
/-! ### the rule -/
theorem pairs_get {prog : Program} {w : World} {K : Type} [DecidableEq K] {knd : KeyKind prog w K} : ∀ {es : List DictEntry} {kvs : List (K × Value)} {j : Nat} {e : DictEntry}, Pairs knd es kvs → es[j]? = some e → ∃ kv, kvs[j]? = some kv ∧ knd.is kv.1 e.key = true ∧ e.val = kv.2
  | _, _, _, _, .nil, h => by simp at h
  | _, _, 0, _, .cons h1 h2 _, h => by
    cases h
    exact ⟨_, rfl, h1, h2⟩
  | _, _, j + 1, _, .cons _ _ t, h => pairs_get (j := j) t (by simpa using h)
theorem pairs_len {prog : Program} {w : World} {K : Type} [DecidableEq K] {knd : KeyKind prog w K} : ∀ {es : List DictEntry} {kvs : List (K × Value)}, Pairs knd es kvs → es.length = kvs.length
  | _, _, .nil => rfl
  | _, _, .cons _ _ t => congrArg (· + 1) (pairs_len t)
abbrev entS (e : Str × Int) : L2.Key × L2.V := (Sum.inr e.1, L2.V.int e.2)
/-- d.items(), d locked or not -/
theorem mt_itemsK {X : L2.Cx} : L2.MtR X "dict.items" (fun x xs H Q => ∃ d kvs, x = .ref d ∧ xs = [] ∧ L2.Rd H d (.dK kvs) ∧ ∀ r, H r = none → Q (.ref r) (L2.upd H r (L2.DX.itemsO r d))) := by
  intro pins s σ H x xs v us Q I rx rs h
  obtain ⟨d, kvs, rfl, rfl, hd, q⟩ := h
  cases rx
  cases rs
  obtain ⟨_, low, vs, _, o, es, ep, ho, hx, hdat, _⟩ := L2.dk_rd I.hok hd
  refine DT.callItems (es := es) (ep := ep) low ⟨o, ho, hx, hdat⟩ ?_
  exact ⟨.ref s.heap.objs.size, _, I.laid (t' := s.toks) (o := L2.DX.itemsO s.heap.objs.size d) (fun _ _ e => Heap.get?_push_of_some _ e) (Nat.le_refl _) (L2.DX.itemsO_ok (Heap.get?_push_size _ rfl)), rfl, q _ (I.hok.fresh (Nat.le_refl _))⟩
/-- sorted(d.items()), d from texts to ints -/
def rSortTI : List L2.V → L2.Hp → L2.VK → Prop := fun vs H Q => ∃ (p a : Addr) (ks : List (Str × Int)), vs = [.ref p] ∧ H p = some (L2.DX.itemsO p a) ∧ L2.Rd H a (.dK (ks.map entS)) ∧ (ks.map (·.1)).Nodup ∧ ks.length < 64 ∧
  ∀ (H' : L2.Hp) (l : Addr) (ps : List (Addr × Str × Int)), L2.Same H H' → (ps.map (·.2)).Perm ks → (ps.map (·.2)).Pairwise (fun e f => cs e.1 ≤ cs f.1) → H' l = some (.lst (ps.map fun z => L2.V.ref z.1)) → (∀ z ∈ ps, H' z.1 = some (.tup [.str z.2.1, .int z.2.2])) → Q (.ref l) H'
def valS (ks : List (Str × Int)) (y : Str) : Int := ((ks.find? fun e => decide (e.1 = y)).map (·.2)).getD 0
theorem valS_of : ∀ {ks : List (Str × Int)} {e : Str × Int}, (ks.map (·.1)).Nodup → e ∈ ks → valS ks e.1 = e.2
  | [], _, _, h => (List.not_mem_nil h).elim
  | a :: r, e, nd, h => by
    obtain ⟨n1, n2⟩ := List.nodup_cons.mp nd
    unfold valS
    rw [List.find?_cons]
    rcases List.mem_cons.mp h with rfl | h
    · rw [decide_eq_true rfl]
      rfl
    · have ne : ¬ a.1 = e.1 := fun q => n1 (by
      show a.1 ∈ _
      rw [q]
      exact List.mem_map.mpr ⟨e, h, rfl⟩)
      rw [decide_eq_false ne]
      exact valS_of n2 h
open L2 in
theorem cr_sortTI {X : Cx} (hc : X.calm = true) : CallR X (.builtin "sorted") rSortTI := by
  intro pins s σ H xs us Q I r h
  obtain ⟨p, a, ks, rfl, hp, ha, nk, h64, q⟩ := h
  obtain rfl := Vals.ref1 r
  have view : s.heap.IsItemsView p a := (show ObjOk X.prog X.w H s.heap p (DX.itemsO p a) from I.hok p _ hp).1
  obtain ⟨_, low, ws, kv, o, es, ep, ho, hx, hdat, _, prs, _⟩ := dk_rd I.hok ha
  have n1 : ks.length = ws.length := by
    have := Paired.length kv
    rwa [List.length_map] at this
  have n2 : es.size = ws.length := by
    have := pairs_len prs
    rwa [Array.length_toList] at this
  refine DT.sortedI (es := es) (ep := ep) (I.ok.hd hc) view ⟨o, ho, hx, hdat⟩ (by rw [sizeLine_eq]; omega) fun g tk as hk hlt hl hG => ?_
  have nas : as.length = ks.length := by omega
  have nd : as.Nodup := List.Pairwise.imp (fun h => Nat.ne_of_lt h) hG.rise
  have made : ∀ (j : Nat) (b : Addr), as[j]? = some b → ∃ (e : Str × Int) (t u : Tok), ks[j]? = some e ∧ g.get? b = some { cls := .type "tuple", data := .seq #[Value.str e.1 t, Value.int e.2 u] } := by
    intro j b hj
    obtain ⟨en, he, hg⟩ := hG.pairs j b hj
    obtain ⟨kw, hw, h1, h2⟩ := pairs_get (j := j) prs (by rw [Array.getElem?_toList]; exact he)
    obtain ⟨e0, he0, r1, r2⟩ := DX.pget kv hw
    rw [List.getElem?_map] at he0
    cases hkj : ks[j]? with
    | none =>
      rw [hkj] at he0
      cases he0
    | some e =>
      rw [hkj] at he0
      cases he0
      have rk : RelV (kV (Sum.inr e.1)) en.key := relV_key (show keyIs (Sum.inr e.1) en.key = true by rw [show (Sum.inr e.1 : L2.Key) = kw.1 from r1]; exact h1)
      obtain ⟨t, ek⟩ := rk
      have rv : RelV (V.int e.2) en.val := by
        rw [h2]
        exact r2
      obtain ⟨u, ev⟩ := rv
      refine ⟨e, t, u, rfl, ?_⟩
      rw [hg, ek, ev]
  -- the heap while the sort asks
  have lo : (g.push { cls := .type "list", data := .seq (as.map Value.ref).toArray }).get? g.objs.size = some (seqObj "list" (as.map Value.ref).toArray 0) := Heap.get?_push_size _ rfl
  have up : ∀ b o, g.get? b = some o → (g.push { cls := .type "list", data := .seq (as.map Value.ref).toArray }).get? b = some o := fun b o e => Heap.get?_push_of_some _ e
  have off : ∀ b o, g.get? b = some o → b ≠ g.objs.size := fun b o e => Nat.ne_of_lt (Heap.lt_size e)
  generalize g.push { cls := .type "list", data := .seq (as.map Value.ref).toArray } = m at lo up ⊢
  have pin : ∀ (j : Nat) (b : Addr), as[j]? = some b → ∃ e : Str × Int, ks[j]? = some e ∧ PairTI (_root_.TS.midHeap m g.objs.size (as.map Value.ref)) (.ref b) e.1 (valS ks e.1) := by
    intro j b hj
    obtain ⟨e, t, u, he, hg⟩ := made j b hj
    refine ⟨e, he, b, t, u, rfl, ⟨_, _root_.TS.midHeap_old (off _ _ hg) (up _ _ hg), rfl, 0, ?_⟩⟩
    rw [valS_of nk (List.mem_of_getElem? he)]
  have tx : ∀ (j : Nat) (b : Addr) (e : Str × Int), as[j]? = some b → ks[j]? = some e → txK (_root_.TS.midHeap m g.objs.size (as.map Value.ref)) (.ref b) = e.1 := by
    intro j b e hj he
    obtain ⟨e', he', hp'⟩ := pin j b hj
    rw [he] at he'
    cases he'
    exact hp'.tx
  have each : ∀ v ∈ as.map Value.ref, ∃ (j : Nat) (b : Addr) (e : Str × Int), v = .ref b ∧ as[j]? = some b ∧ ks[j]? = some e := by
    intro v hv
    obtain ⟨b, hb, rfl⟩ := List.mem_map.mp hv
    obtain ⟨j, hj⟩ := List.mem_iff_getElem?.mp hb
    obtain ⟨e, _, _, he, _⟩ := made j b hj
    exact ⟨j, b, e, rfl, hj, he⟩
  have inK : ∀ {j : Nat} {e : Str × Int}, ks[j]? = some e → e.1 ∈ ks.map (·.1) := fun h => List.mem_map.mpr ⟨_, List.mem_of_getElem? h, rfl⟩
  refine wpAny_call_entry PyProof.Rows.slot_list_sort ⟨_, lo, rfl⟩ PyProof.Rows.entry_list_sort (SK.plain_sort (s := { s with heap := m, toks := tk })
    (r := fun v => rankOf (ks.map (·.1)) (txK (_root_.TS.midHeap m g.objs.size (as.map Value.ref)) v)) lo (by rw [List.length_map]; omega) (fun two Qk hQk => ?_) fun ps out o1 o2 o3 => ⟨.none, rfl, ?_⟩) (PyProof.Rows.args_list_sort _)
  · refine kindTI (s := { s with heap := _root_.TS.midHeap m g.objs.size (as.map Value.ref), toks := tk }) (ρ := rankOf (ks.map (·.1))) (M := valS ks) two (fun v hv => ?_) (fun v hv u hu => ?_) Qk hQk
    · obtain ⟨j, b, e, rfl, hj, _⟩ := each v hv
      obtain ⟨e', _, hp'⟩ := pin j b hj
      exact ⟨e'.1, hp'⟩
    · obtain ⟨j, b, e, rfl, hj, he⟩ := each v hv
      obtain ⟨j', b', e', rfl, hj', he'⟩ := each u hu
      dsimp only
      rw [tx j b e hj he, tx j' b' e' hj' he']
      exact rank_lt (inK he) (inK he')
  · show EP X pins σ Q (.ref g.objs.size) { s with heap := sortedHeap m g.objs.size (as.map Value.ref) out, toks := tk }
    obtain ⟨zs, pz, ez⟩ := perm_lift (fun z : Addr × Str × Int => (Value.ref z.1, Value.ref z.1)) o2 (as.zip ks) (DX.zip_self Value.ref as ks nas)
    have idx : ∀ z ∈ zs, ∃ j : Nat, as[j]? = some z.1 ∧ ks[j]? = some z.2 := by
      intro z hz
      obtain ⟨j, hj⟩ := List.mem_iff_getElem?.mp (pz.mem_iff.mp hz)
      exact ⟨j, List.getElem?_zip_eq_some.mp hj⟩
    have eout : out.toList = zs.map fun z => Value.ref z.1 := by
      rw [o1, ← ez, List.map_map]
      rfl
    have perm : (zs.map (·.2)).Perm ks := by
      have e := pz.map (·.2)
      rwa [show (as.zip ks).map (·.2) = ks from List.map_snd_zip (by omega)] at e
    have srt : (zs.map (·.2)).Pairwise (fun e f => cs e.1 ≤ cs f.1) := by
      rw [← ez, List.pairwise_map] at o3
      rw [List.pairwise_map]
      refine List.Pairwise.imp_of_mem (fun {x y} hx hy h => ?_) o3
      obtain ⟨j, j1, j2⟩ := idx x hx
      obtain ⟨i, i1, i2⟩ := idx y hy
      dsimp only at h
      rw [tx j _ _ j1 j2, tx i _ _ i1 i2] at h
      exact rank_le (inK j2) (inK i2) h
    have keepM : ∀ b o, b ≠ g.objs.size → m.get? b = some o → (sortedHeap m g.objs.size (as.map Value.ref) out).get? b = some o := fun b o hb e => (PyProof.Rows.sortedHeap_old hb (Heap.lt_size e)).trans e
    have keepS : ∀ b o, s.heap.get? b = some o → (sortedHeap m g.objs.size (as.map Value.ref) out).get? b = some o := fun b o e => keepM b o (off _ _ (hk b o e)) (up _ _ (hk b o e))
    obtain ⟨ce, hce⟩ := PyProof.Rows.sortedHeap_at (vs := as.map Value.ref) (out := out) lo
    have J1 : Inv X pins σ H { s with heap := sortedHeap m g.objs.size (as.map Value.ref) out, toks := tk } := I.kept (t' := tk) keepS
    have free : H g.objs.size = none := I.hok.fresh (Nat.le_of_lt hlt)
    have zlen : (zs.map fun z => V.ref z.1).length ≤ sizeLine := by
      have e := perm.length_eq
      rw [List.length_map] at e
      rw [List.length_map, sizeLine_eq]
      omega
    have J2 : Inv X pins σ (upd H g.objs.size (.lst (zs.map fun z => V.ref z.1))) { s with heap := sortedHeap m g.objs.size (as.map Value.ref) out, toks := tk } :=
      J1.take (h' := sortedHeap m g.objs.size (as.map Value.ref) out) (t' := tk) (fun b ob _ e => e) (I.fpOk (Nat.le_of_lt hlt) free) ⟨zlen, out.toList, ce, by rw [eout]; exact vals_maps (fun z : Addr × Str × Int => V.ref z.1) (fun z => Value.ref z.1) zs fun _ _ => rfl, hce⟩
    obtain ⟨H2, J3, kp, tups⟩ := DX.takeT (P := fun b xs => ∃ (j : Nat) (e : Str × Int), as[j]? = some b ∧ ks[j]? = some e ∧ xs = [V.str e.1, V.int e.2]) I as _ J2 nd fun b hb => by
      obtain ⟨j, hj⟩ := List.mem_iff_getElem?.mp hb
      obtain ⟨e, t, u, he, hg⟩ := made j b hj
      have low' : s.heap.objs.size ≤ b := Nat.le_of_lt (hG.above b hb)
      refine ⟨low', ?_, [V.str e.1, V.int e.2], ⟨j, e, hj, he, rfl⟩, fun H3 => ⟨by show 2 ≤ sizeLine; decide, [Value.str e.1 t, Value.int e.2 u], .cons ⟨t, rfl⟩ (.cons ⟨u, rfl⟩ .nil), ⟨_, keepM _ _ (off _ _ hg) (up _ _ hg), rfl, 0, rfl⟩⟩⟩
      rw [upd_ne (off _ _ hg)]
      exact I.hok.fresh low'
    have same : Same H H2 := fun b o e => kp b o (by rw [upd_ne (ne_of_none e free)]; exact e)
    refine ⟨.ref g.objs.size, H2, J3, rfl, q H2 g.objs.size zs same perm srt (kp _ _ upd_same) fun z hz => ?_⟩
    obtain ⟨i, i1, i2⟩ := idx z hz
    obtain ⟨xs, ⟨j, e, j1, j2, rfl⟩, hH⟩ := tups z.1 (List.mem_of_getElem? i1)
    have eij : i = j := (List.getElem?_inj (List.getElem?_eq_some_iff.mp i1).1 nd).mp (i1.trans j1.symm)
    subst eij
    rw [i2] at j2
    cases j2
    exact hH
/-! ### repr of a dict from texts to ints -/
def dDict (ks : List (Str × Int)) : PyData := .dict (ks.map fun e => (PyData.str e.1, PyData.int e.2))
theorem reads_ks {prog : Program} {w : World} {h : Heap} : ∀ {ks : List (Str × Int)} {es : List DictEntry} {ws : List (L2.Key × Value)}, Pairs (L2.mixKind prog w) es ws → L2.KV (ks.map entS) ws →
    ReadsAll h (es.map (·.key)) (ks.map fun e => PyData.str e.1) [] ∧ ReadsAll h (es.map (·.val)) (ks.map fun e => PyData.int e.2) []
  | [], _, _, .nil, _ => ⟨.nil, .nil⟩
  | [], _, _, .cons _ _ _, kv => by cases kv
  | _ :: _, _, _, .nil, kv => by cases kv
  | e :: r, _, _, .cons h1 h2 t, kv => by
    cases kv with
    | cons hd tl =>
      obtain ⟨i1, i2⟩ := reads_ks (h := h) t tl
      obtain ⟨r1, r2⟩ := hd
      obtain ⟨tk, ek⟩ : L2.RelV (L2.kV (Sum.inr e.1)) _ := L2.relV_key (show L2.keyIs (Sum.inr e.1) _ = true by rw [show (Sum.inr e.1 : L2.Key) = _ from r1]; exact h1)
      obtain ⟨u, ev⟩ : L2.RelV (L2.V.int e.2) _ := by
        rw [← h2] at r2
        exact r2
      refine ⟨?_, ?_⟩
      · rw [List.map_cons, List.map_cons, ek]
        exact ReadsAll.cons (as := []) (bs := []) (.str _ _) i1
      · rw [List.map_cons, List.map_cons, ev]
        exact ReadsAll.cons (as := []) (bs := []) (.int _ _) i2
theorem depth_kv : ∀ ks : List (Str × Int), PyData.depthKv (ks.map fun e => (PyData.str e.1, PyData.int e.2)) = 0
  | [] => by simp [PyData.depthKv]
  | e :: r => by simp [PyData.depthKv, PyData.depth, depth_kv r]
theorem piled_le {n : Nat} : ∀ {ts : List Str}, (∀ t ∈ ts, t.length ≤ n) → piled ts ≤ ts.length * (n + 2)
  | [], _ => by simp [piled]
  | t :: r, h => by
    have h1 := h t List.mem_cons_self
    have h2 := piled_le (ts := r) fun u hu => h u (List.mem_cons_of_mem _ hu)
    have e : piled (t :: r) = t.length + 2 + piled r := by simp [piled]
    rw [e, List.length_cons, Nat.add_mul]
    omega
/-- a dict of pieces and prices may be shown -/
theorem show_dict {ks : List (Str × Int)} (hl : ks.length ≤ 100) (h : ∀ e ∈ ks, e.1.length ≤ 10 ∧ (∀ c ∈ cs e.1, c < 128) ∧ 0 ≤ e.2 ∧ e.2 ≤ 99) : (dDict ks).showable = true ∧ (dDict ks).shown.length ≤ sizeLine := by
  constructor
  · have : ∀ l : List (Str × Int), (∀ e ∈ l, 0 ≤ e.2 ∧ e.2 ≤ 99) → PyData.showableKv (l.map fun e => (PyData.str e.1, PyData.int e.2)) = true := by
      intro l hl
      induction l with
      | nil => simp [PyData.showableKv]
      | cons a r ih =>
        have h1 := hl a List.mem_cons_self
        have h2 : a.2.natAbs.log2 < 1920 := Nat.lt_of_lt_of_le (PySem.Flt.log2_lt_of (k := 7) (by decide) (by omega)) (by decide)
        simp [PyData.showableKv, PyData.showable, h2, ih fun e he => hl e (List.mem_cons_of_mem _ he)]
    unfold dDict
    simp only [PyData.showable]
    exact this ks fun e he => (h e he).2.2
  · have each : ∀ t ∈ PyData.shownKv (ks.map fun e => (PyData.str e.1, PyData.int e.2)), t.length ≤ 2100 := by
      intro t ht
      have gen : ∀ l : List (Str × Int), t ∈ PyData.shownKv (l.map fun e => (PyData.str e.1, PyData.int e.2)) → ∃ e ∈ l, t = reprText e.1 ++ ": " ++ toString e.2 := by
        intro l
        induction l with
        | nil => intro h; simp [PyData.shownKv] at h
        | cons a r ih =>
          intro h
          simp only [List.map_cons, PyData.shownKv, PyData.shown, List.mem_cons] at h
          rcases h with h | h
          · exact ⟨a, List.mem_cons_self, h⟩
          · obtain ⟨e, he, q⟩ := ih h
            exact ⟨e, List.mem_cons_of_mem _ he, q⟩
      obtain ⟨e, he, rfl⟩ := gen ks ht
      obtain ⟨l1, l2, l3, l4⟩ := h e he
      have r1 := StrLaws.reprText_len e.1 fun c hc => Nat.lt_of_lt_of_le (l2 c hc) (by decide)
      have r2 := int_text_len_1921 (i := e.2) (Nat.lt_of_lt_of_le (PySem.Flt.log2_lt_of (k := 7) (by decide) (by omega)) (by decide))
      have r3 : ((": " : String) : Str).length = 2 := by decide +kernel
      rw [strLen_append, strLen_append, r3]
      omega
    unfold dDict
    simp only [PyData.shown]
    unfold dictText
    rw [strLen_append, strLen_append]
    have c1 : (("{" : String) : Str).length = 1 := by decide +kernel
    have c2 : (("}" : String) : Str).length = 1 := by decide +kernel
    have c3 := piled_le each
    have c4 : (PyData.shownKv (ks.map fun e => (PyData.str e.1, PyData.int e.2))).length = ks.length := by
      generalize ks = l
      induction l with
      | nil => simp [PyData.shownKv]
      | cons a r ih => simp [PyData.shownKv, ih]
    rw [c4] at c3
    have c5 : (Str.join ", " (PyData.shownKv (ks.map fun e => (PyData.str e.1, PyData.int e.2)))).length ≤ piled (PyData.shownKv (ks.map fun e => (PyData.str e.1, PyData.int e.2))) := by
      by_cases q : PyData.shownKv (ks.map fun e => (PyData.str e.1, PyData.int e.2)) = []
      · rw [q]
        decide +kernel
      · have := join_length_add _ q
        omega
    have c6 : ks.length * (2100 + 2) ≤ 100 * 2102 := Nat.mul_le_mul_right _ hl
    rw [c1, c2]
    exact Nat.le_trans (by omega : _ ≤ 1000000) (by decide)
def rReprD : List L2.V → L2.Hp → L2.VK → Prop := fun xs H Q => ∃ a ks, xs = [.ref a] ∧ L2.Rd H a (.dK (ks.map entS)) ∧ (dDict ks).showable = true ∧ (dDict ks).shown.length ≤ sizeLine ∧ Q (.str (dDict ks).shown) H
theorem call_reprD {X : L2.Cx} (hg : X.A.guards = some []) (hu : X.A.units + 64 < cLine) : L2.CallR X (.builtin "repr") rReprD := by
  intro pins s σ H xs us Q I r h
  obtain ⟨a, ks, rfl, ha, hs, hz, q⟩ := h
  obtain rfl := L2.Vals.ref1 r
  obtain ⟨_, low, ws, kv, o, es, ep, ho, hx, hdat, _, prs, _⟩ := L2.dk_rd I.hok ha
  obtain ⟨k1, k2⟩ := reads_ks (h := s.heap) prs kv
  have rd : Reads s.heap (.ref a) (dDict ks) [a] := by
    refine Reads.dict (as := []) (bs := []) ho hx.1 hdat ?_ ?_
    · rw [List.map_map]
      exact k1
    · rw [List.map_map]
      exact k2
  have dep : (dDict ks).depth ≤ 10 := by
    unfold dDict
    simp only [PyData.depth, depth_kv]
    omega
  refine repr_of_reads' rd hs (fun _ hm => ?_) hg (by omega) (fun _ _ e => e) (fun h' u tk keeps => ⟨L2.V.str (dDict ks).shown, H, I.kept keeps, ⟨u, rfl⟩, q⟩) hz
  rw [List.mem_singleton.mp hm] at low
  simp at low
/-- dict(pairs) without double keys -/
theorem merge_nd : ∀ {more kvs : List (L2.Key × L2.V)}, ((kvs ++ more).map (·.1)).Nodup → L2.mergeK kvs more = kvs ++ more
  | [], kvs, _ => by rw [List.append_nil]; rfl
  | a :: r, kvs, h => by
    have no : L2.valV kvs a.1 = none := valV_none fun m => by
      rw [List.map_append, List.map_cons] at h
      exact (List.nodup_append.mp h).2.2 _ m _ List.mem_cons_self rfl
    show L2.mergeK (L2.putK kvs a.1 a.2) r = _
    rw [L2.putK_new _ no, merge_nd (by rw [List.append_assoc]; exact h), List.append_assoc]
    rfl
/-- two lists of pairs, both ascending by their texts, with the same pairs -/
theorem pairs_eq {xs ys : List (Str × Int)} (nd : (xs.map (·.1)).Nodup) (hx : xs.Pairwise fun e f => cs e.1 ≤ cs f.1) (hy : ys.Pairwise fun e f => cs e.1 ≤ cs f.1) (p : xs.Perm ys) : xs = ys := by
  refine p.eq_of_pairwise (fun a b ha hb h1 h2 => ?_) hx hy
  have e : a.1 = b.1 := str_ext (List.le_antisymm h1 h2)
  have hb' := p.mem_iff.mpr hb
  have v1 := valS_of nd ha
  have v2 := valS_of nd hb'
  rw [e] at v1
  exact Prod.ext e (v1.symm.trans v2)
theorem lift_ent : ∀ {kvs : List (L2.Key × L2.V)}, (∀ kv ∈ kvs, ∃ z p, kv = (Sum.inr z, L2.V.int p)) → ∃ ks : List (Str × Int), kvs = ks.map entS
  | [], _ => ⟨[], rfl⟩
  | kv :: r, h => by
    obtain ⟨z, p, rfl⟩ := h kv List.mem_cons_self
    obtain ⟨ks, rfl⟩ := lift_ent (kvs := r) fun x hx => h x (List.mem_cons_of_mem _ hx)
    exact ⟨(z, p) :: ks, rfl⟩
theorem keys_ent : ∀ ks : List (Str × Int), keyStrs (ks.map entS) = ks.map (·.1)
  | [] => rfl
  | e :: r => congrArg (e.1 :: ·) (keys_ent r)
theorem nd_ent {ks : List (Str × Int)} (nd : ((ks.map entS).map (·.1)).Nodup) : (ks.map (·.1)).Nodup := by
  have e : (ks.map entS).map (·.1) = (ks.map (·.1)).map (Sum.inr : Str → L2.Key) := by
    rw [List.map_map, List.map_map]
    rfl
  rw [e] at nd
  exact List.Pairwise.imp (fun h q => h (congrArg _ q)) (List.pairwise_map.mp nd)
theorem ps_perm {ks : List (Str × Int)} {ys : List Str} (al : ((ks.map entS).all fun kv => isPiece (L2.kV kv.1) && isPrice kv.2) = true) (nd : ((ks.map entS).map (·.1)).Nodup) (pm : ys.Perm (keyStrs (ks.map entS))) : (psOf (ks.map entS) ys).Perm ks := by
  rw [keys_ent] at pm
  have h1 := pm.map fun y => (y, priceIn (ks.map entS) y)
  refine h1.trans ?_
  rw [List.map_map]
  have h2 : ks.map ((fun y => (y, priceIn (ks.map entS) y)) ∘ (·.1)) = ks := by
    conv => rhs; rw [← List.map_id ks]
    refine List.map_congr_left fun e he => ?_
    have h3 := L2.val_nodup nd _ (List.mem_map.mpr ⟨e, he, rfl⟩)
    have hk : e.1 ∈ keyStrs (ks.map entS) := by
      rw [keys_ent]
      exact List.mem_map.mpr ⟨e, he, rfl⟩
    have h4 := (price_of_key al hk).1
    rw [show L2.valV (ks.map entS) (Sum.inr e.1) = some (L2.V.int e.2) from h3] at h4
    have h5 := L2.V.int.inj (Option.some.inj h4)
    show (e.1, priceIn (ks.map entS) e.1) = e
    rw [← h5]
  rw [h2]
theorem so_ps {kvs : List (L2.Key × L2.V)} {ys : List Str} (h : sortedS ys = true) : (psOf kvs ys).Pairwise fun e f => cs e.1 ≤ cs f.1 := List.pairwise_map.mpr (so_pw h)
theorem ps_keys {kvs : List (L2.Key × L2.V)} {ys : List Str} : (psOf kvs ys).map (·.1) = ys := by
  unfold psOf
  rw [List.map_map]
  exact List.map_id' ys
end G
/-! Own operators: in, ==, | & - of a class's instances, by the promise of the method. -/
namespace G
open PySem PySem.Spec PyProof.Rows L2
open L2 (St)
/-- the promise of a method that returns a truth -/
def backB (Q : VK) : VK := fun r H => ∃ b, r = .bl b ∧ Q (.bl b) H
def rInO (C : Addr) (sp : Sp) : R2 := fun x y H Q => ∃ a dx fs, y = .ref a ∧ H a = some (.ins C dx fs) ∧ sp [.ref a, x] H (backB Q) C8.E0
def rNotInO (C : Addr) (sp : Sp) : R2 := fun x y H Q => ∃ a dx fs, y = .ref a ∧ H a = some (.ins C dx fs) ∧ sp [.ref a, x] H (fun r H' => ∃ b, r = .bl b ∧ Q (.bl (!b)) H') C8.E0
section
variable {X : Cx} {k j : Nat} {C : Addr} {sp : Sp}
theorem met_run {m : Str} {pins : List (Addr × Obj)} {σ : L2.St} {H : Hp} {s : Shared} {Q : VK} {us : List Value} {vs : List V} (c : C8.Met X.prog X.w X.K X.mg X.base k C m sp []) (hr : Room j X.A) (hk : k ≤ j) (I : Inv X pins σ H s) (r : Vals vs us) (h : sp vs H Q C8.E0) :
    ∃ f : Addr, PySem.W.findIn X.K (.ref C) m = some (some (.ref f)) ∧ PySem.W.isFn X.K (.ref f) = true ∧ wpAny (model X.prog X.w) X.A (call (.ref f) us) (EP X pins σ Q) X.xe s := by
  obtain ⟨f, fd, ps, ds, hc, hm, F, b, d⟩ := c.ex
  refine ⟨f, hm.at_, hm.fn, ?_⟩
  have e : vs ++ ([] : List V) = vs := List.append_nil vs
  exact run_fn F (hr.mono hk) b d C8.pass0 I r (by rw [e]; exact h)
theorem op_inO (c : C8.Met X.prog X.w X.K X.mg X.base k C "__contains__" sp []) (hr : Room j X.A) (hk : k ≤ j) : OpR X (compareOp .In) (rInO C sp) := by
  intro pins s σ H x y v u Q I rx ry h
  obtain ⟨a, dx, fs, rfl, ha, q⟩ := h
  cases ry
  obtain ⟨mA, J, _⟩ := ins_get I.hok ha
  obtain ⟨od, J, _⟩ := J.look
  obtain ⟨m, hF⟩ := I.fr
  obtain ⟨f, h1, h2, h3⟩ := met_run (us := [.ref a, v]) (vs := [.ref a, x]) c hr hk I (.cons rfl (.cons rx .nil)) q
  refine PySem.W.in_K hF I.ok.mod.kin J h1 h2 (wpAny_mono h3 (fun r s' hq => ?_) fun _ _ e => e)
  obtain ⟨z, H', I', rz, b, rfl, q⟩ := hq
  cases rz
  exact wpAny_truthy_bool ⟨.bl b, H', I', rfl, q⟩
theorem op_notInO (c : C8.Met X.prog X.w X.K X.mg X.base k C "__contains__" sp []) (hr : Room j X.A) (hk : k ≤ j) : OpR X (compareOp .NotIn) (rNotInO C sp) := by
  intro pins s σ H x y v u Q I rx ry h
  obtain ⟨a, dx, fs, rfl, ha, q⟩ := h
  cases ry
  obtain ⟨mA, J, _⟩ := ins_get I.hok ha
  obtain ⟨od, J, _⟩ := J.look
  obtain ⟨m, hF⟩ := I.fr
  obtain ⟨f, h1, h2, h3⟩ := met_run (us := [.ref a, v]) (vs := [.ref a, x]) c hr hk I (.cons rfl (.cons rx .nil)) q
  refine PySem.W.notIn_K hF I.ok.mod.kin J h1 h2 (wpAny_mono h3 (fun r s' hq => ?_) fun _ _ e => e)
  obtain ⟨z, H', I', rz, b, rfl, q⟩ := hq
  cases rz
  exact wpAny_truthy_bool ⟨.bl (!b), H', I', rfl, q⟩
/-- == of two instances of one class -/
def rEqO (C : Addr) (sp : Sp) : R2 := fun x y H Q => ∃ a dx fs b dy gs, x = .ref a ∧ y = .ref b ∧ H a = some (.ins C dx fs) ∧ H b = some (.ins C dy gs) ∧ sp [.ref a, .ref b] H (backB Q) C8.E0
theorem op_eqO (c : C8.Met X.prog X.w X.K X.mg X.base k C "__eq__" sp []) (hr : Room j X.A) (hk : k ≤ j) (hu : X.A.units < cLine) : OpR X (compareOp .Eq) (rEqO C sp) := by
  intro pins s σ H x y v u Q I rx ry h
  obtain ⟨a, dx, fs, b, dy, gs, rfl, rfl, ha, hb, q⟩ := h
  cases rx
  cases ry
  obtain ⟨_, J, _⟩ := ins_get I.hok ha
  obtain ⟨_, J', _⟩ := ins_get I.hok hb
  obtain ⟨_, J, _⟩ := J.look
  obtain ⟨_, J', _⟩ := J'.look
  obtain ⟨m, hF⟩ := I.fr
  obtain ⟨f, h1, h2, h3⟩ := met_run (us := [.ref a, .ref b]) (vs := [.ref a, .ref b]) c hr hk I (.cons rfl (.cons rfl .nil)) q
  refine PySem.W.cmp_K (op := .Eq) (tb := .ref C) hu hF I.ok.mod.kin J J'.type (by simp [PySem.W.notFirst]) h1 h2 (wpAny_mono h3 (fun r s' hq => ?_) fun _ _ e => e)
  obtain ⟨z, H', I', rz, b', rfl, q⟩ := hq
  cases rz
  exact ⟨.bl b', H', I', rfl, q⟩
end
end G
/-! Needless pieces; books made of parts of books. -/
namespace G
open PySem PySem.Spec PyProof.Rows L2
/-! ### books by their signs -/
structure Sgs (kvs : List (Key × V)) (sg : List Nat) : Prop where
  ok : PrOk sg kvs
  n1 : 1 ≤ sg.length
  n4 : sg.length ≤ 4
  lt : ∀ c ∈ sg, lett c = true
  tf : ∀ c, (∃ q, tfD kvs (ch c) = some q) ↔ c ∈ sg
theorem sgs_of {kvs : List (Key × V)} (av : arePrices kvs = true) (nd : (kvs.map (·.1)).Nodup) : ∃ sg, Sgs kvs sg := by
  obtain ⟨⟨n1, n2⟩, al, n4, _⟩ := ap_parts av
  have tar := tar_of av nd
  have mem : ∀ c, c ∈ (((keyStrs kvs).filter fun z => decide ((cs z).length = 1)).map cs).flatten ↔ ch c ∈ keyStrs kvs := fun c => by
    rw [List.mem_flatten]
    constructor
    · rintro ⟨l, hl, hc⟩
      obtain ⟨z, hz, rfl⟩ := List.mem_map.mp hl
      obtain ⟨h1, h2⟩ := List.mem_filter.mp hz
      obtain ⟨d, rfl⟩ := G.one_sign (z := z) (by simpa using h2)
      have e : c = d := by simpa [cs] using hc
      rw [e]
      exact h1
    · intro h
      exact ⟨[c], List.mem_map.mpr ⟨ch c, List.mem_filter.mpr ⟨h, rfl⟩, rfl⟩, List.mem_cons_self⟩
  have len : (((keyStrs kvs).filter fun z => decide ((cs z).length = 1)).map cs).flatten.length = ((keyStrs kvs).filter fun z => decide ((cs z).length = 1)).length := by
    rw [List.length_flatten, List.map_map]
    have : ∀ l : List Str, (∀ z ∈ l, (cs z).length = 1) → (l.map (List.length ∘ cs)).sum = l.length := by
      intro l h
      induction l with
      | nil => rfl
      | cons a r ih =>
        rw [List.map_cons, List.sum_cons, ih fun z hz => h z (List.mem_cons_of_mem _ hz), List.length_cons]
        have := h a List.mem_cons_self
        show (cs a).length + _ = _
        omega
    exact this _ fun z hz => by simpa using (List.mem_filter.mp hz).2
  have tf : ∀ c, (∃ q, tfD kvs (ch c) = some q) ↔ c ∈ (((keyStrs kvs).filter fun z => decide ((cs z).length = 1)).map cs).flatten := fun c => by
    rw [mem, tf_key al]
  refine ⟨_, ⟨fun kv hkv => ?_, nd⟩, ?_, by rw [len]; exact n4, fun c hc => ?_, tf⟩
  · obtain ⟨z, p, rfl, hp⟩ := tar.mem kv hkv
    exact ⟨z, p, rfl, tar.good.len z p hp, fun c hc => (tf c).mp (tar.good.cov z p hp c hc), tar.good.pos z p hp⟩
  · cases kvs with
    | nil => simp at n1
    | cons a r =>
      obtain ⟨z, p, rfl, hp⟩ := tar.mem a List.mem_cons_self
      have h1 := (tar.good.len z p hp).1
      obtain ⟨c, hc⟩ : ∃ c, c ∈ cs z := by
        cases e : cs z with
        | nil =>
          rw [e] at h1
          simp at h1
        | cons c _ => exact ⟨c, List.mem_cons_self⟩
      exact List.length_pos_of_mem ((tf c).mp (tar.good.cov z p hp c hc))
  · exact (keyStrs_piece al (ch c) ((mem c).mp hc)).2.2 c (by simp [cs])
/-- some of a book's pieces, all signs among them -/
theorem ap_sub {kvs kvs' : List (Key × V)} (av : arePrices kvs = true) (nd : (kvs.map (·.1)).Nodup) (nd' : (kvs'.map (·.1)).Nodup) (sub : ∀ kv ∈ kvs', kv ∈ kvs) (one : ∀ c, (∃ q, tfD kvs (ch c) = some q) → ∃ q, tfD kvs' (ch c) = some q) (len : kvs'.length ≤ 12) :
    arePrices kvs' = true ∧ ∀ c, (∃ q, tfD kvs' (ch c) = some q) ↔ ∃ q, tfD kvs (ch c) = some q := by
  obtain ⟨sg, S⟩ := sgs_of av nd
  have P : PrOk sg kvs' := ⟨fun kv h => S.ok.mem kv (sub kv h), nd'⟩
  obtain ⟨h1, h2⟩ := P.right (fun c hc => by
    obtain ⟨q, hq⟩ := one c ((S.tf c).mpr hc)
    rw [tf_some.mp hq]
    rfl) S.lt S.n4 S.n1 len
  exact ⟨h1, fun c => by rw [h2 c, S.tf c]⟩
theorem tf_put {kvs : List (Key × V)} {z y : Str} {p : Int} : tfD (putK kvs (Sum.inr z) (.int p)) y = if y = z then some p else tfD kvs y := by
  unfold tfD
  rw [valV_put]
  by_cases h : y = z
  · subst h
    rw [if_pos rfl, if_pos rfl]
  · rw [if_neg (fun e => h (Sum.inr.inj e)), if_neg h]
/-- a further piece, or another price -/
theorem ap_put {kvs : List (Key × V)} {z : Str} {p : Int} (av : arePrices kvs = true) (nd : (kvs.map (·.1)).Nodup) (len : kvs.length ≤ 11) (lz : 1 ≤ (cs z).length ∧ (cs z).length ≤ 5) (ov : Over (tfD kvs) (cs z)) (hp : 1 ≤ p ∧ p ≤ 99) :
    arePrices (putK kvs (Sum.inr z) (.int p)) = true ∧ ((putK kvs (Sum.inr z) (.int p)).map (·.1)).Nodup := by
  obtain ⟨sg, S⟩ := sgs_of av nd
  have P : PrOk sg (putK kvs (Sum.inr z) (.int p)) := S.ok.put lz (fun c hc => (S.tf c).mp (ov c hc)) hp
  have h1 := put_len (kvs := kvs) (k := Sum.inr z) (v := .int p)
  refine ⟨(P.right (fun c hc => ?_) S.lt S.n4 S.n1 (by omega)).1, P.nd⟩
  rw [valV_put]
  split
  · rfl
  · obtain ⟨q, hq⟩ := (S.tf c).mpr hc
    rw [tf_some.mp hq]
    rfl
/-! ### needless pieces -/
def remF (F : Tf) (z : Str) : Tf := fun y => if y = z then none else F y
def Needless (F : Tf) (z : Str) : Prop := ∃ p, F z = some p ∧ 1 < (cs z).length ∧ lp (remF F z) (cs z) ≤ p
theorem rem_good {F : Tf} (G : Good F) {z : Str} (hz : 1 < (cs z).length) : Good (remF F z) := by
  have sub : ∀ {y p}, remF F z y = some p → F y = some p := fun {y p} h => by
    unfold remF at h
    split at h
    · cases h
    · exact h
  refine ⟨fun y p h => G.pos y p (sub h), fun y p h => G.len y p (sub h), fun y p h c hc => ?_⟩
  obtain ⟨q, hq⟩ := G.cov y p (sub h) c hc
  refine ⟨q, ?_⟩
  unfold remF
  rw [if_neg fun e => ?_]
  · exact hq
  · rw [← e] at hz
    exact absurd (show 1 < 1 from hz) (by decide)
theorem rem_over {F : Tf} {z : Str} {l : List Nat} (hz : 1 < (cs z).length) (o : Over F l) : Over (remF F z) l := fun c hc => by
  obtain ⟨q, hq⟩ := o c hc
  refine ⟨q, ?_⟩
  unfold remF
  rw [if_neg fun e => ?_]
  · exact hq
  · rw [← e] at hz
    exact absurd (show 1 < 1 from hz) (by decide)
/-! ### dict comprehensions with a test -/
section
variable {α : Type} {J : It} {G : Hp → Prop} {Y : Nat → Hp → V → Hp → Prop}
theorem dcsF (its : List α) (w : Walk J its.length G Y) (keep : α → Bool) (h : α → Key × V) (nd : (its.map fun a => (h a).1).Nodup) {g : TG} {tt : TT} {tk tv : TE} {vs : List Nat} {σ : L2.St} {H1 : Hp} {D : Addr} {Qd : Hp → Prop} (hD : H1 D = none) (hz : its.length ≤ 100000) (hG : ∀ H, Same H1 H → G H)
    (hs : ∀ i a x H H', its[i]? = some a → Same H1 H → Y i H x H' → ∀ (N : V → V → Hp → Prop) (M : Hp → Prop), (∀ H3, keep a = true → Same H H3 → N (kV (h a).1) (h a).2 H3) → (∀ H3, keep a = false → Same H H3 → M H3) →
      g x (wipe σ vs) H' fun σ2 H2 => wipe σ2 vs = wipe σ vs ∧ tt σ2 H2 fun b H3 => if b = true then tk σ2 H3 fun y H4 => tv σ2 H4 fun z H5 => N y z H5 else M H3)
    (hd : ∀ H, Same H1 H → H D = some (.dK ((its.filter keep).map h)) → Qd H) :
    ∃ W : Nat → Nat → Hp → Prop, (∃ m, W 0 m (upd H1 D (.dK []))) ∧ ∀ i m H, W i m H →
      (J.stop i H ∧ Qd H) ∨ (J.go i H ∧ ∃ Nx : Hp → Prop, (∀ H', Nx H' → ∃ m', m' < m ∧ W (i + 1) m' H') ∧ ∀ x H', J.yld i H x H' → g x (wipe σ vs) H' fun σ2 H2 => wipe σ2 vs = wipe σ vs ∧ tt σ2 H2 fun b H3 =>
        if b = true then tk σ2 H3 fun y H4 => tv σ2 H4 fun z H5 => ∃ kvs k, y = kV k ∧ H5 D = some (.dK kvs) ∧ kvs.length < sizeLine ∧ Nx (upd H5 D (.dK (putK kvs k z))) else Nx H3) := by
  refine ⟨fun i m H => m = its.length - i ∧ i ≤ its.length ∧ Same H1 H ∧ H D = some (.dK (((its.take i).filter keep).map h)), ⟨_, rfl, Nat.zero_le _, same_new hD, upd_same⟩, ?_⟩
  rintro i m H ⟨rfl, hi, s, e⟩
  by_cases hlt : i < its.length
  · obtain ⟨a, ha⟩ : ∃ a, its[i]? = some a := ⟨_, List.getElem?_eq_getElem hlt⟩
    refine .inr ⟨w.goes i H hlt (hG H s), fun H' => Same H1 H' ∧ H' D = some (.dK (((its.take (i + 1)).filter keep).map h)), fun H' q => ⟨its.length - (i + 1), by omega, rfl, hlt, q⟩, ?_⟩
    intro x H' y
    have e1 : its.take (i + 1) = its.take i ++ [a] := by
      rw [List.take_add_one, ha]
      rfl
    refine hs i a x H H' ha s (w.yields i H x H' hlt (hG H s) y) _ _ (fun H3 kp s3 => ⟨_, (h a).1, rfl, s3 _ _ e, ?_, fun b o q => ?_, ?_⟩) fun H3 kp s3 => ⟨s.trans s3, ?_⟩
    · have h1 := List.length_filter_le keep (its.take i)
      rw [List.length_take] at h1
      rw [List.length_map]
      exact Nat.lt_of_le_of_lt (by omega : _ ≤ 100000) (by decide)
    · rw [upd_ne (ne_of_none q hD)]
      exact s3 _ _ (s _ _ q)
    · have e2 : valV (((its.take i).filter keep).map h) (h a).1 = none := valV_none fun m => by
        rw [List.map_map] at m
        have nd' : ((its.take (i + 1)).map fun a => (h a).1).Nodup := nd.sublist ((List.take_sublist _ _).map _)
        rw [e1, List.map_append] at nd'
        obtain ⟨b, hb, eb⟩ := List.mem_map.mp m
        exact (List.nodup_append.mp nd').2.2 _ (List.mem_map.mpr ⟨b, (List.mem_filter.mp hb).1, eb⟩) _ (List.mem_singleton.mpr rfl) rfl
      rw [upd_same, putK_new _ e2, e1, List.filter_append, List.map_append]
      have : [a].filter keep = [a] := by simp [kp]
      rw [this]
      rfl
    · have : [a].filter keep = [] := by simp [kp]
      rw [e1, List.filter_append, this, List.append_nil]
      exact s3 _ _ e
  · have ei : i = its.length := by omega
    subst ei
    refine .inl ⟨w.stops H (hG H s), hd H s ?_⟩
    rw [e, List.take_length]
end
noncomputable def needB (kvs : List (Key × V)) (z : Str) : Bool := decide (1 < (cs z).length) && decide (lp (remF (tfD kvs) z) (cs z) ≤ priceIn kvs z)
def others (kvs : List (Key × V)) (ys : List Str) (z : Str) : List (Key × V) := (ys.filter fun y => !decide (y = z)).map fun y => (Sum.inr y, .int (priceIn kvs y))
theorem tf_others {kvs : List (Key × V)} {ys : List Str} {z : Str} (al : (kvs.all fun kv => isPiece (kV kv.1) && isPrice kv.2) = true) (pm : ys.Perm (keyStrs kvs)) : tfD (others kvs ys z) = remF (tfD kvs) z := by
  funext y
  have e := congrFun (tf_psOf al pm) y
  unfold tfD at e ⊢
  rw [kvOf_ps, val_fun] at e
  unfold others remF
  rw [val_fun]
  by_cases h : y = z
  · rw [if_pos h, if_neg (fun q => by simpa [h] using (List.mem_filter.mp q).2)]
  · rw [if_neg h]
    by_cases m : y ∈ ys
    · rw [if_pos m] at e
      rw [if_pos (List.mem_filter.mpr ⟨m, by simp [h]⟩)]
      exact e
    · rw [if_neg m] at e
      rw [if_neg fun q => m (List.mem_filter.mp q).1]
      exact e
theorem tar_others {kvs : List (Key × V)} {ys : List Str} {z : Str} (av : arePrices kvs = true) (pm : ys.Perm (keyStrs kvs)) (ndy : ys.Nodup) (len : ys.length ≤ 1000) (hz : 1 < (cs z).length) : Tar (others kvs ys z) := by
  obtain ⟨_, al, _, _⟩ := ap_parts av
  have e := tf_others (z := z) al pm
  refine ⟨by rw [e]; exact rem_good (good_of av) hz, fun kv hkv => ?_, ?_⟩
  · obtain ⟨y, hy, rfl⟩ := List.mem_map.mp hkv
    refine ⟨y, priceIn kvs y, rfl, ?_⟩
    unfold tfD others
    rw [val_fun, if_pos hy]
  · unfold others
    rw [List.length_map]
    exact Nat.le_trans (List.length_filter_le _ _) len
theorem ne_key {y z : Str} {b : Bool} (q : (!decide (V.str y = kV (Sum.inr z))) = b) : (!decide (y = z)) = b := by
  rw [← q]
  have e : decide (V.str y = kV (Sum.inr z)) = decide (y = z) := decide_eq_decide.mpr ⟨fun h => V.str.inj h, fun h => congrArg V.str h⟩
  rw [e]
def partK (kvs : List (Key × V)) (ys : List Str) (q : Str → Bool) : List (Key × V) := (ys.filter q).map fun y => (Sum.inr y, .int (priceIn kvs y))
theorem tf_part {kvs : List (Key × V)} {ys : List Str} {q : Str → Bool} (al : (kvs.all fun kv => isPiece (kV kv.1) && isPrice kv.2) = true) (pm : ys.Perm (keyStrs kvs)) (z : Str) : tfD (partK kvs ys q) z = if q z = true then tfD kvs z else none := by
  have e := congrFun (tf_psOf al pm) z
  unfold tfD at e ⊢
  rw [kvOf_ps, val_fun] at e
  unfold partK
  rw [val_fun]
  by_cases h : q z = true
  · rw [if_pos h]
    by_cases m : z ∈ ys
    · rw [if_pos m] at e
      rw [if_pos (List.mem_filter.mpr ⟨m, h⟩)]
      exact e
    · rw [if_neg m] at e
      rw [if_neg fun w => m (List.mem_filter.mp w).1]
      exact e
  · rw [if_neg h, if_neg fun w => h (List.mem_filter.mp w).2]
theorem part_book {kvs : List (Key × V)} {ys : List Str} {q : Str → Bool} (av : arePrices kvs = true) (nd : (kvs.map (·.1)).Nodup) (pm : ys.Perm (keyStrs kvs)) (one : ∀ c, (∃ p, tfD kvs (ch c) = some p) → q (ch c) = true) :
    arePrices (partK kvs ys q) = true ∧ ((partK kvs ys q).map (·.1)).Nodup := by
  obtain ⟨⟨_, n2⟩, al, _, _⟩ := ap_parts av
  have ndy : ys.Nodup := pm.nodup_iff.mpr (keys_nd al nd)
  have ly : ys.length ≤ 12 := by
    have h := congrArg List.length (keys_of al)
    rw [List.length_map, List.length_map] at h
    rw [pm.length_eq]
    omega
  have nd' : ((partK kvs ys q).map (·.1)).Nodup := by
    unfold partK
    rw [List.map_map]
    exact List.pairwise_map.mpr (List.Pairwise.imp (R := fun a b : Str => a ≠ b) (fun h e => h (Sum.inr.inj e)) (ndy.filter _))
  refine ⟨(ap_sub av nd nd' (fun kv hkv => ?_) (fun c hc => ?_) ?_).1, nd'⟩
  · obtain ⟨y, hy, rfl⟩ := List.mem_map.mp hkv
    exact valV_mem (price_of_key al (pm.mem_iff.mp (List.mem_filter.mp hy).1)).1
  · obtain ⟨p, hp⟩ := hc
    exact ⟨p, by rw [tf_part al pm, if_pos (one c ⟨p, hp⟩)]; exact hp⟩
  · unfold partK
    rw [List.length_map]
    exact Nat.le_trans (List.length_filter_le _ _) ly
theorem need_sign {F : Tf} {c : Nat} : ¬ Needless F (ch c) := fun ⟨_, _, h, _⟩ => absurd (show 1 < 1 from h) (by decide)
/-! ### promises -/
def spNeedIn (C : Addr) : Sp := fun vs H Q _ => ∃ b kvs, vs = [.ref b] ∧ Book1 C H b kvs ∧ ∀ p (zs : List Str) H', H p = none → H' p = some (.lst (zs.map V.str)) → (∀ z, z ∈ zs ↔ Needless (tfD kvs) z) → (zs.Pairwise (fun y z => cs y ≤ cs z) ∧ zs.Nodup) → Same H H' → Q (.ref p) H'
def spNeed (C : Addr) : Sp := fun vs H Q _ => ∃ b kvs, vs = [.ref b] ∧ Book1 C H b kvs ∧ ∀ p (zs : List Str) H', H p = none → H' p = some (.tup (zs.map V.str)) → (∀ z, z ∈ zs ↔ Needless (tfD kvs) z) → (zs.Pairwise (fun y z => cs y ≤ cs z) ∧ zs.Nodup) → Same H H' → Q (.ref p) H'
def spLeast (C : Addr) : Sp := fun vs H Q _ => ∃ b kvs, vs = [.ref b] ∧ Book1 C H b kvs ∧ ∀ p kvs' H', Book1 C H' p kvs' → (∀ z q, tfD kvs' z = some q ↔ tfD kvs z = some q ∧ ¬ Needless (tfD kvs) z) → Same H H' → Q (.ref p) H'
def spResult (C : Addr) : Sp := fun vs H Q _ => ∃ d kvs, vs = [.ref d] ∧ H d = some (.dK kvs) ∧ arePrices kvs = true ∧ (kvs.map (·.1)).Nodup ∧ ∀ p H', Book1 C H' p kvs → Same H H' → Q (.ref p) H'
def spWith (C : Addr) : Sp := fun vs H Q _ => ∃ b kvs z p, vs = [.ref b, .str z, .int p] ∧ Book1 C H b kvs ∧ kvs.length ≤ 11 ∧ (1 ≤ (cs z).length ∧ (cs z).length ≤ 5) ∧ Over (tfD kvs) (cs z) ∧ (1 ≤ p ∧ p ≤ 99) ∧
  ∀ b' kvs' H', Book1 C H' b' kvs' → (∀ y, tfD kvs' y = if y = z then some p else tfD kvs y) → kvs'.length ≤ kvs.length + 1 → Same H H' → Q (.ref b') H'
/-- own in, of a text -/
def spHasKey (C : Addr) : Sp := fun vs H Q _ => ∃ b kvs z, vs = [.ref b, .str z] ∧ Book1 C H b kvs ∧ z.length ≤ 8000 ∧ ∀ H', Same H H' → Q (.bl (tfD kvs z).isSome) H'
/-! ### name = {k: v for ..}, the name a local -/
section
variable {X : L2.Cx}
abbrev AllBlk (X : L2.Cx) (scope : Scope) (P : L2.Cx → Prop) : Prop := ∀ (s : Shared) (H : L2.Hp) (C : Addr) (cl : List (Str × Addr)) (fp : List Addr), P (X.blk s H scope (compEnvC scope cl C X.env) fp)
theorem ps_setDc {i : Nat} {y : Str} {py : Pos} {kx vx tg iter : Expr} {ifs : List Expr} {scope : Scope} {own : List (Str × Nat)} {pos spos : Pos} {wi : TI} {g : TG} {tt : TT} {tk tv : TE} (hc : X.calm = true) (hN : X.N.Nodup) (hy : X.N[i]? = some y) (hyl : X.env.scope.names.lookup y = some .local)
    (hsw : swapsWith (.DictComp kx vx [⟨tg, iter, ifs, 0⟩] scope pos) (some (.Name y py)) spos.line X.env = pure true) (hi : PI X tg iter wi) (ok : BlkOk X.N X.env.scope scope own)
    (hg : AllBlk X scope fun B => PG B tg g) (ht : AllBlk X scope fun B => PTs B ifs tt) (hk : AllBlk X scope fun B => PE B kx tk) (he : AllBlk X scope fun B => PE B vx tv)
    (hs : ∀ x, foldedSetIterable iter X.env x = pure x := by intro _; rfl) : PS X (.Assign [.Name y py] (.DictComp kx vx [⟨tg, iter, ifs, 0⟩] scope pos) spos) (tAsg (tDc wi g tt tk tv (own.map (·.2))) (gName i)) := by
  refine ⟨fun pins s σ H D I h => ?_⟩
  rw [exec_Assign_Name_used _ _ _ _ hsw]
  refine wpAny_bind (wpAny_standAt (wpAny_bind ?_))
  show wpAny _ X.A (do let _ ← comprehension (.DictComp kx vx [⟨tg, iter, ifs, 0⟩] scope pos) scope X.env (firstIterPos [⟨tg, iter, ifs, 0⟩] pos) newDict false (eval iter X.env) (some (assign (.Name y py) X.env))) _ _ s
  have h : tDc wi g tt tk tv (own.map (·.2)) σ H (fun x H1 => gName i x σ H1 D.nx) := h
  refine wpAny_bind (thn (dc_core (Qf := fun _ s' => SP X pins D .next s') hc hN I hi ok hg ht hk he hs h fun L C s' m H' I' q hn f => ?_) fun _ s' hq => wpAny_pure (wpAny_pure hq))
  show wpAny _ _ (assign (.Name y py) X.env (.ref L)) _ _ _
  refine wpAny_assign_Name (store_ok2 (v := V.ref L) I' hN hy (.inl hyl) rfl (fun s2 I2 ⟨a, sb, ha⟩ => ?_) (.inr hyl))
  obtain ⟨f0, f1, f2, f3, f4, f5⟩ := f
  have other : C ≠ a := by
    rcases ha with z | z
    · rw [z]
      exact f1
    · exact fun e => f4 y a z e.symm
  exact ⟨m, hn.sameBut sb other, fun h3 sb3 => ⟨_, H', I2.turned (t' := s2.toks) (fun b o hb e => (sb3.2 b hb).trans e) f0 f1 f3 f4 f5, q⟩⟩
theorem sw_trueD {kx vx : Expr} {gs : List Comprehension} {scope : Scope} {pos py : Pos} {y : Str} {l : Nat} {env : Env} (hk : env.scope.kind = .function) (hy : env.scope.names.lookup y = some .local) (hl : (py.line == pos.line) = true)
    (ha : (scope.names.any fun (n, k) => n == y && (k == .local || k == .cell)) = false) : swapsWith (.DictComp kx vx gs scope pos) (some (.Name y py)) l env = pure true := by
  have kind : env.kindOf y = some .local := hy
  have fn : env.blockKind = .function := by
    unfold Env.blockKind
    rw [hk]
    rfl
  unfold swapsWith
  simp only [fn, kind, ha, Expr.pos, hl]
  rfl
end
end G
/-! All cuts of a text, as lists of pieces. -/
namespace G
open PySem PySem.Spec PyProof.Rows L2
def IsCut (F : Tf) (l : List Nat) (c : List Str) : Prop := (∀ y ∈ c, ∃ p, F y = some p) ∧ (c.map cs).flatten = l
/-- a list of objects that are just the cuts -/
structure CutsAt (H : Hp) (F : Tf) (l : List Nat) (ws : List (Addr × List Str)) : Prop where
  at_ : ∀ w ∈ ws, H w.1 = some (.tup (w.2.map V.str))
  all : ∀ c, (∃ w ∈ ws, w.2 = c) ↔ IsCut F l c
  len : ws.length ≤ 2 ^ l.length
theorem CutsAt.same {H H' : Hp} {F : Tf} {l : List Nat} {ws : List (Addr × List Str)} (C : CutsAt H F l ws) (s : Same H H') : CutsAt H' F l ws := ⟨fun w hw => s _ _ (C.at_ w hw), C.all, C.len⟩
theorem cut_nil {F : Tf} (G : Good F) {c : List Str} : IsCut F [] c ↔ c = [] := by
  constructor
  · rintro ⟨h1, h2⟩
    cases c with
    | nil => rfl
    | cons y r =>
      obtain ⟨p, hp⟩ := h1 y List.mem_cons_self
      have h3 := (G.len y p hp).1
      have h4 := congrArg List.length h2
      rw [List.map_cons, List.flatten_cons, List.length_append] at h4
      have h5 : (cs y).length + (r.map cs).flatten.length = 0 := h4
      omega
  · rintro rfl
    exact ⟨fun _ h => (List.not_mem_nil h).elim, rfl⟩
/-- the cuts that end with a piece that begins ahead of s -/
def CutTo (F : Tf) (l : List Nat) (s : Nat) (c : List Str) : Prop := ∃ a y, a < s ∧ (∃ p, F y = some p) ∧ (cs y) = l.drop a ∧ ∃ d, IsCut F (l.take a) d ∧ c = d ++ [y]
theorem cut_to {F : Tf} (G : Good F) {l : List Nat} (ne : l ≠ []) {c : List Str} : CutTo F l l.length c ↔ IsCut F l c := by
  constructor
  · rintro ⟨a, y, ha, hy, e, d, ⟨h1, h2⟩, rfl⟩
    refine ⟨fun z hz => ?_, ?_⟩
    · rcases List.mem_append.mp hz with h | h
      · exact h1 z h
      · rw [List.mem_singleton.mp h]
        exact hy
    · rw [List.map_append, List.flatten_append, h2]
      show _ ++ [cs y].flatten = _
      rw [List.flatten_singleton, e, List.take_append_drop]
  · rintro ⟨h1, h2⟩
    have nc : c ≠ [] := fun q => ne (by rw [← h2, q]; rfl)
    obtain ⟨d, y, rfl⟩ : ∃ d y, c = d ++ [y] := ⟨c.dropLast, c.getLast nc, (List.dropLast_concat_getLast nc).symm⟩
    rw [List.map_append, List.flatten_append] at h2
    have h2' : (d.map cs).flatten ++ cs y = l := by
      rw [← h2]
      show _ = _ ++ [cs y].flatten
      rw [List.flatten_singleton]
    obtain ⟨p, hp⟩ := h1 y (List.mem_append_right _ List.mem_cons_self)
    have n1 := (G.len y p hp).1
    have e : l.length = (d.map cs).flatten.length + (cs y).length := by rw [← h2', List.length_append]
    refine ⟨(d.map cs).flatten.length, y, by omega, ⟨p, hp⟩, ?_, d, ⟨fun z hz => h1 z (List.mem_append_left _ hz), ?_⟩, rfl⟩
    · rw [← h2', List.drop_left]
    · rw [← h2', List.take_left]
theorem cut_zero {F : Tf} {l : List Nat} {c : List Str} : ¬ CutTo F l 0 c := fun ⟨_, _, h, _⟩ => absurd h (Nat.not_lt_zero _)
theorem cut_succ {F : Tf} {l : List Nat} {s : Nat} {c : List Str} : CutTo F l (s + 1) c ↔ CutTo F l s c ∨ ∃ y, (∃ p, F y = some p) ∧ cs y = l.drop s ∧ ∃ d, IsCut F (l.take s) d ∧ c = d ++ [y] := by
  constructor
  · rintro ⟨a, y, ha, r⟩
    rcases Nat.lt_or_ge a s with h | h
    · exact Or.inl ⟨a, y, h, r⟩
    · have e : a = s := by omega
      subst e
      exact Or.inr ⟨y, r⟩
  · rintro (⟨a, y, ha, r⟩ | ⟨y, r⟩)
    · exact ⟨a, y, by omega, r⟩
    · exact ⟨s, y, by omega, r⟩
def spCuts : Sp := fun vs H Q _ => ∃ d kvs z, vs = [.ref d, .str z] ∧ H d = some (.dK kvs) ∧ Tar kvs ∧ z.length ≤ 5 ∧
  ∀ p ws H', H' p = some (.lst (ws.map fun w : Addr × List Str => V.ref w.1)) → CutsAt H' (tfD kvs) (cs z) ws → Same H H' → Q (.ref p) H'
/-! ### the cheapest cut -/
def sumOf (F : Tf) (c : List Str) : Int := (c.map fun y => (F y).getD 0).sum
theorem fee_sum {F : Tf} : ∀ {c : Ps}, (∀ p ∈ c, F p.1 = some p.2) → sumOf F (c.map (·.1)) = fee c
  | [], _ => rfl
  | q :: r, h => by
    have h1 := h q List.mem_cons_self
    have ih := fee_sum (c := r) fun p hp => h p (List.mem_cons_of_mem _ hp)
    rw [fee_cons, ← ih]
    show ((F q.1).getD 0 :: (r.map (·.1)).map fun y => (F y).getD 0).sum = _
    rw [List.sum_cons, h1]
    rfl
theorem cut_iff {F : Tf} {l : List Nat} {d : List Str} : IsCut F l d ↔ ∃ c, Cut F l c ∧ c.map (·.1) = d := by
  constructor
  · rintro ⟨h1, h2⟩
    refine ⟨d.map fun y => (y, (F y).getD 0), ⟨fun p hp => ?_, ?_⟩, ?_⟩
    · obtain ⟨y, hy, rfl⟩ := List.mem_map.mp hp
      obtain ⟨q, hq⟩ := h1 y hy
      rw [hq]
      rfl
    · rw [List.map_map]
      exact h2
    · rw [List.map_map]
      exact List.map_id' d
  · rintro ⟨c, ⟨h1, h2⟩, rfl⟩
    refine ⟨fun y hy => ?_, ?_⟩
    · obtain ⟨p, hp, rfl⟩ := List.mem_map.mp hy
      exact ⟨p.2, h1 p hp⟩
    · rw [List.map_map]
      exact h2
/-- the least of all sums is the cheapest price -/
theorem cuts_min {F : Tf} {l : List Nat} {H : Hp} {ws : List (Addr × List Str)} (G : Good F) (o : Over F l) (C : CutsAt H F l ws) : 0 < (ws.map fun w => sumOf F w.2).length ∧ ∀ m, m ∈ ws.map (fun w => sumOf F w.2) → (∀ y ∈ ws.map (fun w => sumOf F w.2), m ≤ y) → m = lp F l := by
  have mem : ∀ c, Cut F l c → fee c ∈ ws.map fun w => sumOf F w.2 := fun c hc => by
    obtain ⟨w, hw, e⟩ := (C.all _).mpr (cut_iff.mpr ⟨c, hc, rfl⟩)
    exact List.mem_map.mpr ⟨w, hw, by rw [e, fee_sum hc.1]⟩
  constructor
  · obtain ⟨c, hc, _⟩ := lp_cut G o
    exact List.length_pos_of_mem (mem c hc)
  · intro m hm hle
    refine (lp_of ⟨?_, fun c hc => hle _ (mem c hc)⟩).symm
    obtain ⟨w, hw, rfl⟩ := List.mem_map.mp hm
    obtain ⟨c, hc, e⟩ := cut_iff.mp ((C.all w.2).mp ⟨w, hw, rfl⟩)
    exact ⟨c, hc, by rw [← e, fee_sum hc.1]⟩
theorem unpaired {α β : Type} {F : α → β → Prop} {as : List α} {bs : List β} (h : Paired F as bs) : ∃ ps : List (α × β), ps.map (·.1) = as ∧ ps.map (·.2) = bs ∧ ∀ p ∈ ps, F p.1 p.2 := by
  induction h with
  | nil => exact ⟨[], rfl, rfl, fun _ h => (List.not_mem_nil h).elim⟩
  | @cons a b as bs h t ih =>
    obtain ⟨ps, h1, h2, h3⟩ := ih
    refine ⟨(a, b) :: ps, by rw [List.map_cons, h1], by rw [List.map_cons, h2], fun p hp => ?_⟩
    rcases List.mem_cons.mp hp with rfl | hp
    · exact h
    · exact h3 p hp
def Upto (kv : List (Key × V)) (up : Int) : Prop := ∀ e ∈ kv, ∀ q, e.2 = V.int q → q ≤ up
theorem Upto.put {kv : List (Key × V)} {up : Int} (h : Upto kv up) {k : Key} {p : Int} (hp : p ≤ up) : Upto (putK kv k (.int p)) up := fun e he q eq => by
  rcases put_val_mem he with e1 | h1
  · subst e1
    have := V.int.inj eq
    omega
  · exact h e h1 q eq
/-- _law_prices of these laws -/
def spPrices6 (K : PySem.W.Frag) : Sp := fun vs H Q _ => ∃ (l sa : Addr) (sg : List Nat) (many : Nat) (up : Int) (n : Nat), vs = [.ref l, .ref sa, .int (many : Int), .int up] ∧ sa ≠ l ∧ SqL K H sa (sg.map chV) ∧ 1 ≤ sg.length ∧ sg.length ≤ 4 ∧ (∀ c ∈ sg, lett c = true) ∧
  many ≤ 8 ∧ 1 ≤ up ∧ up ≤ 99 ∧ Dice H l (n + 100) ∧
  ∀ (p : Addr) (kvs : List (Key × V)) H', H p = none → p ≠ l → H' p = some (.dK kvs) → arePrices kvs = true → (kvs.map (·.1)).Nodup → (∀ c, (∃ q, tfD kvs (ch c) = some q) ↔ c ∈ sg) → kvs.length ≤ sg.length + many → (∀ z q, tfD kvs z = some q → q ≤ up) → Kp l H H' → Dice H' l n → Q (.ref p) H'
theorem g_catA {X : L2.Cx} (K : PySem.W.Frag) (e : X.K = K := by rfl) : OpR X (binaryOp .Add) (rCatA K) := by
  subst e
  exact op_catA
theorem CutsAt.updL {H : Hp} {F : Tf} {l : List Nat} {ws : List (Addr × List Str)} {D : Addr} {ys : List V} {o : HO} (C : CutsAt H F l ws) (h : H D = some (.lst ys)) : CutsAt (upd H D o) F l ws :=
  ⟨fun w hw => by
    have n : w.1 ≠ D := fun e => by
      have := C.at_ w hw
      rw [e, h] at this
      cases this
    rw [upd_ne n]
    exact C.at_ w hw, C.all, C.len⟩
theorem isCut_len {F : Tf} (G : Good F) {l : List Nat} {d : List Str} (h : IsCut F l d) (hl : l.length ≤ 1000) : d.length ≤ 1000 := by
  obtain ⟨h1, h2⟩ := h
  have h3 := congrArg List.length h2
  rw [List.length_flatten, List.map_map] at h3
  have h4 : ∀ l : List Str, (∀ y ∈ l, ∃ p, F y = some p) → l.length ≤ (l.map (List.length ∘ cs)).sum := fun l hl => by
    induction l with
    | nil => exact Nat.le_refl _
    | cons y r ih =>
      obtain ⟨p', hp'⟩ := hl y List.mem_cons_self
      have := (G.len y p' hp').1
      have := ih fun x hx => hl x (List.mem_cons_of_mem _ hx)
      rw [List.map_cons, List.sum_cons, List.length_cons]
      show _ ≤ (cs y).length + _
      omega
  have := h4 d h1
  omega
theorem _root_.G.Dice.ne_of {H : Hp} {l a : Addr} {n : Nat} {kvs : List (Key × V)} (D : Dice H l n) (h : H a = some (.dK kvs)) : a ≠ l := fun e => by
  obtain ⟨_, _, _, h2, _⟩ := D
  rw [e, h2] at h
  cases h
end G
/-! What one further piece, or another price, changes. -/
namespace G
open PySem PySem.Spec PyProof.Rows L2
def putF (F : Tf) (w : Str) (p : Int) : Tf := fun y => if y = w then some p else F y
section
variable {F : Tf} {w : Str} {p : Int} {r : V}
theorem put_at_w : putF F w p w = some p := if_pos rfl
theorem put_ne {y : Str} (h : y ≠ w) : putF F w p y = F y := if_neg h
theorem rem_put (h0 : F w = none) : remF (putF F w p) w = F := by
  funext y
  unfold remF
  by_cases h : y = w
  · rw [if_pos h, h, h0]
  · rw [if_neg h, put_ne h]
theorem fwd_iff (G : Good F) : NoDear F (putF F w p) ↔ lp F (cs w) ≤ p := by
  constructor
  · intro h
    exact h w p put_at_w
  · intro h z q hz
    by_cases e : z = w
    · subst e
      rw [put_at_w] at hz
      have e := Option.some.inj hz
      omega
    · rw [put_ne e] at hz
      exact lp_piece G hz
theorem bwd_all (Gp : Good (putF F w p)) (h0 : F w = none) : NoDear (putF F w p) F := fun z q hz => by
  have e : z ≠ w := fun e => by
    rw [e, h0] at hz
    cases hz
  exact lp_piece Gp (by rw [put_ne e]; exact hz)
theorem need_iff (h0 : F w = none) (hw : 1 < (cs w).length) : Needless (putF F w p) w ↔ lp F (cs w) ≤ p := by
  unfold Needless
  rw [rem_put h0, put_at_w]
  constructor
  · rintro ⟨q, e, _, h⟩
    have := Option.some.inj e
    omega
  · intro h
    exact ⟨p, rfl, hw, h⟩
theorem dear_fwd (G : Good F) (d : DearR F (putF F w p) r) : r = if p < lp F (cs w) then .str w else .non := by
  rcases d with ⟨h1, h2⟩ | ⟨z, q, h1, h2, h3, _⟩
  · have := (fwd_iff G).mp h2
    rw [if_neg (by omega)]
    exact h1
  · have e : z = w := by
      by_cases e : z = w
      · exact e
      · rw [put_ne e] at h2
        have := lp_piece G h2
        omega
    subst e
    rw [put_at_w] at h2
    have e := Option.some.inj h2
    rw [if_pos (by omega)]
    exact h1
theorem dear_bwd (Gp : Good (putF F w p)) (h0 : F w = none) (d : DearR (putF F w p) F r) : r = .non := by
  rcases d with ⟨h1, h2⟩ | ⟨z, q, h1, h2, h3, _⟩
  · exact h1
  · have := bwd_all Gp h0 z q h2
    omega
/-- a sign is cut in one way -/
theorem lp_sign (G : Good F) {c : Nat} {q : Int} (h : F (ch c) = some q) : lp F [c] = q := by
  have o : Over F [c] := fun d hd => ⟨q, by rw [List.mem_singleton.mp hd]; exact h⟩
  obtain ⟨z, p, a, h1, h2, h3⟩ := lp_last G o (by simp)
  have n1 := (G.len z p h1).1
  have hl := congrArg List.length h2
  rw [List.length_append, List.length_singleton] at hl
  have ea : a = [] := List.length_eq_zero_iff.mp (by omega)
  subst ea
  have ez : z = ch c := str_ext h2.symm
  subst ez
  rw [h] at h1
  have := Option.some.inj h1
  rw [h3, lp_nil G]
  omega
theorem sign_fwd (G : Good F) {c : Nat} {q : Int} (h : F (ch c) = some q) : NoDear F (putF F (ch c) p) ↔ q ≤ p := by
  rw [fwd_iff G]
  show lp F [c] ≤ p ↔ _
  rw [lp_sign G h]
theorem put_back {c : Nat} {q : Int} (h : F (ch c) = some q) : putF (putF F (ch c) p) (ch c) q = F := by
  funext y
  by_cases e : y = ch c
  · rw [e, put_at_w, h]
  · rw [put_ne e, put_ne e]
theorem sign_bwd (Gp : Good (putF F (ch c) p)) {q : Int} (h : F (ch c) = some q) : NoDear (putF F (ch c) p) F ↔ p ≤ q := by
  have e := sign_fwd (F := putF F (ch c) p) (p := q) Gp put_at_w
  rwa [put_back h] at e
end
theorem lp_most {F : Tf} (G : Good F) {B : Int} (hb : ∀ z p, F z = some p → p ≤ B) : ∀ l, Over F l → lp F l ≤ B * (l.length : Int)
  | [], _ => by
    rw [lp_nil G]
    exact Int.le_of_eq (by simp)
  | c :: r, o => by
    have o1 : Over F [c] := fun d hd => o d (by rw [List.mem_singleton.mp hd]; exact List.mem_cons_self)
    have o2 : Over F r := fun d hd => o d (List.mem_cons_of_mem _ hd)
    obtain ⟨p, hp⟩ := o c List.mem_cons_self
    have h1 := lp_sign G hp
    have h2 := hb _ _ hp
    have h3 := lp_most G hb r o2
    have h4 : lp F (c :: r) ≤ lp F [c] + lp F r := lp_add G o1 o2
    rw [List.length_cons, Int.natCast_add, Int.mul_add]
    omega
theorem lp_pos {F : Tf} (G : Good F) {l : List Nat} (o : Over F l) (ne : l ≠ []) : 1 ≤ lp F l := by
  obtain ⟨z, p, a, h1, h2, h3⟩ := lp_last G o ne
  have oa : Over F a := fun c hc => o c (by rw [h2]; exact List.mem_append_left _ hc)
  obtain ⟨d, hd, e⟩ := lp_cut G oa
  have := fee_pos G d hd.1
  have := (G.pos z p h1).1
  omega
/-! ### lists of pairs -/
def dPairs (ks : List (Str × Int)) : PyData := .list (ks.map fun e => .tuple [.str e.1, .int e.2])
theorem dp_pairs {K : PySem.W.Frag} {H : Hp} : ∀ {ps : List (Addr × Str × Int)}, (∀ z ∈ ps, H z.1 = some (.tup [.str z.2.1, .int z.2.2])) → DpAll K H (ps.map fun z => V.ref z.1) ((ps.map (·.2)).map fun e => PyData.tuple [.str e.1, .int e.2])
  | [], _ => .nil
  | z :: r, h => .cons (.tup (SqT.of (h z List.mem_cons_self)) (.cons (.str _) (.cons (.int _) .nil))) (dp_pairs fun y hy => h y (List.mem_cons_of_mem _ hy))
theorem neD_same {K : PySem.W.Frag} {H : Hp} {x y : V} {d : PyData} {Q : VK} (hx : Dp K H x d) (hy : Dp K H y d) (s : SeqAt.shaped d = true) (q : Q (.bl false) H) : rNeD K x y H Q := by
  refine ⟨d, d, hx, hy, s, s, ?_⟩
  rw [SeqAt.eqv_refl _ (SeqAt.canLay_of_shaped s)]
  exact q
theorem shaped_pairs {ks : List (Str × Int)} (h : ∀ e ∈ ks, ∀ c ∈ cs e.1, lett c = true) : SeqAt.shaped (dPairs ks) = true := by
  have h1 : ∀ l : List (Str × Int), (∀ e ∈ l, ∀ c ∈ cs e.1, lett c = true) → PyData.canLayAll0 (l.map fun e => PyData.tuple [.str e.1, .int e.2]) = true := by
    intro l hl
    induction l with
    | nil => rfl
    | cons e r ih =>
      have hs := shaped_lstrs (zs := [e.1]) fun z hz => by
        rw [List.mem_singleton.mp hz]
        exact hl e List.mem_cons_self
      have hc := SeqAt.canLay_of_shaped hs
      have h2 : PyData.canLay0 (.str e.1) = true := by
        have h3 : (PyData.canLay0 (.str e.1) && true) = true := hc
        rwa [Bool.and_true] at h3
      show (PyData.canLay0 (.tuple [.str e.1, .int e.2]) && _) = true
      rw [ih fun x hx => hl x (List.mem_cons_of_mem _ hx), Bool.and_true]
      show (PyData.canLay0 (.str e.1) && (true && true)) = true
      rw [h2]
      rfl
  have h2 : ∀ l : List (Str × Int), PyData.depthAll (l.map fun e => PyData.tuple [.str e.1, .int e.2]) ≤ 2 := by
    intro l
    induction l with
    | nil => simp [PyData.depthAll]
    | cons e r ih =>
      simp only [List.map_cons, PyData.depthAll, PyData.depth]
      omega
  unfold SeqAt.shaped dPairs
  rw [Bool.and_eq_true, decide_eq_true_eq]
  refine ⟨h1 ks h, ?_⟩
  have := h2 ks
  simp only [PyData.depth]
  omega
/-- _law_prices_of -/
def spPricesOf (C : Addr) : Sp := fun vs H Q _ => ∃ b kvs, vs = [.ref b] ∧ Book1 C H b kvs ∧ ∀ p (ps : List (Addr × Str × Int)) ys H', ys.Perm (keyStrs kvs) → sortedS ys = true → ps.map (·.2) = psOf kvs ys → H' p = some (.lst (ps.map fun z => V.ref z.1)) → (∀ z ∈ ps, H' z.1 = some (.tup [.str z.2.1, .int z.2.2])) → Same H H' → Q (.ref p) H'
/-- what the laws' parts about one book promise -/
def spPart (ok : List (Key × V) → Str → Prop) : Sp := fun vs H Q _ => ∃ (l pd : Addr) (kvs : List (Key × V)) (w : Str) (n : Nat), vs = [.ref l, .ref pd, .str w] ∧ pd ≠ l ∧ H pd = some (.dK kvs) ∧ arePrices kvs = true ∧ (kvs.map (·.1)).Nodup ∧ ok kvs w ∧ Dice H l (n + 1) ∧ ∀ H', Kp l H H' → Dice H' l n → Q (.bl true) H'
def lessK (kvs : List (Key × V)) (w : Str) : List (Key × V) := kvs.filter fun kv => !decide (kv.1 = Sum.inr w)
theorem tf_less {kvs : List (Key × V)} {w : Str} : tfD (lessK kvs w) = remF (tfD kvs) w := by
  have h : ∀ (l : List (Key × V)) (y : Str), valV (lessK l w) (Sum.inr y) = if y = w then none else valV l (Sum.inr y) := by
    intro l y
    induction l with
    | nil =>
      show (none : Option V) = _
      split <;> rfl
    | cons a r ih =>
      by_cases e : a.1 = Sum.inr w
      · have e1 : lessK (a :: r) w = lessK r w := by
          unfold lessK
          rw [List.filter_cons, if_neg (by simp [e])]
        rw [e1, ih]
        by_cases q : y = w
        · rw [if_pos q, if_pos q]
        · rw [if_neg q, if_neg q]
          unfold valV
          rw [List.find?_cons, decide_eq_false (fun z => q (Sum.inr.inj (z.symm.trans e)))]
      · have e1 : lessK (a :: r) w = a :: lessK r w := by
          unfold lessK
          rw [List.filter_cons, if_pos (by simp [e])]
        rw [e1]
        by_cases z : a.1 = Sum.inr y
        · have q : y ≠ w := fun q => e (by rw [z, q])
          rw [if_neg q]
          unfold valV
          rw [List.find?_cons, List.find?_cons, decide_eq_true z]
        · have h1 : valV (a :: lessK r w) (Sum.inr y) = valV (lessK r w) (Sum.inr y) := by
            unfold valV
            rw [List.find?_cons, decide_eq_false z]
          have h2 : valV (a :: r) (Sum.inr y) = valV r (Sum.inr y) := by
            unfold valV
            rw [List.find?_cons, decide_eq_false z]
          rw [h1, h2, ih]
  funext y
  unfold tfD remF
  rw [h]
  by_cases q : y = w
  · rw [if_pos q, if_pos q]
  · rw [if_neg q, if_neg q]
theorem less_book {kvs : List (Key × V)} {w : Str} (av : arePrices kvs = true) (nd : (kvs.map (·.1)).Nodup) (hw : 1 < (cs w).length) : arePrices (lessK kvs w) = true ∧ ((lessK kvs w).map (·.1)).Nodup := by
  have nd' : ((lessK kvs w).map (·.1)).Nodup := nd.sublist (List.filter_sublist.map _)
  refine ⟨(ap_sub av nd nd' (fun kv h => (List.mem_filter.mp h).1) (fun c hc => ?_) (Nat.le_trans (List.length_filter_le _ _) (ap_parts av).1.2)).1, nd'⟩
  obtain ⟨q, hq⟩ := hc
  refine ⟨q, ?_⟩
  rw [tf_less]
  unfold remF
  rw [if_neg fun e => ?_]
  · exact hq
  · rw [← e] at hw
    exact absurd (show 1 < 1 from hw) (by decide)
theorem bool_iff {b : Bool} {P : Prop} [Decidable P] (h : b = true ↔ P) : b = decide P := by
  by_cases q : P
  · rw [decide_eq_true q, h.mpr q]
  · rw [decide_eq_false q]
    cases b with
    | false => rfl
    | true => exact absurd (h.mp rfl) q
/-- data of a list of truths, a text or None behind them -/
theorem repr_three {K : PySem.W.Frag} {H : Hp} {a : Addr} {b1 b2 : Bool} {x : V} {d : PyData} {Q : VK} (h : H a = some (.lst [.bl b1, .bl b2, x])) (hd : Dp K H x d) (s : Shw d 0 1000) (q : Q (.str (PyData.list [.bool b1, .bool b2, d]).shown) H) : rRepr K [.ref a] H Q := by
  have S : Shw (PyData.list [.bool b1, .bool b2, d]) 1 _ := shw_list (k := 0) (n := 1000) fun e he => by
    simp only [List.mem_cons, List.not_mem_nil, or_false] at he
    rcases he with rfl | rfl | rfl
    · exact (shw_bool b1).le (Nat.le_refl _) (by omega)
    · exact (shw_bool b2).le (Nat.le_refl _) (by omega)
    · exact s
  exact ⟨_, _, rfl, .lst (SqL.of h) (.cons (.bl b1) (.cons (.bl b2) (.cons hd .nil))), S.s, S.h, Nat.le_trans S.dp (by omega), Nat.le_trans S.len (fits_sz (by show _ ≤ 100000; simp)), q⟩
theorem shw_non6 : Shw PyData.none 0 1000 := ⟨by simp [PyData.showable], by simp [PyData.hasDict], by simp [PyData.depth], by simp only [PyData.shown]; decide +kernel⟩
theorem shw_word {z : Str} (h : z.length ≤ 5) (hc : ∀ c ∈ cs z, c < 16 ^ 8) : Shw (.str z) 0 1000 :=
  ⟨by simp [PyData.showable], by simp [PyData.hasDict], by simp [PyData.depth], by simp only [PyData.shown]; exact Nat.le_trans (StrLaws.reprText_len z hc) (by omega)⟩
theorem seq_if_join {tc : TT} {ta tb tr : TS} {D : Ends} {σ : L2.St} {H : Hp} (P : L2.St → Hp → Prop) (h : ∀ N : L2.St → Hp → Prop, (∀ σ' H', P σ' H' → N σ' H') → tIfS tc ta tb { D with nx := N } σ H) (k : ∀ σ' H', P σ' H' → tr D σ' H') : tSeq (tIfS tc ta tb) tr D σ H := h _ k
def longG : Key × V → Option Str := fun kv => match kv.1 with | .inr y => if 1 < y.length then some y else none | .inl _ => none
theorem long_mem {kvs : List (Key × V)} (T : Tar kvs) {z : Str} (h : z ∈ kvs.filterMap longG) : 1 < z.length ∧ ∃ q, tfD kvs z = some q := by
  obtain ⟨kv, hkv, e⟩ := List.mem_filterMap.mp h
  obtain ⟨y, q, rfl, hq⟩ := T.mem kv hkv
  have e' : (if 1 < y.length then some y else none) = some z := e
  split at e'
  · rename_i l
    cases e'
    exact ⟨l, q, hq⟩
  · cases e'
end G
/-! != of instances that have only ==; - and others with a value of another kind. -/
namespace G
open PySem PySem.Spec PyProof.Rows L2
section
variable {prog : Program} {w : World} {A : Around} {E : Value → Shared → Prop} {s : Shared} {K : PySem.W.Frag} {x y C f : Addr} {ox : Obj} {od : Option Obj}
theorem ne_entry {Q : Fin → Shared → Prop} (X : K.In s.heap) (I : PySem.W.InstAt s.heap x ox C od) (hs : PySem.W.findIn K (.ref C) "__eq__" = some (some (.ref f))) (hf : PySem.W.isFn K (.ref f) = true) (hu : A.units < cLine)
    (h : wpAny (model prog w) A (call (.ref f) [.ref x, .ref y]) (fun v s' => ∃ b, v = .bool b ∧ Q (.done (.ret (.bool (!b)))) s') E s) : wpAny (model prog w) A (Builtin.«object.__ne__» ⟨[.ref x, .ref y], []⟩) Q E s := by
  unfold Builtin.«object.__ne__»
  repeat (first
    | with_reducible refine wpAny_cRoomFor hu ?_
    | (refine wpAny_bind (m := callSpecialIfBound? (.ref x) (Str.ofString "__eq__") [.ref y]) (PySem.W.ifBound_K X I hs hf (wpAny_mono h (fun r s' hr => ?_) fun _ _ e => e)))
    | wp_step)
  obtain ⟨b, rfl, hq⟩ := hr
  repeat (first
    | exact hq
    | exact wpAny_pure hq
    | exact wpAny_truthy_bool hq
    | (refine wpAny_bind (m := truthy (.bool _)) (wpAny_truthy_bool ?_))
    | wp_step)
theorem call_ne {Q : Value → Shared → Prop} (X : K.In s.heap) (I : PySem.W.InstAt s.heap x ox C od) (hm : PySem.W.mroIn K C (.type "object") = some true) (hs : PySem.W.findIn K (.ref C) "__eq__" = some (some (.ref f))) (hf : PySem.W.isFn K (.ref f) = true) (hu : A.in1.units < cLine)
    (h : wpAny (model prog w) A.in1 (call (.ref f) [.ref x, .ref y]) (fun v s' => ∃ b, v = .bool b ∧ Q (.bool (!b)) s') E s) : wpAny (model prog w) A (call (.builtin "object.__ne__") [.ref x, .ref y]) Q E s :=
  wpAny_call (codeAny_call_builtin F.cmp_object.ne.plain F.cmpEntry_ne (PySem.W.check_slot F.cmpKind_ne F.cmpSplit_ne (I.type.andThen (PySem.W.looks_mroIn X hm)) (F.cmpArgs_ne _ _) (ne_entry X I hs hf hu h)))
theorem bound_ne {args : List Value} {Q : Option Value → Shared → Prop} {M : Model} (X : K.In s.heap) (I : PySem.W.InstAt s.heap x ox C od) (hs : PySem.W.findIn K (.ref C) "__ne__" = some (some (.builtin "object.__ne__")))
    (h : wpAny M A (call (.builtin "object.__ne__") (.ref x :: args)) (fun v => Q (some v)) E s) : wpAny M A (callSpecialIfBound? (.ref x) "__ne__" args) Q E s := by
  simp only [callSpecialIfBound?, bindSpecialIfBound?]
  refine wpAny_holding (wpAny_bind (wpAny_bind (wpAny_bind (I.type.here ((PySem.W.looks_findIn X hs).here ?_)))))
  have go : wpAny M A (call (.builtin "object.__ne__") ([.ref x] ++ args) >>= fun v => pure (some v)) Q E s := wpAny_bind (wpAny_mono h (fun v s' q => wpAny_pure q) fun _ _ q => q)
  refine wpAny_bind (wpAny_askSetting (wpAny_ite ?_))
  split
  · exact wpAny_bind (wpAny_of_eq (F.cmp_object.ne.bind _) (wpAny_pure (by exact go)))
  · exact wpAny_tryCatch (wpAny_bind (wpAny_of_eq (F.cmp_object.ne.bind _) (wpAny_pure (by exact go))))
end
section
variable {X : L2.Cx} {k j : Nat} {C : Addr} {sp : Sp}
/-- the method run below a built-in -/
theorem met_run1 {m : Str} {pins : List (Addr × Obj)} {σ : L2.St} {H : Hp} {s : Shared} {Q : VK} {us : List Value} {vs : List V} (c : C8.Met X.prog X.w X.K X.mg X.base k C m sp []) (hr : Room j X.A) (hk : k + 1 ≤ j) (I : Inv X pins σ H s) (r : Vals vs us) (h : sp vs H Q C8.E0) :
    ∃ f : Addr, PySem.W.findIn X.K (.ref C) m = some (some (.ref f)) ∧ PySem.W.isFn X.K (.ref f) = true ∧ wpAny (model X.prog X.w) X.A.in1 (call (.ref f) us) (EP X pins σ Q) X.xe s := by
  obtain ⟨f, fd, ps, ds, hc, hm, F, b, d⟩ := c.ex
  refine ⟨f, hm.at_, hm.fn, ?_⟩
  have sb : Sub X k X.A.in1 := (Sub.in1 (n := k) ⟨hr.mono hk, rfl⟩)
  have e0 : Env0 X.prog X.w X.K X.mg X.base X.A.in1 X.stack s H := by
    have e := I.env0
    exact ⟨by rw [sb.fr]; exact e.frames, e.mod, e.bs, e.bsz, e.funs, e.frf, e.hok, e.bare⟩
  have h' : sp (vs ++ []) H Q C8.E0 := by
    rw [List.append_nil]
    exact h
  have r2 : Vals (vs ++ []) (us ++ ds) := r.append d
  have hl : (us ++ ds).length = ps.length := by
    rw [← r2.length]
    exact F.len _ _ _ _ h'
  refine wpAny_call (codeAny_mono (F.run X.A.in1 X.stack s H ⟨us, []⟩ (us ++ ds) (vs ++ []) Q C8.E0 sb.room e0 (b s us I.kIn hl) r2 h') fun r s' hq => ?_)
  cases r with
  | error e => exact C8.pass0 (E := C8.E0) pins σ H s e s' I hq
  | ok fl =>
    cases fl with
    | ret u => exact I.after hq
    | next => exact False.elim hq
    | brk => exact False.elim hq
    | cont => exact False.elim hq
def rNeO (C : Addr) (sp : Sp) : R2 := fun x y H Q => ∃ a dx fs b dy gs, x = .ref a ∧ y = .ref b ∧ H a = some (.ins C dx fs) ∧ H b = some (.ins C dy gs) ∧ sp [.ref a, .ref b] H (fun r H' => ∃ b, r = .bl b ∧ Q (.bl (!b)) H') C8.E0
theorem op_neO (c : C8.Met X.prog X.w X.K X.mg X.base k C "__eq__" sp []) (hr : Room j X.A) (hk : k + 1 ≤ j) (hu : X.A.units + 1 < cLine) (hm : PySem.W.mroIn X.K C (.type "object") = some true) (hne : PySem.W.findIn X.K (.ref C) "__ne__" = some (some (.builtin "object.__ne__"))) : OpR X (compareOp .NotEq) (rNeO C sp) := by
  intro pins s σ H x y v u Q I rx ry h
  obtain ⟨a, dx, fs, b, dy, gs, rfl, rfl, ha, hb, q⟩ := h
  cases rx
  cases ry
  obtain ⟨_, J, _⟩ := ins_get I.hok ha
  obtain ⟨_, J', _⟩ := ins_get I.hok hb
  obtain ⟨_, J, _⟩ := J.look
  obtain ⟨_, J', _⟩ := J'.look
  obtain ⟨m, hF⟩ := I.fr
  have kin := I.kIn
  obtain ⟨f, h1, h2, h3⟩ := met_run1 (us := [.ref a, .ref b]) (vs := [.ref a, .ref b]) c hr hk I (.cons rfl (.cons rfl .nil)) q
  have one : wpAny (model X.prog X.w) X.A (tryCompare (.ref a) "__ne__" (.ref b)) (fun r s' => ∃ v, r = some v ∧ EP X pins σ Q v s') X.xe s := by
    unfold tryCompare
    refine wpAny_bind (bound_ne kin J hne (call_ne kin J hm h1 h2 (show X.A.units + 1 < cLine from hu) (wpAny_mono h3 (fun r s' hq => ?_) fun _ _ e => e)))
    obtain ⟨z, H', I', rz, b', rfl, q'⟩ := hq
    cases rz
    exact ⟨b', rfl, wpAny_pure ⟨_, rfl, .bl (!b'), H', I', rfl, q'⟩⟩
  show wpAny _ _ (richCompare .NotEq (.ref a) (.ref b)) _ _ _
  unfold richCompare
  simp only [oneThing_ref]
  refine wpAny_holding (wpAny_bind (wpAny_cRoomFor (by omega) ?_))
  refine wpAny_bind (J.type.here (wpAny_bind (J'.type.here ?_)))
  split
  · rename_i q
    simp at q
  · refine wpAny_bind (wpAny_pure ?_)
    simp only [Bool.false_eq_true, if_false]
    refine wpAny_bind (wpAny_mono one (fun r s' z => ?_) fun _ _ e => e)
    obtain ⟨v, rfl, hq⟩ := z
    exact wpAny_pure hq
end
section
open PySem.W PySem.Calls
variable {prog : Program} {w : World} {A : Around} {E : Value → Shared → Prop} {s : Shared} {K : Frag} {x C f : Addr} {ox : Obj} {od : Option Obj} {T : String}
/-- an own operator whose right side is of a built-in type, wherever it lies -/
theorem bin_own {op : Operator} {b : Value} {fo ro : Option Value} {Q : Value → Shared → Prop} (X : K.In s.heap) (I : InstAt s.heap x ox C od) (hb : Looks (model prog w) s.heap (typeOf b) (.type T)) (first : selfFirst K C = true)
    (own : findIn K (.ref C) (PySem.dunder op.info.2) = some (some (.ref f))) (fn : isFn K (.ref f) = true) (back : findIn K (.ref C) (dunderR op.info.2) = some none) (tl : findIn K (.type T) (PySem.dunder op.info.2) = some fo) (tr : findIn K (.type T) (dunderR op.info.2) = some ro)
    (apart : subIn K (.type T) (.ref C) = some false) (h : wpAny (model prog w) A (call (.ref f) [.ref x, b]) (PySem.W.CmpBack Q) E s) : wpAny (model prog w) A (binaryOp op (.ref x) b) Q E s := by
  obtain ⟨cd, rest, k1, k2⟩ := ksp_first first
  rcases info : op.info with ⟨sign, nm⟩
  rw [info] at own back tl tr
  dsimp only at own back tl tr
  have go := ksp_try X I own fn h
  obtain ⟨hp, gn, dr, tk, os⟩ := s
  have a1 : Looks (model prog w) hp (typeOf (.ref x)) (.ref C) := I.type
  have a2 : Looks (model prog w) hp (typeOf b) (.type T) := hb
  have a3 : Looks (model prog w) hp (fillsNumberSlot (.ref C) nm) true := fills_K X k1 k2 own
  have a4 := ksp_fillsT (M := model prog w) X tl tr
  have a5 : Looks (model prog w) hp (isSubtype (.type T) (.ref C)) false := looks_subIn X apart
  have a6 : Looks (model prog w) hp (numberSlotInPython (.ref C) nm) true := ksp_inPy X own back (Or.inl rfl)
  have a7 : Looks (model prog w) hp (numberSlotInPython (.type T) nm) false := Looks.of_pure rfl
  have a8 : Looks (model prog w) hp (typeLookup (.type T) (dunderR nm)) ro := looks_findIn X tr
  generalize ((fo.isSome && !isSeqSlot fo) || (ro.isSome && !isSeqSlot ro)) = both at a4
  have differ : (Value.ref C == Value.type T) = false := Bool.eq_false_iff.mpr fun q => by cases beq_iff_eq.mp q
  simp only [binaryOp, info]
  unfold binaryOp1
  refine wpAny_holding (wpAny_bind (wpAny_bind (a1.at (wpAny_bind (a2.at (wpAny_bind (a3.at ?_)))))))
  simp only [differ, Bool.false_eq_true, if_false]
  cases both
  all_goals
    ksp_lk
    refine wpAny_mono go (fun r s' hr' => ?_) fun _ _ e => e
    obtain ⟨v, rfl, hq⟩ := hr'
    ksp_lk
    exact hq
end
section
variable {X : L2.Cx} {k j : Nat} {C : Addr} {sp : Sp}
def rSubO (K : PySem.W.Frag) (C : Addr) (sp : Sp) : R2 := fun x y H Q => ∃ a dx fs t xs, x = .ref a ∧ y = .ref t ∧ H a = some (.ins C dx fs) ∧ SqT K H t xs ∧ sp [.ref a, .ref t] H (fun r H' => (∃ b, r = .ref b) ∧ Q r H') C8.E0
theorem op_subO (K : PySem.W.Frag) (c : C8.Met X.prog X.w X.K X.mg X.base k C "__sub__" sp []) (hr : Room j X.A) (hk : k ≤ j) (first : PySem.W.selfFirst X.K C = true) (back : PySem.W.findIn X.K (.ref C) "__rsub__" = some none)
    (tl : PySem.W.findIn X.K (.type "tuple") "__sub__" = some none) (tr : PySem.W.findIn X.K (.type "tuple") "__rsub__" = some none) (apart : PySem.W.subIn X.K (.type "tuple") (.ref C) = some false) (e : X.K = K := by rfl) : OpR X (binaryOp .Sub) (rSubO K C sp) := by
  subst e
  intro pins s σ H x y v u Q I rx ry h
  obtain ⟨a, dx, fs, t, xs, rfl, rfl, ha, ht, q⟩ := h
  cases rx
  cases ry
  obtain ⟨_, J, _⟩ := ins_get I.hok ha
  obtain ⟨_, J, _⟩ := J.look
  obtain ⟨its, _, p1, _⟩ := I.tuple ht
  obtain ⟨f, h1, h2, h3⟩ := met_run (us := [.ref a, .ref t]) (vs := [.ref a, .ref t]) c hr hk I (.cons rfl (.cons rfl .nil)) q
  obtain ⟨ob, g1, g2, n, g3⟩ := p1
  refine bin_own (op := .Sub) I.kIn J (b := .ref t) (T := "tuple") ?_ first h1 h2 back tl tr apart (wpAny_mono h3 (fun r s' hq => ?_) fun _ _ e => e)
  · intro A Q E s' k q
    exact wpAny_typeOf_ref (k _ _ g1) (by rw [g2]; exact q)
  · obtain ⟨z, H', I', rz, ⟨b, rfl⟩, q⟩ := hq
    cases rz
    exact ⟨.ref b, H', I', rfl, q⟩
end
/-! ### == of dicts with texts and ints, different only in their sizes; not in, of data -/
def rEqDB : R2 := fun x y H Q => ∃ a b ks ls, x = .ref a ∧ y = .ref b ∧ Rd H a (.dK ks) ∧ Rd H b (.dK ls) ∧
  ((ks.length = ls.length ∧ (∀ p ∈ ks, valV ls p.1 = some p.2 ∧ flatB p.2 = true) ∧ Q (.bl true) H) ∨ (ks.length ≠ ls.length ∧ Q (.bl false) H))
section
variable {X : L2.Cx}
theorem op_eqDB (hu : X.A.units + 64 < cLine) : OpR X (compareOp .Eq) rEqDB := by
  intro pins s σ H x y v u Q I rx ry h
  obtain ⟨a, b, ks, ls, rfl, rfl, ea, eb, q⟩ := h
  cases rx
  cases ry
  obtain ⟨_, la, va, ra, da⟩ := dk_rd I.hok ea
  obtain ⟨_, lb, vb, rb, db⟩ := dk_rd I.hok eb
  have na := Paired.length ra
  have nb := Paired.length rb
  rcases q with ⟨hl, hp, q⟩ | ⟨hl, q⟩
  · exact PySem.W.keq_eq (knd := mixKind X.prog X.w) (r := true) la lb da db (by omega) (fun _ => hits_all rb ra hp) (fin_bl I q (by simp [show va.length = vb.length by omega]))
  · exact PySem.W.keq_eq (knd := mixKind X.prog X.w) (r := true) la lb da db (by omega) (fun e => absurd e (by omega)) (fin_bl I q (by simp [show ¬ va.length = vb.length by omega]))
theorem units65 {k : Nat} {A : Around} (r : Room k A) : A.units + 65 < cLine := by
  have := r.un
  omega
theorem g_notInD (K : PySem.W.Frag) (hu : X.A.units + 65 < cLine) (e : X.K = K := by rfl) : OpR X (compareOp .NotIn) (rNotInD K) := by
  subst e
  exact op_notInD hu
end
/-! ### dicts that are equal, their sizes not asked -/
def rNeDS : R2 := fun x y H Q => ∃ a b ks ls, x = .ref a ∧ y = .ref b ∧ Rd H a (.dK ks) ∧ Rd H b (.dK ls) ∧ (∀ p ∈ ks, ∃ v, valV ks p.1 = some v ∧ valV ls p.1 = some v ∧ flatB v = true) ∧ (∀ p ∈ ls, p.1 ∈ ks.map (·.1)) ∧ Q (.bl false) H
theorem kvR_keys : ∀ {ks : List (Key × V)} {vs : List (Key × Value)}, KV ks vs → ks.map (·.1) = vs.map (·.1)
  | [], _, h => by
    cases h
    rfl
  | k :: r, _, h => by
    cases h with
    | cons h1 t => rw [List.map_cons, List.map_cons, kvR_keys t, h1.1]
theorem nd_le {α : Type} [DecidableEq α] {l1 l2 : List α} (nd : l1.Nodup) (h : ∀ a ∈ l1, a ∈ l2) : l1.length ≤ l2.length := @nd_sub_len α instBEqOfDecidableEq inferInstance l1 l2 nd h
theorem op_neDS {X : L2.Cx} (hu : X.A.units + 64 < cLine) : OpR X (compareOp .NotEq) rNeDS := by
  intro pins s σ H x y v u Q I rx ry h
  obtain ⟨a, b, ks, ls, rfl, rfl, ea, eb, h0, h2, q⟩ := h
  cases rx
  cases ry
  obtain ⟨_, la, va, ra, da⟩ := dk_rd I.hok ea
  obtain ⟨_, lb, vb, rb, db⟩ := dk_rd I.hok eb
  have na := Paired.length ra
  have nb := Paired.length rb
  have nda : (ks.map (·.1)).Nodup := by
    rw [kvR_keys ra]
    obtain ⟨_, _, _, _, _, _, _, _, nd⟩ := da
    exact nd
  have ndb : (ls.map (·.1)).Nodup := by
    rw [kvR_keys rb]
    obtain ⟨_, _, _, _, _, _, _, _, nd⟩ := db
    exact nd
  have h1 : ∀ p ∈ ks, valV ls p.1 = some p.2 ∧ flatB p.2 = true := fun p hp => by
    obtain ⟨v, e1, e2, e3⟩ := h0 p hp
    rw [val_nodup nda p hp] at e1
    cases e1
    exact ⟨e2, e3⟩
  have i1 := nd_le (l2 := ls.map (·.1)) nda fun k hk => by
    obtain ⟨p, hp, rfl⟩ := List.mem_map.mp hk
    exact valV_in (h1 p hp).1
  have i2 := nd_le (l2 := ks.map (·.1)) ndb fun k hk => by
    obtain ⟨p, hp, rfl⟩ := List.mem_map.mp hk
    exact h2 p hp
  rw [List.length_map, List.length_map] at i1 i2
  exact PySem.W.keq_ne (knd := mixKind X.prog X.w) (r := true) la lb da db (by omega) (fun _ => hits_all rb ra h1) (fin_bl I q (by simp [show va.length = vb.length by omega]))
end G
/-! for pair in d.items(): the target is one name, so the pairs are kept. -/
namespace G
open PySem PySem.Spec PyProof.Rows L2
open PySem.W (KdxIt kdx_end_out)
section
variable {prog : Program} {w : World} {A : Around} {E : Value → Shared → Prop} {s : Shared}
theorem look_alive {a : Addr} {Q : Option Obj → Shared → Prop} (h : Q (s.heap.get? a) s) : wpAny (model prog w) A (loadIfAlive a) Q E s := fun _ _ _ => h
/-- the next pair, whether the last one is there or gone -/
theorem next_pair {it d a : Addr} {f : Bool} {i ep : Nat} {es : Array DictEntry} {ok ov : Value} {Q : Option Value → Shared → Prop} (hit : KdxIt s.heap it d i es.size ep ok ov a f)
    (hm : s.heap.DictRaw d es ep) (lt : i < es.size)
    (hQ : ∀ h' ok' ov' a' f', KdxIt h' it d (i + 1) es.size ep ok' ov' a' f' →
      h'.get? s.heap.objs.size = some { cls := .type "tuple", data := .seq #[es[i].key, es[i].val] } →
      (∀ b o, b ≠ it → s.heap.get? b = some o → h'.get? b = some o) → Q (some (.ref s.heap.objs.size)) { s with heap := h' }) :
    wpAny (model prog w) A (pyNext (.ref it)) Q E s := by
  obtain ⟨hp, g, dr, tk, os⟩ := s
  obtain ⟨od, hod, hcd, hdd⟩ := id hm
  have hT : Shared.TypeIs ⟨hp, g, dr, tk, os⟩ (.ref it) "dict_itemiterator" := ⟨_, hit, rfl⟩
  unfold pyNext
  refine wpAny_bind (wpAny_attempt (wpAny_callSpecial?_slot (name := Str.ofString "__next__") hT F.slot_dict_itemiterator_next
    (wpAny_call_entry F.slot_dict_itemiterator_next hT F.entry_dict_itemiterator_next ?_ (F.args_dict_itemiterator_next_1 _))))
  refine wpAny_bind (wpAny_pure ?_)
  refine wpAny_bind ?_
  refine wpAny_bind ?_
  first | refine wpAny_bind (wpAny_typeNameOfWhole_itemiter hT (wpAny_pure ?_)) | refine wpAny_bind (wpAny_typeNameOf_itemiter hT (wpAny_pure ?_))
  refine wpAny_bind (wpAny_fieldsOf hit rfl ?_)
  have own : Builtin.Dict_items.ownsTuple "dict_itemiterator" = true := by decide
  simp only [own, if_true]
  show wpAny _ _ (if (Value.ref d == Value.none) = true then _ else _) _ _ _
  rw [if_neg (show ¬ ((Value.ref d == Value.none) = true) from Bool.false_ne_true)]
  refine wpAny_bind (wpAny_pure ?_)
  refine wpAny_bind (wpAny_dictEntries hod hdd ?_)
  rw [if_neg (by simp)]
  refine wpAny_bind (wpAny_pure ?_)
  refine wpAny_bind (wpAny_dictEpoch hod hdd ?_)
  rw [if_neg (by simp)]
  refine wpAny_pure ?_
  simp only [show ¬ ((i : Int) < 0) from by omega, if_false, Int.toNat_natCast, Array.getElem?_eq_getElem lt]
  refine wpAny_bind ?_
  first | refine wpAny_bind (wpAny_typeNameOfWhole_itemiter hT (wpAny_pure ?_)) | refine wpAny_bind (wpAny_typeNameOf_itemiter hT (wpAny_pure ?_))
  refine wpAny_bind (wpAny_isOneOf_itemiter hT ?_)
  show wpAny _ _ (setField (.ref it) 3 (rawInt ((i : Int) + 1)) >>= _) _ _ ⟨hp, g, dr, tk, os⟩
  refine wpAny_bind (wpAny_setField_rec hit (by simp) fun h₁ e₁ s₁ => ?_)
  replace s₁ : Heap.SameBut it hp h₁ := s₁
  replace e₁ : KdxIt h₁ it d (i + 1) es.size ep ok ov a f := by
    have e : ((i + 1 : Nat) : Int) = (i : Int) + 1 := by omega
    unfold KdxIt; rw [e]; simpa [rawInt] using e₁
  have T₁ : Shared.TypeIs ⟨h₁, g, dr, tk, os⟩ (.ref it) "dict_itemiterator" := ⟨_, e₁, rfl⟩
  refine wpAny_bind (wpAny_holding ?_)
  refine wpAny_bind (wpAny_isOneOf_itemiter T₁ ?_)
  refine wpAny_bind (wpAny_isOneOf_itemiter T₁ ?_)
  show wpAny _ _ (Builtin.Dict_items.pairFromOwner (.ref it) 6 es[i].key es[i].val) _ _ ⟨h₁, g, dr, tk, os⟩
  unfold Builtin.Dict_items.pairFromOwner
  refine wpAny_bind (wpAny_newTuple ?_)
  have e₂ : KdxIt (h₁.push { cls := .type "tuple", data := .seq #[es[i].key, es[i].val] }) it d (i + 1) es.size ep ok ov a f := Heap.get?_push_of_some _ e₁
  generalize hh : h₁.push { cls := .type "tuple", data := .seq #[es[i].key, es[i].val] } = h₂ at e₂
  have z₁ : h₁.objs.size = hp.objs.size := s₁.1
  have il : it < hp.objs.size := Heap.lt_size hit
  have t₂ : h₂.get? hp.objs.size = some { cls := .type "tuple", data := .seq #[es[i].key, es[i].val] } := by rw [← hh, ← z₁]; exact Heap.get?_push_size _ rfl
  have k₂ : ∀ b o, b ≠ it → hp.get? b = some o → h₂.get? b = some o := fun b o hb e => by rw [← hh]; exact Heap.get?_push_of_some _ (s₁.extBut b o hb e)
  have n := Nat.ne_of_gt il
  show wpAny _ _ (Builtin.Dict_items.ownedTupleIsFree (.ref it) >>= _) _ _ ⟨h₂, g, dr, tk, os⟩
  rw [z₁]
  clear hh e₁ s₁ T₁ z₁ h₁
  refine wpAny_bind ?_
  unfold Builtin.Dict_items.ownedTupleIsFree
  refine wpAny_bind (wpAny_field e₂ rfl (x := rawInt a) rfl ?_)
  show wpAny _ _ (loadIfAlive ((a : Int).toNat) >>= _) _ _ _
  rw [Int.toNat_natCast]
  refine wpAny_bind (look_alive ?_)
  cases hg : h₂.get? a with
  | some o =>
    simp only [Option.isNone_some, Bool.false_eq_true, if_false]
    refine wpAny_bind (wpAny_field e₂ rfl (x := .bool f) rfl ?_)
    have fin : ∀ h₃ : Heap, KdxIt h₃ it d (i + 1) es.size ep ok ov a true → Heap.SameBut it h₂ h₃ → Q (some (.ref hp.objs.size)) ⟨h₃, g, dr, tk, os⟩ := fun h₃ e₃ s₃ =>
      hQ h₃ _ _ _ _ e₃ (s₃.extBut _ _ n t₂) fun b o hb e => s₃.extBut b o hb (k₂ b o hb e)
    cases f with
    | true =>
      rw [if_neg (show ¬ ((Value.bool true != Value.bool true) = true) from Bool.false_ne_true)]
      refine wpAny_pure ?_
      simp only [Bool.false_eq_true, if_false]
      exact wpAny_pure (wpAny_pure ⟨_, rfl, wpAny_pure (fin h₂ e₂ (Heap.SameBut.refl _ _))⟩)
    | false =>
      rw [if_pos (show (Value.bool false != Value.bool true) = true from rfl)]
      refine wpAny_bind (wpAny_setField_rec e₂ (by simp) fun h₃ e₃ s₃ => ?_)
      replace s₃ : Heap.SameBut it h₂ h₃ := s₃
      replace e₃ : KdxIt h₃ it d (i + 1) es.size ep ok ov a true := e₃
      refine wpAny_pure ?_
      simp only [Bool.false_eq_true, if_false]
      exact wpAny_pure (wpAny_pure ⟨_, rfl, wpAny_pure (fin h₃ e₃ s₃)⟩)
  | none =>
    simp only [Option.isNone_none, if_true]
    refine wpAny_pure ?_
    simp only [if_true]
    refine wpAny_bind (wpAny_field e₂ rfl (x := ok) rfl ?_)
    refine wpAny_bind (wpAny_field e₂ rfl (x := ov) rfl ?_)
    refine wpAny_bind (wpAny_setField_rec e₂ (by simp) fun h₃ e₃ s₃ => ?_)
    replace s₃ : Heap.SameBut it h₂ h₃ := s₃
    replace e₃ : KdxIt h₃ it d (i + 1) es.size ep es[i].key ov a f := e₃
    refine wpAny_bind (wpAny_setField_rec e₃ (by simp) fun h₄ e₄ s₄ => ?_)
    replace s₄ : Heap.SameBut it h₃ h₄ := s₄
    replace e₄ : KdxIt h₄ it d (i + 1) es.size ep es[i].key es[i].val a f := e₄
    refine wpAny_bind (wpAny_setField_rec e₄ (by simp) fun h₅ e₅ s₅ => ?_)
    replace s₅ : Heap.SameBut it h₄ h₅ := s₅
    replace e₅ : KdxIt h₅ it d (i + 1) es.size ep es[i].key es[i].val hp.objs.size f := e₅
    refine wpAny_bind (wpAny_setField_rec e₅ (by simp) fun h₆ e₆ s₆ => ?_)
    replace s₆ : Heap.SameBut it h₅ h₆ := s₆
    replace e₆ : KdxIt h₆ it d (i + 1) es.size ep es[i].key es[i].val hp.objs.size false := e₆
    have all : ∀ b o, b ≠ it → h₂.get? b = some o → h₆.get? b = some o := fun b o hb e => s₆.extBut b o hb (s₅.extBut b o hb (s₄.extBut b o hb (s₃.extBut b o hb e)))
    exact wpAny_bind (wpAny_letGo (wpAny_pure (wpAny_pure ⟨_, rfl, wpAny_pure (hQ h₆ _ _ _ _ e₆ (all _ _ n t₂) fun b o hb e => all b o hb (k₂ b o hb e))⟩)))
end
/-- where such a walk stands -/
def ItSt (h : Heap) (it d : Addr) (i n ep : Nat) : Prop := (∃ ok ov, IsItemIter h it d i n ep ok ov) ∨ ∃ ok ov a f, KdxIt h it d i n ep ok ov a f
theorem ItSt.obj {h : Heap} {it d : Addr} {i n ep : Nat} (x : ItSt h it d i n ep) : ∃ o, h.get? it = some o ∧ ∀ v, o.data ≠ .cell v := by
  rcases x with ⟨ok, ov, e⟩ | ⟨ok, ov, a, f, e⟩
  · exact ⟨_, e, fun v z => nomatch z⟩
  · exact ⟨_, e, fun v z => nomatch z⟩
theorem ItSt.at {h h' : Heap} {it d : Addr} {i n ep : Nat} (x : ItSt h it d i n ep) (k : ∀ o, h.get? it = some o → h'.get? it = some o) : ItSt h' it d i n ep := by
  rcases x with ⟨ok, ov, e⟩ | ⟨ok, ov, a, f, e⟩
  · exact .inl ⟨ok, ov, k _ e⟩
  · exact .inr ⟨ok, ov, a, f, k _ e⟩
section
variable {P : Program} {w : World} {K : PySem.W.Frag} {d : Addr} {o : Obj} {es : Array DictEntry} {ep : Nat}
theorem turn_pairs {kvs : List (Key × V)} {x : Str} {c : Pos} (it : Addr) (hod : o.data = .dict es ep) :
    Turn P w K (.Name x c) (Iti d o kvs) [it] it (fun i h => ItSt h it d i kvs.length ep) where
  mem := by simp
  obj := fun i h st b hb => by
    have e : b = it := by simpa using hb
    subst e
    exact st.obj
  keep := fun i h h' st k => st.at fun o e => k it (by simp) o e
  item := by
    intro X hP hw hK hc i pins s σ H E I hf st hg
    subst hP hw hK
    obtain ⟨hd, hi⟩ := hg
    obtain ⟨hs, hgd, hx, es', ep', vs, hdt, hsz, kv, hm⟩ := I.frzK hd
    obtain ⟨rfl, rfl⟩ := dict_ep hod hdt
    obtain ⟨⟨k, v⟩, hkv⟩ : ∃ p, kvs[i]? = some p := ⟨kvs[i], List.getElem?_eq_getElem hi⟩
    obtain ⟨u, hu, ru⟩ := kv_get kv hkv
    have hl : kvs.length = vs.length := Paired.length kv
    have hlt : it < s.heap.objs.size := by
      obtain ⟨_, e, _⟩ := st.obj
      exact Heap.lt_size e
    have fin : ∀ key h', keyIs k key = true → ItSt h' it d (i + 1) vs.length ep' → h'.get? s.heap.objs.size = some { cls := .type "tuple", data := .seq #[key, u] } → (∀ b o, b ≠ it → s.heap.get? b = some o → h'.get? b = some o) →
        ∃ u, some (Value.ref s.heap.objs.size) = some u ∧ wpAny (model X.prog X.w) X.A (letOwnedTupleGo (.Name x c) (.ref it) u) (fun _ s2 => ∃ x H', Inv X pins σ H' s2 ∧ RelV x u ∧ (Iti d o kvs).yld i H x H' ∧ ItSt s2.heap it d (i + 1) kvs.length ep' ∧ ∀ b ∈ [it], H' b = none) E { s with heap := h' } := by
      intro key h' hkey ho hT hk
      refine ⟨_, rfl, wpAny_pure ?_⟩
      have new : ObjOk X.prog X.w (upd H s.heap.objs.size (.tup [kV k, v])) h' s.heap.objs.size (.tup [kV k, v]) :=
        ⟨by show 2 ≤ sizeLine; decide, [key, u], .cons (relV_key hkey) (.cons ru .nil), ⟨_, hT, rfl, _, rfl⟩⟩
      have I1 : Inv X pins σ (upd H s.heap.objs.size (.tup [kV k, v])) { s with heap := h' } :=
        I.turnedNew (t' := s.toks) (ch := [it]) (fun b ob hb e => hk b ob (by simpa using hb) e) hf (Nat.le_refl _) new
      refine ⟨.ref s.heap.objs.size, _, I1, rfl, ⟨_, k, v, hkv, rfl, I.hok.fresh (Nat.le_refl _), rfl⟩, ?_, fun b hb => ?_⟩
      · rw [hl]
        exact ho
      · have e : b = it := by simpa using hb
        rw [e, upd_ne (Nat.ne_of_lt hlt)]
        exact (hf it (by simp)).1
    rcases st with ⟨ok, ov, he⟩ | ⟨ok, ov, a, f, he⟩
    · rw [hl] at he
      exact wpAny_pyNext_items_item he hm hu fun key h' hkey ho hT hz hk => fin key h' hkey (.inr ⟨_, _, _, _, ho⟩) hT hk
    · rw [hl] at he
      obtain ⟨es2, hr, hs2, hev⟩ := hm.raw
      rw [← hs2] at he
      have lt2 : i < es2.size := by
        rw [hs2, ← hl]
        exact hi
      obtain ⟨h1, h2⟩ := hev i lt2 k u hu
      refine next_pair he hr lt2 fun h' ok' ov' a' f' ho hT hk => ?_
      rw [h2] at hT
      rw [hs2] at ho
      exact fin _ h' h1 (.inr ⟨_, _, _, _, ho⟩) hT hk
  done := by
    intro X hP hw hK hc i pins s σ H E I hf st hg
    subst hP hw hK
    obtain ⟨hd, hi⟩ := hg
    obtain ⟨f0, f1, f2, f3, f4, f5⟩ := hf it (by simp)
    obtain ⟨hs, hgd, hx, es', ep', vs, hdt, hsz, kv, hm⟩ := I.frzK hd
    obtain ⟨rfl, rfl⟩ := dict_ep hod hdt
    have hl : kvs.length = vs.length := Paired.length kv
    have fin : ∀ h', Heap.ExtBut it s.heap h' → (none : Option Value) = none ∧ Inv X pins σ H { s with heap := h' } := fun h' eb => ⟨rfl, I.turned (t' := s.toks) (fun b ob hb e => eb b ob hb e) f0 f1 f3 f4 f5⟩
    rcases st with ⟨ok, ov, he⟩ | ⟨ok, ov, a, f, he⟩
    · rw [hl] at he
      exact wpAny_pyNext_items_end (I.ok.hd hc) he hm (List.getElem?_eq_none (by omega)) fin
    · rw [hl] at he
      exact kdx_end_out (I.ok.hd hc) he hm (List.getElem?_eq_none (by omega)) fin
  self := fun A i s Q E st h => by
    rcases st with ⟨ok, ov, e⟩ | ⟨ok, ov, a, f, e⟩
    · exact PySem.W.kcp_self e h
    · have T : s.TypeIs (.ref it) "dict_itemiterator" := ⟨_, e, rfl⟩
      refine wpAny_pyIter_slot T PySem.F.slot_dict_itemiterator_iter (wpAny_call_entry PySem.F.slot_dict_itemiterator_iter T PySem.W.kcp_entry ?_ (PySem.F.args_dict_itemiterator_iter_1 _))
      show wpAny _ _ (ret (.ref it)) _ _ s
      exact wpAny_pure ⟨_, rfl, "dict_itemiterator", _, T, PySem.F.slot_dict_itemiterator_next.lookup, h⟩
end
section
variable {X : Cx} {e : Expr} {td : TE} {apos cpos : Pos}
theorem pi_pairs {x : Str} {c : Pos} (he : PE X e td) (hbase : attributeBase e "items" X.env (eval e X.env) = eval e X.env := by rfl) (hline : (apos.endLine == cpos.line) = true := by rfl) :
    PI X (.Name x c) (.Call (.Attribute e "items" apos) [] [] cpos) (iItems td) := by
  refine ⟨fun pins s σ H R I h => ?_⟩
  refine wpAny_Call_method (T := "dict") (id := "dict.items") hbase rfl hline F.plainAttrs_dict F.slot_dict_items F.type_dict_items (thn (he.run pins s σ H _ I h) fun u s1 ⟨y, H1, I1, rx, d, o, kvs, ex, hd, q⟩ => ?_)
  subst ex
  obtain rfl : u = Value.ref d := rx
  obtain ⟨hs, hgd, hx, es, ep, vs, hdt, hsz, kv, hm⟩ := I1.frzK hd
  have hl : kvs.length = vs.length := Paired.length kv
  refine ⟨hm.dictOf.typeIs, hm.dictOf.mapOf.noDict, ?_⟩
  have I2 : Inv X pins σ H1 { s1 with heap := s1.heap.push { cls := .type "dict_items", data := .fields #[.ref d] } } := I1.kept (t' := s1.toks) fun b ob q => Heap.get?_push_of_some _ q
  have fin : wpAny (model X.prog X.w) X.A (pyIter (.ref s1.heap.objs.size)) (PIE X pins σ (.Name x c) R) X.xe { s1 with heap := s1.heap.push { cls := .type "dict_items", data := .fields #[.ref d] } } := by
    refine wpAny_pyIter_items (d := d) (knd := mixKind X.prog X.w) ⟨_, Heap.get?_push_size _ rfl, rfl, rfl⟩ (hm.push _) (pi_one (tk := s1.toks) I2 _ (turn_pairs _ hdt) (.inl ⟨.none, .none, ?_⟩) q)
    rw [hl]
    exact Heap.get?_push_size _ rfl
  show wpAny _ _ (callWith cpos (.builtin "dict.items") [.ref d] [] []) _ X.xe s1
  exact method_meetsIn F.slot_dict_items F.entry_dict_items rfl (PySem.evalArgs_none ⟨rfl, hm.dictOf.typeIs, F.args_dict_items_1 _, _, meets_dict_items (mixKind X.prog X.w) d hs, ⟨vs, hm.dictOf⟩, fin⟩)
end
end G
/-! Least books, in plain Lean; what more of Book's methods promise. -/
namespace G
open PySem PySem.Spec PyProof.Rows L2
def spAsc1 : Sp := fun vs H Q _ => ∃ t x, vs = [.ref t] ∧ H t = some (.tup [x]) ∧ ∀ H', Same H H' → Q (.bl true) H'
def spPo1 (C : Addr) : Sp := fun vs H Q _ => ∃ b t kvs z q, vs = [.ref b, .ref t] ∧ Book1 C H b kvs ∧ H t = some (.tup [.str z]) ∧ tfD kvs z = some q ∧ ∀ H', Same H H' → Q (.bl true) H'
def spSub1 (C : Addr) : Sp := fun vs H Q _ => ∃ b t kvs z q, vs = [.ref b, .ref t] ∧ Book1 C H b kvs ∧ H t = some (.tup [.str z]) ∧ tfD kvs z = some q ∧ 1 < (cs z).length ∧ ∀ b' kvs' H', Book1 C H' b' kvs' → tfD kvs' = remF (tfD kvs) z → Same H H' → Q (.ref b') H'
def spPieces (C : Addr) : Sp := fun vs H Q _ => ∃ b kvs, vs = [.ref b] ∧ Book1 C H b kvs ∧ ∀ t ys, ys.Perm (keyStrs kvs) → sortedS ys = true → H t = some (.tup (ys.map V.str)) → Q (.ref t) H
def spEqB (C : Addr) : Sp := fun vs H Q _ => ∃ a b k1 k2, vs = [.ref a, .ref b] ∧ Book1 C H a k1 ∧ Book1 C H b k2 ∧ (∀ z q, tfD k1 z = some q → tfD k2 z = some q) ∧ ∀ r, (r = true ↔ tfD k1 = tfD k2) → Q (.bl r) H
theorem nd_full {α : Type} [DecidableEq α] : ∀ {l m : List α}, l.Nodup → (∀ x ∈ l, x ∈ m) → m.length ≤ l.length → ∀ x ∈ m, x ∈ l
  | l, m, nd, inc, len, x, hx => by
    by_cases h : x ∈ l
    · exact h
    · exfalso
      have nd' : (x :: l).Nodup := List.nodup_cons.mpr ⟨h, nd⟩
      have h2 := nd_sub_len (l2 := m) nd' fun y hy => by
        rcases List.mem_cons.mp hy with rfl | hy
        · exact hx
        · exact inc y hy
      rw [List.length_cons] at h2
      omega
/-! ### the least tariff -/
open Classical in
noncomputable def leastF (F : Tf) : Tf := fun z => if Needless F z then none else F z
section
variable {F F' : Tf}
theorem least_sub {z : Str} {q : Int} (h : leastF F z = some q) : F z = some q := by
  unfold leastF at h
  split at h
  · cases h
  · exact h
theorem least_not {z : Str} {q : Int} (h : leastF F z = some q) : ¬ Needless F z := fun n => by
  unfold leastF at h
  rw [if_pos n] at h
  cases h
theorem least_in {z : Str} {q : Int} (h : F z = some q) (n : ¬ Needless F z) : leastF F z = some q := by
  unfold leastF
  rw [if_neg n]
  exact h
theorem least_ext (h : ∀ z q, F' z = some q ↔ F z = some q ∧ ¬ Needless F z) : F' = leastF F := by
  funext z
  cases e : F' z with
  | some q =>
    obtain ⟨h1, h2⟩ := (h z q).mp e
    exact (least_in h1 h2).symm
  | none =>
    cases e2 : leastF F z with
    | none => rfl
    | some q =>
      have := (h z q).mpr ⟨least_sub e2, least_not e2⟩
      rw [e] at this
      cases this
/-- part of a tariff, with all its signs -/
structure Sub1 (F F' : Tf) : Prop where
  sub : ∀ z q, F' z = some q → F z = some q
  one : ∀ c q, F (ch c) = some q → F' (ch c) = some q
theorem Sub1.good (G : Good F) (S : Sub1 F F') : Good F' := ⟨fun z p h => G.pos z p (S.sub z p h), fun z p h => G.len z p (S.sub z p h), fun z p h c hc => by
  obtain ⟨q, hq⟩ := G.cov z p (S.sub z p h) c hc
  exact ⟨q, S.one c q hq⟩⟩
theorem Sub1.over (S : Sub1 F F') {l : List Nat} : Over F' l ↔ Over F l := ⟨fun o c hc => by obtain ⟨q, hq⟩ := o c hc; exact ⟨q, S.sub _ _ hq⟩, fun o c hc => by obtain ⟨q, hq⟩ := o c hc; exact ⟨q, S.one c q hq⟩⟩
theorem Sub1.le (G : Good F) (S : Sub1 F F') {l : List Nat} (o : Over F l) : lp F l ≤ lp F' l :=
  lp_mono G (S.good G) (fun z p h => ⟨G.cov z p (S.sub z p h), lp_piece G (S.sub z p h)⟩) o (S.over.mpr o)
theorem sub_least : Sub1 F (leastF F) := ⟨fun z q h => least_sub h, fun c q h => least_in h need_sign⟩
theorem sub_rem {z : Str} (hz : 1 < (cs z).length) : Sub1 F (remF F z) := ⟨fun y q h => by
  unfold remF at h
  split at h
  · cases h
  · exact h, fun c q h => by
  unfold remF
  rw [if_neg fun e => ?_]
  · exact h
  · rw [← e] at hz
    exact absurd (show 1 < 1 from hz) (by decide)⟩
/-- a cut's pieces that do not reach the whole are shorter -/
theorem cut_short (G : Good F) {l : List Nat} {c : Ps} (h : Cut F l c) {y : Str × Int} (hy : y ∈ c) (ne : cs y.1 ≠ l) : (cs y.1).length < l.length := by
  obtain ⟨a, b, rfl⟩ := List.append_of_mem hy
  have e := h.2
  rw [List.map_append, List.map_cons, List.flatten_append, List.flatten_cons] at e
  have hl := congrArg List.length e
  rw [List.length_append, List.length_append] at hl
  rcases Nat.lt_or_ge (cs y.1).length l.length with h1 | h1
  · exact h1
  · exfalso
    have e1 : (a.map fun p => cs p.1).flatten = [] := List.length_eq_zero_iff.mp (by omega)
    have e2 : (b.map fun p => cs p.1).flatten = [] := List.length_eq_zero_iff.mp (by omega)
    rw [e1, e2, List.nil_append, List.append_nil] at e
    exact ne e
theorem fee_mono {F1 : Tf} {g : Str → Int} : ∀ {c : Ps}, (∀ p ∈ c, g p.1 ≤ p.2) → (c.map fun p => g p.1).sum ≤ fee c
  | [], _ => Int.le_refl _
  | q :: r, h => by
    have h1 := h q List.mem_cons_self
    have h2 := fee_mono (F1 := F1) (c := r) fun p hp => h p (List.mem_cons_of_mem _ hp)
    rw [fee_cons, List.map_cons, List.sum_cons]
    omega
theorem lp_flat (G : Good F) : ∀ {c : Ps}, (∀ p ∈ c, Over F (cs p.1)) → lp F (c.map fun p => cs p.1).flatten ≤ (c.map fun p => lp F (cs p.1)).sum
  | [], _ => by
    rw [List.map_nil, List.flatten_nil, lp_nil G]
    exact Int.le_refl _
  | q :: r, h => by
    have h1 := h q List.mem_cons_self
    have hr := fun p hp => h p (List.mem_cons_of_mem q hp)
    have h2 := lp_flat G (c := r) hr
    rw [List.map_cons, List.flatten_cons, List.map_cons, List.sum_cons]
    have o2 : Over F (r.map fun p => cs p.1).flatten := fun d hd => by
      obtain ⟨l, hl, hd'⟩ := List.mem_flatten.mp hd
      obtain ⟨p, hp, rfl⟩ := List.mem_map.mp hl
      exact hr p hp d hd'
    have h3 := lp_add G h1 o2
    omega
/-- without all needless pieces every piece can be had as cheaply -/
theorem least_piece (G : Good F) : ∀ (n : Nat) (z : Str) (p : Int), (cs z).length ≤ n → F z = some p → lp (leastF F) (cs z) ≤ p
  | 0, z, p, hn, hz => by
    have := (G.len z p hz).1
    omega
  | n + 1, z, p, hn, hz => by
    have Gl := sub_least.good (F := F) G
    by_cases nd : Needless F z
    · obtain ⟨q, hq, h1, h2⟩ := nd
      rw [hz] at hq
      have eq : p = q := Option.some.inj hq
      subst eq
      have Gr := rem_good G h1
      obtain ⟨c, hc, e⟩ := lp_cut Gr (rem_over h1 (G.cov z p hz))
      have each : ∀ y ∈ c, y.1 ≠ z ∧ F y.1 = some y.2 := fun y hy => by
        have := hc.1 y hy
        unfold remF at this
        split at this
        · cases this
        · rename_i ne
          exact ⟨ne, this⟩
      have h3 : ∀ y ∈ c, lp (leastF F) (cs y.1) ≤ y.2 := fun y hy => by
        obtain ⟨ne, hF⟩ := each y hy
        have hs := cut_short Gr hc hy fun e => ne (str_ext e)
        exact least_piece G n y.1 y.2 (by omega) hF
      have h4 := lp_flat Gl (c := c) fun y hy => sub_least.over.mpr (G.cov _ _ (each y hy).2)
      rw [hc.2] at h4
      have h5 := fee_mono (F1 := F) (g := fun y => lp (leastF F) (cs y)) h3
      omega
    · exact lp_piece Gl (least_in hz nd)
theorem least_same (G : Good F) {l : List Nat} (o : Over F l) : lp (leastF F) l = lp F l := by
  have h1 := sub_least.le (F := F) G o
  have h2 := lp_mono (sub_least.good (F := F) G) G (fun z p h => ⟨sub_least.over.mpr (G.cov z p h), least_piece G _ z p (Nat.le_refl _) h⟩) (sub_least.over.mpr o) o
  omega
/-- a part between both is as cheap -/
theorem between (G : Good F) (S : Sub1 F F') (h : ∀ z q, leastF F z = some q → F' z = some q) {l : List Nat} (o : Over F l) : lp F' l = lp F l := by
  have h1 := S.le G o
  have S2 : Sub1 F' (leastF F) := ⟨h, fun c q hq => least_in (S.sub _ _ hq) need_sign⟩
  have h2 := S2.le (S.good G) (S.over.mpr o)
  rw [least_same G o] at h2
  omega
/-- a longer piece of the least book is dearer without it -/
theorem least_tight (G : Good F) {z : Str} {p : Int} (h : leastF F z = some p) (hz : 1 < (cs z).length) (S : Sub1 F F') (no : F' z = none) : p < lp F' (cs z) := by
  have n := least_not h
  have hF := least_sub h
  have h1 : p < lp (remF F z) (cs z) := by
    rcases Int.lt_or_le p (lp (remF F z) (cs z)) with q | q
    · exact q
    · exact absurd ⟨p, hF, hz, q⟩ n
  have S2 : Sub1 (remF F z) F' := ⟨fun y q hq => by
    unfold remF
    rw [if_neg fun e => by
      rw [e, no] at hq
      cases hq]
    exact S.sub y q hq, fun c q hq => S.one c q ((sub_rem hz).sub _ _ hq)⟩
  have h2 := S2.le (rem_good G hz) (rem_over hz (G.cov z p hF))
  omega
/-- what is as cheap has all pieces of the least book, and the other way about -/
theorem choice_iff (G : Good F) (S : Sub1 F F') : NoDear F' F ↔ ∀ z q, leastF F z = some q → F' z = some q := by
  constructor
  · intro h z q hz
    by_cases l1 : 1 < (cs z).length
    · cases e : F' z with
      | some q' =>
        have h1 := S.sub z q' e
        rw [least_sub hz] at h1
        exact h1.symm
      | none =>
        have h1 := least_tight G hz l1 S e
        have h2 := h z q (least_sub hz)
        omega
    · have n1 := (G.len z q (least_sub hz)).1
      obtain ⟨c, rfl⟩ := _root_.G.one_sign (z := z) (by omega)
      exact S.one c q (least_sub hz)
  · intro h z p hz
    rw [between G S h (G.cov z p hz)]
    exact lp_piece G hz
theorem sub_nodear (G : Good F) (S : Sub1 F F') : NoDear F F' := fun z p h => lp_piece G (S.sub z p h)
theorem least_between (G : Good F) (S : Sub1 F F') (h : ∀ z q, leastF F z = some q → F' z = some q) : leastF F' = leastF F := by
  have key : ∀ z q, leastF F' z = some q ↔ leastF F z = some q := fun z q => by
    constructor
    · intro hz
      have h1 := least_sub hz
      have h2 := S.sub z q h1
      refine least_in h2 fun n => least_not hz ?_
      obtain ⟨p, hp, l1, le⟩ := id n
      rw [h2] at hp
      have ep : q = p := Option.some.inj hp
      subst ep
      have S2 : Sub1 (remF F' z) (leastF F) := ⟨fun y r hy => by
        unfold remF
        rw [if_neg fun e => by
          rw [e] at hy
          exact least_not hy n]
        exact h y r hy, fun c r hr => least_in (S.sub _ _ ((sub_rem l1).sub _ _ hr)) need_sign⟩
      have G' := S.good G
      have o := G.cov z q h2
      have h3 := S2.le (rem_good G' l1) (rem_over l1 (S.over.mpr o))
      rw [least_same G o] at h3
      have h4 := lp_piece G h2
      exact ⟨q, h1, l1, by omega⟩
    · intro hz
      have h1 := h z q hz
      refine least_in h1 fun n => ?_
      obtain ⟨p, hp, l1, le⟩ := n
      rw [h1] at hp
      have ep : q = p := Option.some.inj hp
      subst ep
      have S2 : Sub1 F (remF F' z) := ⟨fun y r hy => S.sub y r ((sub_rem l1).sub y r hy), fun c r hr => (sub_rem l1).one c r (S.one c r hr)⟩
      have h2 := least_tight G hz l1 S2 (if_pos rfl)
      omega
  funext z
  cases e : leastF F' z with
  | some q => exact ((key z q).mp e).symm
  | none =>
    cases e2 : leastF F z with
    | none => rfl
    | some q =>
      have := (key z q).mpr e2
      rw [e] at this
      cases this
end
def sizeL (n : Nat) : Nat := if n = 1 then 8 else if n = 2 then 6 else if n = 3 then 4 else 3
theorem sizeL_at {n : Nat} (h1 : 1 ≤ n) (h4 : n ≤ 4) : atI [V.int 8, .int 6, .int 4, .int 3] ((n : Int) - 1) = some (.int ((sizeL n : Nat) : Int)) := by
  have : n = 1 ∨ n = 2 ∨ n = 3 ∨ n = 4 := by omega
  rcases this with rfl | rfl | rfl | rfl <;> rfl
theorem sizeL_le (n : Nat) : sizeL n ≤ 8 := by
  unfold sizeL
  repeat' split
  all_goals omega
/-- _law_same -/
def spSame (K : PySem.W.Frag) : Sp := fun vs H Q _ => ∃ (d1 d2 sa ta : Addr) (k1 k2 : List (Key × V)) (sg : List Nat) (ts : List Str), vs = [.ref d1, .ref d2, .ref sa, .ref ta] ∧ H d1 = some (.dK k1) ∧ H d2 = some (.dK k2) ∧ Tar k1 ∧ Tar k2 ∧ SqL K H sa (sg.map chV) ∧ 1 ≤ sg.length ∧ sg.length ≤ 4 ∧
  (∀ c ∈ sg, (∃ p, tfD k1 (ch c) = some p) ∧ ∃ p, tfD k2 (ch c) = some p) ∧ SqL K H ta (ts.map V.str) ∧ ts.length ≤ 1000 ∧ (∀ t ∈ ts, (cs t).length ≤ 100 ∧ ∀ c ∈ cs t, c ∈ sg) ∧ (∀ l, Over (tfD k1) l → lp (tfD k1) l = lp (tfD k2) l) ∧ ∀ H', Same H H' → Q (.bl true) H'
/-- _law_tight -/
def spTight (C : Addr) : Sp := fun vs H Q _ => ∃ b kvs, vs = [.ref b] ∧ Book1 C H b kvs ∧ (∀ z q, tfD kvs z = some q → 1 < (cs z).length → q < lp (remF (tfD kvs) z) (cs z)) ∧ ∀ H', Same H H' → Q (.bl true) H'
theorem shaped_ints (is : List Int) : SeqAt.shaped (.list (is.map PyData.int)) = true := by
  have h1 : PyData.canLayAll0 (is.map PyData.int) = true := by
    induction is with
    | nil => rfl
    | cons i r ih =>
      show (PyData.canLay0 (.int i) && _) = true
      rw [ih]
      rfl
  have h2 : PyData.depthAll (is.map PyData.int) ≤ 1 := by
    induction is with
    | nil => simp [PyData.depthAll]
    | cons i r ih =>
      have ih' := ih (by
        have h3 : (PyData.canLay0 (.int i) && PyData.canLayAll0 (r.map PyData.int)) = true := h1
        rw [Bool.and_eq_true] at h3
        exact h3.2)
      simp only [List.map_cons, PyData.depthAll, PyData.depth]
      omega
  unfold SeqAt.shaped
  rw [Bool.and_eq_true, decide_eq_true_eq]
  refine ⟨h1, ?_⟩
  simp only [PyData.depth]
  omega
theorem dp_intsL {K : PySem.W.Frag} {H : Hp} : ∀ is : List Int, DpAll K H (is.map V.int) (is.map PyData.int)
  | [] => .nil
  | i :: r => .cons (.int i) (dp_intsL r)
theorem eqD_same {K : PySem.W.Frag} {H : Hp} {x y : V} {d : PyData} {Q : VK} (hx : Dp K H x d) (hy : Dp K H y d) (s : SeqAt.shaped d = true) (q : Q (.bl true) H) : rEqD K x y H Q := by
  refine ⟨d, d, hx, hy, s, s, ?_⟩
  rw [SeqAt.eqv_refl _ (SeqAt.canLay_of_shaped s)]
  exact q
theorem shaped_str {z : Str} (h : ∀ c ∈ cs z, lett c = true) : SeqAt.shaped (.str z) = true := by
  have hs := shaped_lstrs (zs := [z]) fun y hy => by
    rw [List.mem_singleton.mp hy]
    exact h
  have hc := SeqAt.canLay_of_shaped hs
  have h3 : (PyData.canLay0 (.str z) && true) = true := hc
  rw [Bool.and_true] at h3
  unfold SeqAt.shaped
  rw [h3]
  simp [PyData.depth]
theorem put_rem {F : Tf} {z : Str} {q : Int} (h : F z = some q) : putF (remF F z) z q = F := by
  funext y
  by_cases e : y = z
  · rw [e, put_at_w, h]
  · rw [put_ne e]
    exact if_neg e
theorem whole_book {kvs : List (Key × V)} {ys : List Str} (av : arePrices kvs = true) (nd : (kvs.map (·.1)).Nodup) (pm : ys.Perm (keyStrs kvs)) : arePrices (kvOf (psOf kvs ys)) = true ∧ ((kvOf (psOf kvs ys)).map (·.1)).Nodup ∧ tfD (kvOf (psOf kvs ys)) = tfD kvs := by
  have e0 : partK kvs ys (fun _ => true) = kvOf (psOf kvs ys) := by
    unfold partK
    rw [List.filter_eq_self.mpr fun _ _ => rfl, kvOf_ps]
  obtain ⟨h1, h2⟩ := part_book (q := fun _ => true) av nd pm fun _ _ => rfl
  rw [e0] at h1 h2
  exact ⟨h1, h2, tf_psOf (ap_parts av).2.1 pm⟩
theorem no_need {F : Tf} (G : Good F) {z : Str} : ¬ Needless (leastF F) z := fun n => by
  obtain ⟨p, hp, hz, le⟩ := n
  have := least_tight G hp hz (F' := remF (leastF F) z) ⟨fun y q h => least_sub ((sub_rem hz).sub y q h), fun c q h => (sub_rem hz).one c q (sub_least.one c q h)⟩ (if_pos rfl)
  omega
theorem least_twice {F : Tf} (G : Good F) : leastF (leastF F) = leastF F := least_between G sub_least fun z q h => h
theorem least_cheap {F : Tf} (G : Good F) : NoDear F (leastF F) ∧ NoDear (leastF F) F := ⟨sub_nodear G sub_least, (choice_iff G sub_least).mpr fun z q h => h⟩
theorem least_all {F : Tf} : leastF F = F ↔ ∀ z, ¬ Needless F z := by
  constructor
  · intro h z n
    obtain ⟨q, hq, _⟩ := id n
    rw [← h] at hq
    exact least_not hq n
  · intro h
    funext z
    exact if_neg (h z)
/-- a tuple of texts == () -/
theorem eq_nilT {K : PySem.W.Frag} {H : Hp} {a p : Addr} {zs : List Str} {Q : VK} (h : SqT K H a (zs.map V.str)) (hp : H p = some (.tup [])) (hl : ∀ z ∈ zs, ∀ c ∈ cs z, lett c = true) (q : Q (.bl zs.isEmpty) H) : rEqD K (.ref a) (.ref p) H Q := by
  refine ⟨.tuple (zs.map PyData.str), .tuple [], .tup h (dpAll_strs zs), .tup (SqT.of hp) .nil, shaped_strs hl, by decide +kernel, ?_⟩
  have e : PyData.eqv (.tuple (zs.map PyData.str)) (.tuple []) = zs.isEmpty := by
    cases zs with
    | nil => rfl
    | cons z r => rfl
  rw [e]
  exact q
theorem shw_unit : Shw (.tuple []) 1 10 := ⟨by simp [PyData.showable, PyData.showableAll], by simp [PyData.hasDict, PyData.hasDictAll], by simp [PyData.depth, PyData.depthAll], by simp only [PyData.shown]; decide +kernel⟩
def dTold (b : Bool) : PyData := .list [.tuple [], .bool true, .bool true, .bool b]
theorem repr_told {K : PySem.W.Frag} {H : Hp} {a t : Addr} {b : Bool} {Q : VK} (h : H a = some (.lst [.ref t, .bl true, .bl true, .bl b])) (ht : H t = some (.tup [])) (q : Q (.str (dTold b).shown) H) : rRepr K [.ref a] H Q := by
  have S : Shw (dTold b) 2 _ := shw_list (k := 1) (n := 1000) fun e he => by
    simp only [List.mem_cons, List.not_mem_nil, or_false] at he
    rcases he with rfl | rfl | rfl | rfl
    · exact shw_unit.le (Nat.le_refl _) (by omega)
    · exact (shw_bool true).le (by omega) (by omega)
    · exact (shw_bool true).le (by omega) (by omega)
    · exact (shw_bool b).le (by omega) (by omega)
  exact ⟨_, _, rfl, .lst (SqL.of h) (.cons (.tup (SqT.of ht) .nil) (.cons (.bl true) (.cons (.bl true) (.cons (.bl b) .nil)))), S.s, S.h, Nat.le_trans S.dp (by omega), Nat.le_trans S.len (fits_sz (by show _ ≤ 100000; simp)), q⟩
/-! ### pairs in a list -/
theorem shaped_ent {z : Str} {q : Int} (h : ∀ c ∈ cs z, lett c = true) : SeqAt.shaped (.tuple [.str z, .int q]) = true := by
  have hs := shaped_lstrs (zs := [z]) fun y hy => by
    rw [List.mem_singleton.mp hy]
    exact h
  have hc := SeqAt.canLay_of_shaped hs
  have h2 : PyData.canLay0 (.str z) = true := by
    have h3 : (PyData.canLay0 (.str z) && true) = true := hc
    rwa [Bool.and_true] at h3
  unfold SeqAt.shaped
  rw [Bool.and_eq_true, decide_eq_true_eq]
  constructor
  · show (PyData.canLay0 (.str z) && (true && true)) = true
    rw [h2]
    rfl
  · simp only [PyData.depth, PyData.depthAll]
    omega
theorem dp_paired {K : PySem.W.Frag} {H : Hp} : ∀ {ts : List Addr} {ks : List (Str × Int)}, Paired (fun (t : Addr) (q : Key × V) => H t = some (.tup [kV q.1, q.2])) ts (ks.map entS) → DpAll K H (ts.map V.ref) (ks.map fun e => PyData.tuple [.str e.1, .int e.2])
  | [], [], _ => .nil
  | [], _ :: _, h => by cases h
  | _ :: _, [], h => by cases h
  | t :: r, e :: l, h => by
    rcases h with _ | ⟨h1, h2⟩
    exact .cons (.tup (SqT.of h1) (.cons (.str _) (.cons (.int _) .nil))) (dp_paired h2)
theorem dp_pairedS {K : PySem.W.Frag} {H H' : Hp} (s : Same H H') : ∀ {ts : List Addr} {ks : List (Str × Int)}, Paired (fun (t : Addr) (q : Key × V) => H t = some (.tup [kV q.1, q.2])) ts (ks.map entS) → DpAll K H' (ts.map V.ref) (ks.map fun e => PyData.tuple [.str e.1, .int e.2])
  | [], [], _ => .nil
  | [], _ :: _, h => by cases h
  | _ :: _, [], h => by cases h
  | t :: r, e :: l, h => by
    rcases h with _ | ⟨h1, h2⟩
    exact .cons (.tup (SqT.of (s _ _ h1)) (.cons (.str _) (.cons (.int _) .nil))) (dp_pairedS s h2)
theorem any_ent {ks : List (Str × Int)} {e : Str × Int} (h : e ∈ ks) (s : SeqAt.shaped (.tuple [.str e.1, .int e.2]) = true) : (ks.map fun e => PyData.tuple [.str e.1, .int e.2]).any (fun z => PyData.eqv z (.tuple [.str e.1, .int e.2])) = true := by
  rw [List.any_eq_true]
  exact ⟨_, List.mem_map.mpr ⟨e, h, rfl⟩, SeqAt.eqv_refl _ (SeqAt.canLay_of_shaped s)⟩
/-! ### a choice of the pieces -/
def pickK (kvs : List (Key × V)) (S : List Str) : List (Key × V) := S.map fun y => (Sum.inr y, V.int ((tfD kvs y).getD 0))
theorem valV_pick {kvs : List (Key × V)} {z : Str} : ∀ {S : List Str} {ks : List (Key × V)}, valV (mergeK ks (pickK kvs S)) (Sum.inr z) = if z ∈ S then some (V.int ((tfD kvs z).getD 0)) else valV ks (Sum.inr z)
  | [], ks => by
    rw [if_neg (List.not_mem_nil)]
    rfl
  | y :: r, ks => by
    show valV (mergeK (putK ks (Sum.inr y) (V.int ((tfD kvs y).getD 0))) (pickK kvs r)) (Sum.inr z) = _
    rw [valV_pick, valV_put]
    by_cases h1 : z ∈ r
    · rw [if_pos h1, if_pos (List.mem_cons_of_mem _ h1)]
    · rw [if_neg h1]
      by_cases h2 : z = y
      · rw [if_pos (by rw [h2]), if_pos (by rw [h2]; exact List.mem_cons_self), h2]
      · rw [if_neg fun e => h2 (Sum.inr.inj e), if_neg fun e => (List.mem_cons.mp e).elim h2 h1]
theorem tf_pick {kvs : List (Key × V)} {S : List Str} (h : ∀ y ∈ S, ∃ q, tfD kvs y = some q) (z : Str) : tfD (mergeK [] (pickK kvs S)) z = if z ∈ S then tfD kvs z else none := by
  have e := valV_pick (kvs := kvs) (z := z) (S := S) (ks := [])
  by_cases hz : z ∈ S
  · rw [if_pos hz] at e ⊢
    obtain ⟨q, hq⟩ := h z hz
    rw [hq] at e
    rw [tf_some.mpr e, hq]
    rfl
  · rw [if_neg hz] at e ⊢
    unfold tfD
    rw [e]
    rfl
/-- what a choice of the pieces gives -/
theorem pick_book {kvs : List (Key × V)} {S : List Str} {sg : List Nat} (av : arePrices kvs = true) (nd : (kvs.map (·.1)).Nodup) (sgns : ∀ c, (∃ q, tfD kvs (ch c) = some q) ↔ c ∈ sg) (h : ∀ y ∈ S, ∃ q, tfD kvs y = some q) (hs : ∀ c ∈ sg, ch c ∈ S) :
    arePrices (mergeK [] (pickK kvs S)) = true ∧ ((mergeK [] (pickK kvs S)).map (·.1)).Nodup ∧ Sub1 (tfD kvs) (tfD (mergeK [] (pickK kvs S))) ∧ ∀ z q, tfD (mergeK [] (pickK kvs S)) z = some q ↔ z ∈ S ∧ tfD kvs z = some q := by
  have good := good_of av
  have al := (ap_parts av).2.1
  have T := tf_pick h
  have key : ∀ z q, tfD (mergeK [] (pickK kvs S)) z = some q ↔ z ∈ S ∧ tfD kvs z = some q := fun z q => by
    rw [T]
    by_cases hz : z ∈ S
    · rw [if_pos hz]
      exact ⟨fun e => ⟨hz, e⟩, fun e => e.2⟩
    · rw [if_neg hz]
      exact ⟨fun e => (nomatch e), fun e => absurd e.1 hz⟩
  obtain ⟨P, _⟩ := PrOk.merge (sg := sg) (more := pickK kvs S) PrOk.nil fun kv hkv => by
    obtain ⟨y, hy, rfl⟩ := List.mem_map.mp hkv
    obtain ⟨q, hq⟩ := h y hy
    refine ⟨y, q, by rw [hq]; rfl, good.len y q hq, fun c hc => (sgns c).mp (good.cov y q hq c hc), ?_⟩
    have hk := (tf_key al).mpr ⟨q, hq⟩
    obtain ⟨h1, h2, h3⟩ := price_of_key al hk
    rw [tf_some] at hq
    rw [h1] at hq
    cases hq
    exact ⟨h2, h3⟩
  have nd' := P.nd
  refine ⟨(ap_sub av nd nd' (fun kv hkv => ?_) (fun c hc => ?_) ?_).1, nd', ⟨fun z q e => ((key z q).mp e).2, fun c q e => (key _ q).mpr ⟨hs c ((sgns c).mp ⟨q, e⟩), e⟩⟩, key⟩
  · obtain ⟨z, q, rfl, _⟩ := P.mem kv hkv
    have h1 := tf_some.mpr (val_nodup nd' _ hkv)
    exact valV_mem (tf_some.mp ((key z q).mp h1).2)
  · obtain ⟨q, hq⟩ := hc
    exact ⟨q, (key _ q).mpr ⟨hs c ((sgns c).mp ⟨q, hq⟩), hq⟩⟩
  · refine Nat.le_trans (?_ : (mergeK [] (pickK kvs S)).length ≤ kvs.length) (ap_parts av).1.2
    have h1 := nd_le (l2 := kvs.map (·.1)) nd' fun k hk => by
      obtain ⟨kv, hkv, rfl⟩ := List.mem_map.mp hk
      obtain ⟨z, q, rfl, _⟩ := P.mem kv hkv
      have h1 := tf_some.mpr (val_nodup nd' _ hkv)
      exact valV_in (tf_some.mp ((key z q).mp h1).2)
    rwa [List.length_map, List.length_map] at h1
theorem fm_out {S : List Str} : ∀ zs : List Str, (zs.filterMap fun z => if decide (z ∈ S) = true then none else some (V.str z)) = (zs.filter fun z => !decide (z ∈ S)).map V.str
  | [] => rfl
  | z :: r => by
    have ih := fm_out (S := S) r
    by_cases h : z ∈ S
    · rw [List.filterMap_cons, List.filter_cons, if_pos (decide_eq_true h), decide_eq_true h, ih]
      rfl
    · rw [List.filterMap_cons, List.filter_cons, if_neg (by rw [decide_eq_false h]; exact Bool.false_ne_true), decide_eq_false h, ih]
      rfl
theorem out_none {S zs : List Str} : (zs.filter fun z => !decide (z ∈ S)).isEmpty = true ↔ ∀ z ∈ zs, z ∈ S := by
  rw [List.isEmpty_iff, List.filter_eq_nil_iff]
  refine forall_congr' fun z => forall_congr' fun _ => ?_
  by_cases h : z ∈ S
  · simp [h]
  · simp [h]
/-- _law_choices_right -/
def spChoices (K : PySem.W.Frag) (C : Addr) : Sp := fun vs H Q _ => ∃ (l b pd sa la : Addr) (kvs : List (Key × V)) (sg : List Nat) (zs : List Str) (n : Nat), vs = [.ref l, .ref b, .ref pd, .ref sa, .ref la] ∧ pd ≠ l ∧ sa ≠ l ∧ la ≠ l ∧ Book1 C H b kvs ∧ H pd = some (.dK kvs) ∧ H sa = some (.lst (sg.map chV)) ∧
  (∀ c, (∃ q, tfD kvs (ch c) = some q) ↔ c ∈ sg) ∧ sg.length ≤ 4 ∧ H la = some (.lst (zs.map V.str)) ∧ (∀ z, z ∈ zs ↔ ∃ q, leastF (tfD kvs) z = some q) ∧ zs.length ≤ 12 ∧ Dice H l (n + 200) ∧ ∀ H', Kp l H H' → Dice H' l n → Q (.bl true) H'
end G
/-! Books put together: own operators of one class, == of dicts of ints, tariffs put together. -/
namespace G
open PySem PySem.Spec PyProof.Rows L2
section
open PySem.W PySem.Calls
variable {prog : Program} {w : World} {A : Around} {E : Value → Shared → Prop} {s : Shared} {K : Frag} {x y C f : Addr} {ox oy : Obj} {od oe : Option Obj}
/-- an own operator, both sides of one class -/
theorem bin_same {op : Operator} {Q : Value → Shared → Prop} (X : K.In s.heap) (I : InstAt s.heap x ox C od) (J : InstAt s.heap y oy C oe) (first : selfFirst K C = true)
    (own : findIn K (.ref C) (PySem.dunder op.info.2) = some (some (.ref f))) (fn : isFn K (.ref f) = true) (h : wpAny (model prog w) A (call (.ref f) [.ref x, .ref y]) (PySem.W.CmpBack Q) E s) : wpAny (model prog w) A (binaryOp op (.ref x) (.ref y)) Q E s := by
  obtain ⟨cd, rest, k1, k2⟩ := ksp_first first
  rcases info : op.info with ⟨sign, nm⟩
  rw [info] at own
  dsimp only at own
  have go := ksp_try X I own fn h
  obtain ⟨hp, gn, dr, tk, os⟩ := s
  have a1 : Looks (model prog w) hp (typeOf (.ref x)) (.ref C) := I.type
  have a2 : Looks (model prog w) hp (typeOf (.ref y)) (.ref C) := J.type
  have a3 : Looks (model prog w) hp (fillsNumberSlot (.ref C) nm) true := fills_K X k1 k2 own
  have same : (Value.ref C == Value.ref C) = true := beq_self_eq_true _
  simp only [binaryOp, info]
  unfold binaryOp1
  refine wpAny_holding (wpAny_bind (wpAny_bind (a1.at (wpAny_bind (a2.at (wpAny_bind (a3.at ?_)))))))
  simp only [same, if_true]
  ksp_lk
  refine wpAny_mono go (fun r s' hr' => ?_) fun _ _ e => e
  obtain ⟨v, rfl, hq⟩ := hr'
  ksp_lk
  exact hq
end
section
variable {X : L2.Cx} {k j : Nat} {C : Addr} {sp : Sp}
def rOwnO (C : Addr) (sp : Sp) : R2 := fun x y H Q => ∃ a dx fs b dy gs, x = .ref a ∧ y = .ref b ∧ H a = some (.ins C dx fs) ∧ H b = some (.ins C dy gs) ∧ sp [.ref a, .ref b] H (fun r H' => (∃ b, r = .ref b) ∧ Q r H') C8.E0
theorem op_orO (c : C8.Met X.prog X.w X.K X.mg X.base k C "__or__" sp []) (hr : Room j X.A) (hk : k ≤ j) (first : PySem.W.selfFirst X.K C = true) : OpR X (binaryOp .BitOr) (rOwnO C sp) := by
  intro pins s σ H x y v u Q I rx ry h
  obtain ⟨a, dx, fs, b, dy, gs, rfl, rfl, ha, hb, q⟩ := h
  cases rx
  cases ry
  obtain ⟨_, J, _⟩ := ins_get I.hok ha
  obtain ⟨_, J', _⟩ := ins_get I.hok hb
  obtain ⟨_, J, _⟩ := J.look
  obtain ⟨_, J', _⟩ := J'.look
  obtain ⟨f, h1, h2, h3⟩ := met_run (us := [.ref a, .ref b]) (vs := [.ref a, .ref b]) c hr hk I (.cons rfl (.cons rfl .nil)) q
  refine bin_same (op := .BitOr) I.kIn J J' first h1 h2 (wpAny_mono h3 (fun r s' hq => ?_) fun _ _ e => e)
  obtain ⟨z, H', I', rz, ⟨b, rfl⟩, q⟩ := hq
  cases rz
  exact ⟨.ref b, H', I', rfl, q⟩
theorem op_andO (c : C8.Met X.prog X.w X.K X.mg X.base k C "__and__" sp []) (hr : Room j X.A) (hk : k ≤ j) (first : PySem.W.selfFirst X.K C = true) : OpR X (binaryOp .BitAnd) (rOwnO C sp) := by
  intro pins s σ H x y v u Q I rx ry h
  obtain ⟨a, dx, fs, b, dy, gs, rfl, rfl, ha, hb, q⟩ := h
  cases rx
  cases ry
  obtain ⟨_, J, _⟩ := ins_get I.hok ha
  obtain ⟨_, J', _⟩ := ins_get I.hok hb
  obtain ⟨_, J, _⟩ := J.look
  obtain ⟨_, J', _⟩ := J'.look
  obtain ⟨f, h1, h2, h3⟩ := met_run (us := [.ref a, .ref b]) (vs := [.ref a, .ref b]) c hr hk I (.cons rfl (.cons rfl .nil)) q
  refine bin_same (op := .BitAnd) I.kIn J J' first h1 h2 (wpAny_mono h3 (fun r s' hq => ?_) fun _ _ e => e)
  obtain ⟨z, H', I', rz, ⟨b, rfl⟩, q⟩ := hq
  cases rz
  exact ⟨.ref b, H', I', rfl, q⟩
end
/-! ### == of dicts of ints -/
def AllI (ks : List (Key × V)) : Prop := ∀ p ∈ ks, ∃ i, p.2 = V.int i
theorem hits_gen {A : Around} {s : Shared} {ls : List (Key × V)} {vb : List (Key × Value)} (rb : KV ls vb) (li : AllI ls) {ks : List (Key × V)} {va : List (Key × Value)} (ra : KV ks va) :
    AllI ks → PySem.W.KeqHits A s vb va (ks.all fun p => decide (valV ls p.1 = some p.2)) := by
  unfold KV at ra
  induction ra with
  | nil => intro _; exact .nil
  | @cons p q ps qs h t ih =>
    intro hp
    obtain ⟨h1, h2⟩ := h
    obtain ⟨i, hi⟩ := hp p List.mem_cons_self
    obtain ⟨k, v⟩ := q
    have h1' : p.1 = k := h1
    have ih' := ih fun p' hm => hp p' (List.mem_cons_of_mem _ hm)
    have rr : RelO (valV ls p.1) (valueAt vb p.1) := rb.val p.1
    rw [List.all_cons]
    cases e : valV ls p.1 with
    | none =>
      rw [e] at rr
      rw [hi, decide_eq_false (by simp), Bool.false_and]
      exact .miss (by rw [← h1']; exact RelO.none_of rr)
    | some wv =>
      rw [e] at rr
      obtain ⟨y, hy, ry⟩ := rr.some_of
      obtain ⟨j, hj⟩ := li _ (valV_mem e)
      have hj' : wv = .int j := hj
      subst hj'
      rw [h1'] at hy
      rw [hi] at h2
      obtain ⟨t1, rfl⟩ := (show ∃ t, v = Value.int i t from h2)
      obtain ⟨t2, rfl⟩ := (show ∃ t, y = Value.int j t from ry)
      have qq := SeqAt.EqAt.int_int (A := A) (s := s) i t1 j t2
      have eb : decide (some (V.int j) = some p.2) = (i == j) := by
        rw [hi]
        by_cases z : i = j
        · rw [decide_eq_true (by rw [z]), z, beq_self_eq_true]
        · rw [decide_eq_false (fun e => z (V.int.inj (Option.some.inj e)).symm), beq_eq_false_iff_ne.mpr z]
      rw [eb]
      exact .hit hy qq ih'
def eqD (ks ls : List (Key × V)) : Bool := (ks.length == ls.length) && ks.all fun p => decide (valV ls p.1 = some p.2)
def rEqDG : R2 := fun x y H Q => ∃ a b ks ls, x = .ref a ∧ y = .ref b ∧ Rd H a (.dK ks) ∧ Rd H b (.dK ls) ∧ AllI ks ∧ AllI ls ∧ Q (.bl (eqD ks ls)) H
theorem op_eqDG {X : L2.Cx} (hu : X.A.units + 64 < cLine) : OpR X (compareOp .Eq) rEqDG := by
  intro pins s σ H x y v u Q I rx ry h
  obtain ⟨a, b, ks, ls, rfl, rfl, ea, eb, li, lj, q⟩ := h
  cases rx
  cases ry
  obtain ⟨_, la, va, ra, da⟩ := dk_rd I.hok ea
  obtain ⟨_, lb, vb, rb, db⟩ := dk_rd I.hok eb
  have na := Paired.length ra
  have nb := Paired.length rb
  exact PySem.W.keq_eq (knd := mixKind X.prog X.w) la lb da db (by omega) (fun _ => hits_gen rb lj ra li) (fin_bl I q (by unfold eqD; rw [na, nb]))
/-! ### tariffs put together -/
def orO (a b : Option Int) : Option Int := match a, b with
  | some p, some q => some (if p ≤ q then p else q)
  | some p, none => some p
  | none, o => o
def andO (a b : Option Int) : Option Int := match a, b with
  | some p, some q => some (if p ≤ q then q else p)
  | _, _ => none
def orT (F G : Tf) : Tf := fun z => orO (F z) (G z)
def andT (F G : Tf) : Tf := fun z => andO (F z) (G z)
section
variable (a b c : Option Int)
theorem orO_comm : orO a b = orO b a := by
  cases a <;> cases b <;> first | rfl | (simp only [orO, andO]; congr 1; repeat' split <;> omega)
theorem andO_comm : andO a b = andO b a := by
  cases a <;> cases b <;> first | rfl | (simp only [orO, andO]; congr 1; repeat' split <;> omega)
theorem orO_self : orO a a = a := by
  cases a <;> simp [orO]
theorem andO_self : andO a a = a := by
  cases a <;> simp [andO]
theorem orO_assoc : orO (orO a b) c = orO a (orO b c) := by
  cases a <;> cases b <;> cases c <;> first | rfl | (simp only [orO, andO]; congr 1; repeat' split <;> omega)
theorem andO_assoc : andO (andO a b) c = andO a (andO b c) := by
  cases a <;> cases b <;> cases c <;> first | rfl | (simp only [orO, andO]; congr 1; repeat' split <;> omega)
theorem orO_and : orO a (andO a b) = a := by
  cases a <;> cases b <;> first | rfl | (simp only [orO, andO]; congr 1; repeat' split <;> omega)
theorem andO_or : andO a (orO a b) = a := by
  cases a <;> cases b <;> first | rfl | (simp only [orO, andO]; congr 1; repeat' split <;> omega)
theorem andO_over : andO a (orO b c) = orO (andO a b) (andO a c) := by
  cases a <;> cases b <;> cases c <;> first | rfl | (simp only [orO, andO]; congr 1; repeat' split <;> omega)
theorem orO_over : orO a (andO b c) = andO (orO a b) (orO a c) := by
  cases a <;> cases b <;> cases c <;> first | rfl | (simp only [orO, andO]; congr 1; repeat' split <;> omega)
theorem or_iff_and : orO a b = a ↔ andO a b = b := by
  cases a <;> cases b <;> simp [orO, andO]
  rename_i p q
  constructor <;> intro h g <;> have := h g <;> omega
end
theorem orT_comm (F G : Tf) : orT F G = orT G F := funext fun z => orO_comm _ _
theorem andT_comm (F G : Tf) : andT F G = andT G F := funext fun z => andO_comm _ _
theorem orT_self (F : Tf) : orT F F = F := funext fun z => orO_self _
theorem andT_self (F : Tf) : andT F F = F := funext fun z => andO_self _
theorem orT_assoc (F G J : Tf) : orT (orT F G) J = orT F (orT G J) := funext fun z => orO_assoc _ _ _
theorem andT_assoc (F G J : Tf) : andT (andT F G) J = andT F (andT G J) := funext fun z => andO_assoc _ _ _
theorem or_and (F G : Tf) : orT F (andT F G) = F := funext fun z => orO_and _ _
theorem and_or (F G : Tf) : andT F (orT F G) = F := funext fun z => andO_or _ _
theorem and_over (F G J : Tf) : andT F (orT G J) = orT (andT F G) (andT F J) := funext fun z => andO_over _ _ _
theorem or_over (F G J : Tf) : orT F (andT G J) = andT (orT F G) (orT F J) := funext fun z => orO_over _ _ _
theorem orT_iff (F G : Tf) : orT F G = F ↔ andT F G = G :=
  ⟨fun h => funext fun z => (or_iff_and _ _).mp (congrFun h z), fun h => funext fun z => (or_iff_and _ _).mpr (congrFun h z)⟩
theorem orO_some {a b : Option Int} {p : Int} (h : orO a b = some p) : a = some p ∨ b = some p := by
  cases a <;> cases b <;> simp [orO] at h ⊢
  · exact h
  · exact h
  · omega
theorem orO_is {a b : Option Int} {p : Int} (h : a = some p ∨ b = some p) : ∃ q, orO a b = some q ∧ q ≤ p := by
  cases a <;> cases b <;> simp [orO] at h ⊢
  · omega
  · omega
  · rename_i x y
    split <;> omega
theorem andO_some {a b : Option Int} {p : Int} (h : andO a b = some p) : ∃ q r, a = some q ∧ b = some r ∧ (p = q ∨ p = r) ∧ q ≤ p ∧ r ≤ p := by
  cases a <;> cases b <;> simp [andO] at h ⊢
  rename_i x y
  split at h <;> omega
theorem andO_is {a b : Option Int} {q r : Int} (h : a = some q) (k : b = some r) : ∃ p, andO a b = some p ∧ q ≤ p ∧ r ≤ p := by
  subst h k
  refine ⟨_, rfl, ?_, ?_⟩ <;> split <;> omega
/-- tariffs over some pieces, some signs; one sign is in all of them -/
structure Fit (U : List Str) (SG : List Nat) (c0 : Nat) (F : Tf) : Prop where
  key : ∀ z p, F z = some p → z ∈ U
  good : Good F
  sgn : ∀ c p, F (ch c) = some p → c ∈ SG
  one : ∃ p, F (ch c0) = some p
section
variable {U : List Str} {SG : List Nat} {c0 : Nat} {F G : Tf}
theorem Fit.or (f : Fit U SG c0 F) (g : Fit U SG c0 G) : Fit U SG c0 (orT F G) where
  key z p h := (orO_some h).elim (f.key z p) (g.key z p)
  good := {
    pos := fun z p h => (orO_some h).elim (f.good.pos z p) (g.good.pos z p)
    len := fun z p h => (orO_some h).elim (f.good.len z p) (g.good.len z p)
    cov := fun z p h c hc => by
      rcases orO_some h with q | q
      · obtain ⟨r, hr⟩ := f.good.cov z p q c hc
        obtain ⟨x, hx, _⟩ := orO_is (b := G (ch c)) (Or.inl hr)
        exact ⟨x, hx⟩
      · obtain ⟨r, hr⟩ := g.good.cov z p q c hc
        obtain ⟨x, hx, _⟩ := orO_is (a := F (ch c)) (Or.inr hr)
        exact ⟨x, hx⟩ }
  sgn c p h := (orO_some h).elim (f.sgn c p) (g.sgn c p)
  one := by
    obtain ⟨p, hp⟩ := f.one
    obtain ⟨x, hx, _⟩ := orO_is (b := G (ch c0)) (Or.inl hp)
    exact ⟨x, hx⟩
theorem Fit.and (f : Fit U SG c0 F) (g : Fit U SG c0 G) : Fit U SG c0 (andT F G) where
  key z p h := by
    obtain ⟨q, r, h1, h2, _⟩ := andO_some h
    exact f.key z q h1
  good := {
    pos := fun z p h => by
      obtain ⟨q, r, h1, h2, h3, _⟩ := andO_some h
      have a := f.good.pos z q h1
      have b := g.good.pos z r h2
      rcases h3 with rfl | rfl
      · exact a
      · exact b
    len := fun z p h => by
      obtain ⟨q, r, h1, h2, _⟩ := andO_some h
      exact f.good.len z q h1
    cov := fun z p h c hc => by
      obtain ⟨q, r, h1, h2, _⟩ := andO_some h
      obtain ⟨x, hx⟩ := f.good.cov z q h1 c hc
      obtain ⟨y, hy⟩ := g.good.cov z r h2 c hc
      obtain ⟨u, hu, _⟩ := andO_is hx hy
      exact ⟨u, hu⟩ }
  sgn c p h := by
    obtain ⟨q, r, h1, h2, _⟩ := andO_some h
    exact f.sgn c q h1
  one := by
    obtain ⟨p, hp⟩ := f.one
    obtain ⟨q, hq⟩ := g.one
    obtain ⟨u, hu, _⟩ := andO_is hp hq
    exact ⟨u, hu⟩
theorem fit_book (f : Fit U SG c0 F) (hU : U.length ≤ 12) (hS : SG.length ≤ 4) (hl : ∀ c ∈ SG, lett c = true) {names : List Str} (nd : names.Nodup) (hn : ∀ z, z ∈ names ↔ ∃ p, F z = some p) {kvs : List (Key × V)} (e : kvs = names.map fun z => (Sum.inr z, V.int ((F z).getD 0))) :
    arePrices kvs = true ∧ (kvs.map (·.1)).Nodup ∧ tfD kvs = F := by
  have vf : ∀ z, valV kvs (Sum.inr z : Key) = if z ∈ names then some (V.int ((F z).getD 0)) else none := fun z => by
    rw [e]
    exact val_fun
  have tf : tfD kvs = F := by
    funext z
    cases q : F z with
    | none =>
      have h1 : z ∉ names := fun h => by
        obtain ⟨p, hp⟩ := (hn z).mp h
        rw [q] at hp
        cases hp
      unfold tfD
      rw [vf, if_neg h1]
    | some p =>
      refine tf_some.mpr ?_
      rw [vf, if_pos ((hn z).mpr ⟨p, q⟩), q]
      rfl
  have kn : (kvs.map (·.1)).Nodup := by
    rw [e, List.map_map]
    exact List.Pairwise.map (R := fun a b => a ≠ b) _ (fun a b h e => h (Sum.inr.inj e)) nd
  obtain ⟨c0p, hc0⟩ := f.one
  have P : PrOk (SG.filter fun c => (F (ch c)).isSome) kvs := ⟨fun kv hkv => by
    rw [e] at hkv
    obtain ⟨z, hz, rfl⟩ := List.mem_map.mp hkv
    obtain ⟨p, hp⟩ := (hn z).mp hz
    refine ⟨z, p, by rw [hp]; rfl, f.good.len z p hp, fun c hc => ?_, f.good.pos z p hp⟩
    obtain ⟨r, hr⟩ := f.good.cov z p hp c hc
    exact List.mem_filter.mpr ⟨f.sgn c r hr, by rw [hr]; rfl⟩, kn⟩
  refine ⟨(P.right (fun c hc => ?_) (fun c hc => hl c (List.mem_filter.mp hc).1) (Nat.le_trans (List.length_filter_le _ _) hS) ?_ ?_).1, kn, tf⟩
  · obtain ⟨p, hp⟩ := Option.isSome_iff_exists.mp (List.mem_filter.mp hc).2
    rw [tf_some.mp (show tfD kvs (ch c) = some p by rw [tf]; exact hp)]
    rfl
  · exact List.length_pos_of_mem (List.mem_filter.mpr ⟨f.sgn c0 c0p hc0, by rw [hc0]; rfl⟩)
  · rw [e, List.length_map]
    refine Nat.le_trans (nd_sub_len nd fun z hz => ?_) hU
    obtain ⟨p, hp⟩ := (hn z).mp hz
    exact f.key z p hp
end
theorem eqD_iff {ks ls : List (Key × V)} (n1 : (ks.map (·.1)).Nodup) (n2 : (ls.map (·.1)).Nodup) (t1 : Tar ks) (t2 : Tar ls) : eqD ks ls = true ↔ tfD ks = tfD ls := by
  unfold eqD
  rw [Bool.and_eq_true, beq_iff_eq, List.all_eq_true]
  have into : ∀ {ks ls : List (Key × V)}, Tar ks → (∀ p ∈ ks, valV ls p.1 = some p.2) → ∀ z q, tfD ks z = some q → tfD ls z = some q := fun t h z q hq =>
    tf_some.mpr (h _ (valV_mem (tf_some.mp hq)))
  have keys : ∀ {ks ls : List (Key × V)}, Tar ks → (∀ z q, tfD ks z = some q → ∃ q', tfD ls z = some q') → ∀ k ∈ ks.map (·.1), k ∈ ls.map (·.1) := fun t h k hk => by
    obtain ⟨kv, hkv, rfl⟩ := List.mem_map.mp hk
    obtain ⟨z, p, rfl, hp⟩ := t.mem kv hkv
    obtain ⟨q', hq'⟩ := h z p hp
    exact valV_in (tf_some.mp hq')
  constructor
  · rintro ⟨hl, ha⟩
    have sub := into t1 (ls := ls) fun p hp => of_decide_eq_true (ha p hp)
    have inc := keys t1 (ls := ls) fun z q h => ⟨q, sub z q h⟩
    funext z
    cases e1 : tfD ks z with
    | some q => exact (sub z q e1).symm
    | none =>
      cases e2 : tfD ls z with
      | none => rfl
      | some q =>
        have m := nd_full n1 inc (by rw [List.length_map, List.length_map]; omega) (Sum.inr z) (valV_in (tf_some.mp e2))
        obtain ⟨kv, hkv, e3⟩ := List.mem_map.mp m
        obtain ⟨y, p, rfl, hp⟩ := t1.mem kv hkv
        cases e3
        rw [e1] at hp
        cases hp
  · intro h
    have i1 := keys t1 (ls := ls) fun z q hq => ⟨q, by rw [← h]; exact hq⟩
    have i2 := keys t2 (ls := ks) fun z q hq => ⟨q, by rw [h]; exact hq⟩
    have l1 := nd_le n1 i1
    have l2 := nd_le n2 i2
    rw [List.length_map, List.length_map] at l1 l2
    refine ⟨by omega, fun p hp => decide_eq_true ?_⟩
    obtain ⟨z, q, rfl, hq⟩ := t1.mem p hp
    exact tf_some.mp (by rw [← h]; exact hq)
theorem Tar.allI {ks : List (Key × V)} (t : Tar ks) : AllI ks := fun p hp => by
  obtain ⟨z, q, rfl, _⟩ := t.mem p hp
  exact ⟨q, rfl⟩
theorem val_tf {ks : List (Key × V)} (t : Tar ks) (z : Str) : valV ks (Sum.inr z) = (tfD ks z).map V.int := by
  cases e : valV ks (Sum.inr z : Key) with
  | none =>
    unfold tfD
    rw [e]
    rfl
  | some v =>
    obtain ⟨y, p, h, hp⟩ := t.mem _ (valV_mem e)
    cases h
    rw [hp]
    rfl
theorem min_or {F G : Tf} {z : Str} {p : Int} (f : ∀ p, F z = some p → p ≤ 99) (g : ∀ p, G z = some p → p ≤ 99) (h : orT F G z = some p) : (if (G z).getD 99 < (F z).getD 99 then (G z).getD 99 else (F z).getD 99) = (orT F G z).getD 0 := by
  unfold orT at h ⊢
  cases e1 : F z with
  | none =>
    cases e2 : G z with
    | none =>
      rw [e1, e2] at h
      cases h
    | some q =>
      have := g q e2
      show (if q < 99 then q else 99) = q
      split <;> omega
  | some p =>
    have h1 := f p e1
    cases e2 : G z with
    | none =>
      show (if (99 : Int) < p then 99 else p) = p
      split <;> omega
    | some q =>
      show (if q < p then q else p) = (if p ≤ q then p else q)
      split <;> split <;> omega
theorem books_nodup {kvs : List (Key × V)} {ys : List Str} (nd : ys.Nodup) : ((kvOf (psOf kvs ys)).map (·.1)).Nodup := by
  rw [kvOf_ps, List.map_map]
  exact List.Pairwise.map (R := fun a b => a ≠ b) _ (fun a b h e => h (Sum.inr.inj e)) nd
end G
/-! Books put together: promises. -/
namespace G
open PySem PySem.Spec PyProof.Rows L2
section
variable {X : Cx}
theorem g_setTt (K : PySem.W.Frag) (P : Program) (w : World) (hc : X.calm = true) (e1 : X.K = K := by rfl) (e2 : X.prog = P := by rfl) (e3 : X.w = w := by rfl) : CallR X (.type "set") (rSetTt K P w) := by
  subst e1; subst e2; subst e3
  exact cr_setTt hc
theorem g_orSs (P : Program) (w : World) (e2 : X.prog = P := by rfl) (e3 : X.w = w := by rfl) : OpR X (binaryOp .BitOr) (rOrSs P w) := by
  subst e2; subst e3
  exact op_orSs
theorem g_sortSs (P : Program) (w : World) (hc : X.calm = true) (e2 : X.prog = P := by rfl) (e3 : X.w = w := by rfl) : CallR X (.builtin "sorted") (rSortTx P w) := by
  subst e2; subst e3
  exact cr_sortTx hc
end
/-- Book.__or__ -/
def spOrB (C : Addr) : Sp := fun vs H Q _ => ∃ (a b : Addr) (k1 k2 : List (Key × V)) (U : List Str) (SG : List Nat) (c0 : Nat), vs = [.ref a, .ref b] ∧ Book1 C H a k1 ∧ Book1 C H b k2 ∧ Fit U SG c0 (tfD k1) ∧ Fit U SG c0 (tfD k2) ∧ U.length ≤ 12 ∧ SG.length ≤ 4 ∧ (∀ c ∈ SG, lett c = true) ∧
  ∀ p k3 H', Book1 C H' p k3 → tfD k3 = orT (tfD k1) (tfD k2) → Same H H' → Q (.ref p) H'
/-- Book.__and__ -/
def spAndB (C : Addr) : Sp := fun vs H Q _ => ∃ (a b : Addr) (k1 k2 : List (Key × V)) (U : List Str) (SG : List Nat) (c0 : Nat), vs = [.ref a, .ref b] ∧ Book1 C H a k1 ∧ Book1 C H b k2 ∧ Fit U SG c0 (tfD k1) ∧ Fit U SG c0 (tfD k2) ∧ U.length ≤ 12 ∧ SG.length ≤ 4 ∧ (∀ c ∈ SG, lett c = true) ∧
  ∀ p k3 H', Book1 C H' p k3 → tfD k3 = andT (tfD k1) (tfD k2) → Same H H' → Q (.ref p) H'
/-- Book.__eq__, of any two books -/
def spEqG (C : Addr) : Sp := fun vs H Q _ => ∃ a b k1 k2, vs = [.ref a, .ref b] ∧ Book1 C H a k1 ∧ Book1 C H b k2 ∧ ∀ r, (r = true ↔ tfD k1 = tfD k2) → Q (.bl r) H
/-- Book.alphabet -/
def spAlphG (C : Addr) : Sp := fun vs H Q _ => ∃ b kvs, vs = [.ref b] ∧ Book1 C H b kvs ∧ ∀ t ys, ys.Perm (keyStrs kvs) → sortedS ys = true → H t = some (.tup ((sgn (psOf kvs ys)).map V.str)) → Q (.ref t) H
/-- a dict from texts to ints, as a result -/
def ResT (H H' : Hp) (p : Addr) (ks : List (Str × Int)) (F : Tf) : Prop := H' p = some (.dK (ks.map entS)) ∧ (ks.map (·.1)).Nodup ∧ ks.length ≤ 24 ∧ tfD (ks.map entS) = F
/-- _law_or -/
def spLOr : Sp := fun vs H Q _ => ∃ (a b : Addr) (k1 k2 : List (Key × V)), vs = [.ref a, .ref b] ∧ H a = some (.dK k1) ∧ H b = some (.dK k2) ∧ arePrices k1 = true ∧ (k1.map (·.1)).Nodup ∧ arePrices k2 = true ∧ (k2.map (·.1)).Nodup ∧
  ∀ p ks H', H p = none → ResT H H' p ks (orT (tfD k1) (tfD k2)) → Same H H' → Q (.ref p) H'
/-- _law_and -/
def spLAnd : Sp := fun vs H Q _ => ∃ (a b : Addr) (k1 k2 : List (Key × V)), vs = [.ref a, .ref b] ∧ H a = some (.dK k1) ∧ H b = some (.dK k2) ∧ arePrices k1 = true ∧ (k1.map (·.1)).Nodup ∧ arePrices k2 = true ∧ (k2.map (·.1)).Nodup ∧
  ∀ p ks H', H p = none → ResT H H' p ks (andT (tfD k1) (tfD k2)) → Same H H' → Q (.ref p) H'
/-- _law_has -/
def spHas (C : Addr) : Sp := fun vs H Q _ => ∃ (b d : Addr) (k : List (Key × V)) (ks : List (Str × Int)), vs = [.ref b, .ref d] ∧ Book1 C H b k ∧ H d = some (.dK (ks.map entS)) ∧ (ks.map (·.1)).Nodup ∧ tfD (ks.map entS) = tfD k ∧ ∀ H', Same H H' → Q (.bl true) H'
/-- _law_cheaper_right -/
def spCheaper (C : Addr) : Sp := fun vs H Q _ => ∃ (a b : Addr) (k1 k2 : List (Key × V)) (U : List Str) (SG : List Nat) (c0 : Nat), vs = [.ref a, .ref b] ∧ Book1 C H a k1 ∧ Book1 C H b k2 ∧ Fit U SG c0 (tfD k1) ∧ Fit U SG c0 (tfD k2) ∧ U.length ≤ 12 ∧ SG.length ≤ 4 ∧ (∀ c ∈ SG, lett c = true) ∧
  ∀ H', Same H H' → Q (.bl true) H'
/-- a drawn dict of the scene -/
def Drawn (H : Hp) (d : Addr) (k : List (Key × V)) (U : List Str) (SG : List Nat) (c0 : Nat) : Prop := H d = some (.dK k) ∧ arePrices k = true ∧ (k.map (·.1)).Nodup ∧ Fit U SG c0 (tfD k)
/-- _law_scene -/
def spScene : Sp := fun vs H Q _ => ∃ (l : Addr) (n : Nat), vs = [.ref l] ∧ Dice H l (n + 200) ∧ ∀ (p d1 d2 d3 : Addr) (k1 k2 k3 : List (Key × V)) (U : List Str) (SG : List Nat) (c0 : Nat) H', H p = none → p ≠ l → d1 ≠ l → d2 ≠ l → d3 ≠ l → H' p = some (.lst [.ref d1, .ref d2, .ref d3]) →
  Drawn H' d1 k1 U SG c0 → Drawn H' d2 k2 U SG c0 → Drawn H' d3 k3 U SG c0 → U.length ≤ 12 → SG.length ≤ 4 → (∀ c ∈ SG, lett c = true) → Kp l H H' → Dice H' l n → Q (.ref p) H'
/-! ### dicts from texts to ints -/
def TxI (kv : List (Key × V)) : Prop := ∀ e ∈ kv, ∃ z p, e = (Sum.inr z, V.int p)
theorem val_ti {kv : List (Key × V)} (t : TxI kv) (z : Str) : valV kv (Sum.inr z) = (tfD kv z).map V.int := by
  cases e : valV kv (Sum.inr z : Key) with
  | none =>
    unfold tfD
    rw [e]
    rfl
  | some v =>
    obtain ⟨y, p, h⟩ := t _ (valV_mem e)
    cases h
    rw [tf_some.mpr e]
    rfl
theorem ent_of : ∀ {kv : List (Key × V)}, TxI kv → ∃ ks : List (Str × Int), kv = ks.map entS
  | [], _ => ⟨[], rfl⟩
  | e :: r, h => by
    obtain ⟨z, p, rfl⟩ := h e List.mem_cons_self
    obtain ⟨ks, rfl⟩ := ent_of (kv := r) fun x hx => h x (List.mem_cons_of_mem _ hx)
    exact ⟨(z, p) :: ks, rfl⟩
theorem ent_nd {ks : List (Str × Int)} (h : ((ks.map entS).map (·.1)).Nodup) : (ks.map (·.1)).Nodup := by
  rw [List.map_map] at h
  refine nd_of_map (f := fun z : Str => (Sum.inr z : Key)) ?_
  rw [List.map_map]
  exact h
theorem ent_nd' {ks : List (Str × Int)} (h : (ks.map (·.1)).Nodup) : ((ks.map entS).map (·.1)).Nodup := by
  rw [List.map_map]
  have := nd_map (f := fun z : Str => (Sum.inr z : Key)) (fun _ _ h => Sum.inr.inj h) h
  rw [List.map_map] at this
  exact this
theorem txi_of {kvs : List (Key × V)} (t : Tar kvs) : TxI kvs := fun e he => by
  obtain ⟨z, p, h, _⟩ := t.mem e he
  exact ⟨z, p, h⟩
theorem put_nd {kvs : List (Key × V)} {k : Key} {v : V} (nd : (kvs.map (·.1)).Nodup) : ((putK kvs k v).map (·.1)).Nodup := by
  rw [put_keys]
  split
  · exact nd
  · rename_i h
    refine List.nodup_append.mpr ⟨nd, by simp, fun a ha b hb => ?_⟩
    rw [List.mem_singleton] at hb
    subst hb
    intro e
    subst e
    obtain ⟨kv, hkv, e⟩ := List.mem_map.mp ha
    have h2 := val_nodup nd kv hkv
    rw [e] at h2
    rw [h2] at h
    exact h rfl
theorem tf_none_of {kvs : List (Key × V)} {z : Str} (h : ∀ q, (Sum.inr z, V.int q) ∉ kvs) : tfD kvs z = none := by
  cases e : tfD kvs z with
  | none => rfl
  | some q => exact absurd (valV_mem (tf_some.mp e)) (h q)
theorem orO_none {a : Option Int} : orO a none = a := by cases a <;> rfl
/-- pairs of one tariff are the same pairs -/
theorem pairs_perm {xs ys : List (Str × Int)} (n1 : (xs.map (·.1)).Nodup) (n2 : (ys.map (·.1)).Nodup) (h : tfD (xs.map entS) = tfD (ys.map entS)) : xs.Perm ys := by
  have mem : ∀ {xs : List (Str × Int)}, (xs.map (·.1)).Nodup → ∀ e : Str × Int, e ∈ xs ↔ tfD (xs.map entS) e.1 = some e.2 := fun {xs} n e => by
    constructor
    · intro he
      exact tf_some.mpr (val_nodup (ent_nd' n) _ (List.mem_map.mpr ⟨e, he, rfl⟩))
    · intro he
      obtain ⟨x, hx, e2⟩ := List.mem_map.mp (valV_mem (tf_some.mp he))
      have e3 : x.1 = e.1 := Sum.inr.inj (Prod.mk.inj e2).1
      have e4 : x.2 = e.2 := V.int.inj (Prod.mk.inj e2).2
      have : x = e := Prod.ext e3 e4
      rwa [this] at hx
  refine (List.perm_ext_iff_of_nodup (nd_of_map n1) (nd_of_map n2)).mpr fun e => ?_
  rw [mem n1, mem n2, h]
theorem paired_imp5 {α β : Type} {F F' : α → β → Prop} (h : ∀ a b, F a b → F' a b) : ∀ {xs : List α} {ys : List β}, Paired F xs ys → Paired F' xs ys
  | _, _, .nil => .nil
  | _, _, .cons h1 h2 => .cons (h _ _ h1) (paired_imp5 h h2)
theorem lett_bd5 {c : Nat} (h : lett c = true) : c < 16 ^ 8 := by
  have h2 : (decide (97 ≤ c) && decide (c ≤ 122)) = true := h
  rw [Bool.and_eq_true] at h2
  have := of_decide_eq_true h2.2
  omega
/-- the head of a row of words, or none -/
def hdV : List Str → V | [] => .non | z :: _ => .str z
def hdD : List Str → PyData | [] => .none | z :: _ => .str z
theorem shw_dpairs5 {ks : List (Str × Int)} (hl : ks.length ≤ 12) (h : ∀ e ∈ ks, e.1.length ≤ 5 ∧ (∀ c ∈ cs e.1, lett c = true) ∧ 0 ≤ e.2 ∧ e.2 ≤ 99) : Shw (dPairs ks) 2 50000 := by
  have S : Shw (dPairs ks) 2 _ := shw_list (k := 1) (n := 3850) fun f hf => by
    obtain ⟨e, he, rfl⟩ := List.mem_map.mp hf
    obtain ⟨h1, h2, h3, h4⟩ := h e he
    have T := shw_tuple (ds := [PyData.str e.1, .int e.2]) (k := 0) (n := 1921) fun g hg => by
      simp only [List.mem_cons, List.not_mem_nil, or_false] at hg
      rcases hg with rfl | rfl
      · exact (shw_word h1 fun c hc => lett_bd5 (h2 c hc)).le (Nat.le_refl _) (by omega)
      · refine shw_int ?_
        have : e.2.natAbs.log2 ≤ e.2.natAbs := Nat.log2_le_self _
        omega
    exact T.le (Nat.le_refl _) (by show 2 * 1923 + 4 ≤ 3850; omega)
  refine S.le (Nat.le_refl _) ?_
  rw [List.length_map]
  have : ks.length * (3850 + 2) ≤ 12 * 3852 := Nat.mul_le_mul hl (Nat.le_refl _)
  omega
theorem repr_pairsL5 {K : PySem.W.Frag} {H : Hp} {a : Addr} {vs : List V} {ks : List (Str × Int)} {Q : VK} (h : H a = some (.lst vs)) (dp : DpAll K H vs (ks.map fun e => PyData.tuple [.str e.1, .int e.2])) (hl : ks.length ≤ 12)
    (hk : ∀ e ∈ ks, e.1.length ≤ 5 ∧ (∀ c ∈ cs e.1, lett c = true) ∧ 0 ≤ e.2 ∧ e.2 ≤ 99) (q : Q (.str (dPairs ks).shown) H) : rRepr K [.ref a] H Q := by
  have S := shw_dpairs5 hl hk
  exact ⟨_, _, rfl, .lst (SqL.of h) dp, S.s, S.h, Nat.le_trans S.dp (by omega), Nat.le_trans S.len (fits_sz (by omega)), q⟩
theorem dpAll_pairs5 {K : PySem.W.Frag} {H : Hp} : ∀ {ts : List Addr} {xs : List (Str × Int)}, Paired (fun (t : Addr) (e : Str × Int) => H t = some (.tup [.str e.1, .int e.2])) ts xs → DpAll K H (ts.map V.ref) (xs.map fun e => PyData.tuple [.str e.1, .int e.2])
  | _, _, .nil => .nil
  | _, _, .cons h r => .cons (.tup (SqT.of h) (.cons (.str _) (.cons (.int _) .nil))) (dpAll_pairs5 r)
theorem paired_map5 {α β γ : Type} {F : α → γ → Prop} {f : β → γ} : ∀ {xs : List α} {ys : List β}, Paired F xs (ys.map f) → Paired (fun a b => F a (f b)) xs ys
  | [], [], _ => .nil
  | _ :: _, [], h => by cases h
  | [], _ :: _, h => by cases h
  | _ :: _, _ :: _, .cons h r => .cons h (paired_map5 r)
theorem paired_snoc5 {α β : Type} {F : α → β → Prop} {x : α} {y : β} : ∀ {xs : List α} {ys : List β}, Paired F xs ys → F x y → Paired F (xs ++ [x]) (ys ++ [y])
  | _, _, .nil, h => .cons h .nil
  | _, _, .cons h1 r, h => .cons h1 (paired_snoc5 r h)
theorem paired_map5' {α β γ : Type} {F : α → γ → Prop} {f : β → γ} : ∀ {xs : List α} {ys : List β}, Paired (fun a b => F a (f b)) xs ys → Paired F xs (ys.map f)
  | _, _, .nil => .nil
  | _, _, .cons h r => .cons h (paired_map5' r)
def WordOk5 (sg : List Nat) (w : Str) : Prop := (1 ≤ (cs w).length ∧ (cs w).length ≤ 5) ∧ ∀ c ∈ cs w, c ∈ sg
theorem inV_ch5 {c : Nat} {sg : List Nat} : inV (V.str { cps := #[c] }) (sg.map chV) = decide (c ∈ sg) := by
  have inj : ∀ {a b : Nat}, ch a = ch b → a = b := fun {a b} h => by
    have h2 := congrArg cs h
    simpa [cs] using h2
  rw [chs_strs]
  refine Eq.trans (inV_str (z := ch c)) (decide_eq_decide.mpr ⟨fun h => ?_, fun h => List.mem_map.mpr ⟨c, h, rfl⟩⟩)
  obtain ⟨d, hd, e⟩ := List.mem_map.mp h
  rw [← inj e]
  exact hd
theorem fm_filter5 {α β : Type} (q : α → Bool) (f : α → β) : ∀ l : List α, (l.filterMap fun a => if q a = true then some (f a) else none) = (l.filter q).map f
  | [] => rfl
  | a :: r => by
    by_cases h : q a = true
    · rw [List.filterMap_cons_some (b := f a) (by rw [if_pos h]), List.filter_cons_of_pos h, List.map_cons, fm_filter5 q f r]
    · rw [List.filterMap_cons_none (by rw [if_neg h]), List.filter_cons_of_neg h, fm_filter5 q f r]
theorem merge_key5 {k : Key} : ∀ {more kvs : List (Key × V)} {v : V}, valV (mergeK kvs more) k = some v → (∃ v', (k, v') ∈ more) ∨ ∃ v', valV kvs k = some v'
  | [], kvs, v, h => .inr ⟨v, h⟩
  | a :: r, kvs, v, h => by
    rcases merge_key5 (more := r) (kvs := putK kvs a.1 a.2) h with ⟨v', h'⟩ | ⟨v', h'⟩
    · exact .inl ⟨v', List.mem_cons_of_mem _ h'⟩
    · rw [valV_put] at h'
      split at h'
      · rename_i e
        exact .inl ⟨a.2, by rw [e]; exact List.mem_cons_self⟩
      · exact .inr ⟨v', h'⟩
theorem eqvA_strs5 : ∀ zs ws : List Str, PyData.eqvAll (zs.map PyData.str) (ws.map PyData.str) = decide (zs = ws)
  | [], [] => by simp [PyData.eqvAll]
  | [], _ :: _ => by simp [PyData.eqvAll]
  | _ :: _, [] => by simp [PyData.eqvAll]
  | a :: r, b :: t => by
    rw [List.map_cons, List.map_cons, eqv_all_cons', eqvA_strs5 r t]
    by_cases h : a = b
    · subst h
      simp [PyData.eqv]
    · simp [PyData.eqv, h]
where eqv_all_cons' {x y : PyData} {xs ys : List PyData} : PyData.eqvAll (x :: xs) (y :: ys) = (PyData.eqv x y && PyData.eqvAll xs ys) := by rw [PyData.eqvAll]
theorem eqvT_strs5 (zs ws : List Str) : PyData.eqv (.tuple (zs.map PyData.str)) (.tuple (ws.map PyData.str)) = decide (zs = ws) := by
  rw [← eqvA_strs5]
  simp [PyData.eqv]
theorem rEqD_same5 {K : PySem.W.Frag} {H : Hp} {x y : V} {d : PyData} {Q : VK} (hx : Dp K H x d) (hy : Dp K H y d) (s : SeqAt.shaped d = true) (q : Q (.bl true) H) : rEqD K x y H Q := by
  refine ⟨d, d, hx, hy, s, s, ?_⟩
  rw [SeqAt.eqv_refl _ (SeqAt.canLay_of_shaped s)]
  exact q
theorem rNeD_same5 {K : PySem.W.Frag} {H : Hp} {x y : V} {d : PyData} {Q : VK} (hx : Dp K H x d) (hy : Dp K H y d) (s : SeqAt.shaped d = true) (q : Q (.bl false) H) : rNeD K x y H Q := by
  refine ⟨d, d, hx, hy, s, s, ?_⟩
  rw [SeqAt.eqv_refl _ (SeqAt.canLay_of_shaped s)]
  exact q
theorem sgn_in {kvs : List (Key × V)} {ys : List Str} (av : arePrices kvs = true) (pm : ys.Perm (keyStrs kvs)) (c : Nat) : ch c ∈ sgn (psOf kvs ys) ↔ ∃ p, tfD kvs (ch c) = some p := by
  rw [sgn_ps, List.mem_filter, pm.mem_iff, tf_key (ap_parts av).2.1]
  exact ⟨fun h => h.1, fun h => ⟨h, decide_eq_true rfl⟩⟩
theorem sgn_lett {kvs : List (Key × V)} {ys : List Str} (av : arePrices kvs = true) (pm : ys.Perm (keyStrs kvs)) : ∀ z ∈ sgn (psOf kvs ys), ∀ c ∈ cs z, lett c = true := fun z hz => by
  rw [sgn_ps] at hz
  exact (keyStrs_piece (ap_parts av).2.1 z (pm.mem_iff.mp (List.mem_filter.mp hz).1)).2.2
theorem no_or {F G : Tf} (g : Good (orT F G)) : NoDear (orT F G) F := fun z p h => by
  obtain ⟨q, hq, le⟩ := orO_is (b := G z) (Or.inl h)
  have := lp_piece g (show orT F G z = some q from hq)
  omega
theorem no_and {F G : Tf} (g : Good F) : NoDear F (andT F G) := fun z p h => by
  obtain ⟨q, r, h1, h2, _, h3, _⟩ := andO_some h
  have := lp_piece g h1
  omega
theorem same_or {F G : Tf} (h : SameSigns F G) : SameSigns (orT F G) F := fun c => by
  constructor
  · rintro ⟨p, hp⟩
    exact (orO_some hp).elim (fun q => ⟨p, q⟩) fun q => (h c).mpr ⟨p, q⟩
  · rintro ⟨p, hp⟩
    obtain ⟨q, hq, _⟩ := orO_is (b := G (ch c)) (Or.inl hp)
    exact ⟨q, hq⟩
theorem same_and {F G : Tf} (h : SameSigns F G) : SameSigns F (andT F G) := fun c => by
  constructor
  · rintro ⟨p, hp⟩
    obtain ⟨q, hq⟩ := (h c).mp ⟨p, hp⟩
    obtain ⟨u, hu, _⟩ := andO_is hp hq
    exact ⟨u, hu⟩
  · rintro ⟨p, hp⟩
    obtain ⟨q, r, h1, _⟩ := andO_some hp
    exact ⟨q, h1⟩
theorem shaped_t4 : SeqAt.shaped (.list [.bool true, .bool true, .bool true, .bool true]) = true := by decide +kernel
theorem shaped_t11 : SeqAt.shaped (.list [.bool true, .bool true, .bool true, .bool true, .bool true, .bool true, .bool true, .bool true, .bool true, .bool true, .bool true]) = true := by decide +kernel
/-! ### books by their tariffs -/
structure EnvF (U : List Str) (SG : List Nat) : Prop where
  u : U.length ≤ 12
  s : SG.length ≤ 4
  l : ∀ c ∈ SG, lett c = true
structure BkF (C : Addr) (U : List Str) (SG : List Nat) (c0 : Nat) (H : Hp) (b : Addr) (F : Tf) : Prop where
  ex : ∃ kvs, Book1 C H b kvs ∧ tfD kvs = F
  fit : Fit U SG c0 F
section
variable {C a b : Addr} {U : List Str} {SG : List Nat} {c0 : Nat} {H : Hp} {F G : Tf} {Q : VK}
theorem BkF.same {H' : Hp} (x : BkF C U SG c0 H a F) (s : Same H H') : BkF C U SG c0 H' a F := by
  obtain ⟨⟨kvs, B, e⟩, f⟩ := x
  exact ⟨⟨kvs, B.same s, e⟩, f⟩
theorem or_go (E : EnvF U SG) (x : BkF C U SG c0 H a F) (y : BkF C U SG c0 H b G) (q : ∀ p H', BkF C U SG c0 H' p (orT F G) → Same H H' → Q (.ref p) H') : rOwnO C (spOrB C) (.ref a) (.ref b) H Q := by
  obtain ⟨⟨k1, B1, rfl⟩, f1⟩ := x
  obtain ⟨⟨k2, B2, rfl⟩, f2⟩ := y
  obtain ⟨_, _, _, dx1, _, _, _, _, _, _, A1⟩ := id B1.ex
  obtain ⟨_, _, _, dx2, _, _, _, _, _, _, A2⟩ := id B2.ex
  exact ⟨a, _, _, b, _, _, rfl, rfl, A1.ob, A2.ob, a, b, k1, k2, U, SG, c0, rfl, B1, B2, f1, f2, E.u, E.s, E.l, fun p k3 H' B3 t3 s => ⟨⟨p, rfl⟩, q p H' ⟨⟨k3, B3, t3⟩, f1.or f2⟩ s⟩⟩
theorem and_go (E : EnvF U SG) (x : BkF C U SG c0 H a F) (y : BkF C U SG c0 H b G) (q : ∀ p H', BkF C U SG c0 H' p (andT F G) → Same H H' → Q (.ref p) H') : rOwnO C (spAndB C) (.ref a) (.ref b) H Q := by
  obtain ⟨⟨k1, B1, rfl⟩, f1⟩ := x
  obtain ⟨⟨k2, B2, rfl⟩, f2⟩ := y
  obtain ⟨_, _, _, dx1, _, _, _, _, _, _, A1⟩ := id B1.ex
  obtain ⟨_, _, _, dx2, _, _, _, _, _, _, A2⟩ := id B2.ex
  exact ⟨a, _, _, b, _, _, rfl, rfl, A1.ob, A2.ob, a, b, k1, k2, U, SG, c0, rfl, B1, B2, f1, f2, E.u, E.s, E.l, fun p k3 H' B3 t3 s => ⟨⟨p, rfl⟩, q p H' ⟨⟨k3, B3, t3⟩, f1.and f2⟩ s⟩⟩
end
section
variable {C a b d : Addr} {U : List Str} {SG : List Nat} {c0 : Nat} {H : Hp} {F G : Tf} {Q : VK}
theorem eq_go (x : BkF C U SG c0 H a F) (y : BkF C U SG c0 H b G) (q : ∀ r, (r = true ↔ F = G) → Q (.bl r) H) : rEqO C (spEqG C) (.ref a) (.ref b) H Q := by
  obtain ⟨⟨k1, B1, rfl⟩, f1⟩ := x
  obtain ⟨⟨k2, B2, rfl⟩, f2⟩ := y
  obtain ⟨_, _, _, dx1, _, _, _, _, _, _, A1⟩ := id B1.ex
  obtain ⟨_, _, _, dx2, _, _, _, _, _, _, A2⟩ := id B2.ex
  exact ⟨a, _, _, b, _, _, rfl, rfl, A1.ob, A2.ob, a, b, k1, k2, rfl, B1, B2, fun r hr => ⟨r, rfl, q r hr⟩⟩
theorem eq_yes (x : BkF C U SG c0 H a F) (y : BkF C U SG c0 H b G) (e : F = G) (q : Q (.bl true) H) : rEqO C (spEqG C) (.ref a) (.ref b) H Q :=
  eq_go x y fun r hr => by
    rw [hr.mpr e]
    exact q
theorem has_go {ks : List (Str × Int)} {E : XK} (x : BkF C U SG c0 H b F) (hd : H d = some (.dK (ks.map entS))) (nd : (ks.map (·.1)).Nodup) (tf : tfD (ks.map entS) = F) (q : ∀ H', Same H H' → Q (.bl true) H') : spHas C ([.ref b, .ref d] ++ []) H Q E := by
  obtain ⟨⟨k, B, rfl⟩, f⟩ := x
  exact ⟨b, d, k, ks, rfl, B, hd, nd, tf, q⟩
theorem cheap_go {E : XK} (N : EnvF U SG) (x : BkF C U SG c0 H a F) (y : BkF C U SG c0 H b G) (q : ∀ H', Same H H' → Q (.bl true) H') : spCheaper C ([.ref a, .ref b] ++ []) H Q E := by
  obtain ⟨⟨k1, B1, rfl⟩, f1⟩ := x
  obtain ⟨⟨k2, B2, rfl⟩, f2⟩ := y
  exact ⟨a, b, k1, k2, U, SG, c0, rfl, B1, B2, f1, f2, N.u, N.s, N.l, q⟩
end
theorem BkF.updL {C a T : Addr} {U : List Str} {SG : List Nat} {c0 : Nat} {H : Hp} {F : Tf} {xs : List V} {o : HO} (x : BkF C U SG c0 H a F) (h : H T = some (.lst xs)) : BkF C U SG c0 (upd H T o) a F := by
  obtain ⟨⟨kvs, B, e⟩, f⟩ := x
  refine ⟨⟨kvs, B.keep fun c u e n => ?_, e⟩, f⟩
  have ncT : c ≠ T := fun q => by
    rw [q, h] at e
    exact n _ (Option.some.inj e).symm
  rw [upd_ne ncT]
  exact e
end G
namespace K05
open PySem PySem.Spec PyProof.Rows L2 G
open L2 (St)

def top (i : Nat) : Stmt := PySem.Challenge.pw_cutbehind_k05_whole_books_put_together.main.body.getD i (.Pass ⟨0, 0, 0, 0⟩)
abbrev s_is_integer : Stmt := top 3
abbrev s_is_word : Stmt := top 5
abbrev s_is_piece : Stmt := top 6
abbrev s_is_integer_within : Stmt := top 4
abbrev s_is_price : Stmt := top 17
abbrev s_are_prices : Stmt := top 18
abbrev s_Book___init__ : Stmt := inClass (top 24) 0
abbrev s_Book_prices : Stmt := inClass (top 24) 2
abbrev s_least_price : Stmt := top 26
abbrev s_require_book : Stmt := top 21
abbrev s_require_comparable : Stmt := top 27
abbrev s_dearer_in : Stmt := top 28
abbrev s_is_nowhere_dearer : Stmt := top 29
abbrev s_result_of : Stmt := top 23
abbrev s_require_other : Stmt := top 22
abbrev s_Book___or__ : Stmt := inClass (top 24) 14
abbrev s_Book___and__ : Stmt := inClass (top 24) 15
abbrev s_Book___eq__ : Stmt := inClass (top 24) 17
abbrev s__law_dice : Stmt := top 31
abbrev s__law_roll : Stmt := top 32
abbrev s__law_pick : Stmt := top 33
abbrev s__law_some : Stmt := top 34
abbrev s_Book_alphabet : Stmt := inClass (top 24) 4
abbrev s__law_or : Stmt := top 36
abbrev s__law_and : Stmt := top 37
abbrev s__law_has : Stmt := top 38
abbrev s__law_scene : Stmt := top 35
abbrev s__law_cheaper_right : Stmt := top 39
abbrev s__law_right : Stmt := top 40
abbrev s_law : Stmt := top 41
structure Txt (K : PySem.W.Frag) (mg : Str → Option Value) (C : Addr) : Prop where
  cl : Cls K C
  ic : C8.InsC K C
  n_own_prices : NoAttr K C "own_prices"
  n_own_pieces : NoAttr K C "own_pieces"
  n_own_alphabet : NoAttr K C "own_alphabet"
  n_own_longest : NoAttr K C "own_longest"
  n_own_dearest : NoAttr K C "own_dearest"
  gC : mg "Book" = some (.ref C)
  sf : PySem.W.selfFirst K C = true
  b_abs : mg "abs" = none
  b_all : mg "all" = none
  b_bool : mg "bool" = none
  b_dict : mg "dict" = none
  b_int : mg "int" = none
  b_isinstance : mg "isinstance" = none
  b_len : mg "len" = none
  b_list : mg "list" = none
  b_max : mg "max" = none
  b_min : mg "min" = none
  b_range : mg "range" = none
  b_repr : mg "repr" = none
  b_set : mg "set" = none
  b_sorted : mg "sorted" = none
  b_str : mg "str" = none
  b_tuple : mg "tuple" = none
  g_MAX_ALPHABET : ∃ t, mg "MAX_ALPHABET" = some (.int 4 t)
  g_MAX_PIECES : ∃ t, mg "MAX_PIECES" = some (.int 12 t)
  g_MAX_PRICE : ∃ t, mg "MAX_PRICE" = some (.int 99 t)
  g_PIECE_SIGNS : ∃ t, mg "PIECE_SIGNS" = some (.int 5 t)

section
variable {P : Program} {w : World} {K : PySem.W.Frag} {mg : Str → Option Value} {base : Heap} {C : Addr}
theorem sc_is_integer : FnScope ["value"] ["value"] (defScope s_is_integer) := ⟨rfl, rfl, rfl, by decide +kernel, rfl, by decide +kernel, by decide +kernel⟩
theorem ok_is_integer {f : Addr} {fd : FuncData} (F : Fun K "is_integer" "is_integer" s_is_integer f fd) (T : Txt K mg C) : FnOk P w K mg base CX0 1 f fd ["value"] (spIsI K isInteger) := by
  refine F.ok sc_is_integer (fun vs H Q E h => ?_) (fun cdv A outer s H vs Q E hr h => ?_)
  · obtain ⟨x, rfl, _⟩ := h
    rfl
  · have hu := hu_of hr
    obtain ⟨x, rfl, ty, k⟩ := h
    obtain ⟨t, ht, hs, hi, hb⟩ := id ty
    have k0 := k H (Same.refl H)
    refine ⟨_, (pss_cons (ps_if (PW.pt (pw_or (pt_val (pe_callB (g_isi K) (by rfl) T.b_isinstance (by decide +kernel) (pa_cons (pv 0) (pa_cons (pe_bltn (v := .ty "bool") rfl T.b_bool (by decide +kernel) rfl) pa_nil)))) (pw_or1 (pt_not (pt_val (pe_callB (g_isi K) (by rfl) T.b_isinstance (by decide +kernel) (pa_cons (pv 0) (pa_cons (pe_bltn (v := .ty "int") rfl T.b_int (by decide +kernel) rfl) pa_nil)))))))) (pss_one (ps_ret pe_bl)) pss_nil)
      (pss_one (ps_ret (pe_cmpR op_lt (pe_callB call_abs (by rfl) T.b_abs (by decide +kernel) (pa_cons (pv 0) pa_nil)) (pe_op op_powW pe_int pe_int) (nomark _))))), ?_⟩
    cases x with
    | bl b =>
      refine ⟨_, rfl, _, _, _, _, _, rfl, .ty _, ht, hb, _, rfl, ?_⟩
      exact k0
    | int i =>
      refine ⟨_, rfl, _, _, _, _, _, rfl, .ty _, ht, hb, _, rfl, ?_⟩
      refine ⟨_, rfl, _, _, _, _, _, rfl, .ty _, ht, hi, _, rfl, ?_⟩
      refine ⟨_, rfl, _, rfl, _, _, rfl, rfl, ⟨by decide, by decide +kernel⟩, _, _, rfl, rfl, ?_⟩
      have e : decide ((if i < 0 then -i else i) < (10 : Int) ^ (60 : Int).toNat) = isInteger (.int i) := abs_lt i
      rw [← e] at k0
      exact k0
    | _ =>
      refine ⟨_, rfl, _, _, _, _, _, rfl, .ty _, ht, hb, _, rfl, ?_⟩
      refine ⟨_, rfl, _, _, _, _, _, rfl, .ty _, ht, hi, _, rfl, ?_⟩
      exact k0
theorem sc_is_word : FnScope ["value", "letter"] ["value"] (defScope s_is_word) := ⟨rfl, rfl, rfl, by decide +kernel, rfl, by decide +kernel, by decide +kernel⟩
theorem ok_is_word {f : Addr} {fd : FuncData} (F : Fun K "is_word" "is_word" s_is_word f fd) (T : Txt K mg C) : FnOk P w K mg base CX0 1 f fd ["value"] (spIs K isWord) := by
  refine F.ok sc_is_word (fun vs H Q E h => ?_) (fun cdv A outer s H vs Q E hr h => ?_)
  · obtain ⟨x, rfl, _⟩ := h
    rfl
  · have hu := hu_of hr
    obtain ⟨x, rfl, ty, sz, k⟩ := h
    obtain ⟨t, ht, hs, hi, hb⟩ := id ty
    have k0 := k H (Same.refl H)
    refine ⟨_, (pss_one (ps_ret (pe_and (pe_callB (g_isi K) (by rfl) T.b_isinstance (by decide +kernel) (pa_cons (pv 0) (pa_cons (pe_bltn (v := .ty "str") rfl T.b_str (by decide +kernel) rfl) pa_nil))) (pe_and (pe_cmpR op_ne (pv 0) pe_str (nomark _)) (pe_one (pe_callB (g_all K rfl) (by rfl) T.b_all (by decide +kernel) (pa_cons (pe_lc (own := [("letter", 1)]) rfl sc_is_word.nd (pi_str (pv 0)) (blkOk_by (own := [("letter", 1)]) (N := ["value", "letter"]) (sc := defScope s_is_word) (by decide +kernel)) (fun _ _ _ _ _ => (pg_name (i := 1) sc_is_word.nd rfl (Or.inl rfl))) (fun _ _ _ _ _ => pts_nil) (fun _ _ _ _ _ => (pe_chain op_le_str op_le_str pe_str (pv 1) pe_str))) pa_nil))))))), ?_⟩
    cases x with
    | str z =>
      have sz' : z.length ≤ sizeLine := fits_sz sz
      refine ⟨_, rfl, _, _, _, _, _, rfl, .ty _, ht, hs, _, rfl, ?_⟩
      refine ⟨_, rfl, rfl, _, rfl, ?_⟩
      rw [v_str_ne]
      refine itB (fun e1 => ?_) (fun e1 => ?_)
      · refine ⟨_, rfl, _, rfl, fun D hD => ?_⟩
        refine lcp_str (fun c => .bl (lett c)) sz' (fun c acc N hc hN => ?_) ?_
        · refine ⟨_, rfl, _, _, rfl, rfl, _, rfl, ?_⟩
          show if (!decide (([c] : List Nat) < [97])) = true then _ else _
          rw [(lett_eq c).1]
          refine itB (fun e2 => ?_) (fun e2 => ?_)
          · refine ⟨_, _, rfl, rfl, ?_⟩
            show N (.bl (!decide (([122] : List Nat) < [c]))) _
            rw [(lett_eq c).2, ← lett_of e2]
            exact hN
          · rw [lett_no e2] at hN
            exact hN
        · refine ⟨_, (cs z).map lett, rfl, SqL.of (by rw [upd_same, List.map_map]; rfl), ?_⟩
          have e4 : ((cs z).map lett).all id = isWord (.str z) := by
            show _ = (!(cs z).isEmpty && (cs z).all lett)
            rw [e1, List.all_map]
            rfl
          rw [e4]
          exact k _ (same_new hD)
      · have e4 : isWord (.str z) = false := by
          show (!(cs z).isEmpty && (cs z).all lett) = false
          rw [e1]
          rfl
        rw [e4] at k0
        exact k0
    | _ =>
      refine ⟨_, rfl, _, _, _, _, _, rfl, .ty _, ht, hs, _, rfl, ?_⟩
      exact k0
theorem sc_is_piece : FnScope ["value"] ["value"] (defScope s_is_piece) := ⟨rfl, rfl, rfl, by decide +kernel, rfl, by decide +kernel, by decide +kernel⟩
theorem ok_is_piece {f : Addr} {fd : FuncData} (F : Fun K "is_piece" "is_piece" s_is_piece f fd) (T : Txt K mg C) (c_is_word : HasO P w K mg base CX0 1 "is_word" ["value"] (spIs K isWord)) : FnOk P w K mg base CX0 2 f fd ["value"] (spIs K isPiece) := by
  refine F.ok sc_is_piece (fun vs H Q E h => ?_) (fun cdv A outer s H vs Q E hr h => ?_)
  · obtain ⟨x, rfl, _⟩ := h
    rfl
  · have hu := hu_of hr
    obtain ⟨x, rfl, ty, sz, k⟩ := h
    obtain ⟨t, ht, hs, hi, hb⟩ := id ty
    have k0 := k H (Same.refl H)
    refine ⟨_, (pss_one (ps_ret (pe_and (pe_callB (g_isi K) (by rfl) T.b_isinstance (by decide +kernel) (pa_cons (pv 0) (pa_cons (pe_bltn (v := .ty "str") rfl T.b_str (by decide +kernel) rfl) pa_nil))) (pe_and (pe_chain op_le op_le pe_int (pe_callB call_len_str (by rfl) T.b_len (by decide +kernel) (pa_cons (pv 0) pa_nil)) (pe_glob (v := .int 5) rfl T.g_PIECE_SIGNS.choose_spec ⟨_, rfl⟩)) (pe_one (pe_hasO c_is_word (hr.mono (by decide)) pass0 (pa_cons (pv 0) pa_nil))))))), ?_⟩
    cases x with
    | str z =>
      have sz' : z.length ≤ sizeLine := fits_sz sz
      refine ⟨_, rfl, _, _, _, _, _, rfl, .ty _, ht, hs, _, rfl, ?_⟩
      refine ⟨_, rfl, _, rfl, sz', _, _, rfl, rfl, _, rfl, ?_⟩
      refine itB (fun e1 => ?_) (fun e1 => ?_)
      · have e1' := of_decide_eq_true e1
        refine ⟨_, _, rfl, rfl, _, rfl, ?_⟩
        refine itB (fun e2 => ?_) (fun e2 => ?_)
        · have e2' := of_decide_eq_true e2
          refine ⟨_, rfl, _, rfl, ty, sz, fun H' s' => ?_⟩
          have e5 : isWord (.str z) = isPiece (.str z) := by
            show (!(cs z).isEmpty && (cs z).all lett) = (decide (1 ≤ (cs z).length) && decide ((cs z).length ≤ 5) && (cs z).all lett)
            rw [cs_len, decide_eq_true (by omega), decide_eq_true (by omega)]
            have : (cs z).isEmpty = false := by
              cases hz : cs z with
              | nil =>
                have := cs_len z
                rw [hz] at this
                simp at this
                omega
              | cons a l => rfl
            rw [this]
            rfl
          rw [e5]
          exact k _ s'
        · have e2' := of_decide_eq_false e2
          have e4 : isPiece (.str z) = false := by
            show (decide (1 ≤ (cs z).length) && decide ((cs z).length ≤ 5) && (cs z).all lett) = false
            rw [cs_len, decide_eq_false (by omega : ¬ z.length ≤ 5), Bool.and_false]
            rfl
          rw [e4] at k0
          exact k0
      · have e1' := of_decide_eq_false e1
        have e4 : isPiece (.str z) = false := by
          show (decide (1 ≤ (cs z).length) && decide ((cs z).length ≤ 5) && (cs z).all lett) = false
          rw [cs_len, decide_eq_false (by omega : ¬ 1 ≤ z.length)]
          rfl
        rw [e4] at k0
        exact ⟨_, rfl, k0⟩
    | _ =>
      refine ⟨_, rfl, _, _, _, _, _, rfl, .ty _, ht, hs, _, rfl, ?_⟩
      exact k0
theorem sc_is_integer_within : FnScope ["value", "least", "most"] ["value", "least", "most"] (defScope s_is_integer_within) := ⟨rfl, rfl, rfl, by decide +kernel, rfl, by decide +kernel, by decide +kernel⟩
theorem ok_is_integer_within {f : Addr} {fd : FuncData} (F : Fun K "is_integer_within" "is_integer_within" s_is_integer_within f fd) (T : Txt K mg C) (c_is_integer : HasO P w K mg base CX0 1 "is_integer" ["value"] (spIsI K isInteger)) : FnOk P w K mg base CX0 2 f fd ["value", "least", "most"] (spWithin K) := by
  refine F.ok sc_is_integer_within (fun vs H Q E h => ?_) (fun cdv A outer s H vs Q E hr h => ?_)
  · obtain ⟨x, a, b, rfl, _⟩ := h
    rfl
  · have hu := hu_of hr
    obtain ⟨x, a, b, rfl, ty, k⟩ := h
    refine ⟨_, (pss_one (ps_ret (pe_and (pe_hasO c_is_integer (hr.mono (by decide)) pass0 (pa_cons (pv 0) pa_nil)) (pe_one (pe_chain op_le op_le (pv 1) (pv 0) (pv 2)))))), ?_⟩
    refine ⟨_, rfl, _, rfl, ty, fun H1 s1 => ⟨_, rfl, ?_⟩⟩
    have k1 := k H1 s1
    cases x with
    | int i =>
      refine itB (fun e => ?_) (fun e => ?_)
      · have e' : decide (i.natAbs < 10 ^ 60) = true := e
        have e2 : inRange (.int i) a b = (decide (a ≤ i) && decide (i ≤ b)) := by
          show (decide (i.natAbs < 10 ^ 60) && (decide (a ≤ i) && decide (i ≤ b))) = _
          rw [e']
          rfl
        rw [e2] at k1
        exact chain_le (a := a) (b := i) (c := b) (fun N hN => ⟨_, rfl, hN⟩) (fun N hN => ⟨_, rfl, hN⟩) (fun N hN => ⟨_, rfl, hN⟩) k1
      · have e' : decide (i.natAbs < 10 ^ 60) = false := e
        have e2 : inRange (.int i) a b = false := by
          show (decide (i.natAbs < 10 ^ 60) && (decide (a ≤ i) && decide (i ≤ b))) = _
          rw [e']
          rfl
        rw [e2] at k1
        exact k1
    | _ => exact k1
theorem sc_is_price : FnScope ["value"] ["value"] (defScope s_is_price) := ⟨rfl, rfl, rfl, by decide +kernel, rfl, by decide +kernel, by decide +kernel⟩
theorem ok_is_price {f : Addr} {fd : FuncData} (F : Fun K "is_price" "is_price" s_is_price f fd) (T : Txt K mg C) (c_is_integer_within : HasO P w K mg base CX0 2 "is_integer_within" ["value", "least", "most"] (spWithin K)) : FnOk P w K mg base CX0 3 f fd ["value"] (spIsI K isPrice) := by
  refine F.ok sc_is_price (fun vs H Q E h => ?_) (fun cdv A outer s H vs Q E hr h => ?_)
  · obtain ⟨x, rfl, _⟩ := h
    rfl
  · have hu := hu_of hr
    obtain ⟨x, rfl, ty, k⟩ := h
    refine ⟨_, (pss_one (ps_ret (pe_hasO c_is_integer_within (hr.mono (by decide)) pass0 (pa_cons (pv 0) (pa_cons pe_int (pa_cons (pe_glob (v := .int 99) rfl T.g_MAX_PRICE.choose_spec ⟨_, rfl⟩) pa_nil)))))), ?_⟩
    exact ⟨_, rfl, x, 1, 99, rfl, ty, k⟩
theorem sc_are_prices : FnScope ["value", "piece", "sign", "price"] ["value"] (defScope s_are_prices) := ⟨rfl, rfl, rfl, by decide +kernel, rfl, by decide +kernel, by decide +kernel⟩
theorem ok_are_prices {f : Addr} {fd : FuncData} (F : Fun K "are_prices" "are_prices" s_are_prices f fd) (T : Txt K mg C) (c_is_piece : HasO P w K mg base CX0 2 "is_piece" ["value"] (spIs K isPiece)) (c_is_price : HasO P w K mg base CX0 3 "is_price" ["value"] (spIsI K isPrice)) : FnOk P w K mg base CX0 4 f fd ["value"] (spArePrices K) := by
  refine F.ok sc_are_prices (fun vs H Q E h => ?_) (fun cdv A outer s H vs Q E hr h => ?_)
  · obtain ⟨x, rfl, _⟩ := h
    rfl
  · have hu := hu_of hr
    obtain ⟨x, rfl, hx⟩ := h
    refine ⟨_, (pss_cons (ps_if (PW.pt (pw_or (pt_not (pt_val (pe_callB (g_isi K) (by rfl) T.b_isinstance (by decide +kernel) (pa_cons (pv 0) (pa_cons (pe_bltn (v := .ty "dict") rfl T.b_dict (by decide +kernel) rfl) pa_nil))))) (pw_or1 (pt_not (pt_chain op_le op_le pe_int (pe_callB call_lenF (by rfl) T.b_len (by decide +kernel) (pa_cons (pv 0) pa_nil)) (pe_glob (v := .int 12) rfl T.g_MAX_PIECES.choose_spec ⟨_, rfl⟩)))))) (pss_one (ps_ret pe_bl)) pss_nil)
      (pss_cons (ps_if (pt_not (pt_val (pe_callB (g_all K rfl) (by rfl) T.b_all (by decide +kernel) (pa_cons (pe_lock (by exact (pe_lc (own := [("piece", 1), ("price", 3)]) rfl sc_are_prices.nd (pi_items (pv 0)) (blkOk_by (own := [("piece", 1), ("price", 3)]) (N := ["value", "piece", "sign", "price"]) (sc := defScope s_are_prices) (by decide +kernel)) (fun _ _ _ _ _ => (g_tup K (n := 2) rfl (pgs_cons (pg_name (i := 1) sc_are_prices.nd rfl (Or.inl rfl)) (pgs_cons (pg_name (i := 3) sc_are_prices.nd rfl (Or.inl rfl)) pgs_nil)))) (fun _ _ _ _ _ => pts_nil) (fun _ _ _ _ _ => (pe_and (pe_hasO c_is_piece (hr.mono (by decide)) pass0 (pa_cons (pv 1) pa_nil)) (pe_one (pe_hasO c_is_price (hr.mono (by decide)) pass0 (pa_cons (pv 3) pa_nil)))))))) pa_nil)))) (pss_one (ps_ret pe_bl)) pss_nil)
      (pss_cons (ps_if (pt_cmpR op_gt (pe_callB (g_len_seq K) (by rfl) T.b_len (by decide +kernel) (pa_cons (pe_lock (by exact (pe_lc (own := [("piece", 1)]) rfl sc_are_prices.nd (pi_keys (pv 0)) (blkOk_by (own := [("piece", 1)]) (N := ["value", "piece", "sign", "price"]) (sc := defScope s_are_prices) (by decide +kernel)) (fun _ _ _ _ _ => (pg_name (i := 1) sc_are_prices.nd rfl (Or.inl rfl))) (fun _ _ _ _ _ => (pts_one (pt_cmpR op_eq (pe_callB call_len_str (by rfl) T.b_len (by decide +kernel) (pa_cons (pv 1) pa_nil)) pe_int (nomark _)))) (fun _ _ _ _ _ => (pv 1))))) pa_nil)) (pe_glob (v := .int 4) rfl T.g_MAX_ALPHABET.choose_spec ⟨_, rfl⟩) (nomark _)) (pss_one (ps_ret pe_bl)) pss_nil)
      (pss_one (ps_ret (pe_callB (g_all K rfl) (by rfl) T.b_all (by decide +kernel) (pa_cons (pe_lock (by exact (pe_lc2 (own := [("piece", 1), ("sign", 2)]) (vs1 := [2]) rfl sc_are_prices.nd (pi_keys (pv 0)) (blkOk_by (own := [("piece", 1), ("sign", 2)]) (N := ["value", "piece", "sign", "price"]) (sc := defScope s_are_prices) (by decide +kernel)) (by decide) (fun _ _ _ _ _ => (pg_name (i := 1) sc_are_prices.nd rfl (Or.inl rfl))) (fun _ _ _ _ _ => pts_nil) (fun _ _ _ _ _ => (pi_str (pv 1))) (fun _ _ _ _ _ => (pg_name (i := 2) sc_are_prices.nd rfl (Or.inl rfl))) (fun _ _ _ _ _ => pts_nil) (fun _ _ _ _ _ => (pe_cmp (pc_din hu (pv 2) (pv 0))))))) pa_nil))))))), ?_⟩
    rcases hx with ⟨t, ht, hdict, k⟩ | ⟨a, kvs, rfl, ha, hn, ok, k⟩
    · refine ⟨_, rfl, _, _, _, _, _, rfl, .ty _, ht, hdict, _, rfl, ?_⟩
      exact k H (Same.refl H)
    refine ⟨_, rfl, _, _, _, _, _, rfl, .ty _, .base (.dK ha), kit_ty (show kitB "dict" "dict" = some true by decide +kernel), _, rfl, ?_⟩
    refine ⟨_, rfl, _, _, rfl, .inl ha, _, _, rfl, rfl, _, rfl, ?_⟩
    have k0 := k H (Same.refl H)
    have fz : ∀ od, (upd H a (.frz od (.dK kvs))) a = some (.frz od (.dK kvs)) := fun od => upd_same
    unfold arePrices at k k0
    -- 1 <= len(value) <= MAX_PIECES
    cases e1 : decide (1 ≤ (kvs.length : Int)) with
    | false =>
      rw [e1] at k0
      exact ⟨_, rfl, k0⟩
    | true =>
    rw [e1] at k k0
    refine ⟨_, _, rfl, rfl, _, rfl, ?_⟩
    cases e2 : decide ((kvs.length : Int) ≤ 12) with
    | false =>
      rw [e2] at k0
      exact k0
    | true =>
    rw [e2] at k k0
    -- the pieces and the prices
    refine ⟨a, _, ha, trivial, fun od => ?_⟩
    refine ⟨_, rfl, a, od, kvs, rfl, upd_same, fun D hD => ?_⟩
    have nDa := lock_ne hD
    refine lcs kvs walk_kv (fun kv => some (.bl (isPiece (kV kv.1) && isPrice kv.2))) hD (by omega) (fun H' s => s _ _ (fz od)) ?_ ?_
    · rintro i kv x H2 H3 hi s ⟨T, k', v', e, rfl, hT, rfl⟩ N M hN hM
      have ekv : kv = (k', v') := Option.some.inj (hi.symm.trans e)
      subst ekv
      obtain ⟨sz, tyv⟩ := ok _ (List.mem_of_getElem? hi)
      have sH : ∀ {H'}, Same H2 H' → Same (upd H a (.frz od (.dK kvs))) H' := fun z => s.trans z
      refine ⟨T, _, rfl, SqT.of upd_same, rfl, _, _, rfl, _, _, rfl, rfl, rfl, ?_⟩
      have sT : Same H2 (upd H2 T (.tup [kV k', v'])) := same_new hT
      refine ⟨_, rfl, _, rfl, tyd_key _, sz, fun H4 s4 => ⟨_, rfl, ?_⟩⟩
      refine itB (fun p1 => ?_) (fun p1 => ?_)
      · refine ⟨_, rfl, _, rfl, tyv _ (((Sim.lock ha).then s).then (sT.trans s4)), fun H5 s5 => ?_⟩
        refine hN _ _ ?_ (sT.trans (s4.trans s5))
        show some (V.bl (isPiece (kV k') && isPrice v')) = _
        rw [p1]
        rfl
      · refine hN _ _ ?_ (sT.trans s4)
        show some (V.bl (isPiece (kV k') && isPrice v')) = _
        rw [p1]
        rfl
    rintro H2 s2 e2'
    have S2 : Same H (upd H2 a (.dK kvs)) := unlock ha s2
    refine ⟨s2 _ _ (fz od), _, kvs.map (fun kv => isPiece (kV kv.1) && isPrice kv.2), rfl, SqL.of (by rw [upd_ne nDa, e2', List.map_map, List.filterMap_eq_map']; rfl), _, rfl, ?_⟩
    have k2 := k _ S2
    have a2 : (upd H2 a (.dK kvs)) a = some (.dK kvs) := upd_same
    generalize upd H2 a (.dK kvs) = H3 at S2 k2 a2 ⊢
    have e3' : ((kvs.map fun kv => isPiece (kV kv.1) && isPrice kv.2).all id) = (kvs.all fun kv => isPiece (kV kv.1) && isPrice kv.2) := by
      rw [List.all_map]
      rfl
    rw [e3']
    clear e3' e2' s2 H2 hD nDa k0 fz od D
    cases e3 : (kvs.all fun kv => isPiece (kV kv.1) && isPrice kv.2) with
    | false =>
      rw [e3] at k2
      exact k2
    | true =>
    rw [e3] at k k2
    have hk := keys_of e3
    have hp := keyStrs_piece e3
    have ln : (keyStrs kvs).length = kvs.length := by
      have h := congrArg List.length hk
      rw [List.length_map, List.length_map] at h
      exact h.symm
    -- how many single signs
    refine ⟨a, _, a2, trivial, fun od => ?_⟩
    refine ⟨_, rfl, a, od, rfl, .inl ⟨kvs, upd_same, fun D hD => ?_⟩⟩
    have nDa := lock_ne hD
    refine lcs kvs walk_keys (fun kv => match kv.1 with | .inr z => if decide ((cs z).length = 1) = true then some (.str z) else none | .inl _ => none) hD (by omega) (fun H' s => s _ _ upd_same) ?_ ?_
    · rintro i kv x H4 H5 hi s ⟨rfl, k', v', e, rfl⟩ N M hN hM
      have ekv : kv = (k', v') := Option.some.inj (hi.symm.trans e)
      subst ekv
      obtain ⟨z, hz⟩ : ∃ z, k' = Sum.inr z := by
        have h1 := congrArg (fun l => l[i]?) hk
        simp only [List.getElem?_map, hi] at h1
        cases h2 : (keyStrs kvs)[i]? with
        | none => rw [h2] at h1; cases h1
        | some z => rw [h2] at h1; exact ⟨z, Option.some.inj h1⟩
      subst hz
      have zs := (ok _ (List.mem_of_getElem? hi)).1
      refine ⟨rfl, _, rfl, _, rfl, fits_sz zs, rfl, _, rfl, ?_⟩
      rw [v_len_eq1]
      refine itB (fun q1 => ?_) (fun q1 => ?_)
      · refine ⟨_, rfl, hN _ _ ?_ (Same.refl _)⟩
        show (if decide ((cs z).length = 1) = true then some (V.str z) else none) = _
        rw [if_pos q1]
        rfl
      · refine hM _ ?_ (Same.refl _)
        show (if decide ((cs z).length = 1) = true then some (V.str z) else none) = _
        rw [if_neg (by rw [q1]; exact Bool.false_ne_true)]
    rintro H4 s4 e4
    have e5 : (kvs.filterMap fun kv => match kv.1 with | .inr z => if decide ((cs z).length = 1) = true then some (V.str z) else none | .inl _ => none) = ((keyStrs kvs).filter fun z => decide ((cs z).length = 1)).map V.str := singles kvs
    rw [e5] at e4
    have S4 : Same H (upd H4 a (.dK kvs)) := S2.trans (unlock a2 s4)
    refine ⟨s4 _ _ upd_same, _, _, rfl, .inl (SqL.of (by rw [upd_ne nDa]; exact e4)), _, _, rfl, rfl, _, rfl, ?_⟩
    have k4 := k _ S4
    have a4 : (upd H4 a (.dK kvs)) a = some (.dK kvs) := upd_same
    generalize upd H4 a (.dK kvs) = H5 at S4 k4 a4 ⊢
    clear e4 e5 s4 H4 hD nDa od D S2 k2 a2 H3
    rw [List.length_map]
    cases e6 : decide (((keyStrs kvs).filter fun z => decide ((cs z).length = 1)).length ≤ 4) with
    | false =>
      rw [e6] at k4
      refine itT (decide_eq_true (by have := of_decide_eq_false e6; omega)) ?_
      exact k4
    | true =>
    rw [e6] at k k4
    refine itF (decide_eq_false (by have := of_decide_eq_true e6; omega)) ?_
    -- each sign of each piece
    have fl := flat_len (zs := keyStrs kvs) fun z hz => (hp z hz).2.1
    refine ⟨a, _, a4, trivial, fun od => ?_⟩
    refine ⟨_, rfl, a, od, rfl, .inl ⟨kvs, upd_same, fun D hD => ?_⟩⟩
    have nDa := lock_ne hD
    refine lc2_ks (zs := keyStrs kvs) hk (fun c => .bl (valV kvs (Sum.inr (ch c))).isSome) upd_same hD (by omega) (fun _ => rfl) (fun _ _ => rfl) (fun _ => rfl) ?_ ?_
    · intro z hz c hc H6 s6 N hN
      exact ⟨_, rfl, _, rfl, a, _, rfl, Or.inl ⟨kvs, Sum.inr (ch c), Or.inr ⟨od, s6 _ _ upd_same⟩, rfl, rfl⟩, hN _ (Same.refl _)⟩
    rintro H6 s6 e7
    refine ⟨s6 _ _ upd_same, _, ((keyStrs kvs).map cs).flatten.map (fun c => (valV kvs (Sum.inr (ch c))).isSome), rfl, SqL.of (by rw [upd_ne nDa, e7, List.map_map]; rfl), ?_⟩
    rw [List.all_map]
    exact k _ (S4.trans (unlock a4 s6))
theorem sc_Book___init__ : FnScope ["self", "prices", "piece"] ["self", "prices"] (defScope s_Book___init__) := ⟨rfl, rfl, rfl, by decide +kernel, rfl, by decide +kernel, by decide +kernel⟩
theorem ok_Book___init__ {f : Addr} {fd : FuncData} (F : Fun K "__init__" "Book.__init__" s_Book___init__ f fd) (T : Txt K mg C) (c_are_prices : HasO P w K mg base CX0 4 "are_prices" ["value"] (spArePrices K)) : FnOk P w K mg base CX0 5 f fd ["self", "prices"] (spBook C K) := by
  refine F.ok sc_Book___init__ (fun vs H Q E h => ?_) (fun cdv A outer s H vs Q E hr h => ?_)
  · obtain ⟨b, dx, a, kvs, rfl, _⟩ := h
    rfl
  · have hu := hu_of hr
    obtain ⟨b, dx, a, kvs, rfl, hb, ha, ok, av, nd, k⟩ := h
    refine ⟨_, (pss_frz (pss_cons (ps_if (pt_not (pt_val (pe_hasO c_are_prices (hr.mono (by decide)) pass0 (pa_cons (pv 1) pa_nil)))) (pss_one ps_never) pss_nil)
      (pss_cons (ps_fld (pv 0) (pe_dc (own := [("piece", 2)]) rfl sc_Book___init__.nd (g_list K (pe_callB (g_sortedS K) (by rfl) T.b_sorted (by decide +kernel) (pa_cons (pe_callTy (call_listD rfl) (by rfl) T.b_list (by decide +kernel) (pa_cons (pv 1) pa_nil)) pa_nil))) (blkOk_by (own := [("piece", 2)]) (N := ["self", "prices", "piece"]) (sc := defScope s_Book___init__) (by decide +kernel)) (fun _ _ _ _ _ => (pg_name (i := 2) sc_Book___init__.nd rfl (Or.inl rfl))) (fun _ _ _ _ _ => pts_nil) (fun _ _ _ _ _ => (pv 2)) (fun _ _ _ _ _ => (pe_dget hu (pv 1) (pv 2) (fun _ _ => rfl)))) rfl)
      (pss_cons (ps_fld (pv 0) (pe_callTy (g_tuple_of K) (by rfl) T.b_tuple (by decide +kernel) (pa_cons (pe_callTy (call_listD rfl) (by rfl) T.b_list (by decide +kernel) (pa_cons (g_fld K (pv 0)) pa_nil)) pa_nil)) rfl)
      (pss_cons (ps_fld (pv 0) (pe_callTy (g_tuple_of K) (by rfl) T.b_tuple (by decide +kernel) (pa_cons (pe_lc (own := [("piece", 2)]) rfl sc_Book___init__.nd (g_tuple K (g_fld K (pv 0))) (blkOk_by (own := [("piece", 2)]) (N := ["self", "prices", "piece"]) (sc := defScope s_Book___init__) (by decide +kernel)) (fun _ _ _ _ _ => (pg_name (i := 2) sc_Book___init__.nd rfl (Or.inl rfl))) (fun _ _ _ _ _ => (pts_one (pt_cmpR op_eq (pe_callB call_len_str (by rfl) T.b_len (by decide +kernel) (pa_cons (pv 2) pa_nil)) pe_int (nomark _)))) (fun _ _ _ _ _ => (pv 2))) pa_nil)) rfl)
      (pss_cons (ps_fld (pv 0) (pe_callB (g_max K rfl) (by rfl) T.b_max (by decide +kernel) (pa_cons (pe_lc (own := [("piece", 2)]) rfl sc_Book___init__.nd (g_tuple K (g_fld K (pv 0))) (blkOk_by (own := [("piece", 2)]) (N := ["self", "prices", "piece"]) (sc := defScope s_Book___init__) (by decide +kernel)) (fun _ _ _ _ _ => (pg_name (i := 2) sc_Book___init__.nd rfl (Or.inl rfl))) (fun _ _ _ _ _ => pts_nil) (fun _ _ _ _ _ => (pe_callB call_len_str (by rfl) T.b_len (by decide +kernel) (pa_cons (pv 2) pa_nil)))) pa_nil)) rfl)
      (pss_one (ps_fld (pv 0) (pe_callB (g_max K rfl) (by rfl) T.b_max (by decide +kernel) (pa_cons (pe_callTy (call_listVw rfl) (by rfl) T.b_list (by decide +kernel) (pa_cons (g_bm0 K PySem.F.plainAttrs_dict PySem.F.slot_dict_values PySem.F.type_dict_values mt_values (g_fld K (pv 0))) pa_nil)) pa_nil)) rfl)))))))), ?_⟩
    obtain ⟨⟨n1, n2⟩, al, f4, fs⟩ := ap_parts av
    have nb : b ≠ a := fun e => by
      rw [e, ha] at hb
      cases hb
    refine ⟨_, rfl, _, rfl, .inr ⟨a, kvs, rfl, ha, by omega, ok, fun H1 s1 => ⟨_, congrArg V.bl av, ?_⟩⟩⟩
    have hk := keys_of al
    have hkV : (kvs.map fun kv => kV kv.1) = (keyStrs kvs).map V.str := by
      have h := congrArg (List.map kV) hk
      rw [List.map_map, List.map_map] at h
      exact h
    have ln : (keyStrs kvs).length = kvs.length := by
      have h := congrArg List.length hk
      rw [List.length_map, List.length_map] at h
      exact h.symm
    -- the prices
    refine ⟨_, rfl, a, kvs, rfl, .inl (s1 _ _ ha), fun p hp => ?_⟩
    refine ⟨p, keyStrs kvs, rfl, SqL.of (by rw [upd_same, hkV]), by omega, fun ys p2 pm so hp2 => ?_⟩
    refine ⟨p2, rfl, ⟨_, SqL.of upd_same⟩, fun D hD => ?_⟩
    have ly : ys.length = kvs.length := by rw [pm.length_eq, ln]
    have ndk : (keyStrs kvs).Nodup := by
      rw [hk] at nd
      exact nd_of_map nd
    have ndy : ys.Nodup := pm.nodup_iff.mpr ndk
    have s2 : Same H (upd (upd H1 p (.lst (kvs.map fun kv => kV kv.1))) p2 (.lst (ys.map V.str))) := (s1.trans (same_new hp)).trans (same_new hp2)
    have l2 : (upd (upd H1 p (.lst (kvs.map fun kv => kV kv.1))) p2 (.lst (ys.map V.str))) p2 = some (.lst (ys.map V.str)) := upd_same
    generalize (upd (upd H1 p (.lst (kvs.map fun kv => kV kv.1))) p2 (.lst (ys.map V.str))) = H2 at s2 l2 hD ⊢
    have nDb : D ≠ b := (ne_of_none (s2 _ _ hb) hD).symm
    have hDn := not_there s2 hD
    refine dcs ys (walk_listF (K := K) V.str ys) (fun z => (Sum.inr z, .int (priceIn kvs z))) (nd_map (f := fun z : Str => (Sum.inr z : Key)) (fun _ _ h => Sum.inr.inj h) ndy) hD (by omega) (fun H' s => SqL.of (s _ _ l2)) ?_ ?_
    · rintro i z x H3 H4 hi s3 ⟨rfl, z', ez, rfl⟩ N M hN
      have e1 : z = z' := Option.some.inj (hi.symm.trans ez)
      subst e1
      exact ⟨wipe_set, _, rfl, _, rfl, _, rfl, a, _, rfl, .inl ⟨kvs, Sum.inr z, .inl (s3 _ _ (s2 _ _ ha)), rfl, (price_of_key al (pm.mem_iff.mp (List.mem_of_getElem? hi))).1.symm⟩, hN _ (Same.refl _)⟩
    rintro H3 s3 e3
    have e3' : H3 D = some (.dK (kvOf (psOf kvs ys))) := by
      rw [e3]
      unfold kvOf psOf
      rw [List.map_map]
      rfl
    have b3 := s3 _ _ (s2 _ _ hb)
    have hps : (psOf kvs ys).map (fun p => V.str p.1) = ys.map V.str := by
      unfold psOf
      rw [List.map_map]
      rfl
    refine ⟨_, rfl, b, C, dx, [], rfl, b3, T.cl, T.n_own_prices, by decide, ?_⟩
    have k3 : Kp b H (upd H3 b (.ins C dx (putF "own_prices" (.ref D) []))) := (Kp.of (s2.trans s3)).trans Kp.upd
    have d3 : upd H3 b (.ins C dx (putF "own_prices" (.ref D) [])) D = some (.dK (kvOf (psOf kvs ys))) := by
      rw [upd_ne nDb]
      exact e3'
    have o3 : upd H3 b (.ins C dx (putF "own_prices" (.ref D) [])) b = some (.ins C dx [(("own_prices" : Str), .ref D)]) := upd_same
    generalize upd H3 b (.ins C dx (putF "own_prices" (.ref D) [])) = H4 at k3 d3 o3 ⊢
    clear e3 e3' b3 s3 s2 l2 hD
    -- the pieces
    refine ⟨_, rfl, b, C, dx, _, _, rfl, o3, T.cl, T.n_own_prices, lk_at, D, _, rfl, .inl d3, fun p3 hp3 => ?_⟩
    refine ⟨p3, _, rfl, .inl ⟨SqL.of upd_same, fun tp htp => ?_⟩⟩
    rw [kv_keys, hps] at htp ⊢
    have npb : p3 ≠ b := (ne_of_none o3 hp3).symm
    have ntb : tp ≠ b := (ne_of_none ((same_new hp3) _ _ o3) htp).symm
    have o4' := (same_new hp3 (o := .lst (ys.map V.str))).trans (same_new htp (o := .tup (ys.map V.str)))
    refine ⟨_, rfl, b, C, dx, _, rfl, o4' _ _ o3, T.cl, T.n_own_pieces, by simp, ?_⟩
    rw [pf2]
    have k4 := (k3.trans (.of o4')).trans (Kp.upd (o := .ins C dx [(("own_prices" : Str), .ref D), ("own_pieces", .ref tp)]))
    have d4 : (upd (upd (upd H4 p3 (.lst (ys.map V.str))) tp (.tup (ys.map V.str))) b (.ins C dx [(("own_prices" : Str), .ref D), ("own_pieces", .ref tp)])) D = some (.dK (kvOf (psOf kvs ys))) := by
      rw [upd_ne nDb]
      exact o4' _ _ d3
    have t4 : (upd (upd (upd H4 p3 (.lst (ys.map V.str))) tp (.tup (ys.map V.str))) b (.ins C dx [(("own_prices" : Str), .ref D), ("own_pieces", .ref tp)])) tp = some (.tup (ys.map V.str)) := by
      rw [upd_ne ntb]
      exact upd_same
    have o4 : (upd (upd (upd H4 p3 (.lst (ys.map V.str))) tp (.tup (ys.map V.str))) b (.ins C dx [(("own_prices" : Str), .ref D), ("own_pieces", .ref tp)])) b = some (.ins C dx [(("own_prices" : Str), .ref D), ("own_pieces", .ref tp)]) := upd_same
    generalize (upd (upd (upd H4 p3 (.lst (ys.map V.str))) tp (.tup (ys.map V.str))) b (.ins C dx [(("own_prices" : Str), .ref D), ("own_pieces", .ref tp)])) = H5 at k4 d4 t4 o4 ⊢
    clear o4' htp hp3 npb k3 d3 o3
    -- the alphabet
    refine ⟨_, rfl, b, C, dx, _, _, rfl, o4, T.cl, T.n_own_pieces, (lk_by (by decide +kernel)).trans lk_at, tp, rfl, ⟨_, SqT.of t4⟩, fun L hL => ?_⟩
    have nLb : L ≠ b := (ne_of_none o4 hL).symm
    refine lcs ys (walk_tupF (K := K) V.str ys) (fun z => if decide ((cs z).length = 1) = true then some (V.str z) else none) hL (by omega) (fun H' s => SqT.of (s _ _ t4)) ?_ ?_
    · rintro i z x H6 H7 hi s6 ⟨rfl, z', ez, rfl⟩ N M hN hM
      have e1 : z = z' := Option.some.inj (hi.symm.trans ez)
      subst e1
      have hz := (keyStrs_piece al z (pm.mem_iff.mp (List.mem_of_getElem? hi))).2.1
      refine ⟨wipe_set, _, rfl, _, rfl, fits_sz (by rw [← cs_len]; omega), rfl, _, rfl, ?_⟩
      rw [v_len_eq1]
      refine itB (fun q1 => ?_) (fun q1 => ?_)
      · exact ⟨_, rfl, hN _ _ (if_pos q1) (Same.refl _)⟩
      · exact hM _ (if_neg (by rw [q1]; exact Bool.false_ne_true)) (Same.refl _)
    rintro H6 s6 e6
    rw [sgn_fm kvs ys] at e6
    refine ⟨L, _, rfl, .inl ⟨SqL.of e6, fun ta hta => ?_⟩⟩
    have nab : ta ≠ b := (ne_of_none (s6 _ _ o4) hta).symm
    have o6 := s6.trans (same_new hta (o := .tup ((sgn (psOf kvs ys)).map V.str)))
    refine ⟨_, rfl, b, C, dx, _, rfl, o6 _ _ o4, T.cl, T.n_own_alphabet, by simp, ?_⟩
    rw [pf3]
    have k6 := (k4.trans (.of o6)).trans (Kp.upd (o := .ins C dx [(("own_prices" : Str), .ref D), ("own_pieces", .ref tp), ("own_alphabet", .ref ta)]))
    have d6 : (upd (upd H6 ta (.tup ((sgn (psOf kvs ys)).map V.str))) b (.ins C dx [(("own_prices" : Str), .ref D), ("own_pieces", .ref tp), ("own_alphabet", .ref ta)])) D = some (.dK (kvOf (psOf kvs ys))) := by
      rw [upd_ne nDb]
      exact o6 _ _ d4
    have t6 : (upd (upd H6 ta (.tup ((sgn (psOf kvs ys)).map V.str))) b (.ins C dx [(("own_prices" : Str), .ref D), ("own_pieces", .ref tp), ("own_alphabet", .ref ta)])) tp = some (.tup (ys.map V.str)) := by
      rw [upd_ne ntb]
      exact o6 _ _ t4
    have a6 : (upd (upd H6 ta (.tup ((sgn (psOf kvs ys)).map V.str))) b (.ins C dx [(("own_prices" : Str), .ref D), ("own_pieces", .ref tp), ("own_alphabet", .ref ta)])) ta = some (.tup ((sgn (psOf kvs ys)).map V.str)) := by
      rw [upd_ne nab]
      exact upd_same
    have o6' : (upd (upd H6 ta (.tup ((sgn (psOf kvs ys)).map V.str))) b (.ins C dx [(("own_prices" : Str), .ref D), ("own_pieces", .ref tp), ("own_alphabet", .ref ta)])) b = some (.ins C dx [(("own_prices" : Str), .ref D), ("own_pieces", .ref tp), ("own_alphabet", .ref ta)]) := upd_same
    generalize (upd (upd H6 ta (.tup ((sgn (psOf kvs ys)).map V.str))) b (.ins C dx [(("own_prices" : Str), .ref D), ("own_pieces", .ref tp), ("own_alphabet", .ref ta)])) = H7 at k6 d6 t6 a6 o6' ⊢
    clear o6 e6 s6 hta hL k4 d4 t4 o4
    -- the longest
    refine ⟨_, rfl, b, C, dx, _, _, rfl, o6', T.cl, T.n_own_pieces, (lk_by (by decide +kernel)).trans lk_at, tp, rfl, ⟨_, SqT.of t6⟩, fun L hL => ?_⟩
    refine lcs ys (walk_tupF (K := K) V.str ys) (fun z => some (V.int (z.length : Int))) hL (by omega) (fun H' s => SqT.of (s _ _ t6)) ?_ ?_
    · rintro i z x H8 H9 hi s8 ⟨rfl, z', ez, rfl⟩ N M hN hM
      have e1 : z = z' := Option.some.inj (hi.symm.trans ez)
      subst e1
      have hz := (keyStrs_piece al z (pm.mem_iff.mp (List.mem_of_getElem? hi))).2.1
      exact ⟨wipe_set, _, rfl, _, rfl, fits_sz (by rw [← cs_len]; omega), hN _ _ rfl (Same.refl _)⟩
    rintro H8 s8 e8
    have ll : (ys.filterMap fun z => some (V.int (z.length : Int))) = (lens (psOf kvs ys)).map V.int := by
      rw [fm_some]
      unfold lens psOf
      rw [List.map_map, List.map_map]
      rfl
    rw [ll] at e8
    refine ⟨L, _, rfl, SqL.of e8, by unfold lens psOf; rw [List.length_map, List.length_map]; omega, fun lo lo1 lo2 => ?_⟩
    refine ⟨_, rfl, b, C, dx, _, rfl, s8 _ _ o6', T.cl, T.n_own_longest, by simp, ?_⟩
    rw [pf4]
    have k8 := (k6.trans (.of s8)).trans (Kp.upd (o := .ins C dx [(("own_prices" : Str), .ref D), ("own_pieces", .ref tp), ("own_alphabet", .ref ta), ("own_longest", .int lo)]))
    have d8 : (upd H8 b (.ins C dx [(("own_prices" : Str), .ref D), ("own_pieces", .ref tp), ("own_alphabet", .ref ta), ("own_longest", .int lo)])) D = some (.dK (kvOf (psOf kvs ys))) := by
      rw [upd_ne nDb]
      exact s8 _ _ d6
    have t8 : (upd H8 b (.ins C dx [(("own_prices" : Str), .ref D), ("own_pieces", .ref tp), ("own_alphabet", .ref ta), ("own_longest", .int lo)])) tp = some (.tup (ys.map V.str)) := by
      rw [upd_ne ntb]
      exact s8 _ _ t6
    have a8 : (upd H8 b (.ins C dx [(("own_prices" : Str), .ref D), ("own_pieces", .ref tp), ("own_alphabet", .ref ta), ("own_longest", .int lo)])) ta = some (.tup ((sgn (psOf kvs ys)).map V.str)) := by
      rw [upd_ne nab]
      exact s8 _ _ a6
    have o8 : (upd H8 b (.ins C dx [(("own_prices" : Str), .ref D), ("own_pieces", .ref tp), ("own_alphabet", .ref ta), ("own_longest", .int lo)])) b = some (.ins C dx [(("own_prices" : Str), .ref D), ("own_pieces", .ref tp), ("own_alphabet", .ref ta), ("own_longest", .int lo)]) := upd_same
    generalize (upd H8 b (.ins C dx [(("own_prices" : Str), .ref D), ("own_pieces", .ref tp), ("own_alphabet", .ref ta), ("own_longest", .int lo)])) = H9 at k8 d8 t8 a8 o8 ⊢
    clear s8 e8 hL k6 d6 t6 a6 o6'
    have ntD : tp ≠ D := fun e => by
      rw [e, d8] at t8
      cases t8
    have naD : ta ≠ D := fun e => by
      rw [e, d8] at a8
      cases a8
    -- the dearest
    refine ⟨_, rfl, b, C, dx, _, _, rfl, o8, T.cl, T.n_own_prices, lk_at, .inr (.inr (.inl ⟨rfl, .inl ⟨_, d8⟩⟩)), D, _, rfl, rfl, .inl d8, fun r hr => ?_⟩
    refine ⟨r, D, _, rfl, upd_same, .inl (same_new hr _ _ d8), fun q hq => ?_⟩
    rw [kv_vals] at *
    refine ⟨q, _, rfl, SqL.of upd_same, by unfold fees psOf; rw [List.length_map, List.length_map]; omega, fun de de1 de2 => ?_⟩
    have s9 := (same_new hr (o := vwV D r)).trans (same_new hq (o := .lst ((fees (psOf kvs ys)).map V.int)))
    refine ⟨_, rfl, b, C, dx, _, rfl, s9 _ _ o8, T.cl, T.n_own_dearest, by simp, ?_⟩
    rw [pf5]
    have k9 := (k8.trans (.of s9)).trans (Kp.upd (o := .ins C dx (bookF D tp ta lo de)))
    refine ⟨D, _, (upd_ne nDb).trans (s9 _ _ d8), trivial, fun od => ?_⟩
    refine k _ ys lo de D tp ta od pm so ⟨?_, upd_same, ?_, ?_, ⟨lo1, lo2⟩, ⟨de1, de2⟩⟩ ?_
    · exact (upd_ne nDb.symm).trans upd_same
    · rw [upd_ne ntD, upd_ne ntb, hps]
      exact s9 _ _ t8
    · rw [upd_ne naD, upd_ne nab]
      exact s9 _ _ a8
    · intro c o e n
      rw [upd_ne (ne_of_none e hDn)]
      exact k9 _ _ e n
theorem sc_Book_prices : FnScope ["self", "piece"] ["self"] (defScope s_Book_prices) := ⟨rfl, rfl, rfl, by decide +kernel, rfl, by decide +kernel, by decide +kernel⟩
theorem ok_Book_prices {f : Addr} {fd : FuncData} (F : Fun K "prices" "Book.prices" s_Book_prices f fd) (T : Txt K mg C) : FnOk P w K mg base CX0 1 f fd ["self"] (spPrices C) := by
  refine F.ok sc_Book_prices (fun vs H Q E h => ?_) (fun cdv A outer s H vs Q E hr h => ?_)
  · obtain ⟨b, kvs, rfl, _⟩ := h
    rfl
  · have hu := hu_of hr
    obtain ⟨b, kvs, rfl, B, k⟩ := h
    refine ⟨_, (pss_one (ps_ret (pe_dc (own := [("piece", 1)]) rfl sc_Book_prices.nd (g_tuple K (g_fld K (pv 0))) (blkOk_by (own := [("piece", 1)]) (N := ["self", "piece"]) (sc := defScope s_Book_prices) (by decide +kernel)) (fun _ _ _ _ _ => (pg_name (i := 1) sc_Book_prices.nd rfl (Or.inl rfl))) (fun _ _ _ _ _ => pts_nil) (fun _ _ _ _ _ => (pv 1)) (fun _ _ _ _ _ => (pe_dget hu (g_fld K (pv 0)) (pv 1) (fun _ _ => rfl)))))), ?_⟩
    obtain ⟨av, nd, ys, L, M, dx, d, tp, ta, od, pm, so, A⟩ := id B
    obtain ⟨_, al, _, _⟩ := ap_parts av
    
    have ly : ys.length ≤ 12 := by
      obtain ⟨⟨_, n2⟩, _⟩ := ap_parts av
      have h := congrArg List.length (keys_of al)
      rw [List.length_map, List.length_map] at h
      rw [pm.length_eq]
      omega
    have ndy : ys.Nodup := pm.nodup_iff.mpr (keys_nd al nd)
    have pi : H tp = some (.tup (ys.map V.str)) := by
      rw [A.pi]
      unfold psOf
      rw [List.map_map]
      rfl
    refine ⟨_, rfl, b, C, dx, _, _, rfl, A.ob, T.cl, T.n_own_pieces, bf_pieces, tp, rfl, ⟨_, SqT.of pi⟩, fun D hD => ?_⟩
    refine dcs ys (walk_tupF (K := K) V.str ys) (fun z => (Sum.inr z, .int (priceIn kvs z))) (nd_map (f := fun z : Str => (Sum.inr z : Key)) (fun _ _ h => Sum.inr.inj h) ndy) hD (by omega) (fun H' s => SqT.of (s _ _ pi)) ?_ ?_
    · rintro i z x H3 H4 hi s3 ⟨rfl, z', ez, rfl⟩ N M hN
      have e1 : z = z' := Option.some.inj (hi.symm.trans ez)
      subst e1
      have hv : valV (kvOf (psOf kvs ys)) (Sum.inr z) = some (.int (priceIn kvs z)) := by
        rw [kvOf_ps, val_fun, if_pos (List.mem_of_getElem? hi)]
      exact ⟨wipe_set, _, rfl, _, rfl, b, C, dx, _, _, rfl, s3 _ _ A.ob, T.cl, T.n_own_prices, bf_prices, _, rfl, d, _, rfl, .inl ⟨_, Sum.inr z, .inr ⟨od, s3 _ _ A.dc⟩, rfl, hv.symm⟩, hN _ (Same.refl _)⟩
    rintro H3 s3 e3
    exact k D ys H3 hD pm so (by rw [e3, kvOf_ps]) s3
theorem sc_least_price : FnScope ["prices", "text", "found", "end", "start", "piece"] ["prices", "text"] (defScope s_least_price) := ⟨rfl, rfl, rfl, by decide +kernel, rfl, by decide +kernel, by decide +kernel⟩
theorem ok_least_price {f : Addr} {fd : FuncData} (F : Fun K "least_price" "least_price" s_least_price f fd) (T : Txt K mg C) : FnOk P w K mg base CX0 4 f fd ["prices", "text"] (spLeastPrice) := by
  refine F.ok sc_least_price (fun vs H Q E h => ?_) (fun cdv A outer s H vs Q E hr h => ?_)
  · obtain ⟨d, od, kvs, z, rfl, _⟩ := h
    rfl
  · have hu := hu_of hr
    obtain ⟨d, od, kvs, z, rfl, hd, tar, ov, hz, k⟩ := h
    refine ⟨_, (pss_cons (ps_set (i := 2) sc_least_price.nd rfl (Or.inr rfl) (pe_lst (pa_cons pe_int pa_nil)))
      (pss_cons (ps_for PassesOwn.never rfl (pi_range2 (by rfl) T.b_range (pa_cons pe_int (pa_cons (pe_op op_add (pe_callB call_len_str (by rfl) T.b_len (by decide +kernel) (pa_cons (pv 1) pa_nil)) pe_int) pa_nil))) (pg_name (i := 3) sc_least_price.nd rfl (Or.inr rfl)) (pss_cons (ps_set (i := 4) sc_least_price.nd rfl (Or.inr rfl) (pe_slice sl_str (pv 1) po_none (po_some (pv 3))))
      (pss_one (ps_expr (g_bm K PySem.F.plainAttrs_list PySem.F.slot_list_append PySem.F.type_list_append mt_append (pv 2) (pa_cons (pe_callB (g_min K rfl) (by rfl) T.b_min (by decide +kernel) (pa_cons (pe_lc (own := [("piece", 5)]) rfl sc_least_price.nd (pi_keys (pv 0)) (blkOk_by (own := [("piece", 5)]) (N := ["prices", "text", "found", "end", "start", "piece"]) (sc := defScope s_least_price) (by decide +kernel)) (fun _ _ _ _ _ => (pg_name (i := 5) sc_least_price.nd rfl (Or.inl rfl))) (fun _ _ _ _ _ => (pts_one (pt_val (pe_m1 PySem.F.slot_str_endswith PySem.F.type_str_endswith mt_endswith (pv 4) (pv 5))))) (fun _ _ _ _ _ => (pe_op op_add (pe_ix (g_ix_list K) (pv 2) (pe_op op_sub (pv 3) (pe_callB call_len_str (by rfl) T.b_len (by decide +kernel) (pa_cons (pv 5) pa_nil))) (fun _ _ => rfl)) (pe_dget hu (pv 0) (pv 5) (fun _ _ => rfl))))) pa_nil)) pa_nil))))))
      (pss_one (ps_ret (pe_ix (g_ix_list K) (pv 2) (pe_un un_neg pe_int) (fun _ _ => rfl)))))), ?_⟩
    have good := tar.good
    have lz := cs_len z
    refine ⟨(by show 1 ≤ sizeLine; decide), fun fo hfo => ?_⟩
    have nfd : d ≠ fo := ne_of_none hd hfo
    refine ⟨_, rfl, z, rfl, fits_sz (by omega), _, _, rfl, rfl, 1, _, rfl, ⟨by omega, by omega, by omega, by omega⟩, for_range (lo := 1) (Pv := fun i σ H' => ∃ u v w, σ = [some (.ref d), some (.str z), some (.ref fo), u, v, w] ∧ Same H H' ∧ H' fo = some (.lst (rowV (tfD kvs) (cs z) (i + 1))))
      ⟨_, _, _, rfl, same_new hfo, by rw [upd_same, rowV_one good]⟩ ?_ ?_⟩
    · rintro i σ H1 hi ⟨u, v, w, rfl, s1, f1⟩
      have hi' : i < z.length := by omega
      have d1 := s1 _ _ hd
      have e1 : (1 : Int) + (i : Int) = ((i + 1 : Nat) : Int) := by omega
      rw [e1]
      refine ⟨_, rfl, _, rfl, _, rfl, _, rfl, fits_sz (by omega), ?_⟩
      have hst : cs (cutS z none (some ((i + 1 : Nat) : Int))) = (cs z).take (i + 1) := cs_cutTo (by omega)
      have lst : (cutS z none (some ((i + 1 : Nat) : Int))).length = i + 1 := by
        rw [← cs_len, hst, List.length_take]
        omega
      dsimp only [gName]
      generalize cutS z none (some ((i + 1 : Nat) : Int)) = st at hst lst ⊢
      refine ⟨_, rfl, .inl ⟨rfl, _, SqL.of f1⟩, _, rfl, d, od, rfl, .inl ⟨kvs, d1, fun D hD => ?_⟩⟩
      refine lcs kvs walk_keys (fun kv => (candG (tfD kvs) (cs z) (i + 1) st kv).map V.int) hD (by have := tar.len; omega) (fun H' s => s _ _ d1) ?_ ?_
      · rintro j kv x H2 H3 hj s2 ⟨rfl, k', v', ek, rfl⟩ N M hN hM
        have ekv : kv = (k', v') := Option.some.inj (hj.symm.trans ek)
        subst ekv
        obtain ⟨y, p, ey, hp⟩ := tar.mem _ (List.mem_of_getElem? hj)
        cases ey
        have ly := good.len y p hp
        rw [cs_len] at ly
        refine ⟨wipe_set, _, rfl, ⟨_, rfl⟩, _, rfl, _, _, rfl, rfl, _, rfl, ?_⟩
        refine itB (fun q => ?_) (fun q => ?_)
        · obtain ⟨a, ha⟩ := ends_iff.mp q
          have la := congrArg List.length ha
          rw [List.length_append, cs_len, cs_len, lst] at la
          refine ⟨_, rfl, _, rfl, _, rfl, _, rfl, fits_sz (by omega), _, _, rfl, rfl, fo, _, _, _, rfl, rfl, SqL.of (s2 _ _ f1), at_of (j := i + 1 - y.length) (by omega) (rowV_at (by omega)), _, rfl, _, rfl, d, _, rfl, .inl ⟨kvs, Sum.inr y, .inr ⟨od, s2 _ _ d1⟩, rfl, (tf_some.mp hp).symm⟩, _, _, rfl, rfl, hN _ _ ?_ (Same.refl _)⟩
          show (if Txt.endswith st y = true then some (lp (tfD kvs) ((cs z).take (i + 1 - y.length)) + p) else none).map V.int = _
          rw [if_pos q]
          rfl
        · refine hM _ ?_ (Same.refl _)
          show (if Txt.endswith st y = true then some (lp (tfD kvs) ((cs z).take (i + 1 - y.length)) + p) else none).map V.int = _
          rw [if_neg (by rw [q]; exact Bool.false_ne_true)]
          rfl
      rintro H2 s2 e2
      rw [fm_int] at e2
      obtain ⟨pos, least⟩ := cand_min tar ov hst (by omega) (by omega)
      refine ⟨D, _, rfl, SqL.of e2, pos, fun m hm hl => ?_⟩
      have em := least m hm hl
      subst em
      refine ⟨fo, _, _, rfl, rfl, s2 _ _ f1, by rw [rowV_len]; exact small1000' (by omega), ?_⟩
      refine ⟨_, _, _, rfl, same_mut (s1.trans s2) hfo, ?_⟩
      rw [upd_same, rowV_succ (n := i + 1)]
    · rintro σ H1 ⟨u, v, w, rfl, s1, f1⟩
      have e1 : ((z.length : Int) + 1 - 1).toNat = z.length := by omega
      rw [e1] at f1
      refine ⟨_, rfl, _, rfl, fo, _, _, _, rfl, rfl, SqL.of f1, by rw [rowV_succ]; exact atI_last, ?_⟩
      have e2 : (cs z).take z.length = cs z := List.take_of_length_le (by omega)
      rw [e2]
      exact k _ s1
theorem sc_require_book : FnScope ["value"] ["value"] (defScope s_require_book) := ⟨rfl, rfl, rfl, by decide +kernel, rfl, by decide +kernel, by decide +kernel⟩
theorem ok_require_book {f : Addr} {fd : FuncData} (F : Fun K "require_book" "require_book" s_require_book f fd) (T : Txt K mg C) : FnOk P w K mg base CX0 1 f fd ["value"] (spReqBook C) := by
  refine F.ok sc_require_book (fun vs H Q E h => ?_) (fun cdv A outer s H vs Q E hr h => ?_)
  · obtain ⟨b, dx, fs, rfl, _⟩ := h
    rfl
  · have hu := hu_of hr
    obtain ⟨b, dx, fs, rfl, hb, k⟩ := h
    refine ⟨_, (pss_one (ps_if (pt_not (pt_val (pe_callB (C8.call_isC T.ic) (by rfl) T.b_isinstance (by decide +kernel) (pa_cons (pv 0) (pa_cons (pe_glob (v := .ref C) rfl T.gC rfl) pa_nil))))) (pss_one ps_never) pss_nil)), ?_⟩
    exact ⟨_, rfl, b, dx, fs, rfl, hb, true, rfl, k⟩
theorem sc_require_comparable : FnScope ["book", "other"] ["book", "other"] (defScope s_require_comparable) := ⟨rfl, rfl, rfl, by decide +kernel, rfl, by decide +kernel, by decide +kernel⟩
theorem ok_require_comparable {f : Addr} {fd : FuncData} (F : Fun K "require_comparable" "require_comparable" s_require_comparable f fd) (T : Txt K mg C) (c_require_book : HasO P w K mg base CX0 1 "require_book" ["value"] (spReqBook C)) : FnOk P w K mg base CX0 2 f fd ["book", "other"] (spReqCmp C) := by
  refine F.ok sc_require_comparable (fun vs H Q E h => ?_) (fun cdv A outer s H vs Q E hr h => ?_)
  · obtain ⟨k1, k2, ⟨b1, b2, rfl, _⟩, _⟩ := h
    rfl
  · have hu := hu_of hr
    obtain ⟨k1, k2, ⟨b1, b2, rfl, B1, B2, ss⟩, k⟩ := h
    obtain ⟨av1, nd1, ys1, L1, M1, dx1, d1, tp1, ta1, od1, pm1, so1, A1⟩ := id B1
    obtain ⟨av2, nd2, ys2, L2', M2, dx2, d2, tp2, ta2, od2, pm2, so2, A2⟩ := id B2
    obtain ⟨_, al1, _, _⟩ := ap_parts av1
    obtain ⟨_, al2, _, _⟩ := ap_parts av2
    refine ⟨_, (pss_cons (ps_expr (pe_hasO c_require_book (hr.mono (by decide)) pass0 (pa_cons (pv 0) pa_nil)))
      (pss_cons (ps_expr (pe_hasO c_require_book (hr.mono (by decide)) pass0 (pa_cons (pv 1) pa_nil)))
      (pss_one (ps_if (pt_cmpR (g_neD K hr.units) (g_fld K (pv 0)) (g_fld K (pv 1)) (nomark _)) (pss_one ps_never) pss_nil)))), ?_⟩
    have hsg := sgn_eq al1 al2 nd1 nd2 pm1 pm2 so1 so2 ss
    have hl : ∀ z ∈ sgn (psOf k2 ys2), ∀ c ∈ cs z, lett c = true := fun z hz => by
      rw [sgn_ps] at hz
      exact (keyStrs_piece al2 z (pm2.mem_iff.mp (List.mem_filter.mp hz).1)).2.2
    refine ⟨_, rfl, b1, dx1, _, rfl, A1.ob, ?_⟩
    refine ⟨_, rfl, b2, dx2, _, rfl, A2.ob, ?_⟩
    refine ⟨_, rfl, b1, C, dx1, _, _, rfl, A1.ob, T.cl, T.n_own_alphabet, bf_alphabet, _, rfl, b2, C, dx2, _, _, rfl, A2.ob, T.cl, T.n_own_alphabet, bf_alphabet, .tuple ((sgn (psOf k1 ys1)).map PyData.str), .tuple ((sgn (psOf k2 ys2)).map PyData.str), .tup (SqT.of A1.al) (dpAll_strs _), .tup (SqT.of A2.al) (dpAll_strs _), by rw [hsg]; exact shaped_strs hl, shaped_strs hl, ?_⟩
    refine ⟨false, congrArg V.bl (by rw [hsg, eqv_strs hl]; rfl), ?_⟩
    exact k _ (Same.refl _)
theorem sc_dearer_in : FnScope ["book", "other", "piece", "price"] ["book", "other"] (defScope s_dearer_in) := ⟨rfl, rfl, rfl, by decide +kernel, rfl, by decide +kernel, by decide +kernel⟩
theorem ok_dearer_in {f : Addr} {fd : FuncData} (F : Fun K "dearer_in" "dearer_in" s_dearer_in f fd) (T : Txt K mg C) (c_least_price : HasO P w K mg base CX0 4 "least_price" ["prices", "text"] (spLeastPrice)) : FnOk P w K mg base CX0 5 f fd ["book", "other"] (spDearer C) := by
  refine F.ok sc_dearer_in (fun vs H Q E h => ?_) (fun cdv A outer s H vs Q E hr h => ?_)
  · obtain ⟨k1, k2, ⟨b1, b2, rfl, _⟩, _⟩ := h
    rfl
  · have hu := hu_of hr
    obtain ⟨k1, k2, ⟨b1, b2, rfl, B1, B2, ss⟩, k⟩ := h
    obtain ⟨av1, nd1, ys1, L1, M1, dx1, d1, tp1, ta1, od1, pm1, so1, A1⟩ := id B1
    obtain ⟨av2, nd2, ys2, L2', M2, dx2, d2, tp2, ta2, od2, pm2, so2, A2⟩ := id B2
    obtain ⟨_, al1, _, _⟩ := ap_parts av1
    obtain ⟨_, al2, _, _⟩ := ap_parts av2
    refine ⟨_, (pss_cons (ps_for PassesOwn.never rfl (pi_items (g_fld K (pv 1))) (g_tup K (n := 2) rfl (pgs_cons (pg_name (i := 2) sc_dearer_in.nd rfl (Or.inl rfl)) (pgs_cons (pg_name (i := 3) sc_dearer_in.nd rfl (Or.inl rfl)) pgs_nil))) (pss_one (ps_if (pt_cmpR op_gt (pe_hasO c_least_price (hr.mono (by decide)) pass0 (pa_cons (g_fld K (pv 0)) (pa_cons (pv 2) pa_nil))) (pv 3) (nomark _)) (pss_one (ps_ret (pv 2))) pss_nil)))
      (pss_one (ps_ret pe_non))), ?_⟩
    have tar1 := tar_book av1 pm1
    have e1 := tf_psOf al1 pm1
    have tar2 := tar_of av2 nd2
    refine ⟨_, rfl, b2, C, dx2, _, _, rfl, A2.ob, T.cl, T.n_own_prices, bf_prices, d2, od2, kvOf (psOf k2 ys2), rfl, A2.dc, for_it walk_items (Pv := fun i σ H' => ∃ u v, σ = [some (.ref b1), some (.ref b2), u, v] ∧ Same H H' ∧ ∀ j z, j < i → ys2[j]? = some z → lp (tfD k1) (cs z) ≤ priceIn k2 z)
      ⟨_, _, rfl, Same.refl _, fun _ _ h => absurd h (Nat.not_lt_zero _)⟩ (fun i σ H' hi q => by obtain ⟨u, v, _, s, _⟩ := q; exact s _ _ A2.dc) ?_ ?_⟩
    · rintro i x σ H1 H2 hi ⟨u, v, rfl, s1, low⟩ ⟨Tt, xk, xv, rfl, hT, rfl, ek, ev⟩
      dsimp only at ek ev
      rw [kvOf_ps, List.getElem?_map] at ek ev
      obtain ⟨z, hz⟩ : ∃ z, ys2[i]? = some z := by
        cases e : ys2[i]? with
        | none =>
          rw [e] at ek
          cases ek
        | some z => exact ⟨z, rfl⟩
      rw [hz] at ek ev
      cases ek
      cases ev
      have hzk := pm2.mem_iff.mp (List.mem_of_getElem? hz)
      have hp : tfD k2 z = some (priceIn k2 z) := tf_some.mpr (price_of_key al2 hzk).1
      have ov : Over (tfD k1) (cs z) := fun c hc => (ss c).mpr (tar2.good.cov z _ hp c hc)
      have s2 : Same H (upd H1 Tt (.tup [kV (Sum.inr z), V.int (priceIn k2 z)])) := s1.trans (same_new hT)
      refine ⟨Tt, _, rfl, SqT.of upd_same, rfl, _, _, rfl, _, _, rfl, rfl, ?_⟩
      refine ⟨_, rfl, b1, C, dx1, _, _, rfl, s2 _ _ A1.ob, T.cl, T.n_own_prices, bf_prices, _, rfl, d1, od1, _, z, rfl, s2 _ _ A1.dc, tar1, by rw [e1]; exact ov, by have := (tar2.good.len z _ hp).2; rw [cs_len] at this; omega, fun H3 s3 => ?_⟩
      rw [e1]
      refine ⟨_, rfl, _, _, rfl, rfl, _, rfl, ?_⟩
      refine itB (fun q => ?_) (fun q => ?_)
      · refine ⟨_, rfl, k _ _ (s2.trans s3) (Or.inr ⟨z, _, rfl, hp, by have := of_decide_eq_true q; omega, fun z' p' hp' hlt => ?_⟩)⟩
        obtain ⟨j, hj⟩ := List.getElem?_of_mem (pm2.mem_iff.mpr ((tf_key al2).mpr ⟨p', hp'⟩))
        have ep : p' = priceIn k2 z' := by
          have h1 := (price_of_key al2 ((tf_key al2).mpr ⟨p', hp'⟩)).1
          rw [tf_some.mp hp'] at h1
          exact V.int.inj (Option.some.inj h1)
        rw [ep]
        refine low j z' ?_ hj
        rcases Nat.lt_trichotomy j i with h | h | h
        · exact h
        · subst h
          rw [hz] at hj
          cases hj
          exact absurd hlt (List.lt_irrefl _)
        · obtain ⟨l1, g1⟩ := List.getElem?_eq_some_iff.mp hz
          obtain ⟨l2, g2⟩ := List.getElem?_eq_some_iff.mp hj
          have h5 := List.pairwise_iff_getElem.mp (so_pw so2) i j l1 l2 h
          rw [g1, g2] at h5
          exact absurd hlt (List.not_lt.mpr h5)
      · refine ⟨_, _, rfl, s2.trans s3, fun j z' hj hz' => ?_⟩
        rcases Nat.lt_or_ge j i with h | h
        · exact low j z' h hz'
        · have ej : j = i := by omega
          subst ej
          rw [hz] at hz'
          cases hz'
          have := of_decide_eq_false q
          omega
    · rintro σ H1 ⟨u, v, rfl, s1, low⟩
      refine k _ _ s1 (Or.inl ⟨rfl, fun z p hp => ?_⟩)
      have hk := (tf_key al2).mpr ⟨p, hp⟩
      obtain ⟨j, hj⟩ := List.getElem?_of_mem (pm2.mem_iff.mpr hk)
      have h1 := (price_of_key al2 hk).1
      rw [tf_some.mp hp] at h1
      rw [V.int.inj (Option.some.inj h1)]
      refine low j z ?_ hj
      have := (List.getElem?_eq_some_iff.mp hj).1
      rw [kvOf_ps, List.length_map]
      exact this
theorem sc_is_nowhere_dearer : FnScope ["book", "other"] ["book", "other"] (defScope s_is_nowhere_dearer) := ⟨rfl, rfl, rfl, by decide +kernel, rfl, by decide +kernel, by decide +kernel⟩
theorem ok_is_nowhere_dearer {f : Addr} {fd : FuncData} (F : Fun K "is_nowhere_dearer" "is_nowhere_dearer" s_is_nowhere_dearer f fd) (T : Txt K mg C) (c_require_comparable : HasO P w K mg base CX0 2 "require_comparable" ["book", "other"] (spReqCmp C)) (c_dearer_in : HasO P w K mg base CX0 5 "dearer_in" ["book", "other"] (spDearer C)) : FnOk P w K mg base CX0 6 f fd ["book", "other"] (spNowhere C) := by
  refine F.ok sc_is_nowhere_dearer (fun vs H Q E h => ?_) (fun cdv A outer s H vs Q E hr h => ?_)
  · obtain ⟨k1, k2, ⟨b1, b2, rfl, _⟩, _⟩ := h
    rfl
  · have hu := hu_of hr
    obtain ⟨k1, k2, ⟨b1, b2, rfl, B1, B2, ss⟩, k⟩ := h
    refine ⟨_, (pss_cons (ps_expr (pe_hasO c_require_comparable (hr.mono (by decide)) pass0 (pa_cons (pv 0) (pa_cons (pv 1) pa_nil))))
      (pss_one (ps_ret (pe_cmpR op_isN (pe_hasO c_dearer_in (hr.mono (by decide)) pass0 (pa_cons (pv 0) (pa_cons (pv 1) pa_nil))) pe_non (nomark _))))), ?_⟩
    refine ⟨_, rfl, _, rfl, k1, k2, ⟨b1, b2, rfl, B1, B2, ss⟩, fun H1 s1 => ?_⟩
    refine ⟨_, rfl, _, rfl, k1, k2, ⟨b1, b2, rfl, B1.same s1, B2.same s1, ss⟩, fun r H2 s2 dr => ?_⟩
    exact ⟨rfl, k _ _ (s1.trans s2) (dear_non dr)⟩
theorem sc_result_of : FnScope ["prices"] ["prices"] (defScope s_result_of) := ⟨rfl, rfl, rfl, by decide +kernel, rfl, by decide +kernel, by decide +kernel⟩
theorem ok_result_of {f : Addr} {fd : FuncData} (F : Fun K "result_of" "result_of" s_result_of f fd) (T : Txt K mg C) (c_Book : C8.Mak P w K mg base 5 "Book" C (spBook C K) []) (c_are_prices : HasO P w K mg base CX0 4 "are_prices" ["value"] (spArePrices K)) : FnOk P w K mg base CX0 7 f fd ["prices"] (spResult C) := by
  refine F.ok sc_result_of (fun vs H Q E h => ?_) (fun cdv A outer s H vs Q E hr h => ?_)
  · obtain ⟨d, kvs, rfl, _⟩ := h
    rfl
  · have hu := hu_of hr
    obtain ⟨d, kvs, rfl, hd, av, nd, k⟩ := h
    refine ⟨_, (pss_cons (ps_if (pt_not (pt_val (pe_hasO c_are_prices (hr.mono (by decide)) pass0 (pa_cons (pv 0) pa_nil)))) (pss_one ps_never) pss_nil)
      (pss_one (ps_ret (C8.pe_mk c_Book hr (by decide) (by rfl) (pa_cons (pv 0) pa_nil))))), ?_⟩
    refine ⟨_, rfl, _, rfl, .inr ⟨d, kvs, rfl, hd, by have := (ap_parts av).1.2; omega, kvOk_of (ap_parts av).2.1, fun H1 s1 => ⟨_, congrArg V.bl av, ?_⟩⟩⟩
    refine ⟨_, rfl, ?_⟩
    intro b dx hb hdx hne
    exact made_book hb hdx (s1 _ _ hd) av nd fun H2 s2 B2 => ⟨rfl, k b H2 B2 (s1.trans s2)⟩
theorem sc_require_other : FnScope ["value"] ["value"] (defScope s_require_other) := ⟨rfl, rfl, rfl, by decide +kernel, rfl, by decide +kernel, by decide +kernel⟩
theorem ok_require_other {f : Addr} {fd : FuncData} (F : Fun K "require_other" "require_other" s_require_other f fd) (T : Txt K mg C) : FnOk P w K mg base CX0 1 f fd ["value"] (spReqBook C) := by
  refine F.ok sc_require_other (fun vs H Q E h => ?_) (fun cdv A outer s H vs Q E hr h => ?_)
  · obtain ⟨b, dx, fs, rfl, _⟩ := h
    rfl
  · have hu := hu_of hr
    obtain ⟨b, dx, fs, rfl, hb, k⟩ := h
    refine ⟨_, (pss_one (ps_if (pt_not (pt_val (pe_callB (C8.call_isC T.ic) (by rfl) T.b_isinstance (by decide +kernel) (pa_cons (pv 0) (pa_cons (pe_glob (v := .ref C) rfl T.gC rfl) pa_nil))))) (pss_one ps_never) pss_nil)), ?_⟩
    refine ⟨_, rfl, b, dx, _, rfl, hb, true, rfl, ?_⟩
    exact k
theorem sc_Book___or__ : FnScope ["self", "other", "one", "two", "names", "piece"] ["self", "other"] (defScope s_Book___or__) := ⟨rfl, rfl, rfl, by decide +kernel, rfl, by decide +kernel, by decide +kernel⟩
theorem ok_Book___or__ {f : Addr} {fd : FuncData} (F : Fun K "__or__" "Book.__or__" s_Book___or__ f fd) (T : Txt K mg C) (c_require_other : HasO P w K mg base CX0 1 "require_other" ["value"] (spReqBook C)) (c_result_of : HasO P w K mg base CX0 7 "result_of" ["prices"] (spResult C)) : FnOk P w K mg base CX0 8 f fd ["self", "other"] (spOrB C) := by
  refine F.ok sc_Book___or__ (fun vs H Q E h => ?_) (fun cdv A outer s H vs Q E hr h => ?_)
  · obtain ⟨a, b, k1, k2, U, SG, c0, rfl, _⟩ := h
    rfl
  · have hu := hu_of hr
    obtain ⟨a, b, k1, k2, U, SG, c0, rfl, B1, B2, f1, f2, hU, hS, hl, k⟩ := h
    refine ⟨_, (pss_cons (ps_expr (pe_hasO c_require_other (hr.mono (by decide)) pass0 (pa_cons (pv 1) pa_nil)))
      (pss_cons (ps_asg (pe_tup (pa_cons (g_fld K (pv 0)) (pa_cons (g_fld K (pv 1)) pa_nil))) (g_tup K (n := 2) rfl (pgs_cons (pg_name (i := 2) sc_Book___or__.nd rfl (Or.inr rfl)) (pgs_cons (pg_name (i := 3) sc_Book___or__.nd rfl (Or.inr rfl)) pgs_nil))))
      (pss_cons (ps_set (i := 4) sc_Book___or__.nd rfl (Or.inl rfl) (pe_callB (g_sortSs P w rfl) (by rfl) T.b_sorted (by decide +kernel) (pa_cons (pe_op (g_orSs P w) (pe_callTy (g_setTt K P w rfl) (by rfl) T.b_set (by decide +kernel) (pa_cons (g_fld K (pv 0)) pa_nil)) (pe_callTy (g_setTt K P w rfl) (by rfl) T.b_set (by decide +kernel) (pa_cons (g_fld K (pv 1)) pa_nil))) pa_nil)))
      (pss_one (ps_ret (pe_hasO c_result_of (hr.mono (by decide)) pass0 (pa_cons (pe_dc (own := [("piece", 5)]) rfl sc_Book___or__.nd (g_list K (pv 4)) (blkOk_by (own := [("piece", 5)]) (N := ["self", "other", "one", "two", "names", "piece"]) (sc := defScope s_Book___or__) (by decide +kernel)) (fun _ _ _ _ _ => (pg_name (i := 5) sc_Book___or__.nd rfl (Or.inl rfl))) (fun _ _ _ _ _ => pts_nil) (fun _ _ _ _ _ => (pv 5)) (fun _ _ _ _ _ => (pe_callB (call_min2 rfl) (by rfl) T.b_min (by decide +kernel) (pa_cons (pe_dget2 hu (pv 2) (pv 5) (pe_glob (v := .int 99) rfl T.g_MAX_PRICE.choose_spec ⟨_, rfl⟩) ⟨by rfl, by rfl, by rfl, by rfl⟩) (pa_cons (pe_dget2 hu (pv 3) (pv 5) (pe_glob (v := .int 99) rfl T.g_MAX_PRICE.choose_spec ⟨_, rfl⟩) ⟨by rfl, by rfl, by rfl, by rfl⟩) pa_nil))))) pa_nil))))))), ?_⟩
    obtain ⟨av1, nd1, ys1, L1, M1, dx1, d1, tp1, ta1, od1, pm1, so1, A1⟩ := id B1
    obtain ⟨av2, nd2, ys2, L2', M2, dx2, d2, tp2, ta2, od2, pm2, so2, A2⟩ := id B2
    have al1 := (ap_parts av1).2.1
    have al2 := (ap_parts av2).2.1
    have ndy1 : ys1.Nodup := pm1.nodup_iff.mpr (keys_nd al1 nd1)
    have ndy2 : ys2.Nodup := pm2.nodup_iff.mpr (keys_nd al2 nd2)
    have pi1 : H tp1 = some (.tup (ys1.map V.str)) := by
      rw [A1.pi]
      unfold psOf
      rw [List.map_map]
      rfl
    have pi2 : H tp2 = some (.tup (ys2.map V.str)) := by
      rw [A2.pi]
      unfold psOf
      rw [List.map_map]
      rfl
    
    refine ⟨_, rfl, b, dx2, _, rfl, A2.ob, ?_⟩
    refine ⟨_, rfl, a, C, dx1, _, _, rfl, A1.ob, T.cl, T.n_own_prices, bf_prices, _, rfl, b, C, dx2, _, _, rfl, A2.ob, T.cl, T.n_own_prices, bf_prices, by show 2 ≤ sizeLine; decide, fun tt htt => ?_⟩
    refine ⟨tt, _, rfl, SqT.of upd_same, rfl, _, _, rfl, _, _, rfl, rfl, ?_⟩
    have s1 := same_new htt (o := .tup [V.ref d1, .ref d2])
    generalize (upd H tt _) = H1 at s1 ⊢
    have A1' := A1.same s1
    have A2' := A2.same s1
    have ly1 : ys1.length ≤ 12 := by
      have h := congrArg List.length (keys_of al1)
      rw [List.length_map, List.length_map] at h
      have := (ap_parts av1).1.2
      rw [pm1.length_eq]
      omega
    have ly2 : ys2.length ≤ 12 := by
      have h := congrArg List.length (keys_of al2)
      rw [List.length_map, List.length_map] at h
      have := (ap_parts av2).1.2
      rw [pm2.length_eq]
      omega
    have in1 : ∀ z, z ∈ ys1 ↔ ∃ p, tfD k1 z = some p := fun z => pm1.mem_iff.trans (tf_key al1)
    have in2 : ∀ z, z ∈ ys2 ↔ ∃ p, tfD k2 z = some p := fun z => pm2.mem_iff.trans (tf_key al2)
    refine ⟨_, rfl, a, C, dx1, _, _, rfl, A1'.ob, T.cl, T.n_own_pieces, bf_pieces, tp1, ys1, rfl, SqT.of (s1 _ _ pi1), by omega, fun p1 l1 hp1 o1 => ?_⟩
    have s2 := same_new hp1 (o := SsO P w p1 l1)
    have q1 : (upd H1 p1 (SsO P w p1 l1)) p1 = some (SsO P w p1 l1) := upd_same
    generalize (upd H1 p1 _) = H2 at s2 q1 ⊢
    have A2'' := A2'.same s2
    refine ⟨_, rfl, b, C, dx2, _, _, rfl, A2''.ob, T.cl, T.n_own_pieces, bf_pieces, tp2, ys2, rfl, SqT.of (s2 _ _ (s1 _ _ pi2)), by omega, fun p2 l2 hp2 o2 => ?_⟩
    have ne21 : p2 ≠ p1 := fun e => by
      rw [e, q1] at hp2
      cases hp2
    have s3 := same_new hp2 (o := SsO P w p2 l2)
    have q2 : (upd H2 p2 (SsO P w p2 l2)) p2 = some (SsO P w p2 l2) := upd_same
    have q1' := s3 _ _ q1
    generalize (upd H2 p2 _) = H3 at s3 q2 q1' ⊢
    have n1 : l1 ≠ [] := fun e => by
      have h := (o1.2.2 (ch c0)).mpr ((in1 _).mpr f1.one)
      rw [e] at h
      cases h
    have n2 : l2 ≠ [] := fun e => by
      have h := (o2.2.2 (ch c0)).mpr ((in2 _).mpr f2.one)
      rw [e] at h
      cases h
    have b1 := o1.2.1
    have b2 := o2.2.1
    refine ⟨p1, p2, l1, l2, rfl, rfl, q1', q2, ne21, n1, n2, by omega, by omega, o1.1, fun p3 l3 hp3 nd3 len3 mem3 => ?_⟩
    have s4 := same_new hp3 (o := SsO P w p3 l3)
    have q3 : (upd H3 p3 (SsO P w p3 l3)) p3 = some (SsO P w p3 l3) := upd_same
    generalize (upd H3 p3 _) = H4 at s4 q3 ⊢
    refine ⟨p3, l3, rfl, q3, by omega, fun p4 names hp4 pmn son => ?_⟩
    have s5 := same_new hp4 (o := .lst (names.map V.str))
    have q4 : (upd H4 p4 (.lst (names.map V.str))) p4 = some (.lst (names.map V.str)) := upd_same
    generalize (upd H4 p4 _) = H5 at s5 q4 ⊢
    have ndn : names.Nodup := pmn.nodup_iff.mpr nd3
    have f3 := f1.or f2
    have hn : ∀ z, z ∈ names ↔ ∃ p, orT (tfD k1) (tfD k2) z = some p := fun z => by
      rw [pmn.mem_iff, mem3, o1.2.2, o2.2.2, in1, in2]
      constructor
      · rintro (⟨p, hp⟩ | ⟨p, hp⟩)
        · obtain ⟨x, hx, _⟩ := orO_is (b := tfD k2 z) (Or.inl hp)
          exact ⟨x, hx⟩
        · obtain ⟨x, hx, _⟩ := orO_is (a := tfD k1 z) (Or.inr hp)
          exact ⟨x, hx⟩
      · rintro ⟨p, hp⟩
        exact (orO_some hp).elim (fun h => .inl ⟨p, h⟩) fun h => .inr ⟨p, h⟩
    have s15 := (((s1.trans s2).trans s3).trans s4).trans s5
    have lnn : names.length ≤ 24 := by
      rw [pmn.length_eq]
      omega
    refine ⟨_, rfl, p4, rfl, ⟨_, SqL.of q4⟩, fun D hD => ?_⟩
    refine dcs names (walk_listF (K := K) V.str names) (fun z => (Sum.inr z, .int ((orT (tfD k1) (tfD k2) z).getD 0))) (nd_map (f := fun z : Str => (Sum.inr z : Key)) (fun _ _ h => Sum.inr.inj h) ndn) hD (by omega) (fun H' s => SqL.of (s _ _ q4)) ?_ ?_
    · rintro i z x H6 H7 hi s6 ⟨rfl, z', ez, rfl⟩ N M hN
      have e1 : z = z' := Option.some.inj (hi.symm.trans ez)
      subst e1
      obtain ⟨pz, hpz⟩ := (hn z).mp (List.mem_of_getElem? hi)
      have sA := s15.trans s6
      have t1 := tar_book av1 pm1
      have t2 := tar_book av2 pm2
      have v1 := val_tf t1 z
      have v2 := val_tf t2 z
      rw [tf_psOf al1 pm1] at v1
      rw [tf_psOf al2 pm2] at v2
      have em := min_or (F := tfD k1) (G := tfD k2) (fun p h => (f1.good.pos z p h).2) (fun p h => (f2.good.pos z p h).2) hpz
      refine ⟨wipe_set, _, rfl, _, rfl, d1, rfl, .inl ⟨_, .inr ⟨od1, sA _ _ A1.dc⟩⟩, _, rfl, _, .inl ⟨_, Sum.inr z, .inr ⟨od1, sA _ _ A1.dc⟩, rfl, rfl⟩, _, rfl, d2, rfl, .inl ⟨_, .inr ⟨od2, sA _ _ A2.dc⟩⟩, _, rfl, _, .inl ⟨_, Sum.inr z, .inr ⟨od2, sA _ _ A2.dc⟩, rfl, rfl⟩, (tfD k1 z).getD 99, (tfD k2 z).getD 99, ?_, ?_⟩
      · rw [v1, v2]
        cases tfD k1 z <;> cases tfD k2 z <;> rfl
      · rw [em]
        exact hN _ (Same.refl _)
    intro H6 s6 e6
    obtain ⟨av3, nd3', tf3⟩ := fit_book f3 hU hS hl ndn hn rfl
    exact ⟨D, _, rfl, e6, av3, nd3', fun p H7 B7 s7 => k p _ H7 B7 tf3 ((s15.trans s6).trans s7)⟩
theorem sc_Book___and__ : FnScope ["self", "other", "one", "two", "piece"] ["self", "other"] (defScope s_Book___and__) := ⟨rfl, rfl, rfl, by decide +kernel, rfl, by decide +kernel, by decide +kernel⟩
theorem ok_Book___and__ {f : Addr} {fd : FuncData} (F : Fun K "__and__" "Book.__and__" s_Book___and__ f fd) (T : Txt K mg C) (c_require_other : HasO P w K mg base CX0 1 "require_other" ["value"] (spReqBook C)) (c_result_of : HasO P w K mg base CX0 7 "result_of" ["prices"] (spResult C)) : FnOk P w K mg base CX0 8 f fd ["self", "other"] (spAndB C) := by
  refine F.ok sc_Book___and__ (fun vs H Q E h => ?_) (fun cdv A outer s H vs Q E hr h => ?_)
  · obtain ⟨a, b, k1, k2, U, SG, c0, rfl, _⟩ := h
    rfl
  · have hu := hu_of hr
    obtain ⟨a, b, k1, k2, U, SG, c0, rfl, B1, B2, f1, f2, hU, hS, hl, k⟩ := h
    refine ⟨_, (pss_cons (ps_expr (pe_hasO c_require_other (hr.mono (by decide)) pass0 (pa_cons (pv 1) pa_nil)))
      (pss_cons (ps_asg (pe_tup (pa_cons (g_fld K (pv 0)) (pa_cons (g_fld K (pv 1)) pa_nil))) (g_tup K (n := 2) rfl (pgs_cons (pg_name (i := 2) sc_Book___and__.nd rfl (Or.inr rfl)) (pgs_cons (pg_name (i := 3) sc_Book___and__.nd rfl (Or.inr rfl)) pgs_nil))))
      (pss_one (ps_ret (pe_hasO c_result_of (hr.mono (by decide)) pass0 (pa_cons (pe_dc (own := [("piece", 4)]) rfl sc_Book___and__.nd (g_tuple K (g_fld K (pv 0))) (blkOk_by (own := [("piece", 4)]) (N := ["self", "other", "one", "two", "piece"]) (sc := defScope s_Book___and__) (by decide +kernel)) (fun _ _ _ _ _ => (pg_name (i := 4) sc_Book___and__.nd rfl (Or.inl rfl))) (fun _ _ _ _ _ => (pts_one (pt_cmp (pc_din hu (pv 4) (pv 3))))) (fun _ _ _ _ _ => (pv 4)) (fun _ _ _ _ _ => (pe_callB (call_max2 rfl) (by rfl) T.b_max (by decide +kernel) (pa_cons (pe_dget hu (pv 2) (pv 4) (fun _ _ => rfl)) (pa_cons (pe_dget hu (pv 3) (pv 4) (fun _ _ => rfl)) pa_nil))))) pa_nil)))))), ?_⟩
    obtain ⟨av1, nd1, ys1, L1, M1, dx1, d1, tp1, ta1, od1, pm1, so1, A1⟩ := id B1
    obtain ⟨av2, nd2, ys2, L2', M2, dx2, d2, tp2, ta2, od2, pm2, so2, A2⟩ := id B2
    have al1 := (ap_parts av1).2.1
    have al2 := (ap_parts av2).2.1
    have ndy1 : ys1.Nodup := pm1.nodup_iff.mpr (keys_nd al1 nd1)
    have ndy2 : ys2.Nodup := pm2.nodup_iff.mpr (keys_nd al2 nd2)
    have pi1 : H tp1 = some (.tup (ys1.map V.str)) := by
      rw [A1.pi]
      unfold psOf
      rw [List.map_map]
      rfl
    have pi2 : H tp2 = some (.tup (ys2.map V.str)) := by
      rw [A2.pi]
      unfold psOf
      rw [List.map_map]
      rfl
    
    have ly1 : ys1.length ≤ 12 := by
      have h := congrArg List.length (keys_of al1)
      rw [List.length_map, List.length_map] at h
      have := (ap_parts av1).1.2
      rw [pm1.length_eq]
      omega
    have in1 : ∀ z, z ∈ ys1 ↔ ∃ p, tfD k1 z = some p := fun z => pm1.mem_iff.trans (tf_key al1)
    refine ⟨_, rfl, b, dx2, _, rfl, A2.ob, ?_⟩
    refine ⟨_, rfl, a, C, dx1, _, _, rfl, A1.ob, T.cl, T.n_own_prices, bf_prices, _, rfl, b, C, dx2, _, _, rfl, A2.ob, T.cl, T.n_own_prices, bf_prices, by show 2 ≤ sizeLine; decide, fun tt htt => ?_⟩
    refine ⟨tt, _, rfl, SqT.of upd_same, rfl, _, _, rfl, _, _, rfl, rfl, ?_⟩
    have s1 := same_new htt (o := .tup [V.ref d1, .ref d2])
    generalize (upd H tt _) = H1 at s1 ⊢
    have A1' := A1.same s1
    have q1 := s1 _ _ pi1
    have f3 := f1.and f2
    refine ⟨_, rfl, a, C, dx1, _, _, rfl, A1'.ob, T.cl, T.n_own_pieces, bf_pieces, tp1, rfl, ⟨_, SqT.of q1⟩, fun D hD => ?_⟩
    refine dcsF ys1 (walk_tupF (K := K) V.str ys1) (fun z => (tfD k2 z).isSome) (fun z => (Sum.inr z, .int ((andT (tfD k1) (tfD k2) z).getD 0))) (nd_map (f := fun z : Str => (Sum.inr z : Key)) (fun _ _ h => Sum.inr.inj h) ndy1) hD (by omega) (fun H' s => SqT.of (s _ _ q1)) ?_ ?_
    · rintro i z x H6 H7 hi s6 ⟨rfl, z', ez, rfl⟩ N M hN hM
      have e1 : z = z' := Option.some.inj (hi.symm.trans ez)
      subst e1
      obtain ⟨pz, hpz⟩ := (in1 z).mp (List.mem_of_getElem? hi)
      have sA := s1.trans s6
      have t1 := tar_book av1 pm1
      have t2 := tar_book av2 pm2
      have v1 := val_tf t1 z
      have v2 := val_tf t2 z
      rw [tf_psOf al1 pm1, hpz] at v1
      rw [tf_psOf al2 pm2] at v2
      refine ⟨wipe_set, _, rfl, _, rfl, d2, _, rfl, .inl ⟨_, Sum.inr z, .inr ⟨od2, sA _ _ A2.dc⟩, rfl, rfl⟩, ?_⟩
      rw [v2]
      cases e2 : tfD k2 z with
      | none => exact ⟨false, rfl, hM _ (by rw [e2]; rfl) (Same.refl _)⟩
      | some qz =>
        rw [e2] at v2
        refine ⟨true, rfl, ?_⟩
        refine ⟨_, rfl, _, rfl, _, rfl, d1, _, rfl, .inl ⟨_, Sum.inr z, .inr ⟨od1, sA _ _ A1.dc⟩, rfl, v1.symm⟩, _, rfl, _, rfl, d2, _, rfl, .inl ⟨_, Sum.inr z, .inr ⟨od2, sA _ _ A2.dc⟩, rfl, v2.symm⟩, pz, qz, rfl, ?_⟩
        have em : (if qz > pz then qz else pz) = (andT (tfD k1) (tfD k2) z).getD 0 := by
          unfold andT
          rw [hpz, e2]
          show _ = if pz ≤ qz then qz else pz
          split <;> split <;> omega
        rw [em]
        exact hN _ (by rw [e2]; rfl) (Same.refl _)
    intro H6 s6 e6
    have hn : ∀ z, z ∈ (ys1.filter fun z => (tfD k2 z).isSome) ↔ ∃ p, andT (tfD k1) (tfD k2) z = some p := fun z => by
      rw [List.mem_filter, in1]
      constructor
      · rintro ⟨⟨p, hp⟩, h⟩
        obtain ⟨q, hq⟩ := Option.isSome_iff_exists.mp h
        obtain ⟨u, hu, _⟩ := andO_is hp hq
        exact ⟨u, hu⟩
      · rintro ⟨p, hp⟩
        obtain ⟨q, r, h1, h2, _⟩ := andO_some hp
        exact ⟨⟨q, h1⟩, by rw [h2]; rfl⟩
    obtain ⟨av3, nd3', tf3⟩ := fit_book f3 hU hS hl (ndy1.filter fun z => (tfD k2 z).isSome) hn rfl
    exact ⟨D, _, rfl, e6, av3, nd3', fun p H7 B7 s7 => k p _ H7 B7 tf3 ((s1.trans s6).trans s7)⟩
theorem sc_Book___eq__ : FnScope ["self", "other"] ["self", "other"] (defScope s_Book___eq__) := ⟨rfl, rfl, rfl, by decide +kernel, rfl, by decide +kernel, by decide +kernel⟩
theorem ok_Book___eq__ {f : Addr} {fd : FuncData} (F : Fun K "__eq__" "Book.__eq__" s_Book___eq__ f fd) (T : Txt K mg C) : FnOk P w K mg base CX0 1 f fd ["self", "other"] (spEqG C) := by
  refine F.ok sc_Book___eq__ (fun vs H Q E h => ?_) (fun cdv A outer s H vs Q E hr h => ?_)
  · obtain ⟨a, b, k1, k2, rfl, _⟩ := h
    rfl
  · have hu := hu_of hr
    obtain ⟨a, b, k1, k2, rfl, B1, B2, k⟩ := h
    refine ⟨_, (pss_one (ps_ret (pe_and (pe_callB (C8.call_isC T.ic) (by rfl) T.b_isinstance (by decide +kernel) (pa_cons (pv 1) (pa_cons (pe_glob (v := .ref C) rfl T.gC rfl) pa_nil))) (pe_one (pe_cmpR (op_eqDG hr.units) (g_fld K (pv 0)) (g_fld K (pv 1)) (nomark _)))))), ?_⟩
    obtain ⟨av1, nd1, ys1, L1, M1, dx1, d1, tp1, ta1, od1, pm1, so1, A1⟩ := id B1
    obtain ⟨av2, nd2, ys2, L2', M2, dx2, d2, tp2, ta2, od2, pm2, so2, A2⟩ := id B2
    have al1 := (ap_parts av1).2.1
    have al2 := (ap_parts av2).2.1
    have ndy1 : ys1.Nodup := pm1.nodup_iff.mpr (keys_nd al1 nd1)
    have ndy2 : ys2.Nodup := pm2.nodup_iff.mpr (keys_nd al2 nd2)
    have pi1 : H tp1 = some (.tup (ys1.map V.str)) := by
      rw [A1.pi]
      unfold psOf
      rw [List.map_map]
      rfl
    have pi2 : H tp2 = some (.tup (ys2.map V.str)) := by
      rw [A2.pi]
      unfold psOf
      rw [List.map_map]
      rfl
    
    refine ⟨_, rfl, b, dx2, _, rfl, A2.ob, true, rfl, ?_⟩
    refine ⟨_, rfl, a, C, dx1, _, _, rfl, A1.ob, T.cl, T.n_own_prices, bf_prices, _, rfl, b, C, dx2, _, _, rfl, A2.ob, T.cl, T.n_own_prices, bf_prices, d1, d2, _, _, rfl, rfl, .inr ⟨od1, A1.dc⟩, .inr ⟨od2, A2.dc⟩, (tar_book av1 pm1).allI, (tar_book av2 pm2).allI, ?_⟩
    refine k _ ((eqD_iff (books_nodup ndy1) (books_nodup ndy2) (tar_book av1 pm1) (tar_book av2 pm2)).trans ?_)
    rw [tf_psOf al1 pm1, tf_psOf al2 pm2]
theorem sc__law_dice : FnScope ["script", "spot", "cell", "whole"] ["script", "spot"] (defScope s__law_dice) := ⟨rfl, rfl, rfl, by decide +kernel, rfl, by decide +kernel, by decide +kernel⟩
theorem ok__law_dice {f : Addr} {fd : FuncData} (F : Fun K "_law_dice" "_law_dice" s__law_dice f fd) (T : Txt K mg C) : FnG P w K mg base CX0 1 f fd ["script", "spot"] (spDice K) := by
  refine fn_g0 F sc__law_dice (fun vs H Q E h => ?_) (fun cdv A outer s H vs Q E hg hr h => ?_)
  · obtain ⟨a, ns, s, rfl, _⟩ := h
    rfl
  · have hu := hu_of hr
    obtain ⟨a, ns, s, rfl, hS, hn, hs0, hs1, k⟩ := h
    refine ⟨_, (pss_cons (ps_set (i := 2) sc__law_dice.nd rfl (Or.inl rfl) (pe_ifExp (pt_cmpR op_lt (pv 1) (pe_callB (g_len_seq K) (by rfl) T.b_len (by decide +kernel) (pa_cons (pv 0) pa_nil)) (nomark _)) (pe_ix (g_ix_list K) (pv 0) (pv 1) (fun _ _ => rfl)) (pe_op op_add (pe_op op_mulW pe_int (pv 1)) pe_int)))
      (pss_cons (ps_set (i := 3) sc__law_dice.nd rfl (Or.inl rfl) (pe_op op_mod (pe_callTy call_int1 (by rfl) T.b_int (by decide +kernel) (pa_cons (pe_callB call_abs (by rfl) T.b_abs (by decide +kernel) (pa_cons (pv 2) pa_nil)) pa_nil)) (pe_op op_powW (pe_op op_powW pe_int pe_int) pe_int)))
      (pss_one (ps_ret (pe_lst (pa_cons (pe_ifExp (pt_cmpR op_ge (pv 3) (pe_op op_powW pe_int pe_int) (nomark _)) (pv 3) pe_int) (pa_cons (pe_op op_add (pe_op op_add (pe_op op_add (pe_op op_mulW pe_int (pv 3)) (pe_callTy call_int1 (by rfl) T.b_int (by decide +kernel) (pa_cons (pe_cmpR op_lt (pv 2) pe_int (nomark _)) pa_nil))) (pe_op op_mulW pe_int (pv 1))) pe_int) (pa_cons pe_int pa_nil)))))))), ?_⟩
    refine tif_int (c := decide (s < ((ns.map V.int).length : Int))) (fun _ => True) (fun N hN => ?_) (fun e N hN => ?_) (fun e N hN => ?_) (fun cell _ => ?_)
    · exact ⟨_, rfl, _, rfl, _, _, rfl, .inl hS, _, _, rfl, rfl, _, rfl, hN⟩
    · have e1 : s.toNat < ns.length := by
        have := of_decide_eq_true e
        rw [List.length_map] at this
        omega
      refine ⟨_, rfl, _, rfl, _, _, _, _, rfl, rfl, hS, at_of (j := s.toNat) (by omega) (by rw [List.getElem?_map, List.getElem?_eq_getElem e1]; rfl), ?_⟩
      exact hN _ trivial
    · refine ⟨_, rfl, _, _, rfl, rfl, wide_mul (a := 8) (b := 8) (by decide) (by omega) (by decide) (by decide) (by decide), _, _, rfl, rfl, ?_⟩
      exact hN _ trivial
    · -- whole
      refine ⟨_, rfl, _, rfl, .inl ⟨_, rfl, _, _, rfl, rfl, ⟨by decide, by decide +kernel⟩, _, _, rfl, rfl, ⟨by decide, by decide +kernel⟩, _, _, rfl, rfl, (show (0 : Int) < ((10 : Int) ^ (57 : Int).toNat) ^ (11 : Int).toNat by decide +kernel), ?_⟩⟩
      have wb := big_mod (x := if cell < 0 then -cell else cell) (m := ((10 : Int) ^ (57 : Int).toNat) ^ (11 : Int).toNat) (by decide +kernel) (by decide +kernel)
      dsimp only [gName, tRet, tLst, tCons]
      generalize (if cell < 0 then -cell else cell) % ((10 : Int) ^ (57 : Int).toNat) ^ (11 : Int).toNat = whole at wb ⊢
      obtain ⟨w0, w1⟩ := wb
      refine tif_int (c := decide ((10 : Int) ^ (18 : Int).toNat ≤ whole)) Big (fun N hN => ?_) (fun e N hN => ?_) (fun e N hN => ?_) (fun d0 b0 => ?_)
      · exact ⟨_, rfl, _, _, rfl, rfl, ⟨by decide, by decide +kernel⟩, _, _, rfl, rfl, _, rfl, hN⟩
      · exact ⟨_, rfl, hN _ (big_of w0 w1)⟩
      · exact hN _ big_zero
      refine ⟨_, rfl, _, _, rfl, rfl, wide_mul (a := 2) (b := 2420) (by decide) w1 (by decide) (by decide) (by decide), _, rfl, _, _, rfl, rfl, .inr ⟨_, rfl, _, _, rfl, rfl, ?_⟩⟩
      refine ⟨_, rfl, _, _, rfl, rfl, wide_mul (a := 20) (b := 8) (by decide) (by omega) (by decide) (by decide) (by decide), _, _, rfl, rfl, _, _, rfl, rfl, ?_⟩
      refine ⟨(by show 3 ≤ sizeLine; decide), fun p hp => ?_⟩
      refine k p _ hp (same_new hp) ⟨_, _, _, upd_same, b0, big_seed w0 w1 ?_ ⟨hs0, by omega⟩, Int.le_refl _, by omega⟩
      by_cases hc : cell < 0
      · rw [decide_eq_true hc]; exact ⟨by decide, by decide⟩
      · rw [decide_eq_false hc]; exact ⟨by decide, by decide⟩
theorem sc__law_roll : FnScope ["dice", "upto", "found", "one", "two"] ["dice", "upto"] (defScope s__law_roll) := ⟨rfl, rfl, rfl, by decide +kernel, rfl, by decide +kernel, by decide +kernel⟩
theorem ok__law_roll {f : Addr} {fd : FuncData} (F : Fun K "_law_roll" "_law_roll" s__law_roll f fd) (T : Txt K mg C) : FnG P w K mg base CX0 1 f fd ["dice", "upto"] (spRoll) := by
  refine fn_g0 F sc__law_roll (fun vs H Q E h => ?_) (fun cdv A outer s H vs Q E hg hr h => ?_)
  · obtain ⟨l, u, n, rfl, _⟩ := h
    rfl
  · have hu := hu_of hr
    obtain ⟨l, u, n, rfl, hu0, hu1, ⟨d0, d1, d2, hD, b0, b1, p2, q2⟩, k⟩ := h
    refine ⟨_, (pss_cons (ps_if (pt_cmpR op_gt (pe_ix (g_ix_list K) (pv 0) pe_int (fun _ _ => rfl)) pe_int (nomark _)) (pss_cons (ps_set (i := 2) sc__law_roll.nd rfl (Or.inl rfl) (pe_op op_mod (pe_callTy call_int1 (by rfl) T.b_int (by decide +kernel) (pa_cons (pe_ix (g_ix_list K) (pv 0) pe_int (fun _ _ => rfl)) pa_nil)) (pv 1)))
      (pss_cons (ps_asg (pe_op op_fdivW (pe_ix (g_ix_list K) (pv 0) pe_int (fun _ _ => rfl)) (pv 1)) (pg_sub (pv 0) pe_int set_list))
      (pss_one (ps_ret (pv 2))))) pss_nil)
      (pss_cons (ps_asg (pe_op op_add (pe_ix (g_ix_list K) (pv 0) pe_int (fun _ _ => rfl)) pe_int) (pg_sub (pv 0) pe_int set_list))
      (pss_cons (ps_set (i := 3) sc__law_roll.nd rfl (Or.inl rfl) (pe_op op_mod (pe_callTy call_int1 (by rfl) T.b_int (by decide +kernel) (pa_cons (pe_op op_add (pe_op op_mulW (pe_ix (g_ix_list K) (pv 0) pe_int (fun _ _ => rfl)) pe_int) (pe_op op_mulW (pe_ix (g_ix_list K) (pv 0) pe_int (fun _ _ => rfl)) pe_int)) pa_nil)) pe_int))
      (pss_cons (ps_set (i := 4) sc__law_roll.nd rfl (Or.inl rfl) (pe_op op_mod (pe_callTy call_int1 (by rfl) T.b_int (by decide +kernel) (pa_cons (pe_op op_add (pe_op op_mulW (pv 3) (pv 3)) (pe_op op_mulW (pe_ix (g_ix_list K) (pv 0) pe_int (fun _ _ => rfl)) pe_int)) pa_nil)) pe_int))
      (pss_one (ps_ret (pe_op op_mod (pe_callTy call_int1 (by rfl) T.b_int (by decide +kernel) (pa_cons (pe_op op_fdivW (pe_op op_mod (pe_callTy call_int1 (by rfl) T.b_int (by decide +kernel) (pa_cons (pe_op op_add (pe_op op_mulW (pv 4) (pv 4)) (pv 3)) pa_nil)) pe_int) pe_int) pa_nil)) (pv 1)))))))), ?_⟩
    refine ⟨_, rfl, _, _, _, _, rfl, rfl, SqL.of hD, rfl, _, _, rfl, rfl, _, rfl, ?_⟩
    have u0 : 0 < u := by omega
    refine itB (fun e => ?_) (fun e => ?_)
    · refine ⟨_, rfl, _, _, _, _, rfl, rfl, SqL.of hD, rfl, .inl ⟨_, rfl, _, rfl, _, _, rfl, rfl, u0, ?_⟩⟩
      refine ⟨_, rfl, _, _, _, _, rfl, rfl, SqL.of hD, rfl, _, rfl, _, _, rfl, rfl, wide_div (b := 64) u0 (by omega) (by decide) (by decide), ?_⟩
      refine ⟨_, rfl, _, _, _, _, rfl, rfl, hD, rfl, ?_⟩
      refine ⟨_, rfl, ?_⟩
      exact k _ _ (Int.emod_nonneg _ (by omega)) (Int.emod_lt_of_pos _ u0) Kp.upd ⟨_, _, _, upd_same, big_div b0 hu0, b1, p2, by omega⟩
    · refine ⟨_, rfl, _, _, _, _, rfl, rfl, SqL.of hD, rfl, _, _, rfl, rfl, _, rfl, _, _, _, _, rfl, rfl, hD, rfl, ?_⟩
      have hD2 : upd H l (.lst [.int d0, .int d1, .int (d2 + 1)]) l = some (.lst [.int d0, .int d1, .int (d2 + 1)]) := upd_same
      refine ⟨_, rfl, _, _, _, _, rfl, rfl, SqL.of hD2, rfl, _, _, rfl, rfl, wide_mul (a := 2500) (b := 40) b1.2 (by decide) (by decide) (by decide) (by decide), ?_⟩
      refine ⟨_, rfl, _, _, _, _, rfl, rfl, SqL.of hD2, rfl, _, _, rfl, rfl, wide_mul (a := 64) (b := 40) (by omega) (by decide) (by decide) (by decide) (by decide), _, _, rfl, rfl, .inl ⟨_, rfl, _, _, rfl, rfl, (show (0 : Int) < 2305843009213693951 by decide), ?_⟩⟩
      have o1 := Int.emod_nonneg (d1 * 25214903917 + (d2 + 1) * 40692) (by decide : (2305843009213693951 : Int) ≠ 0)
      have o2 := Int.emod_lt_of_pos (d1 * 25214903917 + (d2 + 1) * 40692) (by decide : (0 : Int) < 2305843009213693951)
      dsimp only
      generalize (d1 * 25214903917 + (d2 + 1) * 40692) % 2305843009213693951 = one' at o1 o2 ⊢
      refine ⟨_, rfl, _, rfl, _, _, rfl, rfl, wide_mul (a := 64) (b := 64) (by omega) (by omega) (by decide) (by decide) (by decide), ?_⟩
      refine ⟨_, rfl, _, _, _, _, rfl, rfl, SqL.of hD2, rfl, _, _, rfl, rfl, wide_mul (a := 64) (b := 40) (by omega) (by decide) (by decide) (by decide) (by decide), _, _, rfl, rfl, .inl ⟨_, rfl, _, _, rfl, rfl, (show (0 : Int) < 1152921504606846883 by decide), ?_⟩⟩
      have t1 := Int.emod_nonneg (one' * one' + (d2 + 1) * 69621) (by decide : (1152921504606846883 : Int) ≠ 0)
      have t2 := Int.emod_lt_of_pos (one' * one' + (d2 + 1) * 69621) (by decide : (0 : Int) < 1152921504606846883)
      dsimp only
      generalize (one' * one' + (d2 + 1) * 69621) % 1152921504606846883 = two' at t1 t2 ⊢
      refine ⟨_, rfl, _, rfl, _, _, rfl, rfl, wide_mul (a := 64) (b := 64) (by omega) (by omega) (by decide) (by decide) (by decide), _, rfl, _, _, rfl, rfl, .inl ⟨_, rfl, ?_⟩⟩
      refine ⟨_, _, rfl, rfl, (show (0 : Int) < 4398046511093 by decide), _, _, rfl, rfl, wide_div (b := 64) (by decide) (by decide) (by decide) (by decide), .inl ⟨_, rfl, _, rfl, _, _, rfl, rfl, u0, ?_⟩⟩
      exact k _ _ (Int.emod_nonneg _ (by omega)) (Int.emod_lt_of_pos _ u0) Kp.upd ⟨_, _, _, hD2, b0, b1, by omega, by omega⟩
theorem sc__law_pick : FnScope ["dice", "items"] ["dice", "items"] (defScope s__law_pick) := ⟨rfl, rfl, rfl, by decide +kernel, rfl, by decide +kernel, by decide +kernel⟩
theorem ok__law_pick {f : Addr} {fd : FuncData} (F : Fun K "_law_pick" "_law_pick" s__law_pick f fd) (T : Txt K mg C) (c__law_roll : Has P w K mg base CX0 1 "_law_roll" ["dice", "upto"] (spRoll)) : FnG P w K mg base CX0 2 f fd ["dice", "items"] (spPick K) := by
  refine fn_g0 F sc__law_pick (fun vs H Q E h => ?_) (fun cdv A outer s H vs Q E hg hr h => ?_)
  · obtain ⟨l, x, ys, n, rfl, _⟩ := h
    rfl
  · have hu := hu_of hr
    obtain ⟨l, x, ys, n, rfl, S, ne, hl, D, k⟩ := h
    have hpos : 0 < ys.length := List.length_pos_iff.mpr ne
    refine ⟨_, (pss_one (ps_ret (pe_ix (g_ix_seq K) (pv 1) (pe_has c__law_roll hg (hr.mono (by decide)) pass0 (pa_cons (pv 0) (pa_cons (pe_callB (g_len K) (by rfl) T.b_len (by decide +kernel) (pa_cons (pv 1) pa_nil)) pa_nil))) (fun _ _ => rfl)))), ?_⟩
    have hlen : LenV K x H ys.length := by
      cases S with
      | lst _ h => exact .inl ⟨_, h, rfl⟩
      | tup _ h => exact .inr ⟨_, h, rfl⟩
      | str h e => exact ⟨fits_sz (by omega), by rw [e, signsV_len]⟩
    refine ⟨_, rfl, _, rfl, _, rfl, _, _, rfl, hlen, l, _, n, rfl, by omega, by omega, D, fun r H' r0 r1 kp D' => ?_⟩
    have hr1 : r.toNat < ys.length := by omega
    have hat : ys[r.toNat]? = some ys[r.toNat] := List.getElem?_eq_getElem hr1
    have hmem : ys[r.toNat] ∈ ys := List.getElem_mem hr1
    cases S with
    | lst n h => exact .inl ⟨_, _, _, _, rfl, rfl, kp.seq n h, at_of (j := r.toNat) (by omega) hat, k _ _ hmem kp D'⟩
    | tup n h => exact .inr (.inl ⟨_, _, _, _, rfl, rfl, kp.tup n h, at_of (j := r.toNat) (by omega) hat, k _ _ hmem kp D'⟩)
    | @str z _ h e =>
      subst e
      have hc : ∃ c, (cs z)[r.toNat]? = some c := ⟨_, List.getElem?_eq_getElem (by rw [cs_len, ← signsV_len]; exact hr1)⟩
      obtain ⟨c, hc⟩ := hc
      have e2 : atI (cs z) r = some c := by
        have : r = ((r.toNat : Nat) : Int) := by omega
        rw [this]
        exact atI_nat hc
      refine .inr (.inr ⟨_, _, _, rfl, rfl, fits_sz (by omega), e2, ?_⟩)
      refine k _ _ ?_ kp D'
      unfold signsV
      exact List.mem_map.mpr ⟨c, List.mem_of_getElem? hc, rfl⟩
theorem sc__law_some : FnScope ["dice", "items", "many", "left", "found", "turn"] ["dice", "items", "many"] (defScope s__law_some) := ⟨rfl, rfl, rfl, by decide +kernel, rfl, by decide +kernel, by decide +kernel⟩
theorem ok__law_some {f : Addr} {fd : FuncData} (F : Fun K "_law_some" "_law_some" s__law_some f fd) (T : Txt K mg C) (c__law_roll : Has P w K mg base CX0 1 "_law_roll" ["dice", "upto"] (spRoll)) : FnG P w K mg base CX0 2 f fd ["dice", "items", "many"] (spSome K) := by
  refine fn_g0 F sc__law_some (fun vs H Q E h => ?_) (fun cdv A outer s H vs Q E hg hr h => ?_)
  · obtain ⟨l, x, ys, m, n, rfl, _⟩ := h
    rfl
  · have hu := hu_of hr
    obtain ⟨l, x, ys, m, n, rfl, S, hl, hm, D, k⟩ := h
    refine ⟨_, (pss_cons (ps_par (i := 3) (j := 4) (by rfl) sc__law_some.nd rfl rfl (by decide) rfl rfl (pa_cons (pe_callTy (g_list_any K rfl) (by rfl) T.b_list (by decide +kernel) (pa_cons (pv 1) pa_nil)) (pa_cons (pe_lst pa_nil) pa_nil)) (by rfl))
      (pss_cons (ps_for PassesOwn.never rfl (pi_range1 (by rfl) T.b_range (pa_cons (pe_callB (call_min2 rfl) (by rfl) T.b_min (by decide +kernel) (pa_cons (pv 2) (pa_cons (pe_callB (g_len_seq K) (by rfl) T.b_len (by decide +kernel) (pa_cons (pv 3) pa_nil)) pa_nil))) pa_nil)) (pg_name (i := 5) sc__law_some.nd rfl (Or.inl rfl)) (pss_one (ps_expr (g_bm K PySem.F.plainAttrs_list PySem.F.slot_list_append PySem.F.type_list_append mt_append (pv 4) (pa_cons (g_bm K PySem.F.plainAttrs_list PySem.F.slot_list_pop PySem.F.type_list_pop mt_popAt (pv 3) (pa_cons (pe_has c__law_roll hg (hr.mono (by decide)) pass0 (pa_cons (pv 0) (pa_cons (pe_callB (g_len_seq K) (by rfl) T.b_len (by decide +kernel) (pa_cons (pv 3) pa_nil)) pa_nil))) pa_nil)) pa_nil)))))
      (pss_one (ps_ret (pv 4))))), ?_⟩
    have hL : ∀ (Q : VK), (∀ p, H p = none → Q (.ref p) (upd H p (.lst ys))) → rListAny K [x] H Q := by
      intro Q q
      cases S with
      | lst _ h => exact .inr ⟨_, _, rfl, .inl h, q⟩
      | tup _ h => exact .inr ⟨_, _, rfl, .inr h, q⟩
      | str h e =>
        subst e
        exact .inl ⟨_, rfl, fits_sz (by omega), q⟩
    refine ⟨_, rfl, hL _ fun lf hlf => ?_⟩
    refine ⟨by show 0 ≤ sizeLine; decide, fun fo hfo => ?_⟩
    have nlf : lf ≠ l := D.ne hlf
    have nfo : fo ≠ l := (D.new hlf).ne hfo
    have nff : lf ≠ fo := ne_of_none upd_same hfo
    have hfo0 : H fo = none := (same_new hlf).free hfo
    refine ⟨_, _, rfl, ?_⟩
    have hlen : (if (ys.length : Int) < (m : Int) then (ys.length : Int) else (m : Int)) = ((min m ys.length : Nat) : Int) := by split <;> omega
    refine ⟨_, rfl, _, rfl, lf, _, rfl, .inl (SqL.of (by rw [upd_ne nff]; exact upd_same)), _, _, rfl, _, congrArg (fun i => [V.int i]) hlen, by omega, by omega, ?_⟩
    rw [Int.toNat_natCast]
    refine for_range (lo := 0) (n := min m ys.length) (fun i σ H' => ∃ t zs rest, σ = [some (.ref l), some x, some (.int (m : Int)), some (.ref lf), some (.ref fo), t] ∧ (zs ++ rest).Perm ys ∧ zs.length = i ∧ H' lf = some (.lst rest) ∧ H' fo = some (.lst zs) ∧ Kp l H H' ∧ Dice H' l (n + (m - i)))
      ⟨_, [], ys, rfl, List.Perm.refl _, rfl, by rw [upd_ne nff]; exact upd_same, upd_same, ((Kp.refl _ _).new hlf).new hfo, (D.new hlf).new hfo⟩ ?_ ?_
    · rintro i σ H1 hi ⟨t, zs, rest, rfl, pm, zl, e1, e2, kp, D1⟩
      have lrest : rest.length + i = ys.length := by
        have := pm.length_eq
        rw [List.length_append, zl] at this
        omega
      refine ⟨_, rfl, .inl ⟨rfl, _, SqL.of e2⟩, _, rfl, .inl ⟨rfl, _, SqL.of e1⟩, _, rfl, _, rfl, lf, _, rfl, .inl (SqL.of e1), l, _, n + (m - (i + 1)), rfl, by omega, by omega, D1.le (by omega), fun r H2 r0 r1 kp2 D2 => ?_⟩
      obtain ⟨y, hy⟩ : ∃ y, rest[r.toNat]? = some y := ⟨_, List.getElem?_eq_getElem (by omega)⟩
      have e1' := kp2 _ _ e1 nlf
      have e2' := kp2 _ _ e2 nfo
      refine ⟨lf, rest, r, r.toNat, y, rfl, rfl, e1', by omega, by omega, ix_pos r0 (by omega), hy, ?_⟩
      refine ⟨fo, zs, y, rfl, rfl, by rw [upd_ne nff.symm]; exact e2', small1000' (by omega), ?_⟩
      refine ⟨_, zs ++ [y], rest.eraseIdx r.toNat, rfl, ?_, ?_, ?_, upd_same, ?_, ?_⟩
      · have h := erase_perm hy
        rw [List.append_assoc]
        exact (h.append_left zs).trans pm
      · rw [List.length_append, zl]
        rfl
      · rw [upd_ne nff]
        exact upd_same
      · exact ((kp.trans kp2).mut hlf).mut hfo0
      · exact (D2.upd nlf).upd nfo
    · rintro σ H1 ⟨t, zs, rest, rfl, pm, zl, e1, e2, kp, D1⟩
      exact ⟨_, rfl, k fo zs rest H1 hfo0 pm zl e2 kp (D1.le (by omega))⟩
theorem sc_Book_alphabet : FnScope ["self"] ["self"] (defScope s_Book_alphabet) := ⟨rfl, rfl, rfl, by decide +kernel, rfl, by decide +kernel, by decide +kernel⟩
theorem ok_Book_alphabet {f : Addr} {fd : FuncData} (F : Fun K "alphabet" "Book.alphabet" s_Book_alphabet f fd) (T : Txt K mg C) : FnOk P w K mg base CX0 1 f fd ["self"] (spAlphG C) := by
  refine F.ok sc_Book_alphabet (fun vs H Q E h => ?_) (fun cdv A outer s H vs Q E hr h => ?_)
  · obtain ⟨b, kvs, rfl, _⟩ := h
    rfl
  · have hu := hu_of hr
    obtain ⟨b, kvs, rfl, B, k⟩ := h
    refine ⟨_, (pss_one (ps_ret (g_fld K (pv 0)))), ?_⟩
    obtain ⟨av, nd, ys, Lo, M, dx, d, tp, ta, od, pm, so, A⟩ := id B
    
    exact ⟨_, rfl, b, C, dx, _, _, rfl, A.ob, T.cl, T.n_own_alphabet, bf_alphabet, k ta ys pm so A.al⟩
theorem sc__law_or : FnScope ["one", "two", "found", "piece"] ["one", "two"] (defScope s__law_or) := ⟨rfl, rfl, rfl, by decide +kernel, rfl, by decide +kernel, by decide +kernel⟩
theorem ok__law_or {f : Addr} {fd : FuncData} (F : Fun K "_law_or" "_law_or" s__law_or f fd) (T : Txt K mg C) : FnG P w K mg base CX0 2 f fd ["one", "two"] (spLOr) := by
  refine fn_g0 F sc__law_or (fun vs H Q E h => ?_) (fun cdv A outer s H vs Q E hg hr h => ?_)
  · obtain ⟨a, b, k1, k2, rfl, _⟩ := h
    rfl
  · have hu := hu_of hr
    obtain ⟨a, b, k1, k2, rfl, h1, h2, av1, nd1, av2, nd2, k⟩ := h
    refine ⟨_, (pss_cons (ps_set (i := 2) sc__law_or.nd rfl (Or.inl rfl) (pe_callTy (g_dictP K rfl) (by rfl) T.b_dict (by decide +kernel) (pa_cons (LiI.pe_listItems rfl (pv 0) rfl T.b_list (by decide +kernel)) pa_nil)))
      (pss_cons (ps_lock (by exact (ps_for PassesOwn.never rfl (pi_keys (pv 1)) (pg_name (i := 3) sc__law_or.nd rfl (Or.inl rfl)) (pss_one (ps_asg (pe_callB (call_min2 rfl) (by rfl) T.b_min (by decide +kernel) (pa_cons (pe_dget hu (pv 1) (pv 3) (fun _ _ => rfl)) (pa_cons (pe_dget2 hu (pv 2) (pv 3) pe_int ⟨by rfl, by rfl, by rfl, by rfl⟩) pa_nil))) (pg_sub (pv 2) (pv 3) (set_dict hu)))))))
      (pss_one (ps_ret (pv 2))))), ?_⟩
    have T1 := tar_of av1 nd1
    have T2 := tar_of av2 nd2
    have l1 := (ap_parts av1).1.2
    have l2 := (ap_parts av2).1.2
    refine ⟨_, rfl, a, k1, rfl, h1, fun Hi il ts si hil hts nil hl hp => ?_⟩
    refine ⟨il, ts, k1, rfl, SqL.of hl, paired_imp5 (fun a b q => SqT.of q) hp, fun rd hrd => ?_⟩
    rw [merge_nd (kvs := []) (by rw [List.nil_append]; exact nd1), List.nil_append]
    have s2 : Same H (upd Hi rd (.dK k1)) := (show Same H Hi from si).trans (same_new hrd)
    have r2 : (upd Hi rd (.dK k1)) rd = some (.dK k1) := upd_same
    have rd0 : H rd = none := not_there (show Same H Hi from si) hrd
    have nrb : rd ≠ b := fun e => by
      rw [e, h2] at rd0
      cases rd0
    generalize (upd Hi rd (.dK k1)) = H2 at s2 r2 ⊢
    refine ⟨b, _, s2 _ _ h2, trivial, fun od => ?_⟩
    refine ⟨_, rfl, b, od, rfl, .inl ⟨k2, upd_same, ?_⟩⟩
    refine for_it walk_keys (fun i σ H' => ∃ (x3 : Option V) (kv : List (Key × V)), σ = [some (.ref a), some (.ref b), some (.ref rd), x3] ∧ H' b = some (.frz od (.dK k2)) ∧ H' rd = some (.dK kv) ∧ (kv.map (·.1)).Nodup ∧ TxI kv ∧ kv.length ≤ 12 + i ∧ (∀ z q, (Sum.inr z, V.int q) ∈ k2.take i → tfD kv z = orO (tfD k1 z) (tfD k2 z)) ∧ (∀ z, (∀ q, (Sum.inr z, V.int q) ∉ k2.take i) → tfD kv z = tfD k1 z) ∧ ∀ c o, H c = some o → c ≠ b → H' c = some o)
      ⟨_, k1, rfl, upd_same, by rw [upd_ne nrb]; exact r2, nd1, txi_of T1, by omega, fun _ _ h => (List.not_mem_nil h).elim, fun _ _ => rfl, fun c o hc hn => by rw [upd_ne hn]; exact s2 _ _ hc⟩ (fun i σ H' _ q => by obtain ⟨_, _, _, q, _⟩ := q; exact q) ?_ ?_
    · rintro i x σ H3 H4 hi ⟨x3, kv, rfl, e3, d3, n3, t3, l3, p3, q3, o3⟩ ⟨rfl, k', v', ek, rfl⟩
      obtain ⟨y, q, ey, hq⟩ := T2.mem _ (List.mem_of_getElem? ek)
      cases ey
      have new : ∀ q', (Sum.inr y, V.int q') ∉ k2.take i := fun q' hm => by
        obtain ⟨j, hj, e⟩ := List.mem_iff_getElem.mp hm
        rw [List.length_take] at hj
        rw [List.getElem_take] at e
        have hk := List.pairwise_iff_getElem.mp nd2 j i (by rw [List.length_map]; omega) (by rw [List.length_map]; exact hi) (by omega)
        rw [List.getElem_map, List.getElem_map, e, (List.getElem?_eq_some_iff.mp ek).2] at hk
        exact hk rfl
      have v2 : valV k2 (Sum.inr y : Key) = some (.int q) := tf_some.mp hq
      have v3 := val_ti t3 y
      rw [q3 y new] at v3
      have em : (if (tfD k1 y).getD 99 < q then (tfD k1 y).getD 99 else q) = (orO (tfD k1 y) (some q)).getD 0 ∧ orO (tfD k1 y) (some q) = some ((orO (tfD k1 y) (some q)).getD 0) := by
        have b2 := (T2.good.pos y q hq).2
        cases e1 : tfD k1 y with
        | none =>
          refine ⟨?_, rfl⟩
          show (if (99 : Int) < q then 99 else q) = q
          split <;> omega
        | some p =>
          refine ⟨?_, rfl⟩
          show (if p < q then p else q) = if p ≤ q then p else q
          split <;> split <;> omega
      refine ⟨_, rfl, _, rfl, b, _, rfl, .inl ⟨_, Sum.inr y, .inr ⟨od, e3⟩, rfl, v2.symm⟩, _, rfl, rd, rfl, .inl ⟨_, .inl d3⟩, _, rfl, _, .inl ⟨_, Sum.inr y, .inl d3, rfl, rfl⟩, q, (tfD k1 y).getD 99, ?_, ?_⟩
      · rw [v3]
        cases tfD k1 y <;> rfl
      rw [em.1]
      generalize hm : (orO (tfD k1 y) (some q)).getD 0 = m at em
      refine ⟨_, rfl, _, rfl, rd, _, rfl, .inl ⟨kv, Sum.inr y, d3, rfl, small1000' (by omega), rfl⟩, ?_⟩
      refine ⟨_, putK kv (Sum.inr y) (.int m), rfl, by rw [upd_ne nrb.symm]; exact e3, upd_same, put_nd n3, fun e he => ?_, by have := put_len (kvs := kv) (k := Sum.inr y) (v := .int m); omega, fun z q' hz => ?_, fun z hz => ?_, fun c o hc hn => ?_⟩
      · rcases put_val_mem he with h | h
        · exact ⟨y, m, h⟩
        · exact t3 e h
      · rw [tf_put]
        by_cases e : z = y
        · subst e
          rw [if_pos rfl, hq]
          exact em.2.symm
        · rw [if_neg e]
          rw [List.take_add_one, ek] at hz
          rcases List.mem_append.mp hz with h | h
          · exact p3 z q' h
          · simp at h
            exact absurd h.1 e
      · rw [tf_put]
        by_cases e : z = y
        · subst e
          refine absurd ?_ (hz q)
          rw [List.take_add_one, ek]
          exact List.mem_append_right _ List.mem_cons_self
        · rw [if_neg e]
          refine q3 z fun q' hm => hz q' ?_
          rw [List.take_add_one]
          exact List.mem_append_left _ hm
      · have ncr : c ≠ rd := fun e => by
          rw [e, rd0] at hc
          cases hc
        rw [upd_ne ncr]
        exact o3 c o hc hn
    rintro σ H3 ⟨x3, kv, rfl, e3, d3, n3, t3, l3, p3, q3, o3⟩
    rw [List.take_length] at p3 q3
    obtain ⟨ks, rfl⟩ := ent_of t3
    refine ⟨e3, _, rfl, k rd ks _ rd0 ⟨by rw [upd_ne nrb]; exact d3, ent_nd n3, by rw [List.length_map] at l3; omega, funext fun z => ?_⟩ fun c o hc => ?_⟩
    · cases e : tfD k2 z with
      | none =>
        rw [q3 z fun q hm => by
          rw [tf_some.mpr (val_nodup nd2 _ hm)] at e
          cases e]
        unfold orT
        rw [e, orO_none]
      | some q => exact p3 z q (valV_mem (tf_some.mp e))
    · by_cases e : c = b
      · rw [e, upd_same]
        rw [e, h2] at hc
        exact hc
      · rw [upd_ne e]
        exact o3 c o hc e
theorem sc__law_and : FnScope ["one", "two", "piece"] ["one", "two"] (defScope s__law_and) := ⟨rfl, rfl, rfl, by decide +kernel, rfl, by decide +kernel, by decide +kernel⟩
theorem ok__law_and {f : Addr} {fd : FuncData} (F : Fun K "_law_and" "_law_and" s__law_and f fd) (T : Txt K mg C) : FnG P w K mg base CX0 2 f fd ["one", "two"] (spLAnd) := by
  refine fn_g0 F sc__law_and (fun vs H Q E h => ?_) (fun cdv A outer s H vs Q E hg hr h => ?_)
  · obtain ⟨a, b, k1, k2, rfl, _⟩ := h
    rfl
  · have hu := hu_of hr
    obtain ⟨a, b, k1, k2, rfl, h1, h2, av1, nd1, av2, nd2, k⟩ := h
    refine ⟨_, (pss_one (ps_ret (pe_callTy (g_dictP K rfl) (by rfl) T.b_dict (by decide +kernel) (pa_cons (pe_lock (by exact (pe_lc (own := [("piece", 2)]) rfl sc__law_and.nd (pi_keys (pv 0)) (blkOk_by (own := [("piece", 2)]) (N := ["one", "two", "piece"]) (sc := defScope s__law_and) (by decide +kernel)) (fun _ _ _ _ _ => (pg_name (i := 2) sc__law_and.nd rfl (Or.inl rfl))) (fun _ _ _ _ _ => (pts_one (pt_cmp (pc_din hu (pv 2) (pv 1))))) (fun _ _ _ _ _ => (pe_tup (pa_cons (pv 2) (pa_cons (pe_callB (call_max2 rfl) (by rfl) T.b_max (by decide +kernel) (pa_cons (pe_dget hu (pv 0) (pv 2) (fun _ _ => rfl)) (pa_cons (pe_dget hu (pv 1) (pv 2) (fun _ _ => rfl)) pa_nil))) pa_nil))))))) pa_nil)))), ?_⟩
    have T1 := tar_of av1 nd1
    have T2 := tar_of av2 nd2
    have l1 := (ap_parts av1).1.2
    refine ⟨a, _, h1, trivial, fun od => ?_⟩
    refine ⟨_, rfl, a, od, rfl, .inl ⟨k1, upd_same, fun D hD => ?_⟩⟩
    have nDa : D ≠ a := lock_ne hD
    refine lc_it walk_keys (fun j H' => ∃ (ts : List Addr) (es : List (Str × Int)), H' D = some (.lst (ts.map V.ref)) ∧ es.length ≤ j ∧ Paired (fun t e => H' t = some (.tup [.str e.1, .int e.2])) ts es ∧ H' a = some (.frz od (.dK k1)) ∧ (es.map (·.1)).Nodup ∧ (∀ z p, (z, p) ∈ es → (∃ q, (Sum.inr z, V.int q) ∈ k1.take j) ∧ andO (tfD k1 z) (tfD k2 z) = some p) ∧ (∀ z q p, (Sum.inr z, V.int q) ∈ k1.take j → andO (tfD k1 z) (tfD k2 z) = some p → (z, p) ∈ es) ∧ ∀ c o, H c = some o → c ≠ a → H' c = some o)
      ⟨[], [], upd_same, Nat.le_refl _, .nil, by rw [upd_ne nDa.symm]; exact upd_same, List.nodup_nil, fun _ _ h => (List.not_mem_nil h).elim, fun _ _ _ h => (List.not_mem_nil h).elim, fun c o hc hn => ?_⟩ (fun j H' _ q => by obtain ⟨_, _, _, _, _, q, _⟩ := q; exact q) ?_ ?_
    · have ncD : c ≠ D := fun e => by
        rw [e] at hc
        rw [upd_ne nDa] at hD
        rw [hc] at hD
        cases hD
      rw [upd_ne ncD, upd_ne hn]
      exact hc
    · rintro j x H3 H4 hj ⟨ts, es, d3, el, pr, a3, ne3, sub, sup, o3⟩ ⟨rfl, k', v', ek, rfl⟩
      obtain ⟨y, q, ey, hq⟩ := T1.mem _ (List.mem_of_getElem? ek)
      cases ey
      have new : ∀ q', (Sum.inr y, V.int q') ∉ k1.take j := fun q' hm => by
        obtain ⟨j', hj', e⟩ := List.mem_iff_getElem.mp hm
        rw [List.length_take] at hj'
        rw [List.getElem_take] at e
        have hk := List.pairwise_iff_getElem.mp nd1 j' j (by rw [List.length_map]; omega) (by rw [List.length_map]; exact hj) (by omega)
        rw [List.getElem_map, List.getElem_map, e, (List.getElem?_eq_some_iff.mp ek).2] at hk
        exact hk rfl
      have R2 : Rd H4 b (.dK k2) := by
        by_cases e : b = a
        · subst e
          rw [h1] at h2
          cases h2
          exact .inr ⟨od, a3⟩
        · exact .inl (o3 _ _ h2 e)
      have v1 : valV k1 (Sum.inr y : Key) = some (.int q) := tf_some.mp hq
      have v2 := val_ti (txi_of T2) y
      refine ⟨wipe_set, _, rfl, _, rfl, b, _, rfl, .inl ⟨_, Sum.inr y, R2, rfl, rfl⟩, ?_⟩
      rw [v2]
      cases e2 : tfD k2 y with
      | none =>
        refine ⟨false, rfl, ts, es, d3, by omega, pr, a3, ne3, fun z p hz => ?_, fun z q' p hz hp => ?_, o3⟩
        · obtain ⟨⟨q', h⟩, h'⟩ := sub z p hz
          exact ⟨⟨q', by rw [List.take_add_one]; exact List.mem_append_left _ h⟩, h'⟩
        · rw [List.take_add_one, ek] at hz
          rcases List.mem_append.mp hz with h | h
          · exact sup z q' p h hp
          · simp at h
            rw [h.1, hq, e2] at hp
            cases hp
      | some q2 =>
        rw [e2] at v2
        refine ⟨true, rfl, ?_⟩
        refine ⟨_, rfl, _, rfl, _, rfl, a, _, rfl, .inl ⟨_, Sum.inr y, .inr ⟨od, a3⟩, rfl, v1.symm⟩, _, rfl, _, rfl, b, _, rfl, .inl ⟨_, Sum.inr y, R2, rfl, v2.symm⟩, q, q2, rfl, by show 2 ≤ sizeLine; decide, fun t ht => ?_⟩
        generalize hm : (if q2 > q then q2 else q) = m
        have em : andO (tfD k1 y) (tfD k2 y) = some m := by
          rw [hq, e2, ← hm]
          show some (if q ≤ q2 then q2 else q) = _
          congr 1
          split <;> split <;> omega
        have s5 := same_new ht (o := .tup [kV (Sum.inr y), .int m])
        have t5 : (upd H4 t (.tup [kV (Sum.inr y), .int m])) t = some (.tup [V.str y, .int m]) := upd_same
        generalize (upd H4 t _) = H5 at s5 t5 ⊢
        have d5 := s5 _ _ d3
        have nT : ∀ (u : Addr) (vs : List V), H5 u = some (.tup vs) → u ≠ D := fun u vs hu e => by
          rw [e, d5] at hu
          cases hu
        refine ⟨_, d5, by rw [List.length_map, pr.length]; exact small1000' (by omega), ts ++ [t], es ++ [(y, m)], by rw [upd_same, List.map_append]; rfl, by rw [List.length_append, List.length_singleton]; omega, ?_, by rw [upd_ne nDa.symm]; exact s5 _ _ a3, ?_, fun z p hz => ?_, fun z q' p hz hp => ?_, fun c o hc hn => ?_⟩
        · refine paired_snoc5 (paired_imp5 (fun u e hu => ?_) pr) (by rw [upd_ne (nT _ _ t5)]; exact t5)
          have := s5 _ _ hu
          rw [upd_ne (nT _ _ this)]
          exact this
        · rw [List.map_append]
          refine List.nodup_append.mpr ⟨ne3, by simp, fun z1 hz1 z2 hz2 e => ?_⟩
          simp at hz2
          obtain ⟨e1, he1, rfl⟩ := List.mem_map.mp hz1
          obtain ⟨⟨q', h⟩, _⟩ := sub e1.1 e1.2 he1
          rw [e, hz2] at h
          exact new q' h
        · rcases List.mem_append.mp hz with h | h
          · obtain ⟨⟨q', h1'⟩, h'⟩ := sub z p h
            exact ⟨⟨q', by rw [List.take_add_one]; exact List.mem_append_left _ h1'⟩, h'⟩
          · simp at h
            rw [h.1, h.2]
            exact ⟨⟨q, by rw [List.take_add_one, ek]; exact List.mem_append_right _ List.mem_cons_self⟩, em⟩
        · rw [List.take_add_one, ek] at hz
          rcases List.mem_append.mp hz with h | h
          · exact List.mem_append_left _ (sup z q' p h hp)
          · simp at h
            rw [h.1, em] at hp
            rw [h.1, ← Option.some.inj hp]
            exact List.mem_append_right _ List.mem_cons_self
        · have h5 := s5 _ _ (o3 c o hc hn)
          have ncD : c ≠ D := fun e => by
            rw [e] at hc
            rw [upd_ne nDa] at hD
            rw [hc] at hD
            cases hD
          rw [upd_ne ncD]
          exact h5
    rintro H3 ⟨ts, es, d3, el, pr, a3, ne3, sub, sup, o3⟩
    rw [List.take_length] at sub sup
    have nT : ∀ (u : Addr) (vs : List V), H3 u = some (.tup vs) → u ≠ a := fun u vs hu e => by
      rw [e, a3] at hu
      cases hu
    refine ⟨a3, ?_⟩
    have sB : Same H (upd H3 a (.dK k1)) := fun c o hc => by
      by_cases e : c = a
      · subst e
        rw [upd_same]
        rw [h1] at hc
        exact hc
      · rw [upd_ne e]
        exact o3 c o hc e
    refine ⟨D, ts, es.map entS, rfl, SqL.of (by rw [upd_ne nDa]; exact d3), paired_map5' (paired_imp5 (fun u e hu => SqT.of (by rw [upd_ne (nT _ _ hu)]; exact hu)) pr), fun rd hrd => ?_⟩
    rw [merge_nd (kvs := []) (by rw [List.nil_append]; exact ent_nd' ne3), List.nil_append]
    refine k rd es _ (not_there sB hrd) ⟨upd_same, ne3, by omega, funext fun z => ?_⟩ (sB.trans (same_new hrd))
    cases hz : andO (tfD k1 z) (tfD k2 z) with
    | some p =>
      obtain ⟨q, r, e1, e2, _⟩ := andO_some hz
      have m := sup z q p (valV_mem (tf_some.mp e1)) hz
      show tfD (es.map entS) z = andO (tfD k1 z) (tfD k2 z)
      rw [hz]
      exact tf_some.mpr (val_nodup (ent_nd' ne3) _ (List.mem_map.mpr ⟨_, m, rfl⟩))
    | none =>
      show tfD (es.map entS) z = andO (tfD k1 z) (tfD k2 z)
      rw [hz]
      refine tf_none_of fun q hm => ?_
      obtain ⟨e, he, e2⟩ := List.mem_map.mp hm
      have e3 : e.1 = z := Sum.inr.inj (Prod.mk.inj e2).1
      have h := (sub e.1 e.2 he).2
      rw [e3, hz] at h
      cases h
theorem sc__law_has : FnScope ["book", "prices"] ["book", "prices"] (defScope s__law_has) := ⟨rfl, rfl, rfl, by decide +kernel, rfl, by decide +kernel, by decide +kernel⟩
theorem ok__law_has {f : Addr} {fd : FuncData} (F : Fun K "_law_has" "_law_has" s__law_has f fd) (T : Txt K mg C) (c_Book_prices : HasP P w K mg base 1 C "prices" (spPrices C)) : FnG P w K mg base CX0 3 f fd ["book", "prices"] (spHas C) := by
  refine fn_g0 F sc__law_has (fun vs H Q E h => ?_) (fun cdv A outer s H vs Q E hg hr h => ?_)
  · obtain ⟨b, d, k, ks, rfl, _⟩ := h
    rfl
  · have hu := hu_of hr
    obtain ⟨b, d, kk, ks, rfl, B, hd, nd, tf, k⟩ := h
    refine ⟨_, (pss_one (ps_ret (pe_cmpR op_eq (pe_callB (g_repr K hg hr.units) (by rfl) T.b_repr (by decide +kernel) (pa_cons (LiI.pe_listItems rfl (pe_prp c_Book_prices hr (by decide) (pv 0)) rfl T.b_list (by decide +kernel)) pa_nil)) (pe_callB (g_repr K hg hr.units) (by rfl) T.b_repr (by decide +kernel) (pa_cons (pe_callB (cr_sortTI rfl) (by rfl) T.b_sorted (by decide +kernel) (pa_cons (g_bm0 K PySem.F.plainAttrs_dict PySem.F.slot_dict_items PySem.F.type_dict_items mt_itemsK (pv 1)) pa_nil)) pa_nil)) (nomark _)))), ?_⟩
    have al := (ap_parts B.av).2.1
    have t1 := tar_of B.av B.nd
    obtain ⟨_, _, _, _, _, _, _, _, _, _, _, _, A⟩ := id B
    refine ⟨_, rfl, b, _, _, rfl, A.ob, b, kk, rfl, B, fun p ys H1 hp pm so e1 s1 => ?_⟩
    refine ⟨p, _, rfl, e1, fun H2 il ts s2 hil hts nil hl hpr => ?_⟩
    have kp : ∀ e ∈ psOf kk ys, e.1.length ≤ 5 ∧ (∀ c ∈ cs e.1, lett c = true) ∧ 0 ≤ e.2 ∧ e.2 ≤ 99 := fun e he => by
      obtain ⟨y, hy, rfl⟩ := List.mem_map.mp he
      have hk := pm.mem_iff.mp hy
      obtain ⟨_, q1, q2⟩ := price_of_key al hk
      obtain ⟨z1, z5, zl⟩ := keyStrs_piece al y hk
      exact ⟨by rw [← cs_len]; exact z5, zl, by show 0 ≤ priceIn kk y; omega, q2⟩
    have lps : (psOf kk ys).length ≤ 12 := by
      have h := congrArg List.length (keys_of al)
      rw [List.length_map, List.length_map] at h
      have := (ap_parts B.av).1.2
      unfold psOf
      rw [List.length_map, pm.length_eq]
      omega
    have ndy : ys.Nodup := pm.nodup_iff.mpr (keys_nd al B.nd)
    have ndp : ((psOf kk ys).map (·.1)).Nodup := by
      unfold psOf
      rw [List.map_map]
      exact (List.map_id' ys).symm ▸ ndy
    have same : (psOf kk ys).Perm ks := pairs_perm ndp nd ((tf_psOf al pm).trans tf.symm)
    dsimp only [tNil]
    refine repr_pairsL5 hl (dpAll_pairs5 (paired_map5 (f := entS) hpr)) lps kp ?_
    have d2 := (show Same H1 H2 from s2) _ _ (s1 _ _ hd)
    refine ⟨_, rfl, .inr (.inr (.inl ⟨rfl, .inl ⟨_, d2⟩⟩)), d, _, rfl, rfl, .inl d2, fun vw hvw => ?_⟩
    have d3 := same_new hvw (o := DX.itemsO vw d) _ _ d2
    refine ⟨vw, d, ks, rfl, upd_same, .inl d3, nd, by rw [← same.length_eq]; omega, fun H4 q2 ps2 s4 pp sp q4 at4 => ?_⟩
    have eps : psOf kk ys = ps2.map (·.2) := pairs_eq ndp (so_ps so) sp (same.trans pp.symm)
    dsimp only [tNil]
    refine repr_pairsL5 q4 (dp_pairs at4) (by rw [← eps]; exact lps) (by rw [← eps]; exact kp) ?_
    rw [eps]
    refine ⟨rfl, ?_⟩
    rw [is_self]
    exact k _ (((s1.trans s2).trans (same_new hvw)).trans s4)
theorem sc__law_scene : FnScope ["dice", "signs", "menu", "found", "turn", "alike", "own", "fit", "some", "sign", "piece", "at"] ["dice"] (defScope s__law_scene) := ⟨rfl, rfl, rfl, by decide +kernel, rfl, by decide +kernel, by decide +kernel⟩
theorem ok__law_scene {f : Addr} {fd : FuncData} (F : Fun K "_law_scene" "_law_scene" s__law_scene f fd) (T : Txt K mg C) (c__law_some : Has P w K mg base CX0 2 "_law_some" ["dice", "items", "many"] (spSome K)) (c__law_roll : Has P w K mg base CX0 1 "_law_roll" ["dice", "upto"] (spRoll)) (c__law_pick : Has P w K mg base CX0 2 "_law_pick" ["dice", "items"] (spPick K)) : FnG P w K mg base CX0 3 f fd ["dice"] (spScene) := by
  refine fn_g0 F sc__law_scene (fun vs H Q E h => ?_) (fun cdv A outer s H vs Q E hg hr h => ?_)
  · obtain ⟨l, n, rfl, _⟩ := h
    rfl
  · have hu := hu_of hr
    obtain ⟨l, n, rfl, D, k⟩ := h
    refine ⟨_, (pss_cons (ps_set (i := 1) sc__law_scene.nd rfl (Or.inr rfl) (pe_has c__law_some hg (hr.mono (by decide)) pass0 (pa_cons (pv 0) (pa_cons pe_str (pa_cons (pe_op op_add pe_int (pe_has c__law_roll hg (hr.mono (by decide)) pass0 (pa_cons (pv 0) (pa_cons pe_int pa_nil)))) pa_nil)))))
      (pss_cons (ps_par (i := 2) (j := 3) (by rfl) sc__law_scene.nd rfl rfl (by decide) rfl rfl (pa_cons (pe_lst pa_nil) (pa_cons (pe_lst pa_nil) pa_nil)) (by rfl))
      (pss_cons (ps_for PassesOwn.never rfl (pi_range1 (by rfl) T.b_range (pa_cons pe_int pa_nil)) (pg_name (i := 4) sc__law_scene.nd rfl (Or.inl rfl)) (pss_one (ps_expr (g_bm K PySem.F.plainAttrs_list PySem.F.slot_list_append PySem.F.type_list_append mt_append (pv 2) (pa_cons (g_join K pe_str (pe_lc (own := [("at", 11)]) rfl sc__law_scene.nd (pi_range1 (by rfl) T.b_range (pa_cons (pe_op op_add pe_int (pe_has c__law_roll hg (hr.mono (by decide)) pass0 (pa_cons (pv 0) (pa_cons pe_int pa_nil)))) pa_nil)) (blkOk_by (own := [("at", 11)]) (N := ["dice", "signs", "menu", "found", "turn", "alike", "own", "fit", "some", "sign", "piece", "at"]) (sc := defScope s__law_scene) (by decide +kernel)) (fun _ _ _ _ _ => (pg_name (i := 11) sc__law_scene.nd rfl (Or.inl rfl))) (fun _ _ _ _ _ => pts_nil) (fun _ _ _ _ _ => (pe_has c__law_pick hg (hr.mono (by decide)) pass0 (pa_cons (pv 0) (pa_cons (pv 1) pa_nil)))))) pa_nil)))))
      (pss_cons (ps_set (i := 5) sc__law_scene.nd rfl (Or.inr rfl) (pe_has c__law_roll hg (hr.mono (by decide)) pass0 (pa_cons (pv 0) (pa_cons pe_int pa_nil))))
      (pss_cons (ps_for PassesOwn.never rfl (pi_range1 (by rfl) T.b_range (pa_cons pe_int pa_nil)) (pg_name (i := 4) sc__law_scene.nd rfl (Or.inl rfl)) (pss_cons (ps_set (i := 6) sc__law_scene.nd rfl (Or.inr rfl) (pe_lc (own := [("sign", 9)]) rfl sc__law_scene.nd (g_list K (pv 1)) (blkOk_by (own := [("sign", 9)]) (N := ["dice", "signs", "menu", "found", "turn", "alike", "own", "fit", "some", "sign", "piece", "at"]) (sc := defScope s__law_scene) (by decide +kernel)) (fun _ _ _ _ _ => (pg_name (i := 9) sc__law_scene.nd rfl (Or.inl rfl))) (fun _ _ _ _ _ => (pts_one (PW.pt (pw_or (pt_cmpR op_eq (pv 9) (pe_ix (g_ix_list K) (pv 1) pe_int (fun _ _ => rfl)) (nomark _)) (pw_or (pt_cmpR op_eq (pv 5) pe_int (nomark _)) (pw_or1 (pt_cmpR op_eq (pe_has c__law_roll hg (hr.mono (by decide)) pass0 (pa_cons (pv 0) (pa_cons pe_int pa_nil))) pe_int (nomark _)))))))) (fun _ _ _ _ _ => (pv 9))))
      (pss_cons (ps_setLc (i := 7) (own := [("piece", 10)]) rfl sc__law_scene.nd rfl rfl (sw_true rfl rfl rfl (by decide +kernel)) (g_list K (pv 2)) (blkOk_by (own := [("piece", 10)]) (N := ["dice", "signs", "menu", "found", "turn", "alike", "own", "fit", "some", "sign", "piece", "at"]) (sc := defScope s__law_scene) (by decide +kernel)) (fun _ _ _ _ _ => (pg_name (i := 10) sc__law_scene.nd rfl (Or.inl rfl))) (fun _ _ _ _ _ => (pts_one (pt_cmpR (g_eqD K hr.units) (pe_lc (own := [("sign", 9)]) rfl sc__law_scene.nd (pi_str (pv 10)) (blkOk_by (own := [("sign", 9)]) (N := ["dice", "signs", "menu", "found", "turn", "alike", "own", "fit", "some", "sign", "piece", "at"]) (sc := ({ kind := .function, names := [((".0" : Str), NameKind.local), ("piece", NameKind.local), ("own", NameKind.cell)], isGenerator := false, isCoroutine := false } : Scope)) (by decide +kernel)) (fun _ _ _ _ _ => (pg_name (i := 9) sc__law_scene.nd rfl (Or.inl rfl))) (fun _ _ _ _ _ => (pts_one (pt_cmpR (g_notIn_seq K) (pv 9) (pv 6) (by rfl)))) (fun _ _ _ _ _ => (pv 9))) (pe_lst pa_nil) (nomark _)))) (fun _ _ _ _ _ => (pv 10)))
      (pss_cons (ps_set (i := 8) sc__law_scene.nd rfl (Or.inl rfl) (pe_op op_cat (pv 6) (pe_has c__law_some hg (hr.mono (by decide)) pass0 (pa_cons (pv 0) (pa_cons (pv 7) (pa_cons (pe_has c__law_roll hg (hr.mono (by decide)) pass0 (pa_cons (pv 0) (pa_cons pe_int pa_nil))) pa_nil))))))
      (pss_one (ps_expr (g_bm K PySem.F.plainAttrs_list PySem.F.slot_list_append PySem.F.type_list_append mt_append (pv 3) (pa_cons (pe_callTy (g_dictP K rfl) (by rfl) T.b_dict (by decide +kernel) (pa_cons (pe_lc (own := [("piece", 10)]) rfl sc__law_scene.nd (g_list K (pv 8)) (blkOk_by (own := [("piece", 10)]) (N := ["dice", "signs", "menu", "found", "turn", "alike", "own", "fit", "some", "sign", "piece", "at"]) (sc := defScope s__law_scene) (by decide +kernel)) (fun _ _ _ _ _ => (pg_name (i := 10) sc__law_scene.nd rfl (Or.inl rfl))) (fun _ _ _ _ _ => pts_nil) (fun _ _ _ _ _ => (pe_tup (pa_cons (pv 10) (pa_cons (pe_op op_add pe_int (pe_has c__law_roll hg (hr.mono (by decide)) pass0 (pa_cons (pv 0) (pa_cons pe_int pa_nil)))) pa_nil))))) pa_nil)) pa_nil))))))))
      (pss_one (ps_ret (pv 3)))))))), ?_⟩
    refine ⟨_, rfl, _, rfl, l, 4, n + 195, rfl, by decide, by decide, D.le (by omega), fun r H1 r0 r1 kp1 D1 => ⟨_, _, rfl, rfl, ?_⟩⟩
    refine ⟨l, .str (Str.ofString "abcdefghijklmnopqrstuvwxyz"), signsV (Str.ofString "abcdefghijklmnopqrstuvwxyz"), (1 + r).toNat, n + 190, by rw [Int.toNat_of_nonneg (by omega)]; rfl, .str (by decide +kernel) rfl, by decide +kernel, by omega, D1.le (by omega), fun sa zs rest H2 hsa pm zl e2 kp2 D2 => ?_⟩
    have nsa : sa ≠ l := D1.ne hsa
    have kp02 : Kp l H H2 := kp1.trans kp2
    obtain ⟨sg, rfl, sgl⟩ : ∃ sg : List Nat, zs = sg.map chV ∧ ∀ c ∈ sg, lett c = true := by
      refine lift_map fun v hv => ?_
      obtain ⟨c, hc, rfl⟩ := List.mem_map.mp (pm.mem_iff.mp (List.mem_append_left rest hv))
      exact ⟨c, rfl, List.all_eq_true.mp (show (Str.ofString "abcdefghijklmnopqrstuvwxyz").cps.toList.all lett = true by decide +kernel) c hc⟩
    have l26 : (signsV (Str.ofString "abcdefghijklmnopqrstuvwxyz")).length = 26 := by decide +kernel
    rw [List.length_map, l26] at zl
    have n1 : 1 ≤ sg.length := by omega
    have n4 : sg.length ≤ 4 := by omega
    have nsg : sg ≠ [] := fun e => by
      rw [e] at n1
      simp at n1
    obtain ⟨c0, c0m, c0a⟩ : ∃ c0, c0 ∈ sg ∧ sg[0]? = some c0 := by
      cases sg with
      | nil => exact absurd rfl nsg
      | cons c r => exact ⟨c, List.mem_cons_self, rfl⟩
    have hs : SqL K H2 sa (sg.map chV) := SqL.of e2
    refine ⟨by show 0 ≤ sizeLine; decide, fun me hme => ⟨by show 0 ≤ sizeLine; decide, fun fo hfo => ⟨_, _, rfl, ?_⟩⟩⟩
    have nme : me ≠ l := D2.ne hme
    have nfo : fo ≠ l := (D2.new hme).ne hfo
    have nmf : me ≠ fo := ne_of_none upd_same hfo
    have me0 : H2 me = none := hme
    have fo0 : H2 fo = none := (same_new hme).free hfo
    have k3 : Kp l H2 (upd (upd H2 me (.lst [])) fo (.lst [])) := ((Kp.refl _ _).new hme).new hfo
    have D3 : Dice (upd (upd H2 me (.lst [])) fo (.lst [])) l (n + 190) := (D2.new hme).new hfo
    have m3 : (upd (upd H2 me (.lst [])) fo (.lst [])) me = some (.lst []) := by rw [upd_ne nmf]; exact upd_same
    have f3 : (upd (upd H2 me (.lst [])) fo (.lst [])) fo = some (.lst []) := upd_same
    generalize (upd (upd H2 me (.lst [])) fo (.lst [])) = H3 at k3 D3 m3 f3 ⊢
    refine ⟨4, rfl, by decide, by decide, for_range (lo := 0) (n := 4) (fun i σ H' => ∃ x4 ws, σ = [some (.ref l), some (.ref sa), some (.ref me), some (.ref fo), x4, none, none, none, none, none, none, none] ∧ ws.length = i ∧ (∀ w ∈ ws, WordOk5 sg w) ∧ H' me = some (.lst (ws.map V.str)) ∧ H' fo = some (.lst []) ∧ Kp l H2 H' ∧ Dice H' l (n + 160 + (24 - 6 * i))) ⟨_, [], rfl, rfl, fun _ h => (List.not_mem_nil h).elim, m3, f3, k3, D3.le (by omega)⟩ ?_ ?_⟩
    · rintro i σ A1 hi ⟨x5, ws, rfl, lw, okw, hm, hf, ka, Da⟩
      refine ⟨_, rfl, .inl ⟨rfl, _, SqL.of hm⟩, ?_⟩
      refine ⟨⟨_, rfl⟩, _, rfl, l, 4, n + 160 + (24 - 6 * (i + 1)) + 5, rfl, by decide, by decide, Da.le (by omega), fun r H2 r0 r1 k2 D2 => ⟨_, _, rfl, rfl, ?_⟩⟩
      have r4 : r < 4 := r1
      refine ⟨2 + r, rfl, by omega, by omega, fun J hJ => ?_⟩
      have nJ : J ≠ l := D2.ne hJ
      refine lc_range (fun j H' => ∃ zs : List Nat, zs.length = j ∧ (∀ c ∈ zs, c ∈ sg) ∧ H' J = some (.lst (zs.map chV)) ∧ Kp l H2 H' ∧ Dice H' l (n + 160 + (24 - 6 * (i + 1)) + (5 - j)) ∧ j ≤ 5)
        ⟨[], rfl, fun _ z => (List.not_mem_nil z).elim, upd_same, (Kp.refl _ _).new hJ, (D2.new hJ).le (by omega), by omega⟩ ?_ ?_
      · rintro j H3 hj ⟨zs, e1, e2, e3, k3, D3, j5⟩
        refine ⟨wipe_set, _, rfl, _, rfl, l, .ref sa, sg.map chV, n + 160 + (24 - 6 * (i + 1)) + (5 - (j + 1)), rfl, .lst nsa (((ka.trans k2).trans k3).seq nsa hs), by simpa using nsg, by rw [List.length_map]; omega, D3.le (by omega), fun y H4 hy k4 D4 => ?_⟩
        obtain ⟨c, hc, rfl⟩ := List.mem_map.mp hy
        refine ⟨_, k4 _ _ e3 nJ, by rw [List.length_map]; exact small1000' (by omega), zs ++ [c], by rw [List.length_append, e1]; rfl, fun d hd => ?_, by rw [upd_same, List.map_append]; rfl, (k3.trans k4).mut hJ, D4.upd nJ, by omega⟩
        rcases List.mem_append.mp hd with h | h
        · exact e2 d h
        · rw [List.mem_singleton.mp h]
          exact hc
      rintro H3 ⟨zs, e1, e2, e3, k3, D3, j5⟩
      refine ⟨_, J, zs.map ch, rfl, rfl, .inl (SqL.of (by rw [e3, List.map_map]; rfl)), ?_, ?_⟩
      · rw [sum_ch, List.length_map]
        show zs.length + zs.length * 0 ≤ _
        exact fits_sz (by omega)
      rw [join_ch]
      have wk : WordOk5 sg (sOf zs) := ⟨by rw [cs_sOf]; omega, by rw [cs_sOf]; exact e2⟩
      have D3 : Dice H3 l (n + 160 + (24 - 6 * (i + 1))) := D3.le (by omega)
      have k23 := k2.trans k3
      clear e3 e1 e2
      have hm3 := k23 _ _ hm nme
      refine ⟨me, _, _, rfl, rfl, hm3, by rw [List.length_map]; exact small1000' (by omega), ?_⟩
      refine ⟨_, ws ++ [sOf zs], rfl, by rw [List.length_append, lw]; rfl, fun w hw => ?_, by rw [upd_same, List.map_append]; rfl, by rw [upd_ne nmf.symm]; exact k23 _ _ hf nfo, (ka.trans k23).mut me0, D3.upd nme⟩
      rcases List.mem_append.mp hw with h | h
      · exact okw w h
      · rw [List.mem_singleton.mp h]
        exact wk
    rintro σ A1 ⟨x4, ws, rfl, lw, okw, hm, hf, ka, Da⟩
    refine ⟨_, rfl, l, 2, n + 150, rfl, by decide, by decide, Da.le (by omega), fun al A2 al0 al1 kal Dal => ?_⟩
    have lU : (ws ++ sg.map ch).length ≤ 12 := by
      rw [List.length_append, List.length_map]
      omega
    refine ⟨3, rfl, by decide, by decide, for_range (lo := 0) (n := 3) (fun i σ H' => ∃ x4 x6 x7 x8 ds, σ = [some (.ref l), some (.ref sa), some (.ref me), some (.ref fo), x4, some (.int al), x6, x7, x8, none, none, none] ∧ ds.length = i ∧ (∀ e ∈ ds, H' (e : Addr × List (Key × V)).1 = some (.dK e.2) ∧ e.1 ≠ l ∧ arePrices e.2 = true ∧ (e.2.map (·.1)).Nodup ∧ Fit (ws ++ sg.map ch) sg c0 (tfD e.2)) ∧ H' me = some (.lst (ws.map V.str)) ∧ H' fo = some (.lst (ds.map fun e => V.ref e.1)) ∧ Kp l H2 H' ∧ Dice H' l (n + 30 * (3 - i)))
      ⟨_, _, _, _, [], rfl, rfl, fun _ h => (List.not_mem_nil h).elim, kal _ _ hm nme, kal _ _ hf nfo, ka.trans kal, Dal.le (by omega)⟩ ?_ ?_⟩
    · rintro i σ B1 hi ⟨y4, x6, x7, x8, ds, rfl, lds, okd, hm1, hf1, kb, Db⟩
      obtain ⟨M, hM⟩ : ∃ M, M = n + 30 * (3 - (i + 1)) := ⟨_, rfl⟩
      have Db : Dice B1 l (M + 30) := Db.le (by omega)
      refine ⟨_, rfl, sa, rfl, ⟨_, kb.seq nsa hs⟩, fun D0 hD0 => ?_⟩
      have nD0 : D0 ≠ l := Db.ne hD0
      refine lc_it (walk_listF (K := K) chV sg) (fun t H' => ∃ og : List Nat, H' D0 = some (.lst (og.map chV)) ∧ (∀ c ∈ og, c ∈ sg) ∧ og.length ≤ t ∧ (1 ≤ t → c0 ∈ og) ∧ Kp l B1 H' ∧ Dice H' l (M + 20 + (4 - t)))
        ⟨[], upd_same, fun _ h => (List.not_mem_nil h).elim, Nat.le_refl _, fun h => absurd h (by omega), (Kp.refl _ _).new hD0, (Db.new hD0).le (by omega)⟩ (fun t H' _ q => by obtain ⟨_, _, _, _, _, q, _⟩ := q; exact (kb.trans q).seq nsa hs) ?_ ?_
      · rintro t x E1 E2 ht ⟨og, e1, ogs, ogl, og0, ke, De⟩ ⟨rfl, c, hc, rfl⟩
        have yes : ∀ E3 : Hp, Kp l E2 E3 → Dice E3 l (M + 20 + (4 - (t + 1))) → ∃ acc, E3 D0 = some (.lst acc) ∧ acc.length < sizeLine ∧ ∃ og : List Nat, (upd E3 D0 (.lst (acc ++ [chV c]))) D0 = some (.lst (og.map chV)) ∧ (∀ c ∈ og, c ∈ sg) ∧ og.length ≤ t + 1 ∧ (1 ≤ t + 1 → c0 ∈ og) ∧ Kp l B1 (upd E3 D0 (.lst (acc ++ [chV c]))) ∧ Dice (upd E3 D0 (.lst (acc ++ [chV c]))) l (M + 20 + (4 - (t + 1))) := fun E3 kx Dx => by
          refine ⟨_, kx _ _ e1 nD0, by rw [List.length_map]; exact small1000' (by omega), og ++ [c], by rw [upd_same, List.map_append]; rfl, fun d hd => ?_, by rw [List.length_append, List.length_singleton]; omega, fun _ => ?_, (ke.trans kx).mut hD0, Dx.upd nD0⟩
          · rcases List.mem_append.mp hd with h | h
            · exact ogs d h
            · rw [List.mem_singleton.mp h]
              exact List.mem_of_getElem? hc
          · by_cases ht0 : t = 0
            · subst ht0
              have : c = c0 := Option.some.inj (hc.symm.trans c0a)
              rw [this]
              exact List.mem_append_right _ List.mem_cons_self
            · exact List.mem_append_left _ (og0 (by omega))
        refine ⟨wipe_set, _, rfl, _, rfl, sa, _, 0, chV c0, rfl, rfl, (kb.trans ke).seq nsa hs, at_of (j := 0) rfl (by rw [List.getElem?_map, c0a]; rfl), rfl, _, rfl, ?_⟩
        refine itB (fun e => ?_) (fun e => ?_)
        · exact ⟨_, rfl, yes E2 (Kp.refl _ _) (De.le (by omega))⟩
        have t1 : 1 ≤ t := by
          by_cases ht0 : t = 0
          · subst ht0
            have hcc : c = c0 := Option.some.inj (hc.symm.trans c0a)
            rw [hcc] at e
            exact absurd rfl (of_decide_eq_false e)
          · omega
        refine ⟨_, rfl, rfl, _, rfl, ?_⟩
        refine itB (fun e2 => ?_) (fun e2 => ?_)
        · exact ⟨_, rfl, yes E2 (Kp.refl _ _) (De.le (by omega))⟩
        refine ⟨_, rfl, l, 2, M + 20 + (4 - (t + 1)), rfl, by decide, by decide, De.le (by omega), fun r3 E3 r30 r31 kx Dx => ⟨rfl, _, rfl, ?_⟩⟩
        refine itB (fun e3 => ?_) (fun e3 => ?_)
        · exact ⟨_, rfl, yes E3 kx Dx⟩
        · exact ⟨og, kx _ _ e1 nD0, ogs, by omega, fun _ => og0 t1, ke.trans kx, Dx⟩
      rintro E1 ⟨og, e1, ogs, ogl, og0, ke, De⟩
      rw [show sg.length = sg.length from rfl] at ogl
      have c0o := og0 n1
      have De : Dice E1 l (M + 20) := De.le (by omega)
      have hm2 := ke _ _ hm1 nme
      have hf2 := ke _ _ hf1 nfo
      -- what fits
      refine ⟨_, rfl, me, rfl, ⟨_, SqL.of hm2⟩, fun F0 hF0 => ?_⟩
      have nF0 : F0 ≠ l := De.ne hF0
      refine lcs ws (walk_listF (K := K) V.str ws) (fun w => if ((cs w).filter fun c => !decide (c ∈ og)).isEmpty = true then some (V.str w) else none) hF0 (by omega) (fun H' s => SqL.of (s _ _ hm2)) ?_ ?_
      · rintro t w x E2 E3 hi s2 ⟨rfl, w', ew, rfl⟩ N Mx hN hM
        have e2 : w = w' := Option.some.inj (hi.symm.trans ew)
        subst e2
        have wok := okw w (List.mem_of_getElem? hi)
        refine ⟨wipe_set, _, rfl, w, rfl, fun G0 hG0 => ?_⟩
        refine lcs (cs w) walk_str (fun c => if (!decide (c ∈ og)) = true then some (chV c) else none) hG0 (by have := wok.1.2; omega) (fun _ _ => trivial) ?_ ?_
        · rintro t2 c y E4 E5 hi2 s4 ⟨rfl, c', hc', rfl⟩ N2 M2 hN2 hM2
          have e3 : c = c' := by
            rw [← Array.getElem?_toList] at hc'
            exact Option.some.inj (hi2.symm.trans hc')
          subst e3
          refine ⟨wipe_set, _, rfl, _, rfl, D0, _, rfl, .inl (SqL.of (s4 _ _ (s2 _ _ e1))), rfl, by rw [chs_strs]; exact flat_strs _, ?_⟩
          rw [inV_ch5]
          refine ⟨!decide (c ∈ og), rfl, ?_⟩
          refine itB (fun q => ?_) (fun q => ?_)
          · exact ⟨_, rfl, hN2 _ _ (by rw [if_pos q]) (Same.refl _)⟩
          · exact hM2 _ (by rw [if_neg (by rw [q]; exact Bool.false_ne_true)]) (Same.refl _)
        intro E4 s4 g4
        have s34 := s4
        have fe : ((cs w).filterMap fun c => if (!decide (c ∈ og)) = true then some (chV c) else none) = (((cs w).filter fun c => !decide (c ∈ og)).map ch).map V.str := by
          rw [List.map_map]
          exact fm_filter5 (fun c => !decide (c ∈ og)) chV _
        rw [fe] at g4
        refine ⟨by show 0 ≤ sizeLine; decide, fun G1 hG1 => ?_⟩
        refine eq_nil (SqL.of (same_new hG1 _ _ g4)) upd_same (fun z hz c hcz => ?_) ?_
        · obtain ⟨d, hd, rfl⟩ := List.mem_map.mp hz
          have : c = d := by simpa [cs] using hcz
          rw [this]
          exact sgl d (wok.2 d (List.mem_filter.mp hd).1)
        · rw [List.isEmpty_map]
          refine ⟨_, rfl, ?_⟩
          refine itB (fun q => ?_) (fun q => ?_)
          · exact ⟨_, rfl, hN _ _ (by rw [if_pos q]) (s34.trans (same_new hG1))⟩
          · exact hM _ (by rw [if_neg (by rw [q]; exact Bool.false_ne_true)]) (s34.trans (same_new hG1))
      intro E2 s2 f2
      obtain ⟨fl, fle, fll, flm⟩ : ∃ fl : List Str, (ws.filterMap fun w => if ((cs w).filter fun c => !decide (c ∈ og)).isEmpty = true then some (V.str w) else none) = fl.map V.str ∧ fl.length ≤ 4 ∧ ∀ w ∈ fl, w ∈ ws ∧ WordOk5 og w := by
        refine ⟨ws.filter fun w => ((cs w).filter fun c => !decide (c ∈ og)).isEmpty, ?_, Nat.le_trans (List.length_filter_le _ _) (by omega), fun w hw => ?_⟩
        · exact fm_filter5 (fun w => ((cs w).filter fun c => !decide (c ∈ og)).isEmpty) V.str ws
        · obtain ⟨h1, h2⟩ := List.mem_filter.mp hw
          refine ⟨h1, (okw w h1).1, fun c hc => ?_⟩
          have h3 := List.isEmpty_iff.mp h2
          by_cases q : c ∈ og
          · exact q
          · have : c ∈ (cs w).filter fun c => !decide (c ∈ og) := List.mem_filter.mpr ⟨hc, by rw [decide_eq_false q]; rfl⟩
            rw [h3] at this
            cases this
      rw [fle] at f2
      have o2 : E2 D0 = some (.lst (og.map chV)) := s2 _ _ e1
      have kb2 : Kp l B1 E2 := ke.trans (.of s2)
      -- some of them
      refine ⟨_, rfl, _, rfl, _, rfl, _, rfl, l, 3, M + 19, rfl, by decide, by decide, (De.same s2).le (by omega), fun r1 E3 ra rb k4 D4 => ?_⟩
      refine ⟨l, .ref F0, fl.map V.str, r1.toNat, M + 16, by rw [Int.toNat_of_nonneg ra]; rfl, .lst nF0 (SqL.of (k4 _ _ f2 nF0)), by rw [List.length_map]; omega, by omega, D4.le (by omega), fun mo zs' rest' E4 hmo pm2 zl2 em k5 D5 => ?_⟩
      obtain ⟨us, rfl, hus⟩ : ∃ us : List Str, zs' = us.map V.str ∧ ∀ w ∈ us, w ∈ ws ∧ WordOk5 og w := lift_map fun v hv => by
        obtain ⟨w, hw, rfl⟩ := List.mem_map.mp (pm2.mem_iff.mp (List.mem_append_left rest' hv))
        exact ⟨w, rfl, flm w hw⟩
      have lus : us.length ≤ 4 := by
        rw [List.length_map, List.length_map] at zl2
        omega
      have k25 := k4.trans k5
      refine ⟨D0, mo, _, _, rfl, rfl, k25 _ _ o2 nD0, em, by rw [List.length_map, List.length_map]; exact Nat.le_of_lt (small1000' (by omega)), fun so hso => ?_⟩
      generalize hG_ : upd E4 so _ = E5
      have s6 : Same E4 E5 := by rw [← hG_]; exact same_new hso
      have f6 := (congrFun hG_ so).symm.trans upd_same
      clear hG_
      have D6 := D5.same s6
      have nso : so ≠ l := D5.ne hso
      have kb5 : Kp l B1 E5 := (kb2.trans k25).trans (.of s6)
      have f6' : E5 so = some (.lst ((og.map ch ++ us).map V.str)) := by
        rw [f6, List.map_append, List.map_map]
        rfl
      have hm5 := kb5 _ _ hm1 nme
      have hf5 := kb5 _ _ hf1 nfo
      have oks : ∀ w ∈ og.map ch ++ us, WordOk5 og w ∧ w ∈ ws ++ sg.map ch := fun w hw => by
        rcases List.mem_append.mp hw with h | h
        · obtain ⟨c, hc, rfl⟩ := List.mem_map.mp h
          exact ⟨⟨⟨by show 1 ≤ 1; omega, by show 1 ≤ 5; omega⟩, fun d hd => by
            have e : d = c := by simpa [cs] using hd
            rw [e]
            exact hc⟩, List.mem_append_right _ (List.mem_map.mpr ⟨c, ogs c hc, rfl⟩)⟩
        · exact ⟨(hus w h).2, List.mem_append_left _ (hus w h).1⟩
      have lxs : (og.map ch ++ us).length ≤ 8 := by
        rw [List.length_append, List.length_map]
        omega
      have cxs : ∀ c ∈ og, ch c ∈ og.map ch ++ us := fun c hc => List.mem_append_left _ (List.mem_map.mpr ⟨c, hc, rfl⟩)
      generalize og.map ch ++ us = xs at f6' oks lxs cxs
      refine ⟨_, rfl, .inl ⟨rfl, _, SqL.of hf5⟩, ?_⟩
      refine ⟨_, rfl, so, rfl, ⟨_, SqL.of f6'⟩, fun P0 hP0 => ?_⟩
      have nP0 : P0 ≠ l := D6.ne hP0
      refine lc_it (walk_listF (K := K) V.str xs) (fun t H' => ∃ prs : List (Addr × (Key × V)), prs.length = t ∧ H' P0 = some (.lst (prs.map fun p => V.ref p.1)) ∧ (∀ p ∈ prs, H' p.1 = some (.tup [kV p.2.1, p.2.2]) ∧ p.1 ≠ l ∧ p.1 ≠ P0) ∧ (∀ p ∈ prs, ∃ z q, p.2 = (Sum.inr z, V.int q) ∧ z ∈ xs ∧ 1 ≤ q ∧ q ≤ 99) ∧ prs.map (·.2.1) = (xs.take t).map Sum.inr ∧ Kp l E5 H' ∧ Dice H' l (M + (16 - t)))
        ⟨[], rfl, upd_same, fun _ h => (List.not_mem_nil h).elim, fun _ h => (List.not_mem_nil h).elim, rfl, (Kp.refl _ _).new hP0, (D6.new hP0).le (by omega)⟩ (fun t H' _ q => by obtain ⟨_, _, _, _, _, _, q, _⟩ := q; exact SqL.of (q _ _ f6' nso)) ?_ ?_
      · rintro t x E6 E7 ht ⟨prs, lp', e1', p1, p2, m1, ke', De'⟩ ⟨rfl, w, hw, rfl⟩
        have tl := (List.getElem?_eq_some_iff.mp hw).1
        refine ⟨wipe_set, _, rfl, _, rfl, l, 99, M + (16 - (t + 1)), rfl, by decide, by decide, De'.le (by omega), fun r3 E8 re rf k6 D7 => ⟨_, _, rfl, rfl, ?_⟩⟩
        refine ⟨by show 2 ≤ sizeLine; decide, fun tq htq => ?_⟩
        have ntq : tq ≠ l := D7.ne htq
        have e3 := k6 _ _ e1' nP0
        have ntD : tq ≠ P0 := (ne_of_none e3 htq).symm
        refine ⟨_, same_new htq _ _ e3, by rw [List.length_map]; exact small1000' (by omega), prs ++ [(tq, (Sum.inr w, V.int (1 + r3)))], by rw [List.length_append, lp']; rfl, by rw [upd_same, List.map_append]; rfl, fun p hp => ?_, fun p hp => ?_, ?_, ((ke'.trans k6).new htq).mut hP0, (D7.new htq).upd nP0⟩
        · rcases List.mem_append.mp hp with h | h
          · obtain ⟨a1, a2, a3⟩ := p1 p h
            exact ⟨by rw [upd_ne a3]; exact same_new htq _ _ (k6 _ _ a1 a2), a2, a3⟩
          · rw [List.mem_singleton.mp h]
            exact ⟨by rw [upd_ne ntD]; exact upd_same, ntq, ntD⟩
        · rcases List.mem_append.mp hp with h | h
          · exact p2 p h
          · rw [List.mem_singleton.mp h]
            exact ⟨w, 1 + r3, rfl, List.mem_of_getElem? hw, by omega, by omega⟩
        · rw [List.map_append, m1, List.take_add_one, hw, List.map_append]
          rfl
      rintro E6 ⟨prs, lp', e1', p1, p2, m1, ke', De'⟩
      rw [List.take_length] at m1
      refine ⟨P0, prs.map (·.1), prs.map (·.2), rfl, SqL.of (by rw [e1', List.map_map]; rfl), paired_of (F := fun (p : Addr) (kv : Key × V) => SqT K E6 p [kV kv.1, kv.2]) (ps := prs) (fun q hq => SqT.of (p1 q hq).1), fun pd hpd => ?_⟩
      obtain ⟨P1, P2⟩ := PrOk.merge (sg := og) (more := prs.map (·.2)) (kvs := []) PrOk.nil fun kv hkv => by
        obtain ⟨p, hp, rfl⟩ := List.mem_map.mp hkv
        obtain ⟨z, q, e, hz, q1, q9⟩ := p2 p hp
        exact ⟨z, q, e, (oks z hz).1.1, (oks z hz).1.2, q1, q9⟩
      have has : ∀ c ∈ og, (valV (mergeK [] (prs.map (·.2))) (Sum.inr (ch c))).isSome = true := fun c hc => merge_has (.inl (by
        rw [List.map_map]
        show Sum.inr (ch c) ∈ prs.map (·.2.1)
        rw [m1]
        exact List.mem_map.mpr ⟨_, cxs c hc, rfl⟩))
      have inU : ∀ z p, tfD (mergeK [] (prs.map (·.2))) z = some p → z ∈ ws ++ sg.map ch := fun z p h => by
        rcases merge_key5 (tf_some.mp h) with ⟨v', h'⟩ | ⟨v', h'⟩
        · obtain ⟨q, hq, e⟩ := List.mem_map.mp h'
          obtain ⟨z', q', e', hz, _⟩ := p2 q hq
          rw [e] at e'
          rw [Sum.inr.inj (Prod.mk.inj e').1]
          exact (oks z' hz).2
        · cases h'
      rw [List.length_map, lp', List.length_nil] at P2
      obtain ⟨av, sgns⟩ := P1.right has (fun c hc => sgl c (ogs c hc)) (by omega) (List.length_pos_of_mem c0o) (by omega)
      generalize mergeK [] (prs.map (·.2)) = kk at P1 P2 has av sgns inU ⊢
      have fit : Fit (ws ++ sg.map ch) sg c0 (tfD kk) := ⟨inU, good_of av, fun c p h => ogs c ((sgns c).mp ⟨p, h⟩), (sgns c0).mpr c0o⟩
      generalize hG_ : upd E6 pd _ = E7
      have s7 : Same E6 E7 := by rw [← hG_]; exact same_new hpd
      have f7 := (congrFun hG_ pd).symm.trans upd_same
      clear hG_
      have npd : pd ≠ l := De'.ne hpd
      have kC : Kp l B1 E7 := (kb5.trans ke').trans (.of s7)
      have npf : pd ≠ fo := (ne_of_none ((kb5.trans ke') _ _ hf1 nfo) hpd).symm
      have ndf : ∀ e ∈ ds, e.1 ≠ fo := fun e he q => by
        have h1 := (okd e he).1
        rw [q, hf1] at h1
        cases h1
      refine ⟨fo, _, _, rfl, rfl, kC _ _ hf1 nfo, by rw [List.length_map]; exact small1000' (by omega), ?_⟩
      refine ⟨_, _, _, _, ds ++ [(pd, kk)], rfl, by rw [List.length_append, lds]; rfl, fun e he => ?_, by rw [upd_ne nmf]; exact kC _ _ hm1 nme, by rw [upd_same, List.map_append]; rfl, (kb.trans kC).mut fo0, ((De'.same s7).upd nfo).le (by omega)⟩
      rcases List.mem_append.mp he with h | h
      · obtain ⟨a1, a2, a3⟩ := okd e h
        exact ⟨by rw [upd_ne (ndf e h)]; exact kC _ _ a1 a2, a2, a3⟩
      · rw [List.mem_singleton.mp h]
        exact ⟨by rw [upd_ne npf]; exact f7, npd, av, P1.nd, fit⟩
    rintro σ B1 ⟨y4, x6, x7, x8, ds, rfl, lds, okd, hm1, hf1, kb, Db⟩
    obtain ⟨e1, e2, e3, rfl⟩ : ∃ e1 e2 e3, ds = [e1, e2, e3] := by
      match ds, lds with
      | [e1, e2, e3], _ => exact ⟨e1, e2, e3, rfl⟩
    obtain ⟨a1, a2, a3⟩ := okd e1 List.mem_cons_self
    obtain ⟨b1, b2, b3⟩ := okd e2 (List.mem_cons_of_mem _ List.mem_cons_self)
    obtain ⟨d1, d2, d3⟩ := okd e3 (List.mem_cons_of_mem _ (List.mem_cons_of_mem _ List.mem_cons_self))
    exact ⟨_, rfl, k fo e1.1 e2.1 e3.1 e1.2 e2.2 e3.2 (ws ++ sg.map ch) sg c0 B1 (kp_free kp02 nfo fo0) nfo a2 b2 d2 hf1 ⟨a1, a3⟩ ⟨b1, b3⟩ ⟨d1, d3⟩ lU n4 sgl (kp02.trans kb) (Db.le (by omega))⟩
theorem sc__law_cheaper_right : FnScope ["one", "two", "told"] ["one", "two"] (defScope s__law_cheaper_right) := ⟨rfl, rfl, rfl, by decide +kernel, rfl, by decide +kernel, by decide +kernel⟩
theorem ok__law_cheaper_right {f : Addr} {fd : FuncData} (F : Fun K "_law_cheaper_right" "_law_cheaper_right" s__law_cheaper_right f fd) (T : Txt K mg C) (c_Book_alphabet : HasP P w K mg base 1 C "alphabet" (spAlphG C)) (c_Book___and__ : C8.Met P w K mg base 8 C "__and__" (spAndB C) []) (c_Book___or__ : C8.Met P w K mg base 8 C "__or__" (spOrB C) []) (c_is_nowhere_dearer : HasO P w K mg base CX0 6 "is_nowhere_dearer" ["book", "other"] (spNowhere C)) : FnG P w K mg base CX0 12 f fd ["one", "two"] (spCheaper C) := by
  refine fn_g0 F sc__law_cheaper_right (fun vs H Q E h => ?_) (fun cdv A outer s H vs Q E hg hr h => ?_)
  · obtain ⟨a, b, k1, k2, U, SG, c0, rfl, _⟩ := h
    rfl
  · have hu := hu_of hr
    obtain ⟨a, b, k1, k2, U, SG, c0, rfl, B1, B2, f1, f2, hU, hS, hl, k⟩ := h
    refine ⟨_, (pss_cons (ps_if (pt_cmpR (g_neD K hr.units) (pe_prp c_Book_alphabet hr (by decide) (pv 0)) (pe_prp c_Book_alphabet hr (by decide) (pv 1)) (nomark _)) (pss_one (ps_ret pe_bl)) pss_nil)
      (pss_cons (ps_set (i := 2) sc__law_cheaper_right.nd rfl (Or.inl rfl) (pe_lst (pa_cons (pe_hasO c_is_nowhere_dearer (hr.mono (by decide)) pass0 (pa_cons (pe_op (op_orO c_Book___or__ hr (by decide) T.sf) (pv 0) (pv 1)) (pa_cons (pv 0) pa_nil))) (pa_cons (pe_hasO c_is_nowhere_dearer (hr.mono (by decide)) pass0 (pa_cons (pe_op (op_orO c_Book___or__ hr (by decide) T.sf) (pv 0) (pv 1)) (pa_cons (pv 1) pa_nil))) pa_nil))))
      (pss_one (ps_ret (pe_cmpR (g_eqD K hr.units) (pe_op op_cat (pv 2) (pe_lst (pa_cons (pe_hasO c_is_nowhere_dearer (hr.mono (by decide)) pass0 (pa_cons (pv 0) (pa_cons (pe_op (op_andO c_Book___and__ hr (by decide) T.sf) (pv 0) (pv 1)) pa_nil))) (pa_cons (pe_hasO c_is_nowhere_dearer (hr.mono (by decide)) pass0 (pa_cons (pv 1) (pa_cons (pe_op (op_andO c_Book___and__ hr (by decide) T.sf) (pv 0) (pv 1)) pa_nil))) pa_nil)))) (pe_op op_rep (pe_lst (pa_cons pe_bl pa_nil)) pe_int) (nomark _)))))), ?_⟩
    obtain ⟨_, _, _, _, _, dx1, _, _, _, _, _, _, A1⟩ := id B1
    obtain ⟨_, _, _, _, _, dx2, _, _, _, _, _, _, A2⟩ := id B2
    refine ⟨_, rfl, a, _, _, rfl, A1.ob, a, k1, rfl, B1, fun t1 ys1 pm1 so1 e1 => ?_⟩
    refine ⟨_, rfl, b, _, _, rfl, A2.ob, b, k2, rfl, B2, fun t2 ys2 pm2 so2 e2 => ?_⟩
    refine ⟨.tuple ((sgn (psOf k1 ys1)).map PyData.str), .tuple ((sgn (psOf k2 ys2)).map PyData.str), .tup (SqT.of e1) (dpAll_strs _), .tup (SqT.of e2) (dpAll_strs _), shaped_strs (sgn_lett B1.av pm1), shaped_strs (sgn_lett B2.av pm2), ?_⟩
    rw [eqvT_strs5]
    refine ⟨_, rfl, ?_⟩
    refine itB (fun q => ?_) (fun q => ?_)
    · exact k H (Same.refl _)
    have same : sgn (psOf k1 ys1) = sgn (psOf k2 ys2) := by
      cases hq : decide (sgn (psOf k1 ys1) = sgn (psOf k2 ys2)) with
      | true => exact of_decide_eq_true hq
      | false =>
        rw [hq] at q
        cases q
    have ss : SameSigns (tfD k1) (tfD k2) := fun c => by rw [← sgn_in B1.av pm1, ← sgn_in B2.av pm2, same]
    have f3 := f1.or f2
    refine ⟨_, rfl, _, rfl, a, _, _, b, _, _, rfl, rfl, A1.ob, A2.ob, a, b, k1, k2, U, SG, c0, rfl, B1, B2, f1, f2, hU, hS, hl, fun p3 k3 H1 B3 t3 s1 => ⟨⟨p3, rfl⟩, ?_⟩⟩
    have g3 : Good (orT (tfD k1) (tfD k2)) := f3.good
    refine ⟨_, rfl, k3, k1, ⟨p3, a, rfl, B3, B1.same s1, by rw [t3]; exact same_or ss⟩, fun r1 H2 s2 i1 => ?_⟩
    obtain rfl : r1 = true := i1.mpr (by rw [t3]; exact no_or g3)
    have s12 := s1.trans s2
    refine ⟨_, rfl, _, rfl, a, _, _, b, _, _, rfl, rfl, (A1.same s12).ob, (A2.same s12).ob, a, b, k1, k2, U, SG, c0, rfl, B1.same s12, B2.same s12, f1, f2, hU, hS, hl, fun p4 k4 H3 B4 t4 s3 => ⟨⟨p4, rfl⟩, ?_⟩⟩
    have s13 := s12.trans s3
    refine ⟨_, rfl, k4, k2, ⟨p4, b, rfl, B4, B2.same s13, by rw [t4, orT_comm]; exact same_or ss.symm⟩, fun r2 H4 s4 i2 => ?_⟩
    obtain rfl : r2 = true := i2.mpr (by rw [t4, orT_comm]; exact no_or (by rw [orT_comm]; exact g3))
    refine ⟨by show 2 ≤ sizeLine; decide, fun tl htl => ?_⟩
    have s5 := same_new htl (o := .lst [V.bl true, V.bl true])
    have f5 : (upd H4 tl (.lst [V.bl true, V.bl true] : HO)) tl = some (.lst [V.bl true, V.bl true] : HO) := upd_same
    generalize (upd H4 tl (.lst [V.bl true, V.bl true] : HO)) = H5 at s5 f5 ⊢
    have s15 := (s13.trans s4).trans s5
    refine ⟨_, rfl, _, rfl, _, rfl, _, rfl, a, _, _, b, _, _, rfl, rfl, (A1.same s15).ob, (A2.same s15).ob, a, b, k1, k2, U, SG, c0, rfl, B1.same s15, B2.same s15, f1, f2, hU, hS, hl, fun p5 k5 H6 B5 t5 s6 => ⟨⟨p5, rfl⟩, ?_⟩⟩
    have s16 := s15.trans s6
    refine ⟨k1, k5, ⟨a, p5, rfl, B1.same s16, B5, by rw [t5]; exact same_and ss⟩, fun r3 H7 s7 i3 => ?_⟩
    obtain rfl : r3 = true := i3.mpr (by rw [t5]; exact no_and f1.good)
    have s17 := s16.trans s7
    refine ⟨_, rfl, _, rfl, _, rfl, a, _, _, b, _, _, rfl, rfl, (A1.same s17).ob, (A2.same s17).ob, a, b, k1, k2, U, SG, c0, rfl, B1.same s17, B2.same s17, f1, f2, hU, hS, hl, fun p6 k6 H8 B6 t6 s8 => ⟨⟨p6, rfl⟩, ?_⟩⟩
    have s18 := s17.trans s8
    refine ⟨k2, k6, ⟨b, p6, rfl, B2.same s18, B6, by rw [t6, andT_comm]; exact same_and ss.symm⟩, fun r4 H9 s9 i4 => ?_⟩
    obtain rfl : r4 = true := i4.mpr (by rw [t6, andT_comm]; exact no_and f2.good)
    refine ⟨by show 2 ≤ sizeLine; decide, fun tm htm => ?_⟩
    have u1 := same_new htm (o := .lst [V.bl true, V.bl true])
    have fm : (upd H9 tm (.lst [V.bl true, V.bl true] : HO)) tm = some (.lst [V.bl true, V.bl true] : HO) := upd_same
    generalize (upd H9 tm (.lst [V.bl true, V.bl true] : HO)) = G1 at u1 fm ⊢
    have f9 : G1 tl = some (.lst [V.bl true, V.bl true]) := u1 _ _ (s9 _ _ (s8 _ _ (s7 _ _ (s6 _ _ f5))))
    refine ⟨tl, tm, _, _, rfl, rfl, f9, fm, by show 4 ≤ sizeLine; decide, fun tc htc => ?_⟩
    have u2 := same_new htc (o := .lst ([V.bl true, V.bl true] ++ [V.bl true, V.bl true]))
    have fc : (upd G1 tc (.lst ([V.bl true, V.bl true] ++ [V.bl true, V.bl true]) : HO)) tc = some (.lst ([V.bl true, V.bl true] ++ [V.bl true, V.bl true]) : HO) := upd_same
    generalize (upd G1 tc (.lst ([V.bl true, V.bl true] ++ [V.bl true, V.bl true]) : HO)) = G2 at u2 fc ⊢
    refine ⟨by show 1 ≤ sizeLine; decide, fun to hto => ?_⟩
    have u3 := same_new hto (o := .lst [V.bl true])
    have ft : (upd G2 to (.lst [V.bl true] : HO)) to = some (.lst [V.bl true] : HO) := upd_same
    generalize (upd G2 to (.lst [V.bl true] : HO)) = G3 at u3 ft ⊢
    refine ⟨to, 4, _, rfl, rfl, ft, by decide, by decide, by show 4 ≤ sizeLine; decide, fun tr htr => ?_⟩
    have u4 := same_new htr (o := .lst [V.bl true, V.bl true, V.bl true, V.bl true])
    refine rEqD_same5 (.lst (SqL.of (u4 _ _ (u3 _ _ fc))) (.cons (.bl true) (.cons (.bl true) (.cons (.bl true) (.cons (.bl true) .nil))))) (.lst (SqL.of upd_same) (.cons (.bl true) (.cons (.bl true) (.cons (.bl true) (.cons (.bl true) .nil))))) shaped_t4 ?_
    exact k _ (((((s18.trans s9).trans u1).trans u2).trans u3).trans u4)
theorem sc__law_right : FnScope ["dice", "plain", "one", "two", "three", "told", "prices"] ["dice"] (defScope s__law_right) := ⟨rfl, rfl, rfl, by decide +kernel, rfl, by decide +kernel, by decide +kernel⟩
theorem ok__law_right {f : Addr} {fd : FuncData} (F : Fun K "_law_right" "_law_right" s__law_right f fd) (T : Txt K mg C) (c_Book : C8.Mak P w K mg base 5 "Book" C (spBook C K) []) (c_Book___and__ : C8.Met P w K mg base 8 C "__and__" (spAndB C) []) (c_Book___eq__ : C8.Met P w K mg base 1 C "__eq__" (spEqG C) []) (c_Book___or__ : C8.Met P w K mg base 8 C "__or__" (spOrB C) []) (c__law_scene : Has P w K mg base CX0 3 "_law_scene" ["dice"] (spScene)) (c__law_has : Has P w K mg base CX0 3 "_law_has" ["book", "prices"] (spHas C)) (c__law_or : Has P w K mg base CX0 2 "_law_or" ["one", "two"] (spLOr)) (c__law_and : Has P w K mg base CX0 2 "_law_and" ["one", "two"] (spLAnd)) (c__law_cheaper_right : Has P w K mg base CX0 12 "_law_cheaper_right" ["one", "two"] (spCheaper C)) : FnG P w K mg base CX0 14 f fd ["dice"] (spRight 400) := by
  refine fn_g0 F sc__law_right (fun vs H Q E h => ?_) (fun cdv A outer s H vs Q E hg hr h => ?_)
  · obtain ⟨l, n, rfl, _⟩ := h
    rfl
  · have hu := hu_of hr
    obtain ⟨l, n, rfl, D, k⟩ := h
    refine ⟨_, (pss_cons (ps_set (i := 1) sc__law_right.nd rfl (Or.inl rfl) (pe_has c__law_scene hg (hr.mono (by decide)) pass0 (pa_cons (pv 0) pa_nil)))
      (pss_cons (ps_asg (pe_lc (own := [("prices", 6)]) rfl sc__law_right.nd (g_list K (pv 1)) (blkOk_by (own := [("prices", 6)]) (N := ["dice", "plain", "one", "two", "three", "told", "prices"]) (sc := defScope s__law_right) (by decide +kernel)) (fun _ _ _ _ _ => (pg_name (i := 6) sc__law_right.nd rfl (Or.inl rfl))) (fun _ _ _ _ _ => pts_nil) (fun _ _ _ _ _ => (C8.pe_mk c_Book hr (by decide) (by rfl) (pa_cons (pv 6) pa_nil)))) (pg_lst (n := 3) rfl (pgs_cons (pg_name (i := 2) sc__law_right.nd rfl (Or.inl rfl)) (pgs_cons (pg_name (i := 3) sc__law_right.nd rfl (Or.inl rfl)) (pgs_cons (pg_name (i := 4) sc__law_right.nd rfl (Or.inl rfl)) pgs_nil)))))
      (pss_cons (ps_if (PW.pt (pw_or (pt_not (pt_val (pe_has c__law_has hg (hr.mono (by decide)) pass0 (pa_cons (pe_op (op_orO c_Book___or__ hr (by decide) T.sf) (pv 2) (pv 3)) (pa_cons (pe_has c__law_or hg (hr.mono (by decide)) pass0 (pa_cons (pe_ix (g_ix_list K) (pv 1) pe_int (fun _ _ => rfl)) (pa_cons (pe_ix (g_ix_list K) (pv 1) pe_int (fun _ _ => rfl)) pa_nil))) pa_nil))))) (pw_or1 (pt_not (pt_val (pe_has c__law_has hg (hr.mono (by decide)) pass0 (pa_cons (pe_op (op_andO c_Book___and__ hr (by decide) T.sf) (pv 2) (pv 3)) (pa_cons (pe_has c__law_and hg (hr.mono (by decide)) pass0 (pa_cons (pe_ix (g_ix_list K) (pv 1) pe_int (fun _ _ => rfl)) (pa_cons (pe_ix (g_ix_list K) (pv 1) pe_int (fun _ _ => rfl)) pa_nil))) pa_nil)))))))) (pss_one (ps_ret pe_bl)) pss_nil)
      (pss_cons (ps_set (i := 5) sc__law_right.nd rfl (Or.inl rfl) (pe_lst (pa_cons (pe_cmpR (op_eqO c_Book___eq__ hr (by decide) hr.units0) (pe_op (op_orO c_Book___or__ hr (by decide) T.sf) (pv 2) (pv 3)) (pe_op (op_orO c_Book___or__ hr (by decide) T.sf) (pv 3) (pv 2)) (nomark _)) (pa_cons (pe_cmpR (op_eqO c_Book___eq__ hr (by decide) hr.units0) (pe_op (op_andO c_Book___and__ hr (by decide) T.sf) (pv 2) (pv 3)) (pe_op (op_andO c_Book___and__ hr (by decide) T.sf) (pv 3) (pv 2)) (nomark _)) (pa_cons (pe_cmpR (op_eqO c_Book___eq__ hr (by decide) hr.units0) (pe_op (op_orO c_Book___or__ hr (by decide) T.sf) (pv 2) (pv 2)) (pv 2) (nomark _)) (pa_cons (pe_cmpR (op_eqO c_Book___eq__ hr (by decide) hr.units0) (pe_op (op_andO c_Book___and__ hr (by decide) T.sf) (pv 2) (pv 2)) (pv 2) (nomark _)) pa_nil))))))
      (pss_cons (ps_set (i := 5) sc__law_right.nd rfl (Or.inl rfl) (pe_op op_cat (pv 5) (pe_lst (pa_cons (pe_cmpR (op_eqO c_Book___eq__ hr (by decide) hr.units0) (pe_op (op_orO c_Book___or__ hr (by decide) T.sf) (pe_op (op_orO c_Book___or__ hr (by decide) T.sf) (pv 2) (pv 3)) (pv 4)) (pe_op (op_orO c_Book___or__ hr (by decide) T.sf) (pv 2) (pe_op (op_orO c_Book___or__ hr (by decide) T.sf) (pv 3) (pv 4))) (nomark _)) (pa_cons (pe_cmpR (op_eqO c_Book___eq__ hr (by decide) hr.units0) (pe_op (op_andO c_Book___and__ hr (by decide) T.sf) (pe_op (op_andO c_Book___and__ hr (by decide) T.sf) (pv 2) (pv 3)) (pv 4)) (pe_op (op_andO c_Book___and__ hr (by decide) T.sf) (pv 2) (pe_op (op_andO c_Book___and__ hr (by decide) T.sf) (pv 3) (pv 4))) (nomark _)) pa_nil)))))
      (pss_cons (ps_set (i := 5) sc__law_right.nd rfl (Or.inl rfl) (pe_op op_cat (pv 5) (pe_lst (pa_cons (pe_cmpR (op_eqO c_Book___eq__ hr (by decide) hr.units0) (pe_op (op_orO c_Book___or__ hr (by decide) T.sf) (pv 2) (pe_op (op_andO c_Book___and__ hr (by decide) T.sf) (pv 2) (pv 3))) (pv 2) (nomark _)) (pa_cons (pe_cmpR (op_eqO c_Book___eq__ hr (by decide) hr.units0) (pe_op (op_andO c_Book___and__ hr (by decide) T.sf) (pv 2) (pe_op (op_orO c_Book___or__ hr (by decide) T.sf) (pv 2) (pv 3))) (pv 2) (nomark _)) pa_nil)))))
      (pss_cons (ps_expr (g_bm K PySem.F.plainAttrs_list PySem.F.slot_list_append PySem.F.type_list_append mt_append (pv 5) (pa_cons (pe_cmpR (op_eqO c_Book___eq__ hr (by decide) hr.units0) (pe_op (op_andO c_Book___and__ hr (by decide) T.sf) (pv 2) (pe_op (op_orO c_Book___or__ hr (by decide) T.sf) (pv 3) (pv 4))) (pe_op (op_orO c_Book___or__ hr (by decide) T.sf) (pe_op (op_andO c_Book___and__ hr (by decide) T.sf) (pv 2) (pv 3)) (pe_op (op_andO c_Book___and__ hr (by decide) T.sf) (pv 2) (pv 4))) (nomark _)) pa_nil)))
      (pss_cons (ps_expr (g_bm K PySem.F.plainAttrs_list PySem.F.slot_list_append PySem.F.type_list_append mt_append (pv 5) (pa_cons (pe_cmpR (op_eqO c_Book___eq__ hr (by decide) hr.units0) (pe_op (op_orO c_Book___or__ hr (by decide) T.sf) (pv 2) (pe_op (op_andO c_Book___and__ hr (by decide) T.sf) (pv 3) (pv 4))) (pe_op (op_andO c_Book___and__ hr (by decide) T.sf) (pe_op (op_orO c_Book___or__ hr (by decide) T.sf) (pv 2) (pv 3)) (pe_op (op_orO c_Book___or__ hr (by decide) T.sf) (pv 2) (pv 4))) (nomark _)) pa_nil)))
      (pss_cons (ps_expr (g_bm K PySem.F.plainAttrs_list PySem.F.slot_list_append PySem.F.type_list_append mt_append (pv 5) (pa_cons (pe_cmpR op_eq (pe_cmpR (op_eqO c_Book___eq__ hr (by decide) hr.units0) (pe_op (op_orO c_Book___or__ hr (by decide) T.sf) (pv 2) (pv 3)) (pv 2) (nomark _)) (pe_cmpR (op_eqO c_Book___eq__ hr (by decide) hr.units0) (pe_op (op_andO c_Book___and__ hr (by decide) T.sf) (pv 2) (pv 3)) (pv 3) (nomark _)) (nomark _)) pa_nil)))
      (pss_cons (ps_if (PW.pt (pw_or (pt_cmpR (g_neD K hr.units) (pv 5) (pe_op op_rep (pe_lst (pa_cons pe_bl pa_nil)) pe_int) (nomark _)) (pw_or (pt_not (pt_val (pe_has c__law_cheaper_right hg (hr.mono (by decide)) pass0 (pa_cons (pv 2) (pa_cons (pv 3) pa_nil))))) (pw_or1 (pt_not (pt_val (pe_has c__law_cheaper_right hg (hr.mono (by decide)) pass0 (pa_cons (pv 3) (pa_cons (pv 4) pa_nil))))))))) (pss_one (ps_ret pe_bl)) pss_nil)
      (pss_one (ps_ret (pe_and (pe_has c__law_has hg (hr.mono (by decide)) pass0 (pa_cons (pv 2) (pa_cons (pe_ix (g_ix_list K) (pv 1) pe_int (fun _ _ => rfl)) pa_nil))) (pe_and (pe_has c__law_has hg (hr.mono (by decide)) pass0 (pa_cons (pv 3) (pa_cons (pe_ix (g_ix_list K) (pv 1) pe_int (fun _ _ => rfl)) pa_nil))) (pe_one (pe_has c__law_has hg (hr.mono (by decide)) pass0 (pa_cons (pv 4) (pa_cons (pe_ix (g_ix_list K) (pv 1) pe_int (fun _ _ => rfl)) pa_nil)))))))))))))))))), ?_⟩
    refine ⟨_, rfl, l, n + 100, rfl, D.le (by omega), fun p d1 d2 d3 k1 k2 k3 U SG c0 H1 hp np n1 n2 n3 e1 Z1 Z2 Z3 hU hS hl kp1 D1 => ?_⟩
    have N : EnvF U SG := ⟨hU, hS, hl⟩
    have e1' : H1 p = some (.lst ([(d1, k1), (d2, k2), (d3, k3)].map fun e : Addr × List (Key × V) => V.ref e.1)) := e1
    have Z : ∀ e ∈ [(d1, k1), (d2, k2), (d3, k3)], Drawn H1 (e : Addr × List (Key × V)).1 e.2 U SG c0 := fun e he => by
      simp only [List.mem_cons, List.not_mem_nil, or_false] at he
      rcases he with rfl | rfl | rfl
      · exact Z1
      · exact Z2
      · exact Z3
    refine ⟨_, rfl, p, rfl, ⟨_, SqL.of e1'⟩, fun D hD => ?_⟩
    refine lc_it (walk_listF (K := K) (fun e : Addr × List (Key × V) => V.ref e.1) [(d1, k1), (d2, k2), (d3, k3)]) (fun j H' => ∃ bs : List Addr, bs.length = j ∧ H' D = some (.lst (bs.map V.ref)) ∧ (∀ (i : Nat) (b : Addr) (e : Addr × List (Key × V)), bs[i]? = some b → [(d1, k1), (d2, k2), (d3, k3)][i]? = some e → Book1 C H' b e.2) ∧ Same H1 H')
      ⟨[], rfl, upd_same, fun i b e h => by simp at h, same_new hD⟩ (fun j H' _ q => by obtain ⟨_, _, _, _, q⟩ := q; exact SqL.of (q _ _ e1')) ?_ ?_
    · rintro j x H2 H3 hj ⟨bs, bl, d2', o2, s2⟩ ⟨rfl, e, he, rfl⟩
      obtain ⟨z1, z2, z3, z4⟩ := Z e (List.mem_of_getElem? he)
      refine ⟨wipe_set, _, rfl, ?_⟩
      intro b dx hb hdx hne
      refine made_book hb hdx (s2 _ _ z1) z2 z3 fun H4 s4 B4 => ⟨rfl, ?_⟩
      have d4 := s4 _ _ d2'
      have keepf : ∀ c u, H4 c = some u → (∀ xs, u ≠ .lst xs) → (upd H4 D (.lst (bs.map V.ref ++ [V.ref b]))) c = some u := fun c u e n => by
        have ncD : c ≠ D := fun q => by
          rw [q, d4] at e
          exact n _ (Option.some.inj e).symm
        rw [upd_ne ncD]
        exact e
      have jl : j < 3 := hj
      refine ⟨_, d4, by rw [List.length_map]; exact small1000' (by omega), bs ++ [b], by rw [List.length_append, bl]; rfl, by rw [upd_same, List.map_append]; rfl, fun i b' e' hb' he' => ?_, same_mut (s2.trans s4) hD⟩
      rcases Nat.lt_or_ge i bs.length with h | h
      · rw [List.getElem?_append_left h] at hb'
        exact ((o2 i b' e' hb' he').same s4).keep keepf
      · rw [List.getElem?_append_right h] at hb'
        have e0 : i - bs.length = 0 := by
          rcases Nat.eq_zero_or_pos (i - bs.length) with h0 | h0
          · exact h0
          · rw [List.getElem?_eq_none (by simp; omega)] at hb'
            cases hb'
        rw [e0] at hb'
        cases hb'
        have ej : i = j := by omega
        subst ej
        rw [he] at he'
        cases he'
        exact B4.keep keepf
    rintro H2 ⟨bs, bl, d2', o2, s2⟩
    obtain ⟨b1, b2, b3, rfl⟩ : ∃ b1 b2 b3, bs = [b1, b2, b3] := by
      match bs, bl with
      | [b1, b2, b3], _ => exact ⟨b1, b2, b3, rfl⟩
    have X1 : BkF C U SG c0 H2 b1 (tfD k1) := ⟨⟨k1, o2 0 b1 _ rfl rfl, rfl⟩, Z1.2.2.2⟩
    have X2 : BkF C U SG c0 H2 b2 (tfD k2) := ⟨⟨k2, o2 1 b2 _ rfl rfl, rfl⟩, Z2.2.2.2⟩
    have X3 : BkF C U SG c0 H2 b3 (tfD k3) := ⟨⟨k3, o2 2 b3 _ rfl rfl, rfl⟩, Z3.2.2.2⟩
    refine ⟨D, _, rfl, SqL.of d2', rfl, _, _, rfl, _, _, rfl, _, _, rfl, rfl, ?_⟩
    obtain ⟨z1, av1, nd1, f1⟩ := Z1
    obtain ⟨z2, av2, nd2, f2⟩ := Z2
    obtain ⟨z3, av3, nd3, f3⟩ := Z3
    -- the prices
    refine ⟨_, rfl, _, rfl, or_go N X1 X2 fun p1 H3 Y1 s3 => ?_⟩
    have s13 := s2.trans s3
    refine ⟨_, rfl, p, _, 0, .ref d1, rfl, rfl, SqL.of (s13 _ _ e1), at_of (j := 0) rfl rfl, _, rfl, p, _, 1, .ref d2, rfl, rfl, SqL.of (s13 _ _ e1), at_of (j := 1) rfl rfl, d1, d2, k1, k2, rfl, s13 _ _ z1, s13 _ _ z2, av1, nd1, av2, nd2, fun q1 ks1 H4 hq1 R1 s4 => ?_⟩
    dsimp only [tNil]
    refine has_go (Y1.same s4) R1.1 R1.2.1 R1.2.2.2 fun H5 s5 => ⟨true, rfl, ?_⟩
    have s15 := (s13.trans s4).trans s5
    have s25 := (s3.trans s4).trans s5
    refine itF rfl ?_
    refine ⟨_, rfl, _, rfl, and_go N (X1.same s25) (X2.same s25) fun p2 H6 Y2 s6 => ?_⟩
    have s16 := s15.trans s6
    refine ⟨_, rfl, p, _, 0, .ref d1, rfl, rfl, SqL.of (s16 _ _ e1), at_of (j := 0) rfl rfl, _, rfl, p, _, 1, .ref d2, rfl, rfl, SqL.of (s16 _ _ e1), at_of (j := 1) rfl rfl, d1, d2, k1, k2, rfl, s16 _ _ z1, s16 _ _ z2, av1, nd1, av2, nd2, fun q2 ks2 H7 hq2 R2 s7 => ?_⟩
    dsimp only [tNil]
    refine has_go (Y2.same s7) R2.1 R2.2.1 R2.2.2.2 fun H8 s8 => ⟨true, rfl, ?_⟩
    have S := (s16.trans s7).trans s8
    have s28 := ((s25.trans s6).trans s7).trans s8
    have X1 := X1.same s28
    have X2 := X2.same s28
    have X3 := X3.same s28
    refine itF rfl ?_
    -- the rules
    refine ⟨_, rfl, _, rfl, or_go N X1 X2 fun w1 J1 W1 t1 => ?_⟩
    have X1 := X1.same t1
    have X2 := X2.same t1
    have X3 := X3.same t1
    have S := S.trans t1
    refine ⟨_, rfl, _, rfl, or_go N X2 X1 fun w2 J2 W2 t2 => ?_⟩
    have X1 := X1.same t2
    have X2 := X2.same t2
    have X3 := X3.same t2
    have W1 := W1.same t2
    have S := S.trans t2
    refine eq_yes W1 W2 (orT_comm _ _) ?_
    refine ⟨_, rfl, _, rfl, and_go N X1 X2 fun w3 J3 W3 t3 => ?_⟩
    have X1 := X1.same t3
    have X2 := X2.same t3
    have X3 := X3.same t3
    have S := S.trans t3
    refine ⟨_, rfl, _, rfl, and_go N X2 X1 fun w4 J4 W4 t4 => ?_⟩
    have X1 := X1.same t4
    have X2 := X2.same t4
    have X3 := X3.same t4
    have W3 := W3.same t4
    have S := S.trans t4
    refine eq_yes W3 W4 (andT_comm _ _) ?_
    refine ⟨_, rfl, _, rfl, or_go N X1 X1 fun w5 J5 W5 t5 => ?_⟩
    have X1 := X1.same t5
    have X2 := X2.same t5
    have X3 := X3.same t5
    have S := S.trans t5
    refine ⟨_, rfl, eq_yes W5 X1 (orT_self _) ?_⟩
    refine ⟨_, rfl, _, rfl, and_go N X1 X1 fun w6 J6 W6 t6 => ?_⟩
    have X1 := X1.same t6
    have X2 := X2.same t6
    have X3 := X3.same t6
    have S := S.trans t6
    refine ⟨_, rfl, eq_yes W6 X1 (andT_self _) ?_⟩
    refine ⟨by show 4 ≤ sizeLine; decide, fun ta hta => ?_⟩
    have uta := same_new hta (o := .lst [V.bl true, V.bl true, V.bl true, V.bl true])
    have fta : (upd J6 ta (.lst [V.bl true, V.bl true, V.bl true, V.bl true] : HO)) ta = some (.lst [V.bl true, V.bl true, V.bl true, V.bl true] : HO) := upd_same
    generalize (upd J6 ta (.lst [V.bl true, V.bl true, V.bl true, V.bl true] : HO)) = G_ta at uta fta ⊢
    have X1 := X1.same uta
    have X2 := X2.same uta
    have X3 := X3.same uta
    have S := S.trans uta
    refine ⟨_, rfl, _, rfl, _, rfl, or_go N X1 X2 fun w7 J7 W7 t7 => ?_⟩
    have X1 := X1.same t7
    have X2 := X2.same t7
    have X3 := X3.same t7
    have S := S.trans t7
    have fta := t7 _ _ fta
    refine ⟨_, rfl, or_go N W7 X3 fun w8 J8 W8 t8 => ?_⟩
    have X1 := X1.same t8
    have X2 := X2.same t8
    have X3 := X3.same t8
    have S := S.trans t8
    have fta := t8 _ _ fta
    refine ⟨_, rfl, _, rfl, _, rfl, or_go N X2 X3 fun w9 J9 W9 t9 => ?_⟩
    have X1 := X1.same t9
    have X2 := X2.same t9
    have X3 := X3.same t9
    have W8 := W8.same t9
    have S := S.trans t9
    have fta := t9 _ _ fta
    refine or_go N X1 W9 fun w10 J10 W10 t10 => ?_
    have X1 := X1.same t10
    have X2 := X2.same t10
    have X3 := X3.same t10
    have W8 := W8.same t10
    have S := S.trans t10
    have fta := t10 _ _ fta
    refine eq_yes W8 W10 (orT_assoc _ _ _) ?_
    refine ⟨_, rfl, _, rfl, and_go N X1 X2 fun w11 J11 W11 t11 => ?_⟩
    have X1 := X1.same t11
    have X2 := X2.same t11
    have X3 := X3.same t11
    have S := S.trans t11
    have fta := t11 _ _ fta
    refine ⟨_, rfl, and_go N W11 X3 fun w12 J12 W12 t12 => ?_⟩
    have X1 := X1.same t12
    have X2 := X2.same t12
    have X3 := X3.same t12
    have S := S.trans t12
    have fta := t12 _ _ fta
    refine ⟨_, rfl, _, rfl, _, rfl, and_go N X2 X3 fun w13 J13 W13 t13 => ?_⟩
    have X1 := X1.same t13
    have X2 := X2.same t13
    have X3 := X3.same t13
    have W12 := W12.same t13
    have S := S.trans t13
    have fta := t13 _ _ fta
    refine and_go N X1 W13 fun w14 J14 W14 t14 => ?_
    have X1 := X1.same t14
    have X2 := X2.same t14
    have X3 := X3.same t14
    have W12 := W12.same t14
    have S := S.trans t14
    have fta := t14 _ _ fta
    refine eq_yes W12 W14 (andT_assoc _ _ _) ?_
    refine ⟨by show 2 ≤ sizeLine; decide, fun tb htb => ?_⟩
    have utb := same_new htb (o := .lst [V.bl true, V.bl true])
    have ftb : (upd J14 tb (.lst [V.bl true, V.bl true] : HO)) tb = some (.lst [V.bl true, V.bl true] : HO) := upd_same
    generalize (upd J14 tb (.lst [V.bl true, V.bl true] : HO)) = G_tb at utb ftb ⊢
    have X1 := X1.same utb
    have X2 := X2.same utb
    have X3 := X3.same utb
    have S := S.trans utb
    have fta := utb _ _ fta
    refine ⟨ta, tb, _, _, rfl, rfl, fta, ftb, by show 6 ≤ sizeLine; decide, fun tc htc => ?_⟩
    have ztc : H1 tc = none := not_there S htc
    have ntc : tc ≠ l := (D1.same S).ne htc
    have utc := same_new htc (o := .lst ([V.bl true, V.bl true, V.bl true, V.bl true] ++ [V.bl true, V.bl true]))
    have ftc : (upd G_tb tc (.lst ([V.bl true, V.bl true, V.bl true, V.bl true] ++ [V.bl true, V.bl true]) : HO)) tc = some (.lst ([V.bl true, V.bl true, V.bl true, V.bl true] ++ [V.bl true, V.bl true]) : HO) := upd_same
    generalize (upd G_tb tc (.lst ([V.bl true, V.bl true, V.bl true, V.bl true] ++ [V.bl true, V.bl true]) : HO)) = G_tc at utc ftc ⊢
    have X1 := X1.same utc
    have X2 := X2.same utc
    have X3 := X3.same utc
    have S := S.trans utc
    refine ⟨_, rfl, _, rfl, _, rfl, _, rfl, and_go N X1 X2 fun w15 J15 W15 t15 => ?_⟩
    have X1 := X1.same t15
    have X2 := X2.same t15
    have X3 := X3.same t15
    have S := S.trans t15
    have ftc := t15 _ _ ftc
    refine or_go N X1 W15 fun w16 J16 W16 t16 => ?_
    have X1 := X1.same t16
    have X2 := X2.same t16
    have X3 := X3.same t16
    have S := S.trans t16
    have ftc := t16 _ _ ftc
    refine ⟨_, rfl, eq_yes W16 X1 (or_and _ _) ?_⟩
    refine ⟨_, rfl, _, rfl, _, rfl, or_go N X1 X2 fun w17 J17 W17 t17 => ?_⟩
    have X1 := X1.same t17
    have X2 := X2.same t17
    have X3 := X3.same t17
    have S := S.trans t17
    have ftc := t17 _ _ ftc
    refine and_go N X1 W17 fun w18 J18 W18 t18 => ?_
    have X1 := X1.same t18
    have X2 := X2.same t18
    have X3 := X3.same t18
    have S := S.trans t18
    have ftc := t18 _ _ ftc
    refine ⟨_, rfl, eq_yes W18 X1 (and_or _ _) ?_⟩
    refine ⟨by show 2 ≤ sizeLine; decide, fun td htd => ?_⟩
    have utd := same_new htd (o := .lst [V.bl true, V.bl true])
    have ftd : (upd J18 td (.lst [V.bl true, V.bl true] : HO)) td = some (.lst [V.bl true, V.bl true] : HO) := upd_same
    generalize (upd J18 td (.lst [V.bl true, V.bl true] : HO)) = G_td at utd ftd ⊢
    have X1 := X1.same utd
    have X2 := X2.same utd
    have X3 := X3.same utd
    have S := S.trans utd
    have ftc := utd _ _ ftc
    refine ⟨tc, td, _, _, rfl, rfl, ftc, ftd, by show 8 ≤ sizeLine; decide, fun te hte => ?_⟩
    have zte : H1 te = none := not_there S hte
    have nte : te ≠ l := (D1.same S).ne hte
    have ute := same_new hte (o := .lst (([V.bl true, V.bl true, V.bl true, V.bl true] ++ [V.bl true, V.bl true]) ++ [V.bl true, V.bl true]))
    have fte : (upd G_td te (.lst (([V.bl true, V.bl true, V.bl true, V.bl true] ++ [V.bl true, V.bl true]) ++ [V.bl true, V.bl true]) : HO)) te = some (.lst (([V.bl true, V.bl true, V.bl true, V.bl true] ++ [V.bl true, V.bl true]) ++ [V.bl true, V.bl true]) : HO) := upd_same
    generalize (upd G_td te (.lst (([V.bl true, V.bl true, V.bl true, V.bl true] ++ [V.bl true, V.bl true]) ++ [V.bl true, V.bl true]) : HO)) = G_te at ute fte ⊢
    have X1 := X1.same ute
    have X2 := X2.same ute
    have X3 := X3.same ute
    have S := S.trans ute
    refine ⟨_, rfl, .inl ⟨rfl, _, SqL.of fte⟩, ?_⟩
    refine ⟨_, rfl, _, rfl, _, rfl, or_go N X2 X3 fun w19 J19 W19 t19 => ?_⟩
    have X1 := X1.same t19
    have X2 := X2.same t19
    have X3 := X3.same t19
    have S := S.trans t19
    have fte := t19 _ _ fte
    refine and_go N X1 W19 fun w20 J20 W20 t20 => ?_
    have X1 := X1.same t20
    have X2 := X2.same t20
    have X3 := X3.same t20
    have S := S.trans t20
    have fte := t20 _ _ fte
    refine ⟨_, rfl, _, rfl, and_go N X1 X2 fun w21 J21 W21 t21 => ?_⟩
    have X1 := X1.same t21
    have X2 := X2.same t21
    have X3 := X3.same t21
    have W20 := W20.same t21
    have S := S.trans t21
    have fte := t21 _ _ fte
    refine ⟨_, rfl, _, rfl, and_go N X1 X3 fun w22 J22 W22 t22 => ?_⟩
    have X1 := X1.same t22
    have X2 := X2.same t22
    have X3 := X3.same t22
    have W20 := W20.same t22
    have W21 := W21.same t22
    have S := S.trans t22
    have fte := t22 _ _ fte
    refine or_go N W21 W22 fun w23 J23 W23 t23 => ?_
    have X1 := X1.same t23
    have X2 := X2.same t23
    have X3 := X3.same t23
    have W20 := W20.same t23
    have S := S.trans t23
    have fte := t23 _ _ fte
    refine eq_yes W20 W23 (and_over _ _ _) ?_
    refine ⟨te, _, _, rfl, rfl, fte, by show 8 < sizeLine; decide, ?_⟩
    have X1 := X1.updL fte (o := .lst ((([V.bl true, V.bl true, V.bl true, V.bl true] ++ [V.bl true, V.bl true]) ++ [V.bl true, V.bl true]) ++ [V.bl true]))
    have X2 := X2.updL fte (o := .lst ((([V.bl true, V.bl true, V.bl true, V.bl true] ++ [V.bl true, V.bl true]) ++ [V.bl true, V.bl true]) ++ [V.bl true]))
    have X3 := X3.updL fte (o := .lst ((([V.bl true, V.bl true, V.bl true, V.bl true] ++ [V.bl true, V.bl true]) ++ [V.bl true, V.bl true]) ++ [V.bl true]))
    have S := same_mut S zte (o := .lst ((([V.bl true, V.bl true, V.bl true, V.bl true] ++ [V.bl true, V.bl true]) ++ [V.bl true, V.bl true]) ++ [V.bl true]))
    have fte : (upd J23 te (.lst ((([V.bl true, V.bl true, V.bl true, V.bl true] ++ [V.bl true, V.bl true]) ++ [V.bl true, V.bl true]) ++ [V.bl true]))) te = some (.lst ((([V.bl true, V.bl true, V.bl true, V.bl true] ++ [V.bl true, V.bl true]) ++ [V.bl true, V.bl true]) ++ [V.bl true])) := upd_same
    generalize (upd J23 te (.lst ((([V.bl true, V.bl true, V.bl true, V.bl true] ++ [V.bl true, V.bl true]) ++ [V.bl true, V.bl true]) ++ [V.bl true]))) = J23a at X1 X2 X3 S fte ⊢
    refine ⟨_, rfl, .inl ⟨rfl, _, SqL.of fte⟩, ?_⟩
    refine ⟨_, rfl, _, rfl, _, rfl, and_go N X2 X3 fun w24 J24 W24 t24 => ?_⟩
    have X1 := X1.same t24
    have X2 := X2.same t24
    have X3 := X3.same t24
    have S := S.trans t24
    have fte := t24 _ _ fte
    refine or_go N X1 W24 fun w25 J25 W25 t25 => ?_
    have X1 := X1.same t25
    have X2 := X2.same t25
    have X3 := X3.same t25
    have S := S.trans t25
    have fte := t25 _ _ fte
    refine ⟨_, rfl, _, rfl, or_go N X1 X2 fun w26 J26 W26 t26 => ?_⟩
    have X1 := X1.same t26
    have X2 := X2.same t26
    have X3 := X3.same t26
    have W25 := W25.same t26
    have S := S.trans t26
    have fte := t26 _ _ fte
    refine ⟨_, rfl, _, rfl, or_go N X1 X3 fun w27 J27 W27 t27 => ?_⟩
    have X1 := X1.same t27
    have X2 := X2.same t27
    have X3 := X3.same t27
    have W25 := W25.same t27
    have W26 := W26.same t27
    have S := S.trans t27
    have fte := t27 _ _ fte
    refine and_go N W26 W27 fun w28 J28 W28 t28 => ?_
    have X1 := X1.same t28
    have X2 := X2.same t28
    have X3 := X3.same t28
    have W25 := W25.same t28
    have S := S.trans t28
    have fte := t28 _ _ fte
    refine eq_yes W25 W28 (or_over _ _ _) ?_
    refine ⟨te, _, _, rfl, rfl, fte, by show 9 < sizeLine; decide, ?_⟩
    have X1 := X1.updL fte (o := .lst (((([V.bl true, V.bl true, V.bl true, V.bl true] ++ [V.bl true, V.bl true]) ++ [V.bl true, V.bl true]) ++ [V.bl true]) ++ [V.bl true]))
    have X2 := X2.updL fte (o := .lst (((([V.bl true, V.bl true, V.bl true, V.bl true] ++ [V.bl true, V.bl true]) ++ [V.bl true, V.bl true]) ++ [V.bl true]) ++ [V.bl true]))
    have X3 := X3.updL fte (o := .lst (((([V.bl true, V.bl true, V.bl true, V.bl true] ++ [V.bl true, V.bl true]) ++ [V.bl true, V.bl true]) ++ [V.bl true]) ++ [V.bl true]))
    have S := same_mut S zte (o := .lst (((([V.bl true, V.bl true, V.bl true, V.bl true] ++ [V.bl true, V.bl true]) ++ [V.bl true, V.bl true]) ++ [V.bl true]) ++ [V.bl true]))
    have fte : (upd J28 te (.lst (((([V.bl true, V.bl true, V.bl true, V.bl true] ++ [V.bl true, V.bl true]) ++ [V.bl true, V.bl true]) ++ [V.bl true]) ++ [V.bl true]))) te = some (.lst (((([V.bl true, V.bl true, V.bl true, V.bl true] ++ [V.bl true, V.bl true]) ++ [V.bl true, V.bl true]) ++ [V.bl true]) ++ [V.bl true])) := upd_same
    generalize (upd J28 te (.lst (((([V.bl true, V.bl true, V.bl true, V.bl true] ++ [V.bl true, V.bl true]) ++ [V.bl true, V.bl true]) ++ [V.bl true]) ++ [V.bl true]))) = J28a at X1 X2 X3 S fte ⊢
    refine ⟨_, rfl, .inl ⟨rfl, _, SqL.of fte⟩, ?_⟩
    refine ⟨_, rfl, _, rfl, or_go N X1 X2 fun w29 J29 W29 t29 => ?_⟩
    have X1 := X1.same t29
    have X2 := X2.same t29
    have X3 := X3.same t29
    have S := S.trans t29
    have fte := t29 _ _ fte
    refine ⟨_, rfl, eq_go W29 X1 fun r1 i1 => ?_⟩
    refine ⟨_, rfl, _, rfl, and_go N X1 X2 fun w30 J30 W30 t30 => ?_⟩
    have X1 := X1.same t30
    have X2 := X2.same t30
    have X3 := X3.same t30
    have S := S.trans t30
    have fte := t30 _ _ fte
    refine ⟨_, rfl, eq_go W30 X2 fun r2 i2 => ?_⟩
    have er : r1 = r2 := by
      have h := orT_iff (tfD k1) (tfD k2)
      cases r1 <;> cases r2
      · rfl
      · exact absurd (i1.mpr (h.mpr (i2.mp rfl))) Bool.false_ne_true
      · exact absurd (i2.mpr (h.mp (i1.mp rfl))) Bool.false_ne_true
      · rfl
    subst er
    refine ⟨rfl, ?_⟩
    rw [decide_eq_true (rfl : V.bl r1 = V.bl r1)]
    refine ⟨te, _, _, rfl, rfl, fte, by show 10 < sizeLine; decide, ?_⟩
    have X1 := X1.updL fte (o := .lst ((((([V.bl true, V.bl true, V.bl true, V.bl true] ++ [V.bl true, V.bl true]) ++ [V.bl true, V.bl true]) ++ [V.bl true]) ++ [V.bl true]) ++ [V.bl true]))
    have X2 := X2.updL fte (o := .lst ((((([V.bl true, V.bl true, V.bl true, V.bl true] ++ [V.bl true, V.bl true]) ++ [V.bl true, V.bl true]) ++ [V.bl true]) ++ [V.bl true]) ++ [V.bl true]))
    have X3 := X3.updL fte (o := .lst ((((([V.bl true, V.bl true, V.bl true, V.bl true] ++ [V.bl true, V.bl true]) ++ [V.bl true, V.bl true]) ++ [V.bl true]) ++ [V.bl true]) ++ [V.bl true]))
    have S := same_mut S zte (o := .lst ((((([V.bl true, V.bl true, V.bl true, V.bl true] ++ [V.bl true, V.bl true]) ++ [V.bl true, V.bl true]) ++ [V.bl true]) ++ [V.bl true]) ++ [V.bl true]))
    have fte : (upd J30 te (.lst ((((([V.bl true, V.bl true, V.bl true, V.bl true] ++ [V.bl true, V.bl true]) ++ [V.bl true, V.bl true]) ++ [V.bl true]) ++ [V.bl true]) ++ [V.bl true]))) te = some (.lst ((((([V.bl true, V.bl true, V.bl true, V.bl true] ++ [V.bl true, V.bl true]) ++ [V.bl true, V.bl true]) ++ [V.bl true]) ++ [V.bl true]) ++ [V.bl true])) := upd_same
    generalize (upd J30 te (.lst ((((([V.bl true, V.bl true, V.bl true, V.bl true] ++ [V.bl true, V.bl true]) ++ [V.bl true, V.bl true]) ++ [V.bl true]) ++ [V.bl true]) ++ [V.bl true]))) = J30a at X1 X2 X3 S fte ⊢
    refine ⟨_, rfl, by show 1 ≤ sizeLine; decide, fun to hto => ?_⟩
    have u7 := same_new hto (o := .lst [V.bl true])
    have fto : (upd J30a to (.lst [V.bl true] : HO)) to = some (.lst [V.bl true] : HO) := upd_same
    generalize (upd J30a to (.lst [V.bl true] : HO)) = G7 at u7 fto ⊢
    refine ⟨to, 11, _, rfl, rfl, fto, by decide, by decide, by show 11 ≤ sizeLine; decide, fun tr htr => ?_⟩
    have u8 := same_new htr (o := .lst (List.replicate (Int.toNat 11) [V.bl true]).flatten)
    refine rNeD_same5 (.lst (SqL.of (u8 _ _ (u7 _ _ fte))) (.cons (.bl true) (.cons (.bl true) (.cons (.bl true) (.cons (.bl true) (.cons (.bl true) (.cons (.bl true) (.cons (.bl true) (.cons (.bl true) (.cons (.bl true) (.cons (.bl true) (.cons (.bl true) .nil)))))))))))) (.lst (SqL.of upd_same) (.cons (.bl true) (.cons (.bl true) (.cons (.bl true) (.cons (.bl true) (.cons (.bl true) (.cons (.bl true) (.cons (.bl true) (.cons (.bl true) (.cons (.bl true) (.cons (.bl true) (.cons (.bl true) .nil)))))))))))) shaped_t11 ⟨false, rfl, ?_⟩
    have u78 := u7.trans u8
    refine itF rfl ?_
    refine ⟨_, rfl, _, rfl, ?_⟩
    dsimp only [tNil]
    refine cheap_go N (X1.same u78) (X2.same u78) fun H20 s20 => ⟨true, rfl, ?_⟩
    refine itF rfl ?_
    have u9 := u78.trans s20
    refine ⟨_, rfl, _, rfl, ?_⟩
    dsimp only [tNil]
    refine cheap_go N (X2.same u9) (X3.same u9) fun H21 s21 => ⟨true, rfl, ?_⟩
    refine itF rfl ?_
    have u10 := u9.trans s21
    have S21 := S.trans u10
    obtain ⟨g1, rfl⟩ := ent_of (txi_of (tar_of av1 nd1))
    obtain ⟨g2, rfl⟩ := ent_of (txi_of (tar_of av2 nd2))
    obtain ⟨g3, rfl⟩ := ent_of (txi_of (tar_of av3 nd3))
    refine ⟨_, rfl, _, rfl, p, _, 0, .ref d1, rfl, rfl, SqL.of (S21 _ _ e1), at_of (j := 0) rfl rfl, ?_⟩
    dsimp only [tNil]
    refine has_go (X1.same u10) (S21 _ _ z1) (ent_nd nd1) rfl fun H22 s22 => ⟨true, rfl, ?_⟩
    refine itT rfl ?_
    have S22 := S21.trans s22
    have u11 := u10.trans s22
    refine ⟨_, rfl, _, rfl, p, _, 1, .ref d2, rfl, rfl, SqL.of (S22 _ _ e1), at_of (j := 1) rfl rfl, ?_⟩
    dsimp only [tNil]
    refine has_go (X2.same u11) (S22 _ _ z2) (ent_nd nd2) rfl fun H23 s23 => ⟨true, rfl, ?_⟩
    refine itT rfl ?_
    have S23 := S22.trans s23
    have u12 := u11.trans s23
    refine ⟨_, rfl, _, rfl, p, _, 2, .ref d3, rfl, rfl, SqL.of (S23 _ _ e1), at_of (j := 2) rfl rfl, ?_⟩
    dsimp only [tNil]
    refine has_go (X3.same u12) (S23 _ _ z3) (ent_nd nd3) rfl fun H24 s24 => ?_
    exact k _ (kp1.trans (.of (S23.trans s24))) ((D1.same (S23.trans s24)).le (by omega))
theorem sc_law : FnScope ["script", "spot", "dice", "turn"] ["script"] (defScope s_law) := ⟨rfl, rfl, rfl, by decide +kernel, rfl, by decide +kernel, by decide +kernel⟩
theorem ok_law {f : Addr} {fd : FuncData} (F : Fun K "law" "law" s_law f fd) (T : Txt K mg C) (c__law_dice : Has P w K mg base CX0 1 "_law_dice" ["script", "spot"] (spDice K)) (c__law_right : Has P w K mg base CX0 14 "_law_right" ["dice"] (spRight 400)) : FnG P w K mg base CX0 16 f fd ["script"] (spLaw K) := by
  refine fn_g0 F sc_law (fun vs H Q E h => ?_) (fun cdv A outer s H vs Q E hg hr h => ?_)
  · obtain ⟨a, ns, rfl, _⟩ := h
    rfl
  · have hu := hu_of hr
    obtain ⟨a, ns, rfl, hS, hn, k⟩ := h
    refine ⟨_, (pss_cons (ps_for PassesOwn.never rfl (pi_range1 (by rfl) T.b_range (pa_cons (pe_callB (call_max2 rfl) (by rfl) T.b_max (by decide +kernel) (pa_cons pe_int (pa_cons (pe_callB (call_min2 rfl) (by rfl) T.b_min (by decide +kernel) (pa_cons pe_int (pa_cons (pe_callB (g_len_seq K) (by rfl) T.b_len (by decide +kernel) (pa_cons (pv 0) pa_nil)) pa_nil))) pa_nil))) pa_nil)) (pg_name (i := 1) sc_law.nd rfl (Or.inl rfl)) (pss_cons (ps_set (i := 2) sc_law.nd rfl (Or.inl rfl) (pe_has c__law_dice hg (hr.mono (by decide)) pass0 (pa_cons (pv 0) (pa_cons (pv 1) pa_nil))))
      (pss_one (ps_for PassesOwn.never rfl (pi_range1 (by rfl) T.b_range (pa_cons pe_int pa_nil)) (pg_name (i := 3) sc_law.nd rfl (Or.inl rfl)) (pss_one (ps_if (pt_not (pt_val (pe_has c__law_right hg (hr.mono (by decide)) pass0 (pa_cons (pv 2) pa_nil)))) (pss_one (ps_ret pe_bl)) pss_nil))))))
      (pss_one (ps_ret pe_bl))), ?_⟩
    obtain ⟨J, hJ, j1, j8⟩ : ∃ J : Int, (if (if ((ns.map V.int).length : Int) < 8 then ((ns.map V.int).length : Int) else 8) > 1 then (if ((ns.map V.int).length : Int) < 8 then ((ns.map V.int).length : Int) else 8) else 1) = J ∧ 1 ≤ J ∧ J ≤ 8 := ⟨_, rfl, cells_bound (n := (ns.map V.int).length) (m := 8) (by decide)⟩
    refine ⟨_, rfl, _, _, rfl, .inl hS, _, _, rfl, _, _, rfl, J, congrArg (fun i => [V.int i]) hJ, by omega, by omega, for_range (lo := 0) (n := J.toNat) (fun i σ H' => ∃ v u w, σ = [some (.ref a), v, u, w] ∧ Same H H') ⟨_, _, _, rfl, Same.refl H⟩ ?_ ?_⟩
    · rintro i σ H1 hi ⟨v, u, w, rfl, s1⟩
      refine ⟨_, rfl, _, rfl, a, ns, _, rfl, s1.seq hS, hn, by omega, by omega, fun l H2 hl s2 D2 => ?_⟩
      have fl : H l = none := s1.free hl
      refine ⟨2, rfl, by decide, by decide, for_range (lo := 0) (n := 2) (fun j σ H' => ∃ w, σ = [some (.ref a), some (.int (0 + (i : Int))), some (.ref l), w] ∧ Kp l H2 H' ∧ Dice H' l (2 ^ 60 - 400 * j)) ⟨_, rfl, Kp.refl _ _, D2.le (by omega)⟩ ?_ ?_⟩
      · rintro j σ H3 hj ⟨w, rfl, k3, D3⟩
        refine ⟨_, rfl, l, 2 ^ 60 - 400 * (j + 1), rfl, D3.le (by omega), fun H4 k4 D4 => ⟨true, rfl, ?_⟩⟩
        refine itF rfl ?_
        exact ⟨_, rfl, k3.trans k4, D4⟩
      · rintro σ H3 ⟨w, rfl, k3, D3⟩
        exact ⟨_, _, _, rfl, k3.sameOf (s1.trans s2) fl⟩
    rintro σ H1 ⟨v, u, w, rfl, s1⟩
    exact k _
end
theorem all_mk {l : PySem.W.OpenLaw} {w : World} {K : PySem.W.Frag} {h : Heap} {mg : Str → Option Value} {fa : Addr} {C : Addr} (X : K.In h) (G0 : h.Ns mainGlobals mg) (hfa : mg "law" = some (.ref fa))
    {f0 f1 f2 f3 f4 f5 f6 f7 f8 f9 f10 f11 f12 f13 f14 f15 f16 f17 f18 f19 f20 f21 f22 f23 f24 f25 f26 f27 f28 f29 : Addr}
    {od0 an0 : Option Addr} {sl0 : Array (Option Value)} {oc0 kV0 dc0 pm0 cd0 ct0 : Value}
    {od1 an1 : Option Addr} {sl1 : Array (Option Value)} {oc1 kV1 dc1 pm1 cd1 ct1 : Value}
    {od2 an2 : Option Addr} {sl2 : Array (Option Value)} {oc2 kV2 dc2 pm2 cd2 ct2 : Value}
    {od3 an3 : Option Addr} {sl3 : Array (Option Value)} {oc3 kV3 dc3 pm3 cd3 ct3 : Value}
    {od4 an4 : Option Addr} {sl4 : Array (Option Value)} {oc4 kV4 dc4 pm4 cd4 ct4 : Value}
    {od5 an5 : Option Addr} {sl5 : Array (Option Value)} {oc5 kV5 dc5 pm5 cd5 ct5 : Value}
    {od6 an6 : Option Addr} {sl6 : Array (Option Value)} {oc6 kV6 dc6 pm6 cd6 ct6 : Value}
    {od7 an7 : Option Addr} {sl7 : Array (Option Value)} {oc7 kV7 dc7 pm7 cd7 ct7 : Value}
    {od8 an8 : Option Addr} {sl8 : Array (Option Value)} {oc8 kV8 dc8 pm8 cd8 ct8 : Value}
    {od9 an9 : Option Addr} {sl9 : Array (Option Value)} {oc9 kV9 dc9 pm9 cd9 ct9 : Value}
    {od10 an10 : Option Addr} {sl10 : Array (Option Value)} {oc10 kV10 dc10 pm10 cd10 ct10 : Value}
    {od11 an11 : Option Addr} {sl11 : Array (Option Value)} {oc11 kV11 dc11 pm11 cd11 ct11 : Value}
    {od12 an12 : Option Addr} {sl12 : Array (Option Value)} {oc12 kV12 dc12 pm12 cd12 ct12 : Value}
    {od13 an13 : Option Addr} {sl13 : Array (Option Value)} {oc13 kV13 dc13 pm13 cd13 ct13 : Value}
    {od14 an14 : Option Addr} {sl14 : Array (Option Value)} {oc14 kV14 dc14 pm14 cd14 ct14 : Value}
    {od15 an15 : Option Addr} {sl15 : Array (Option Value)} {oc15 kV15 dc15 pm15 cd15 ct15 : Value}
    {od16 an16 : Option Addr} {sl16 : Array (Option Value)} {oc16 kV16 dc16 pm16 cd16 ct16 : Value}
    {od17 an17 : Option Addr} {sl17 : Array (Option Value)} {oc17 kV17 dc17 pm17 cd17 ct17 : Value}
    {od18 an18 : Option Addr} {sl18 : Array (Option Value)} {oc18 kV18 dc18 pm18 cd18 ct18 : Value}
    {od19 an19 : Option Addr} {sl19 : Array (Option Value)} {oc19 kV19 dc19 pm19 cd19 ct19 : Value}
    {od20 an20 : Option Addr} {sl20 : Array (Option Value)} {oc20 kV20 dc20 pm20 cd20 ct20 : Value}
    {od21 an21 : Option Addr} {sl21 : Array (Option Value)} {oc21 kV21 dc21 pm21 cd21 ct21 : Value}
    {od22 an22 : Option Addr} {sl22 : Array (Option Value)} {oc22 kV22 dc22 pm22 cd22 ct22 : Value}
    {od23 an23 : Option Addr} {sl23 : Array (Option Value)} {oc23 kV23 dc23 pm23 cd23 ct23 : Value}
    {od24 an24 : Option Addr} {sl24 : Array (Option Value)} {oc24 kV24 dc24 pm24 cd24 ct24 : Value}
    {od25 an25 : Option Addr} {sl25 : Array (Option Value)} {oc25 kV25 dc25 pm25 cd25 ct25 : Value}
    {od26 an26 : Option Addr} {sl26 : Array (Option Value)} {oc26 kV26 dc26 pm26 cd26 ct26 : Value}
    {od27 an27 : Option Addr} {sl27 : Array (Option Value)} {oc27 kV27 dc27 pm27 cd27 ct27 : Value}
    {od28 an28 : Option Addr} {sl28 : Array (Option Value)} {oc28 kV28 dc28 pm28 cd28 ct28 : Value}
    {od29 an29 : Option Addr} {sl29 : Array (Option Value)} {oc29 kV29 dc29 pm29 cd29 ct29 : Value}
    (aC : PySem.W.nsIn K mainGlobals "Book" = some (some (.ref C))) (pg : PySem.W.plainGet K C Str.empty = true) (hd : PySem.W.hasDictIn K C = true) (po : PySem.W.plainOver K C = true) (sa : PySem.W.findIn K (.ref C) "__setattr__" = some (some (.builtin "object.__setattr__"))) (mk : PySem.W.makesIn K C = true) (kc : PySem.W.keepIn K (.ref C) = true)
    (iha : PySem.W.findIn K (.ref C) "__class__" = some (some (.builtin "object.__class__"))) (ihn : PySem.W.specialIn K (.builtin "object.__class__") "__get__" = some (some (.builtin "getset_descriptor.__get__"))) (iht : PySem.W.takesIn K (.builtin "object.__class__") = some true) (ihm : PySem.W.mroIn K C (.type "object") = some true)
    (n_own_prices : PySem.W.findIn K (.ref C) "own_prices" = some none)
    (n_own_pieces : PySem.W.findIn K (.ref C) "own_pieces" = some none)
    (n_own_alphabet : PySem.W.findIn K (.ref C) "own_alphabet" = some none)
    (n_own_longest : PySem.W.findIn K (.ref C) "own_longest" = some none)
    (n_own_dearest : PySem.W.findIn K (.ref C) "own_dearest" = some none)
    (x_sf : PySem.W.selfFirst K C = true)
    (a0 : PySem.W.nsIn K mainGlobals "is_integer" = some (some (.ref f0)))
    (l0 : K.lookup f0 = some ⟨oc0, od0, .func (PySem.W.fnOf "is_integer" "is_integer" (defArgs s_is_integer) (defBody s_is_integer) (defScope s_is_integer) .none kV0 dc0 pm0 an0 cd0 ct0), sl0⟩) (c0 : PySem.W.codeIn K cd0 "is_integer" = true) (k0 : PySem.W.keepIn K (.ref f0) = true)
    (a1 : PySem.W.nsIn K mainGlobals "is_word" = some (some (.ref f1)))
    (l1 : K.lookup f1 = some ⟨oc1, od1, .func (PySem.W.fnOf "is_word" "is_word" (defArgs s_is_word) (defBody s_is_word) (defScope s_is_word) .none kV1 dc1 pm1 an1 cd1 ct1), sl1⟩) (c1 : PySem.W.codeIn K cd1 "is_word" = true) (k1 : PySem.W.keepIn K (.ref f1) = true)
    (a2 : PySem.W.nsIn K mainGlobals "is_piece" = some (some (.ref f2)))
    (l2 : K.lookup f2 = some ⟨oc2, od2, .func (PySem.W.fnOf "is_piece" "is_piece" (defArgs s_is_piece) (defBody s_is_piece) (defScope s_is_piece) .none kV2 dc2 pm2 an2 cd2 ct2), sl2⟩) (c2 : PySem.W.codeIn K cd2 "is_piece" = true) (k2 : PySem.W.keepIn K (.ref f2) = true)
    (a3 : PySem.W.nsIn K mainGlobals "is_integer_within" = some (some (.ref f3)))
    (l3 : K.lookup f3 = some ⟨oc3, od3, .func (PySem.W.fnOf "is_integer_within" "is_integer_within" (defArgs s_is_integer_within) (defBody s_is_integer_within) (defScope s_is_integer_within) .none kV3 dc3 pm3 an3 cd3 ct3), sl3⟩) (c3 : PySem.W.codeIn K cd3 "is_integer_within" = true) (k3 : PySem.W.keepIn K (.ref f3) = true)
    (a4 : PySem.W.nsIn K mainGlobals "is_price" = some (some (.ref f4)))
    (l4 : K.lookup f4 = some ⟨oc4, od4, .func (PySem.W.fnOf "is_price" "is_price" (defArgs s_is_price) (defBody s_is_price) (defScope s_is_price) .none kV4 dc4 pm4 an4 cd4 ct4), sl4⟩) (c4 : PySem.W.codeIn K cd4 "is_price" = true) (k4 : PySem.W.keepIn K (.ref f4) = true)
    (a5 : PySem.W.nsIn K mainGlobals "are_prices" = some (some (.ref f5)))
    (l5 : K.lookup f5 = some ⟨oc5, od5, .func (PySem.W.fnOf "are_prices" "are_prices" (defArgs s_are_prices) (defBody s_are_prices) (defScope s_are_prices) .none kV5 dc5 pm5 an5 cd5 ct5), sl5⟩) (c5 : PySem.W.codeIn K cd5 "are_prices" = true) (k5 : PySem.W.keepIn K (.ref f5) = true)
    (a6 : PySem.W.findIn K (.ref C) "__init__" = some (some (.ref f6))) (i6 : PySem.W.isFn K (.ref f6) = true)
    (l6 : K.lookup f6 = some ⟨oc6, od6, .func (PySem.W.fnOf "__init__" "Book.__init__" (defArgs s_Book___init__) (defBody s_Book___init__) (defScope s_Book___init__) .none kV6 dc6 pm6 an6 cd6 ct6), sl6⟩) (c6 : PySem.W.codeIn K cd6 "Book.__init__" = true) (k6 : PySem.W.keepIn K (.ref f6) = true)
    {pr7 : Addr} {re7 : List Value} (a7 : PySem.W.findIn K (.ref C) "prices" = some (some (.ref pr7))) (pg7 : PySem.W.specialIn K (.ref pr7) "__get__" = some (some (.builtin "property.__get__"))) (pt7 : PySem.W.takesIn K (.ref pr7) = some true) (rc7 : PySem.W.recIn K pr7 "property" = some (.ref f7 :: re7))
    (l7 : K.lookup f7 = some ⟨oc7, od7, .func (PySem.W.fnOf "prices" "Book.prices" (defArgs s_Book_prices) (defBody s_Book_prices) (defScope s_Book_prices) .none kV7 dc7 pm7 an7 cd7 ct7), sl7⟩) (c7 : PySem.W.codeIn K cd7 "Book.prices" = true) (k7 : PySem.W.keepIn K (.ref f7) = true)
    (a8 : PySem.W.nsIn K mainGlobals "least_price" = some (some (.ref f8)))
    (l8 : K.lookup f8 = some ⟨oc8, od8, .func (PySem.W.fnOf "least_price" "least_price" (defArgs s_least_price) (defBody s_least_price) (defScope s_least_price) .none kV8 dc8 pm8 an8 cd8 ct8), sl8⟩) (c8 : PySem.W.codeIn K cd8 "least_price" = true) (k8 : PySem.W.keepIn K (.ref f8) = true)
    (a9 : PySem.W.nsIn K mainGlobals "require_book" = some (some (.ref f9)))
    (l9 : K.lookup f9 = some ⟨oc9, od9, .func (PySem.W.fnOf "require_book" "require_book" (defArgs s_require_book) (defBody s_require_book) (defScope s_require_book) .none kV9 dc9 pm9 an9 cd9 ct9), sl9⟩) (c9 : PySem.W.codeIn K cd9 "require_book" = true) (k9 : PySem.W.keepIn K (.ref f9) = true)
    (a10 : PySem.W.nsIn K mainGlobals "require_comparable" = some (some (.ref f10)))
    (l10 : K.lookup f10 = some ⟨oc10, od10, .func (PySem.W.fnOf "require_comparable" "require_comparable" (defArgs s_require_comparable) (defBody s_require_comparable) (defScope s_require_comparable) .none kV10 dc10 pm10 an10 cd10 ct10), sl10⟩) (c10 : PySem.W.codeIn K cd10 "require_comparable" = true) (k10 : PySem.W.keepIn K (.ref f10) = true)
    (a11 : PySem.W.nsIn K mainGlobals "dearer_in" = some (some (.ref f11)))
    (l11 : K.lookup f11 = some ⟨oc11, od11, .func (PySem.W.fnOf "dearer_in" "dearer_in" (defArgs s_dearer_in) (defBody s_dearer_in) (defScope s_dearer_in) .none kV11 dc11 pm11 an11 cd11 ct11), sl11⟩) (c11 : PySem.W.codeIn K cd11 "dearer_in" = true) (k11 : PySem.W.keepIn K (.ref f11) = true)
    (a12 : PySem.W.nsIn K mainGlobals "is_nowhere_dearer" = some (some (.ref f12)))
    (l12 : K.lookup f12 = some ⟨oc12, od12, .func (PySem.W.fnOf "is_nowhere_dearer" "is_nowhere_dearer" (defArgs s_is_nowhere_dearer) (defBody s_is_nowhere_dearer) (defScope s_is_nowhere_dearer) .none kV12 dc12 pm12 an12 cd12 ct12), sl12⟩) (c12 : PySem.W.codeIn K cd12 "is_nowhere_dearer" = true) (k12 : PySem.W.keepIn K (.ref f12) = true)
    (a13 : PySem.W.nsIn K mainGlobals "result_of" = some (some (.ref f13)))
    (l13 : K.lookup f13 = some ⟨oc13, od13, .func (PySem.W.fnOf "result_of" "result_of" (defArgs s_result_of) (defBody s_result_of) (defScope s_result_of) .none kV13 dc13 pm13 an13 cd13 ct13), sl13⟩) (c13 : PySem.W.codeIn K cd13 "result_of" = true) (k13 : PySem.W.keepIn K (.ref f13) = true)
    (a14 : PySem.W.nsIn K mainGlobals "require_other" = some (some (.ref f14)))
    (l14 : K.lookup f14 = some ⟨oc14, od14, .func (PySem.W.fnOf "require_other" "require_other" (defArgs s_require_other) (defBody s_require_other) (defScope s_require_other) .none kV14 dc14 pm14 an14 cd14 ct14), sl14⟩) (c14 : PySem.W.codeIn K cd14 "require_other" = true) (k14 : PySem.W.keepIn K (.ref f14) = true)
    (a15 : PySem.W.findIn K (.ref C) "__or__" = some (some (.ref f15))) (i15 : PySem.W.isFn K (.ref f15) = true)
    (l15 : K.lookup f15 = some ⟨oc15, od15, .func (PySem.W.fnOf "__or__" "Book.__or__" (defArgs s_Book___or__) (defBody s_Book___or__) (defScope s_Book___or__) .none kV15 dc15 pm15 an15 cd15 ct15), sl15⟩) (c15 : PySem.W.codeIn K cd15 "Book.__or__" = true) (k15 : PySem.W.keepIn K (.ref f15) = true)
    (a16 : PySem.W.findIn K (.ref C) "__and__" = some (some (.ref f16))) (i16 : PySem.W.isFn K (.ref f16) = true)
    (l16 : K.lookup f16 = some ⟨oc16, od16, .func (PySem.W.fnOf "__and__" "Book.__and__" (defArgs s_Book___and__) (defBody s_Book___and__) (defScope s_Book___and__) .none kV16 dc16 pm16 an16 cd16 ct16), sl16⟩) (c16 : PySem.W.codeIn K cd16 "Book.__and__" = true) (k16 : PySem.W.keepIn K (.ref f16) = true)
    (a17 : PySem.W.findIn K (.ref C) "__eq__" = some (some (.ref f17))) (i17 : PySem.W.isFn K (.ref f17) = true)
    (l17 : K.lookup f17 = some ⟨oc17, od17, .func (PySem.W.fnOf "__eq__" "Book.__eq__" (defArgs s_Book___eq__) (defBody s_Book___eq__) (defScope s_Book___eq__) .none kV17 dc17 pm17 an17 cd17 ct17), sl17⟩) (c17 : PySem.W.codeIn K cd17 "Book.__eq__" = true) (k17 : PySem.W.keepIn K (.ref f17) = true)
    (a18 : PySem.W.nsIn K mainGlobals "_law_dice" = some (some (.ref f18)))
    (l18 : K.lookup f18 = some ⟨oc18, od18, .func (PySem.W.fnOf "_law_dice" "_law_dice" (defArgs s__law_dice) (defBody s__law_dice) (defScope s__law_dice) .none kV18 dc18 pm18 an18 cd18 ct18), sl18⟩) (c18 : PySem.W.codeIn K cd18 "_law_dice" = true) (k18 : PySem.W.keepIn K (.ref f18) = true)
    (a19 : PySem.W.nsIn K mainGlobals "_law_roll" = some (some (.ref f19)))
    (l19 : K.lookup f19 = some ⟨oc19, od19, .func (PySem.W.fnOf "_law_roll" "_law_roll" (defArgs s__law_roll) (defBody s__law_roll) (defScope s__law_roll) .none kV19 dc19 pm19 an19 cd19 ct19), sl19⟩) (c19 : PySem.W.codeIn K cd19 "_law_roll" = true) (k19 : PySem.W.keepIn K (.ref f19) = true)
    (a20 : PySem.W.nsIn K mainGlobals "_law_pick" = some (some (.ref f20)))
    (l20 : K.lookup f20 = some ⟨oc20, od20, .func (PySem.W.fnOf "_law_pick" "_law_pick" (defArgs s__law_pick) (defBody s__law_pick) (defScope s__law_pick) .none kV20 dc20 pm20 an20 cd20 ct20), sl20⟩) (c20 : PySem.W.codeIn K cd20 "_law_pick" = true) (k20 : PySem.W.keepIn K (.ref f20) = true)
    (a21 : PySem.W.nsIn K mainGlobals "_law_some" = some (some (.ref f21)))
    (l21 : K.lookup f21 = some ⟨oc21, od21, .func (PySem.W.fnOf "_law_some" "_law_some" (defArgs s__law_some) (defBody s__law_some) (defScope s__law_some) .none kV21 dc21 pm21 an21 cd21 ct21), sl21⟩) (c21 : PySem.W.codeIn K cd21 "_law_some" = true) (k21 : PySem.W.keepIn K (.ref f21) = true)
    {pr22 : Addr} {re22 : List Value} (a22 : PySem.W.findIn K (.ref C) "alphabet" = some (some (.ref pr22))) (pg22 : PySem.W.specialIn K (.ref pr22) "__get__" = some (some (.builtin "property.__get__"))) (pt22 : PySem.W.takesIn K (.ref pr22) = some true) (rc22 : PySem.W.recIn K pr22 "property" = some (.ref f22 :: re22))
    (l22 : K.lookup f22 = some ⟨oc22, od22, .func (PySem.W.fnOf "alphabet" "Book.alphabet" (defArgs s_Book_alphabet) (defBody s_Book_alphabet) (defScope s_Book_alphabet) .none kV22 dc22 pm22 an22 cd22 ct22), sl22⟩) (c22 : PySem.W.codeIn K cd22 "Book.alphabet" = true) (k22 : PySem.W.keepIn K (.ref f22) = true)
    (a23 : PySem.W.nsIn K mainGlobals "_law_or" = some (some (.ref f23)))
    (l23 : K.lookup f23 = some ⟨oc23, od23, .func (PySem.W.fnOf "_law_or" "_law_or" (defArgs s__law_or) (defBody s__law_or) (defScope s__law_or) .none kV23 dc23 pm23 an23 cd23 ct23), sl23⟩) (c23 : PySem.W.codeIn K cd23 "_law_or" = true) (k23 : PySem.W.keepIn K (.ref f23) = true)
    (a24 : PySem.W.nsIn K mainGlobals "_law_and" = some (some (.ref f24)))
    (l24 : K.lookup f24 = some ⟨oc24, od24, .func (PySem.W.fnOf "_law_and" "_law_and" (defArgs s__law_and) (defBody s__law_and) (defScope s__law_and) .none kV24 dc24 pm24 an24 cd24 ct24), sl24⟩) (c24 : PySem.W.codeIn K cd24 "_law_and" = true) (k24 : PySem.W.keepIn K (.ref f24) = true)
    (a25 : PySem.W.nsIn K mainGlobals "_law_has" = some (some (.ref f25)))
    (l25 : K.lookup f25 = some ⟨oc25, od25, .func (PySem.W.fnOf "_law_has" "_law_has" (defArgs s__law_has) (defBody s__law_has) (defScope s__law_has) .none kV25 dc25 pm25 an25 cd25 ct25), sl25⟩) (c25 : PySem.W.codeIn K cd25 "_law_has" = true) (k25 : PySem.W.keepIn K (.ref f25) = true)
    (a26 : PySem.W.nsIn K mainGlobals "_law_scene" = some (some (.ref f26)))
    (l26 : K.lookup f26 = some ⟨oc26, od26, .func (PySem.W.fnOf "_law_scene" "_law_scene" (defArgs s__law_scene) (defBody s__law_scene) (defScope s__law_scene) .none kV26 dc26 pm26 an26 cd26 ct26), sl26⟩) (c26 : PySem.W.codeIn K cd26 "_law_scene" = true) (k26 : PySem.W.keepIn K (.ref f26) = true)
    (a27 : PySem.W.nsIn K mainGlobals "_law_cheaper_right" = some (some (.ref f27)))
    (l27 : K.lookup f27 = some ⟨oc27, od27, .func (PySem.W.fnOf "_law_cheaper_right" "_law_cheaper_right" (defArgs s__law_cheaper_right) (defBody s__law_cheaper_right) (defScope s__law_cheaper_right) .none kV27 dc27 pm27 an27 cd27 ct27), sl27⟩) (c27 : PySem.W.codeIn K cd27 "_law_cheaper_right" = true) (k27 : PySem.W.keepIn K (.ref f27) = true)
    (a28 : PySem.W.nsIn K mainGlobals "_law_right" = some (some (.ref f28)))
    (l28 : K.lookup f28 = some ⟨oc28, od28, .func (PySem.W.fnOf "_law_right" "_law_right" (defArgs s__law_right) (defBody s__law_right) (defScope s__law_right) .none kV28 dc28 pm28 an28 cd28 ct28), sl28⟩) (c28 : PySem.W.codeIn K cd28 "_law_right" = true) (k28 : PySem.W.keepIn K (.ref f28) = true)
    (a29 : PySem.W.nsIn K mainGlobals "law" = some (some (.ref f29)))
    (l29 : K.lookup f29 = some ⟨oc29, od29, .func (PySem.W.fnOf "law" "law" (defArgs s_law) (defBody s_law) (defScope s_law) .none kV29 dc29 pm29 an29 cd29 ct29), sl29⟩) (c29 : PySem.W.codeIn K cd29 "law" = true) (k29 : PySem.W.keepIn K (.ref f29) = true)
    (z_abs : PySem.W.nsIn K mainGlobals "abs" = some none)
    (z_all : PySem.W.nsIn K mainGlobals "all" = some none)
    (z_bool : PySem.W.nsIn K mainGlobals "bool" = some none)
    (z_dict : PySem.W.nsIn K mainGlobals "dict" = some none)
    (z_int : PySem.W.nsIn K mainGlobals "int" = some none)
    (z_isinstance : PySem.W.nsIn K mainGlobals "isinstance" = some none)
    (z_len : PySem.W.nsIn K mainGlobals "len" = some none)
    (z_list : PySem.W.nsIn K mainGlobals "list" = some none)
    (z_max : PySem.W.nsIn K mainGlobals "max" = some none)
    (z_min : PySem.W.nsIn K mainGlobals "min" = some none)
    (z_range : PySem.W.nsIn K mainGlobals "range" = some none)
    (z_repr : PySem.W.nsIn K mainGlobals "repr" = some none)
    (z_set : PySem.W.nsIn K mainGlobals "set" = some none)
    (z_sorted : PySem.W.nsIn K mainGlobals "sorted" = some none)
    (z_str : PySem.W.nsIn K mainGlobals "str" = some none)
    (z_tuple : PySem.W.nsIn K mainGlobals "tuple" = some none)
    {t_MAX_ALPHABET : Tok} (y_MAX_ALPHABET : PySem.W.nsIn K mainGlobals "MAX_ALPHABET" = some (some (.int 4 t_MAX_ALPHABET)))
    {t_MAX_PIECES : Tok} (y_MAX_PIECES : PySem.W.nsIn K mainGlobals "MAX_PIECES" = some (some (.int 12 t_MAX_PIECES)))
    {t_MAX_PRICE : Tok} (y_MAX_PRICE : PySem.W.nsIn K mainGlobals "MAX_PRICE" = some (some (.int 99 t_MAX_PRICE)))
    {t_PIECE_SIGNS : Tok} (y_PIECE_SIGNS : PySem.W.nsIn K mainGlobals "PIECE_SIGNS" = some (some (.int 5 t_PIECE_SIGNS)))
    : ∃ fd : FuncData, (∀ (s : Shared) (v : Value), BindsTo s fd ⟨[v], []⟩ [("script", v)]) ∧ ∀ base : Heap, K.In base → base.Ns mainGlobals mg → FnG l.prog w K mg base CX0 16 fa fd ["script"] (spLaw K) := by
  have e := hfa.symm.trans (PySem.W.mg_of X G0 a29)
  cases e
  have T : Txt K mg C := ⟨⟨pg, hd, po, sa⟩, ⟨⟨pg, hd, po, sa⟩, iha, ihn, iht, ihm, if_pos (beq_self_eq_true _)⟩, n_own_prices, n_own_pieces, n_own_alphabet, n_own_longest, n_own_dearest, PySem.W.mg_of X G0 aC, x_sf, PySem.W.mg_none_of X G0 z_abs, PySem.W.mg_none_of X G0 z_all, PySem.W.mg_none_of X G0 z_bool, PySem.W.mg_none_of X G0 z_dict, PySem.W.mg_none_of X G0 z_int, PySem.W.mg_none_of X G0 z_isinstance, PySem.W.mg_none_of X G0 z_len, PySem.W.mg_none_of X G0 z_list, PySem.W.mg_none_of X G0 z_max, PySem.W.mg_none_of X G0 z_min, PySem.W.mg_none_of X G0 z_range, PySem.W.mg_none_of X G0 z_repr, PySem.W.mg_none_of X G0 z_set, PySem.W.mg_none_of X G0 z_sorted, PySem.W.mg_none_of X G0 z_str, PySem.W.mg_none_of X G0 z_tuple, ⟨_, PySem.W.mg_of X G0 y_MAX_ALPHABET⟩, ⟨_, PySem.W.mg_of X G0 y_MAX_PIECES⟩, ⟨_, PySem.W.mg_of X G0 y_MAX_PRICE⟩, ⟨_, PySem.W.mg_of X G0 y_PIECE_SIGNS⟩⟩
  have F0 := fun_mk (st := s_is_integer) l0 c0 k0
  have b0 := F0.binds (ps := ["value"]) fun _ _ _ _ _ _ us hl => match us, hl with | [_], _ => rfl
  have F1 := fun_mk (st := s_is_word) l1 c1 k1
  have b1 := F1.binds (ps := ["value"]) fun _ _ _ _ _ _ us hl => match us, hl with | [_], _ => rfl
  have F2 := fun_mk (st := s_is_piece) l2 c2 k2
  have b2 := F2.binds (ps := ["value"]) fun _ _ _ _ _ _ us hl => match us, hl with | [_], _ => rfl
  have F3 := fun_mk (st := s_is_integer_within) l3 c3 k3
  have b3 := F3.binds (ps := ["value", "least", "most"]) fun _ _ _ _ _ _ us hl => match us, hl with | [_, _, _], _ => rfl
  have F4 := fun_mk (st := s_is_price) l4 c4 k4
  have b4 := F4.binds (ps := ["value"]) fun _ _ _ _ _ _ us hl => match us, hl with | [_], _ => rfl
  have F5 := fun_mk (st := s_are_prices) l5 c5 k5
  have b5 := F5.binds (ps := ["value"]) fun _ _ _ _ _ _ us hl => match us, hl with | [_], _ => rfl
  have F6 := fun_mk (st := s_Book___init__) l6 c6 k6
  have b6 := F6.binds (ps := ["self", "prices"]) fun _ _ _ _ _ _ us hl => match us, hl with | [_, _], _ => rfl
  have F7 := fun_mk (st := s_Book_prices) l7 c7 k7
  have b7 := F7.binds (ps := ["self"]) fun _ _ _ _ _ _ us hl => match us, hl with | [_], _ => rfl
  have F8 := fun_mk (st := s_least_price) l8 c8 k8
  have b8 := F8.binds (ps := ["prices", "text"]) fun _ _ _ _ _ _ us hl => match us, hl with | [_, _], _ => rfl
  have F9 := fun_mk (st := s_require_book) l9 c9 k9
  have b9 := F9.binds (ps := ["value"]) fun _ _ _ _ _ _ us hl => match us, hl with | [_], _ => rfl
  have F10 := fun_mk (st := s_require_comparable) l10 c10 k10
  have b10 := F10.binds (ps := ["book", "other"]) fun _ _ _ _ _ _ us hl => match us, hl with | [_, _], _ => rfl
  have F11 := fun_mk (st := s_dearer_in) l11 c11 k11
  have b11 := F11.binds (ps := ["book", "other"]) fun _ _ _ _ _ _ us hl => match us, hl with | [_, _], _ => rfl
  have F12 := fun_mk (st := s_is_nowhere_dearer) l12 c12 k12
  have b12 := F12.binds (ps := ["book", "other"]) fun _ _ _ _ _ _ us hl => match us, hl with | [_, _], _ => rfl
  have F13 := fun_mk (st := s_result_of) l13 c13 k13
  have b13 := F13.binds (ps := ["prices"]) fun _ _ _ _ _ _ us hl => match us, hl with | [_], _ => rfl
  have F14 := fun_mk (st := s_require_other) l14 c14 k14
  have b14 := F14.binds (ps := ["value"]) fun _ _ _ _ _ _ us hl => match us, hl with | [_], _ => rfl
  have F15 := fun_mk (st := s_Book___or__) l15 c15 k15
  have b15 := F15.binds (ps := ["self", "other"]) fun _ _ _ _ _ _ us hl => match us, hl with | [_, _], _ => rfl
  have F16 := fun_mk (st := s_Book___and__) l16 c16 k16
  have b16 := F16.binds (ps := ["self", "other"]) fun _ _ _ _ _ _ us hl => match us, hl with | [_, _], _ => rfl
  have F17 := fun_mk (st := s_Book___eq__) l17 c17 k17
  have b17 := F17.binds (ps := ["self", "other"]) fun _ _ _ _ _ _ us hl => match us, hl with | [_, _], _ => rfl
  have F18 := fun_mk (st := s__law_dice) l18 c18 k18
  have b18 := F18.binds (ps := ["script", "spot"]) fun _ _ _ _ _ _ us hl => match us, hl with | [_, _], _ => rfl
  have F19 := fun_mk (st := s__law_roll) l19 c19 k19
  have b19 := F19.binds (ps := ["dice", "upto"]) fun _ _ _ _ _ _ us hl => match us, hl with | [_, _], _ => rfl
  have F20 := fun_mk (st := s__law_pick) l20 c20 k20
  have b20 := F20.binds (ps := ["dice", "items"]) fun _ _ _ _ _ _ us hl => match us, hl with | [_, _], _ => rfl
  have F21 := fun_mk (st := s__law_some) l21 c21 k21
  have b21 := F21.binds (ps := ["dice", "items", "many"]) fun _ _ _ _ _ _ us hl => match us, hl with | [_, _, _], _ => rfl
  have F22 := fun_mk (st := s_Book_alphabet) l22 c22 k22
  have b22 := F22.binds (ps := ["self"]) fun _ _ _ _ _ _ us hl => match us, hl with | [_], _ => rfl
  have F23 := fun_mk (st := s__law_or) l23 c23 k23
  have b23 := F23.binds (ps := ["one", "two"]) fun _ _ _ _ _ _ us hl => match us, hl with | [_, _], _ => rfl
  have F24 := fun_mk (st := s__law_and) l24 c24 k24
  have b24 := F24.binds (ps := ["one", "two"]) fun _ _ _ _ _ _ us hl => match us, hl with | [_, _], _ => rfl
  have F25 := fun_mk (st := s__law_has) l25 c25 k25
  have b25 := F25.binds (ps := ["book", "prices"]) fun _ _ _ _ _ _ us hl => match us, hl with | [_, _], _ => rfl
  have F26 := fun_mk (st := s__law_scene) l26 c26 k26
  have b26 := F26.binds (ps := ["dice"]) fun _ _ _ _ _ _ us hl => match us, hl with | [_], _ => rfl
  have F27 := fun_mk (st := s__law_cheaper_right) l27 c27 k27
  have b27 := F27.binds (ps := ["one", "two"]) fun _ _ _ _ _ _ us hl => match us, hl with | [_, _], _ => rfl
  have F28 := fun_mk (st := s__law_right) l28 c28 k28
  have b28 := F28.binds (ps := ["dice"]) fun _ _ _ _ _ _ us hl => match us, hl with | [_], _ => rfl
  have F29 := fun_mk (st := s_law) l29 c29 k29
  refine ⟨PySem.W.fnOf "law" "law" (defArgs s_law) (defBody s_law) (defScope s_law) .none kV29 dc29 pm29 an29 cd29 ct29, fun s v => .of_eq rfl, fun base _ _ => ?_⟩
  have h_is_integer : HasO l.prog w K mg base CX0 1 "is_integer" ["value"] (spIsI K isInteger) := .mk' F0 (PySem.W.mg_of X G0 a0) b0 (ok_is_integer F0 T)
  have h_is_word : HasO l.prog w K mg base CX0 1 "is_word" ["value"] (spIs K isWord) := .mk' F1 (PySem.W.mg_of X G0 a1) b1 (ok_is_word F1 T)
  have h_is_piece : HasO l.prog w K mg base CX0 2 "is_piece" ["value"] (spIs K isPiece) := .mk' F2 (PySem.W.mg_of X G0 a2) b2 (ok_is_piece F2 T h_is_word)
  have h_is_integer_within : HasO l.prog w K mg base CX0 2 "is_integer_within" ["value", "least", "most"] (spWithin K) := .mk' F3 (PySem.W.mg_of X G0 a3) b3 (ok_is_integer_within F3 T h_is_integer)
  have h_is_price : HasO l.prog w K mg base CX0 3 "is_price" ["value"] (spIsI K isPrice) := .mk' F4 (PySem.W.mg_of X G0 a4) b4 (ok_is_price F4 T h_is_integer_within)
  have h_are_prices : HasO l.prog w K mg base CX0 4 "are_prices" ["value"] (spArePrices K) := .mk' F5 (PySem.W.mg_of X G0 a5) b5 (ok_are_prices F5 T h_is_piece h_is_price)
  have h_Book : C8.Mak l.prog w K mg base 5 "Book" C (spBook C K) [] := ⟨_, _, ["self", "prices"], [], ⟨mk, a6, i6, kc⟩, ok_Book___init__ F6 T h_are_prices, PySem.W.mg_of X G0 aC, b6, .nil⟩
  have h_Book_prices : HasP l.prog w K mg base 1 C "prices" (spPrices C) := ⟨pr7, _, _, ⟨pg, hd, po, sa⟩, ⟨a7, pg7, pt7, ⟨_, rc7⟩⟩, ok_Book_prices F7 T, b7⟩
  have h_least_price : HasO l.prog w K mg base CX0 4 "least_price" ["prices", "text"] (spLeastPrice) := .mk' F8 (PySem.W.mg_of X G0 a8) b8 (ok_least_price F8 T)
  have h_require_book : HasO l.prog w K mg base CX0 1 "require_book" ["value"] (spReqBook C) := .mk' F9 (PySem.W.mg_of X G0 a9) b9 (ok_require_book F9 T)
  have h_require_comparable : HasO l.prog w K mg base CX0 2 "require_comparable" ["book", "other"] (spReqCmp C) := .mk' F10 (PySem.W.mg_of X G0 a10) b10 (ok_require_comparable F10 T h_require_book)
  have h_dearer_in : HasO l.prog w K mg base CX0 5 "dearer_in" ["book", "other"] (spDearer C) := .mk' F11 (PySem.W.mg_of X G0 a11) b11 (ok_dearer_in F11 T h_least_price)
  have h_is_nowhere_dearer : HasO l.prog w K mg base CX0 6 "is_nowhere_dearer" ["book", "other"] (spNowhere C) := .mk' F12 (PySem.W.mg_of X G0 a12) b12 (ok_is_nowhere_dearer F12 T h_require_comparable h_dearer_in)
  have h_result_of : HasO l.prog w K mg base CX0 7 "result_of" ["prices"] (spResult C) := .mk' F13 (PySem.W.mg_of X G0 a13) b13 (ok_result_of F13 T h_Book h_are_prices)
  have h_require_other : HasO l.prog w K mg base CX0 1 "require_other" ["value"] (spReqBook C) := .mk' F14 (PySem.W.mg_of X G0 a14) b14 (ok_require_other F14 T)
  have h_Book___or__ : C8.Met l.prog w K mg base 8 C "__or__" (spOrB C) [] := ⟨_, _, ["self", "other"], [], ⟨pg, hd, po, sa⟩, ⟨a15, i15, k15⟩, ok_Book___or__ F15 T h_require_other h_result_of, b15, .nil⟩
  have h_Book___and__ : C8.Met l.prog w K mg base 8 C "__and__" (spAndB C) [] := ⟨_, _, ["self", "other"], [], ⟨pg, hd, po, sa⟩, ⟨a16, i16, k16⟩, ok_Book___and__ F16 T h_require_other h_result_of, b16, .nil⟩
  have h_Book___eq__ : C8.Met l.prog w K mg base 1 C "__eq__" (spEqG C) [] := ⟨_, _, ["self", "other"], [], ⟨pg, hd, po, sa⟩, ⟨a17, i17, k17⟩, ok_Book___eq__ F17 T, b17, .nil⟩
  have h__law_dice : Has l.prog w K mg base CX0 1 "_law_dice" ["script", "spot"] (spDice K) := .mk' F18 (PySem.W.mg_of X G0 a18) b18 (ok__law_dice F18 T)
  have h__law_roll : Has l.prog w K mg base CX0 1 "_law_roll" ["dice", "upto"] (spRoll) := .mk' F19 (PySem.W.mg_of X G0 a19) b19 (ok__law_roll F19 T)
  have h__law_pick : Has l.prog w K mg base CX0 2 "_law_pick" ["dice", "items"] (spPick K) := .mk' F20 (PySem.W.mg_of X G0 a20) b20 (ok__law_pick F20 T h__law_roll)
  have h__law_some : Has l.prog w K mg base CX0 2 "_law_some" ["dice", "items", "many"] (spSome K) := .mk' F21 (PySem.W.mg_of X G0 a21) b21 (ok__law_some F21 T h__law_roll)
  have h_Book_alphabet : HasP l.prog w K mg base 1 C "alphabet" (spAlphG C) := ⟨pr22, _, _, ⟨pg, hd, po, sa⟩, ⟨a22, pg22, pt22, ⟨_, rc22⟩⟩, ok_Book_alphabet F22 T, b22⟩
  have h__law_or : Has l.prog w K mg base CX0 2 "_law_or" ["one", "two"] (spLOr) := .mk' F23 (PySem.W.mg_of X G0 a23) b23 (ok__law_or F23 T)
  have h__law_and : Has l.prog w K mg base CX0 2 "_law_and" ["one", "two"] (spLAnd) := .mk' F24 (PySem.W.mg_of X G0 a24) b24 (ok__law_and F24 T)
  have h__law_has : Has l.prog w K mg base CX0 3 "_law_has" ["book", "prices"] (spHas C) := .mk' F25 (PySem.W.mg_of X G0 a25) b25 (ok__law_has F25 T h_Book_prices)
  have h__law_scene : Has l.prog w K mg base CX0 3 "_law_scene" ["dice"] (spScene) := .mk' F26 (PySem.W.mg_of X G0 a26) b26 (ok__law_scene F26 T h__law_some h__law_roll h__law_pick)
  have h__law_cheaper_right : Has l.prog w K mg base CX0 12 "_law_cheaper_right" ["one", "two"] (spCheaper C) := .mk' F27 (PySem.W.mg_of X G0 a27) b27 (ok__law_cheaper_right F27 T h_Book_alphabet h_Book___and__ h_Book___or__ h_is_nowhere_dearer)
  have h__law_right : Has l.prog w K mg base CX0 14 "_law_right" ["dice"] (spRight 400) := .mk' F28 (PySem.W.mg_of X G0 a28) b28 (ok__law_right F28 T h_Book h_Book___and__ h_Book___eq__ h_Book___or__ h__law_scene h__law_has h__law_or h__law_and h__law_cheaper_right)
  exact ok_law F29 T h__law_dice h__law_right
end K05
open PySem PySem.W PyProof.Rows
set_option maxRecDepth 100000 in
set_option maxHeartbeats 0 in
theorem PySem.Challenge.cw_cutbehind_k05_whole_books_put_together_holds : PySem.Challenge.rw_cutbehind_k05_whole_books_put_together.Holds := by
  w_on; o_law; k_head; (case hw => w_witness2)
  k_fill
  refine G.walk_g (l := PySem.Challenge.rw_cutbehind_k05_whole_books_put_together) (n := 63) (k := 16) (x := "script") (sp := fun K => G.spLaw K) rfl (by decide) rfl ⟨rfl, by decide, by decide⟩ (fun w h Y => PySem.W.kIn_of Y) ?F (fun K H a ns hl _ hS => ⟨a, ns, rfl, hS, hl, fun _ => rfl⟩)
  case F =>
    intro w mg fa h KX G0 hmg
    refine' K05.all_mk (l := PySem.Challenge.rw_cutbehind_k05_whole_books_put_together) KX G0 hmg ?aC ?pg ?hd ?po ?sa ?mk ?kc ?iha ?ihn ?iht ?ihm ?n_own_prices ?n_own_pieces ?n_own_alphabet ?n_own_longest ?n_own_dearest ?x_sf ?a0 ?l0 ?c0 ?k0 ?a1 ?l1 ?c1 ?k1 ?a2 ?l2 ?c2 ?k2 ?a3 ?l3 ?c3 ?k3 ?a4 ?l4 ?c4 ?k4 ?a5 ?l5 ?c5 ?k5 ?a6 ?i6 ?l6 ?c6 ?k6 ?a7 ?pg7 ?pt7 ?rc7 ?l7 ?c7 ?k7 ?a8 ?l8 ?c8 ?k8 ?a9 ?l9 ?c9 ?k9 ?a10 ?l10 ?c10 ?k10 ?a11 ?l11 ?c11 ?k11 ?a12 ?l12 ?c12 ?k12 ?a13 ?l13 ?c13 ?k13 ?a14 ?l14 ?c14 ?k14 ?a15 ?i15 ?l15 ?c15 ?k15 ?a16 ?i16 ?l16 ?c16 ?k16 ?a17 ?i17 ?l17 ?c17 ?k17 ?a18 ?l18 ?c18 ?k18 ?a19 ?l19 ?c19 ?k19 ?a20 ?l20 ?c20 ?k20 ?a21 ?l21 ?c21 ?k21 ?a22 ?pg22 ?pt22 ?rc22 ?l22 ?c22 ?k22 ?a23 ?l23 ?c23 ?k23 ?a24 ?l24 ?c24 ?k24 ?a25 ?l25 ?c25 ?k25 ?a26 ?l26 ?c26 ?k26 ?a27 ?l27 ?c27 ?k27 ?a28 ?l28 ?c28 ?k28 ?a29 ?l29 ?c29 ?k29 ?z_abs ?z_all ?z_bool ?z_dict ?z_int ?z_isinstance ?z_len ?z_list ?z_max ?z_min ?z_range ?z_repr ?z_set ?z_sorted ?z_str ?z_tuple ?y_MAX_ALPHABET ?y_MAX_PIECES ?y_MAX_PRICE ?y_PIECE_SIGNS
    (case aC => k_is)
    (case pg => k_is)
    (case hd => k_is)
    (case po => k_is)
    (case sa => k_is)
    (case mk => k_is)
    (case kc => k_is)
    (case iha => k_is)
    (case ihn => k_is)
    (case iht => k_is)
    (case ihm => k_is)
    (case n_own_prices => k_is)
    (case n_own_pieces => k_is)
    (case n_own_alphabet => k_is)
    (case n_own_longest => k_is)
    (case n_own_dearest => k_is)
    (case x_sf => k_is)
    (case a0 => k_is)
    (case l0 => k_is)
    (case c0 => k_is)
    (case k0 => k_is)
    (case a1 => k_is)
    (case l1 => k_is)
    (case c1 => k_is)
    (case k1 => k_is)
    (case a2 => k_is)
    (case l2 => k_is)
    (case c2 => k_is)
    (case k2 => k_is)
    (case a3 => k_is)
    (case l3 => k_is)
    (case c3 => k_is)
    (case k3 => k_is)
    (case a4 => k_is)
    (case l4 => k_is)
    (case c4 => k_is)
    (case k4 => k_is)
    (case a5 => k_is)
    (case l5 => k_is)
    (case c5 => k_is)
    (case k5 => k_is)
    (case a6 => k_is)
    (case i6 => k_is)
    (case l6 => k_is)
    (case c6 => k_is)
    (case k6 => k_is)
    (case a7 => k_is)
    (case pg7 => k_is)
    (case pt7 => k_is)
    (case rc7 => k_is)
    (case l7 => k_is)
    (case c7 => k_is)
    (case k7 => k_is)
    (case a8 => k_is)
    (case l8 => k_is)
    (case c8 => k_is)
    (case k8 => k_is)
    (case a9 => k_is)
    (case l9 => k_is)
    (case c9 => k_is)
    (case k9 => k_is)
    (case a10 => k_is)
    (case l10 => k_is)
    (case c10 => k_is)
    (case k10 => k_is)
    (case a11 => k_is)
    (case l11 => k_is)
    (case c11 => k_is)
    (case k11 => k_is)
    (case a12 => k_is)
    (case l12 => k_is)
    (case c12 => k_is)
    (case k12 => k_is)
    (case a13 => k_is)
    (case l13 => k_is)
    (case c13 => k_is)
    (case k13 => k_is)
    (case a14 => k_is)
    (case l14 => k_is)
    (case c14 => k_is)
    (case k14 => k_is)
    (case a15 => k_is)
    (case i15 => k_is)
    (case l15 => k_is)
    (case c15 => k_is)
    (case k15 => k_is)
    (case a16 => k_is)
    (case i16 => k_is)
    (case l16 => k_is)
    (case c16 => k_is)
    (case k16 => k_is)
    (case a17 => k_is)
    (case i17 => k_is)
    (case l17 => k_is)
    (case c17 => k_is)
    (case k17 => k_is)
    (case a18 => k_is)
    (case l18 => k_is)
    (case c18 => k_is)
    (case k18 => k_is)
    (case a19 => k_is)
    (case l19 => k_is)
    (case c19 => k_is)
    (case k19 => k_is)
    (case a20 => k_is)
    (case l20 => k_is)
    (case c20 => k_is)
    (case k20 => k_is)
    (case a21 => k_is)
    (case l21 => k_is)
    (case c21 => k_is)
    (case k21 => k_is)
    (case a22 => k_is)
    (case pg22 => k_is)
    (case pt22 => k_is)
    (case rc22 => k_is)
    (case l22 => k_is)
    (case c22 => k_is)
    (case k22 => k_is)
    (case a23 => k_is)
    (case l23 => k_is)
    (case c23 => k_is)
    (case k23 => k_is)
    (case a24 => k_is)
    (case l24 => k_is)
    (case c24 => k_is)
    (case k24 => k_is)
    (case a25 => k_is)
    (case l25 => k_is)
    (case c25 => k_is)
    (case k25 => k_is)
    (case a26 => k_is)
    (case l26 => k_is)
    (case c26 => k_is)
    (case k26 => k_is)
    (case a27 => k_is)
    (case l27 => k_is)
    (case c27 => k_is)
    (case k27 => k_is)
    (case a28 => k_is)
    (case l28 => k_is)
    (case c28 => k_is)
    (case k28 => k_is)
    (case a29 => k_is)
    (case l29 => k_is)
    (case c29 => k_is)
    (case k29 => k_is)
    (case z_abs => k_is)
    (case z_all => k_is)
    (case z_bool => k_is)
    (case z_dict => k_is)
    (case z_int => k_is)
    (case z_isinstance => k_is)
    (case z_len => k_is)
    (case z_list => k_is)
    (case z_max => k_is)
    (case z_min => k_is)
    (case z_range => k_is)
    (case z_repr => k_is)
    (case z_set => k_is)
    (case z_sorted => k_is)
    (case z_str => k_is)
    (case z_tuple => k_is)
    (case y_MAX_ALPHABET => k_is)
    (case y_MAX_PIECES => k_is)
    (case y_MAX_PRICE => k_is)
    (case y_PIECE_SIGNS => k_is)
#print axioms PySem.Challenge.cw_cutbehind_k05_whole_books_put_together_holds
