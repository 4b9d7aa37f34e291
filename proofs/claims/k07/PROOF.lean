import PyProof.Rows.All
import Wide.All
import OpenK.AllK
import Wide.FinOn
import PyProof.EqAt
import PyProof.EqKinds
import PyProof.TupleCall
import HandS.ForMost
import HandS.Wide
import HandS.IsInst
import HandS.Walk
import HandS.Style
import HandS.More
import HandS.TupAny
import HandS.TupMul
import HandS.DictComp
import HandS.ListItems
import HandS.Property
import KE.KDictCopyH
import HandS.Codes
import HandS.DictTup
import KE.KSortTup
import PyProof.Rows.SortKeyStr
import HandS.OwnEq
import HandS.Deep
import KE.KOpsOwn
import HandS.Exc
import HandS.ExcOwn
import HandS.TryMany
import HandS.WordsExc
import HandS.RevTup
import HandS.List
import HandS.Base
import KE.KDictItemsList
import KE.KDictExact
import KE.KNest
import KE.KNestM
import HandS.Lambda
import HandS.EndTab
import HandS.EndOwn
import HandS.ExcIs
import HandS.Small
import HandS.RevRange
import HandS.TryOnly
import PySem.Challenge.RW_cutbehind_k07_dearer_and_needless_pieces
set_option Elab.async false
set_option linter.all false
set_option maxRecDepth 100000
set_option maxHeartbeats 4000000
/-! The part that every claim shares: defs that are run where no repr is under way (FnG), and rules for what the hand layer lacks. -/
namespace G
open PySem PySem.Spec PyProof.Rows L2
/-! ### a def's promise where no guarded builtin is running -/
structure FnG (P : Program) (w : World) (K : PySem.W.Frag) (mg : Str → Option Value) (base : Heap) (CX : CXT) (k : Nat) (f : Addr) (fd : FuncData) (ps : List Str) (sp : Sp) : Prop where
  cnt : ∀ {vs H Q E}, sp vs H Q E → vs.length = ps.length
  go : ∀ {A : Around} {outer : List Env} {s : Shared} {H : Hp} {args : Args} {us : List Value} {vs : List V} {Q : VK} {E : XK}, A.guards = some [] → Room k A → Env0 P w K mg base A outer s H →
    BindsTo s fd args (ps.zip us) → Vals vs us → sp vs H Q E → codeAny (model P w) A (.call (.ref f) args) (CR CX outer P w H s Q E) s
section
variable {P : Program} {w : World} {K : PySem.W.Frag} {mg : Str → Option Value} {base : Heap} {CX : CXT} {k : Nat} {f : Addr} {fd : FuncData} {ps : List Str} {sp : Sp}
theorem FnG.of (F : FnOk P w K mg base CX k f fd ps sp) : FnG P w K mg base CX k f fd ps sp :=
  ⟨fun h => F.len _ _ _ _ h, fun {A outer s H args us vs Q E} _ hr e0 hb hv hs => F.run A outer s H args us vs Q E hr e0 hb hv hs⟩
theorem FnG.mono {j : Nat} (F : FnG P w K mg base CX j f fd ps sp) (h : j ≤ k) : FnG P w K mg base CX k f fd ps sp :=
  ⟨F.cnt, fun hg hr => F.go hg (hr.mono h)⟩
end
/-- the rule for a def of the text, by its body; the body's reader is told that nothing guarded runs -/
theorem fn_gK {CX : CXT} {P : Program} {w : World} {K : PySem.W.Frag} {mg : Str → Option Value} {base : Heap} {k : Nat} {f : Addr} {x qual : Str} {st : Stmt} {fd : FuncData} {N ps : List Str} {sp : Sp}
    (F : Fun K x qual st f fd) (S : FnScope N ps (defScope st)) (cnt : ∀ vs H Q E, sp vs H Q E → vs.length = ps.length)
    (body : ∀ (cdv : Value), fd.code = cdv → ∀ (A : Around) (outer : List Env) (s : Shared) (H : Hp) (vs : List V) (Q : VK) (E : XK), (A.deeper (envOfC qual (defScope st) s.heap.objs.size f cdv)).guards = some [] →
      Room k (A.deeper (envOfC qual (defScope st) s.heap.objs.size f cdv)) → sp vs H Q E →
      ∃ t, PSs (cxOf CX P w K mg base N qual (defScope st) f cdv A outer s H E) (defBody st) t ∧ t { nx := fun _ H' => Q .non H', rt := Q } (start N vs) H) :
    FnG P w K mg base CX (k + 1) f fd ps sp := by
  obtain ⟨oc, od, kV, doc, pm, an, cdv, ct, osl, hfd, look, code⟩ := F.ex
  subst hfd
  refine ⟨fun h => cnt _ _ _ _ h, ?_⟩
  intro A outer s H args us vs Q E hg room env0 hbind hvals want
  have kin : K.In s.heap := env0.mod.kin.keeps fun b o q => (env0.bs b o q).1
  have nolim : s.heap.NoLimit := env0.mod.nolimit.keeps fun b o q => (env0.bs b o q).1
  have kinds : ∀ y ∈ ps.zip us, (defScope st).names.lookup y.1 = some .local ∨ ((defScope st).names.lookup y.1 = some .cell ∧ ((cellsFrom (s.heap.objs.size + 1) (defScope st).names []).lookup y.1).isSome = true) := by
    rintro ⟨n, v⟩ hy
    cases S.par n (List.of_mem_zip hy).1 with
    | inl q => exact Or.inl q
    | inr q => exact Or.inr ⟨q, PySem.W.cellsFrom_some _ _ _ (Or.inl q)⟩
  refine codeAny_call_function room.depth (kin _ _ look) rfl S.co S.gen rfl (PySem.W.codeRec_of kin code) (hbind _ _ _ _ ?_)
  refine wpAny_newFunctionEnv_cells S.kind kinds ?_
  intro env he s1 z
  subst he
  refine ⟨nolim.keeps z.toInCall.keep, codeAny_func ?_⟩
  obtain ⟨t, ht, hq⟩ := body cdv rfl A outer s H vs Q E hg (room.deeper _) want
  have I0 := inv_start (CX := CX) (P := P) (w := w) (mg := mg) (base := base) (qual := qual) (E := E) S room.hd env0 (cnt _ _ _ _ want) hvals z
  refine wpAny_mono (ht.run [] s1 (start N vs) H _ I0 hq) ?_ (fun _ _ q => q)
  intro fl s' hs
  cases fl with
  | ret u =>
    obtain ⟨v, σ', H', J, rv, q⟩ := hs
    exact ⟨v, H', J.os, J.bare, J.base, J.hok, rv, q⟩
  | next =>
    obtain ⟨σ', H', J, q⟩ := hs
    exact ⟨V.non, H', J.os, J.bare, J.base, J.hok, rfl, q⟩
  | brk => exact hs.elim fun _ z => z.elim fun _ z => False.elim z.2
  | cont => exact hs.elim fun _ z => z.elim fun _ z => False.elim z.2
theorem fn_g {CX : CXT} {P : Program} {w : World} {K : PySem.W.Frag} {mg : Str → Option Value} {base : Heap} {k : Nat} {f : Addr} {x qual : Str} {st : Stmt} {fd : FuncData} {N ps : List Str} {sp : Sp}
    (F : Fun K x qual st f fd) (S : FnScope N ps (defScope st)) (cnt : ∀ vs H Q E, sp vs H Q E → vs.length = ps.length)
    (body : ∀ (cdv : Value) (A : Around) (outer : List Env) (s : Shared) (H : Hp) (vs : List V) (Q : VK) (E : XK), (A.deeper (envOfC qual (defScope st) s.heap.objs.size f cdv)).guards = some [] →
      Room k (A.deeper (envOfC qual (defScope st) s.heap.objs.size f cdv)) → sp vs H Q E →
      ∃ t, PSs (cxOf CX P w K mg base N qual (defScope st) f cdv A outer s H E) (defBody st) t ∧ t { nx := fun _ H' => Q .non H', rt := Q } (start N vs) H) :
    FnG P w K mg base CX (k + 1) f fd ps sp := fn_gK F S cnt fun cdv _ => body cdv
/-- a def that lets nothing out, its code object known -/
theorem fn_gC {P : Program} {w : World} {K : PySem.W.Frag} {mg : Str → Option Value} {base : Heap} {k : Nat} {f c : Addr} {x qual : Str} {st : Stmt} {fd : FuncData} {N ps : List Str} {sp : Sp}
    (F : Fun K x qual st f fd) (hc : fd.code = .ref c) (S : FnScope N ps (defScope st)) (cnt : ∀ vs H Q E, sp vs H Q E → vs.length = ps.length)
    (body : ∀ (A : Around) (outer : List Env) (s : Shared) (H : Hp) (vs : List V) (Q : VK) (E : XK), (A.deeper (envOfC qual (defScope st) s.heap.objs.size f (.ref c))).guards = some [] →
      Room k (A.deeper (envOfC qual (defScope st) s.heap.objs.size f (.ref c))) → sp vs H Q E →
      ∃ t, PSs (cxOf CX0 P w K mg base N qual (defScope st) f (.ref c) A outer s H E).nox (defBody st) t ∧ t { nx := fun _ H' => Q .non H', rt := Q } (start N vs) H) :
    FnG P w K mg base CX0 (k + 1) f fd ps sp := fn_gK F S cnt fun cdv e A outer s H vs Q E hg hr h => by
  rw [hc] at e
  subst e
  obtain ⟨t, ht, hq⟩ := body A outer s H vs Q E hg hr h
  exact ⟨t, ht.nox, hq⟩
/-- a def that lets nothing out -/
theorem fn_g0 {P : Program} {w : World} {K : PySem.W.Frag} {mg : Str → Option Value} {base : Heap} {k : Nat} {f : Addr} {x qual : Str} {st : Stmt} {fd : FuncData} {N ps : List Str} {sp : Sp}
    (F : Fun K x qual st f fd) (S : FnScope N ps (defScope st)) (cnt : ∀ vs H Q E, sp vs H Q E → vs.length = ps.length)
    (body : ∀ (cdv : Value) (A : Around) (outer : List Env) (s : Shared) (H : Hp) (vs : List V) (Q : VK) (E : XK), (A.deeper (envOfC qual (defScope st) s.heap.objs.size f cdv)).guards = some [] →
      Room k (A.deeper (envOfC qual (defScope st) s.heap.objs.size f cdv)) → sp vs H Q E →
      ∃ t, PSs (cxOf CX0 P w K mg base N qual (defScope st) f cdv A outer s H E).nox (defBody st) t ∧ t { nx := fun _ H' => Q .non H', rt := Q } (start N vs) H) :
    FnG P w K mg base CX0 (k + 1) f fd ps sp := fn_g F S cnt fun cdv A outer s H vs Q E hg hr h => by
  obtain ⟨t, ht, hq⟩ := body cdv A outer s H vs Q E hg hr h
  exact ⟨t, ht.nox, hq⟩

/-! ### a def as its callers use it -/
structure Has (P : Program) (w : World) (K : PySem.W.Frag) (mg : Str → Option Value) (base : Heap) (CX : CXT) (k : Nat) (x : Str) (ps : List Str) (sp : Sp) : Prop where
  ex : ∃ f fd, FnG P w K mg base CX k f fd ps sp ∧ mg x = some (.ref f) ∧ PySem.W.keepIn K (.ref f) = true ∧ Binds K fd ps []
theorem Has.mono {P : Program} {w : World} {K : PySem.W.Frag} {mg : Str → Option Value} {base : Heap} {CX : CXT} {j k : Nat} {x : Str} {ps : List Str} {sp : Sp} (F : Has P w K mg base CX j x ps sp) (h : j ≤ k) : Has P w K mg base CX k x ps sp := by
  obtain ⟨f, fd, G, r⟩ := F.ex
  exact ⟨f, fd, G.mono h, r⟩
theorem Has.mk' {P : Program} {w : World} {K : PySem.W.Frag} {mg : Str → Option Value} {base : Heap} {CX : CXT} {k : Nat} {x qual : Str} {ps : List Str} {sp : Sp} {f : Addr} {fd : FuncData} {st : Stmt} (F : Fun K x qual st f fd) (hm : mg x = some (.ref f)) (hb : Binds K fd ps [])
    (G : FnG P w K mg base CX k f fd ps sp) : Has P w K mg base CX k x ps sp := ⟨f, fd, G, hm, F.kp, hb⟩
section
variable {X : Cx} {CX : CXT} {k : Nat} {x : Str} {ps : List Str} {sp : Sp} {E : XK} {p pos : Pos} {e : Expr} {es : List Expr} {t : TA}
theorem run_g {f : Addr} {fd : FuncData} {pins : List (Addr × Obj)} {σ : L2.St} {H : Hp} {s : Shared} {Q : VK} {us : List Value} {vs : List V} (F : FnG X.prog X.w X.K X.mg X.base CX k f fd ps sp) (hg : X.A.guards = some []) (hr : Room k X.A) (hb : Binds X.K fd ps []) (hx : Passes CX X E)
    (I : Inv X pins σ H s) (r : Vals vs us) (h : sp vs H Q E) : wpAny (model X.prog X.w) X.A (call (.ref f) us) (EP X pins σ Q) X.xe s := by
  have hl : (us ++ []).length = ps.length := by
    rw [List.append_nil, ← r.length]
    exact F.cnt h
  have hb' := hb s us I.kIn hl
  rw [List.append_nil] at hb'
  refine wpAny_call (codeAny_mono (F.go hg hr I.env0 hb' r h) ?_)
  intro res s' q
  cases res with
  | error err => exact hx pins σ H s err s' I q
  | ok fl =>
    cases fl with
    | ret u => exact I.after q
    | next => exact q.elim
    | brk => exact q.elim
    | cont => exact q.elim
theorem pe_has (F : Has X.prog X.w X.K X.mg X.base CX k x ps sp) (hg : X.A.guards = some []) (hr : Room k X.A) (hx : Passes CX X E) (ha : PA X (e :: es) t) (hl : Gl X x := by rfl)
    (hdb : (x == ("__debug__" : Str)) = false := by decide) (he : starEach (e :: es) X.env = (false, eval e X.env) :: starEach es X.env := by rfl) (hpl : (backTo pos (starEach es X.env)).any (·.1) = false := by rfl) :
    PE X (.Call (.Name x p) (e :: es) [] pos) (tCall sp [] E t) := by
  obtain ⟨f, fd, G, hm, hk, hb⟩ := F.ex
  constructor
  intro pins s σ H Q I h
  refine wpAny_Call_Name_kw (ld_glob I hl hm ?_ hdb)
  refine PySem.W.callWith_K (h₀ := X.base) I.ok.mod.kin hk (thn (ha.run pos pins s σ H _ I h) ?_) he hpl
  rintro us s1 ⟨vs, H1, I1, r, q⟩
  refine ⟨I1.kIn, run_g G hg hr hb hx I1 r ?_⟩
  have q' : sp (vs ++ []) H1 Q E := q
  rw [List.append_nil] at q'
  exact q'
theorem pe_has0 (F : Has X.prog X.w X.K X.mg X.base CX k x ps sp) (hg : X.A.guards = some []) (hr : Room k X.A) (hx : Passes CX X E) (hl : Gl X x := by rfl) (hdb : (x == ("__debug__" : Str)) = false := by decide) :
    PE X (.Call (.Name x p) [] [] pos) (tCall sp [] E tNil) := by
  obtain ⟨f, fd, G, hm, hk, hb⟩ := F.ex
  constructor
  intro pins s σ H Q I h
  refine wpAny_Call_Name_kw (ld_glob I hl hm ?_ hdb)
  exact PySem.W.callWith_K0 I.kIn hk (run_g (us := []) (vs := []) G hg hr hb hx I .nil h)
end

/-! ### rules for ints of any size, texts, lists, repr -/
section
variable {X : Cx}
def CPowW (i j : Int) : Prop := 0 ≤ j ∧ (Builtin.Int.intBits i : Int) * j ≤ 2 ^ 27
theorem op_powW : OpR X (binaryOp .Pow) (rI CPowW fun i j => .int (i ^ j.toNat)) := by
  intro pins s σ H x y v u Q I rx ry h
  obtain ⟨i, j, rfl, rfl, ⟨h1, h2⟩, q⟩ := h
  obtain ⟨t1, rfl⟩ := rx
  obtain ⟨t2, rfl⟩ := ry
  exact pow_int h1 h2 ⟨V.int _, H, I.tok _, ⟨_, rfl⟩, q⟩
/-- a text said n times, n at least 2 -/
def sRep (z : Str) (n : Nat) : Str := ⟨(List.replicate n z.cps).foldl (· ++ ·) #[]⟩
def rMulS : R2 := fun x y H Q => ∃ (z : Str) (n : Int), x = .str z ∧ y = .int n ∧ 1 < n ∧ n < 2 ^ 40 ∧ 0 < z.length ∧ z.length * n.toNat ≤ sizeLine ∧ Q (.str (sRep z n.toNat)) H
theorem op_mulS : OpR X (binaryOp .Mult) rMulS := by
  intro pins s σ H x y v u Q I rx ry h
  obtain ⟨z, n, rfl, rfl, h1, h2, h3, h4, q⟩ := h
  obtain ⟨t1, rfl⟩ := rx
  obtain ⟨t2, rfl⟩ := ry
  have hz : sizeLine = 16777216 := sizeLine_eq
  have c0 : ¬ n < 1 := by omega
  have c1 : (n == 1 || z.length == 0) = false := by
    have a : (n == 1) = false := beq_eq_false_iff_ne.mpr (by omega)
    have b : (z.length == 0) = false := beq_eq_false_iff_ne.mpr (by omega)
    rw [a, b]
    rfl
  have h5 : (z.length * n.toNat : Nat) ≤ 16777216 := by rw [← hz]; exact h4
  refine PySem.P.mul_str ?_ ?_ ?_ ?_
  · have a : ¬ n < -(2 ^ 63 : Int) := by omega
    have b : ¬ n ≥ 2 ^ 63 := by omega
    rw [decide_eq_false a, decide_eq_false b]
    rfl
  · intro _ _ hgt
    have hn0 : (0 : Int) < n := by omega
    have e1 : (z.length : Int) ≤ 16777216 := by
      have : z.length * 1 ≤ z.length * n.toNat := Nat.mul_le_mul_left _ (by omega)
      omega
    have e2 : (8388608 : Int) ≤ (2 ^ 63 - 1) / n := by
      rw [Int.le_ediv_iff_mul_le hn0]
      have : 8388608 * n < 8388608 * 2 ^ 40 := by omega
      have e3 : (8388608 : Int) * 2 ^ 40 = 2 ^ 63 := by decide
      omega
    have e4 : (z.length : Int) ≤ 8388608 := by
      have : z.length * 2 ≤ z.length * n.toNat := Nat.mul_le_mul_left _ (by omega)
      omega
    omega
  · intro _ _
    unfold Builtin.Str.tooLong
    have : ¬ (z.length * n.toNat) > sizeLine := by omega
    simpa using this
  · rw [if_neg c0, c1]
    exact ⟨by
      show (sRep z n.toNat).length ≤ sizeLine
      exact fits_reps (by unfold Builtin.Str.tooLong; simpa using (show ¬ (z.length * n.toNat) > sizeLine by omega)), ⟨V.str _, H, I.tok _, ⟨_, rfl⟩, q⟩⟩

/-- the signs of a text, each a text -/
def signsV (z : Str) : List V := z.cps.toList.map fun c => V.str ⟨#[c]⟩
def rListS : List V → Hp → VK → Prop := fun xs H Q => ∃ z : Str, xs = [.str z] ∧ z.length ≤ sizeLine ∧ ∀ p, H p = none → Q (.ref p) (upd H p (.lst (signsV z)))
theorem vals_at : ∀ (xs : List V) (us : List Value), us.length = xs.length → (∀ (j : Nat) (u : Value), us[j]? = some u → ∃ x, xs[j]? = some x ∧ RelV x u) → Vals xs us
  | [], [], _, _ => .nil
  | [], _ :: _, n, _ => by cases n
  | _ :: _, [], n, _ => by cases n
  | x :: xs, u :: us, n, at' => by
    obtain ⟨y, ey, ry⟩ := at' 0 u rfl
    cases ey
    refine .cons ry (vals_at xs us (Nat.succ.inj n) ?_)
    intro j v hv
    exact at' (j + 1) v hv
theorem call_list_str (hc : X.calm = true) : CallR X (.type "list") rListS := by
  intro pins s σ H xs us Q I r h
  obtain ⟨z, rfl, hz, q⟩ := h
  obtain ⟨u, rfl, t, rfl⟩ := vals1 r
  refine PySem.call_list_str (I.ok.hd hc) z t ?_ hz
  intro h' tk acc c' keeps at' items
  have lenA : acc.toList.length = (signsV z).length := by
    unfold signsV
    rw [List.length_map, Array.length_toList, Array.length_toList]
    exact items.1
  have va : Vals (signsV z) acc.toList := vals_at _ _ lenA fun j u hu => by
    have hj : acc[j]? = some u := by simpa using hu
    obtain ⟨c, tk2, e1, rfl⟩ := items.2 j u hj
    refine ⟨V.str ⟨#[c]⟩, ?_, ⟨tk2, rfl⟩⟩
    unfold signsV
    have e2 : z.cps.toList[j]? = some c := by simpa using e1
    rw [List.getElem?_map, e2]
    rfl
  have lz : (signsV z).length ≤ sizeLine := by
    unfold signsV
    rw [List.length_map, Array.length_toList]
    exact hz
  refine ⟨.ref s.heap.objs.size, _, I.laid (t' := tk) (o := .lst (signsV z)) keeps (Nat.le_refl _) ?_, rfl, q _ (I.hok.fresh (Nat.le_refl _))⟩
  exact ⟨lz, acc.toList, c', va, by simpa using at'⟩

/-- repr of data of any depth (no dict within) -/
def rRepr (K : PySem.W.Frag) : List V → Hp → VK → Prop := fun xs H Q => ∃ x d, xs = [x] ∧ Dp K H x d ∧ d.showable = true ∧ d.hasDict = false ∧ d.depth ≤ 60 ∧ d.shown.length ≤ sizeLine ∧ Q (.str d.shown) H
theorem call_repr (hg : X.A.guards = some []) (hu : X.A.units + 64 < cLine) : CallR X (.builtin "repr") (rRepr X.K) := by
  intro pins s σ H xs us Q I r h
  obtain ⟨x, d, rfl, hd, hs, hD, hdep, hz, q⟩ := h
  obtain ⟨u, rfl, rx⟩ := vals1 r
  obtain ⟨as, rd⟩ := Dp.reads I d x u hd rx
  have fin : ∀ h' t tk, (∀ b o, s.heap.get? b = some o → h'.get? b = some o) → EP X pins σ Q (.str d.shown t) { s with heap := h', toks := tk } := fun h' t tk keeps =>
    ⟨V.str d.shown, H, I.kept keeps, ⟨t, rfl⟩, q⟩
  cases rd with
  | none =>
    simp only [PyData.shown] at fin
    exact PySem.P.repr_of_none (fin _ _ _ fun _ _ e => e)
  | bool b =>
    simp only [PyData.shown] at fin
    exact PySem.P.repr_of_bool (fin _ _ _ fun _ _ e => e)
  | int i t =>
    simp only [PyData.shown] at fin
    exact PySem.P.repr_of_int (by simpa [PyData.showable] using hs) (fin _ _ _ fun _ _ e => e)
  | str z t =>
    simp only [PyData.shown] at fin hz
    exact PySem.P.repr_of_str (fin _ _ _ fun _ _ e => e) hz
  | list a b c e => exact repr_of_reads' (.list a b c e) hs (PyData.noDict_hsm hD) hg (by omega) (fun _ _ e => e) fin hz
  | tuple a b c e => exact repr_of_reads' (.tuple a b c e) hs (PyData.noDict_hsm hD) hg (by omega) (fun _ _ e => e) fin hz
  | dict a b c e f => cases hD
end

/-! ### the end of a law row, for a law that is run where nothing guarded runs -/
theorem end_g {P : Program} {w : World} {K : PySem.W.Frag} {mg mb : Str → Option Value} {k : Nat} {fa a : Addr} {fd : FuncData} {x : Str} {sp : Sp} {s₁ : Shared} {vs : List Value} {ns : List Int}
    (kin : K.In s₁.heap) (nsM : s₁.heap.Ns mainGlobals mg) (nsB : s₁.heap.Ns builtinsNs mb) (plainB : ∀ x : Str, x ≠ "__name__" → mb x = bootBuiltins x) (nolim : s₁.heap.NoLimit) (gens : s₁.gens = #[])
    (at' : s₁.heap.get? a = some { cls := .type "list", data := .seq vs.toArray }) (areI : IntsAre vs ns) (short : ns.length ≤ sizeLine) (room : Room k callerA)
    (F : ∀ base : Heap, K.In base → base.Ns mainGlobals mg → FnG P w K mg base CX0 k fa fd [x] sp) (bind : ∀ (s : Shared) (u : Value), BindsTo s fd ⟨[u], []⟩ [(x, u)])
    (prom : ∀ H : Hp, Only H → SqL K H a (ns.map V.int) → sp [.ref a] H (fun v _ => v = .bl true) fun _ _ _ => False) :
    codeAny (model P w) callerA (.call (.ref fa) ⟨[.ref a], []⟩) (fun r s' => r = .ok (.ret (.bool true)) ∧ OldK s₁.heap s'.heap ∧ s'.os = s₁.os ∧ AllBare s'.gens) s₁ := by
  have hv := vals_ints areI
  have hlen := areI.length
  have go : ∀ H : Hp, Only H → SqL K H a (ns.map V.int) → HOk P w H s₁.heap → (∀ b, H b ≠ none → b = a) → (H a ≠ none → K.lookup a = none) →
      codeAny (model P w) callerA (.call (.ref fa) ⟨[.ref a], []⟩) (fun r s' => r = .ok (.ret (.bool true)) ∧ OldK s₁.heap s'.heap ∧ s'.os = s₁.os ∧ AllBare s'.gens) s₁ := by
    intro H only sq hok one notK
    have dictFree : ∀ {b : Addr} {o : Obj} {es : Array DictEntry} {ep : Nat}, s₁.heap.get? b = some o → o.data = .dict es ep → H b = none := by
      intro b o es ep e d
      match hb : H b with
      | none => rfl
      | some u =>
        have eb := one b (by rw [hb]; exact fun z => by cases z)
        rw [eb, at'] at e
        cases e
        exact absurd d (fun z => by cases z)
    have nsT : ∀ {b : Addr} {m : Str → Option Value}, s₁.heap.Ns b m → (hidT s₁.heap H).Ns b m := by
      rintro b m ⟨o, es, ep, e, d, rest⟩
      exact ⟨o, es, ep, hidT_get e (dictFree e d), d, rest⟩
    have kinT : K.In (hidT s₁.heap H) := by
      intro b o e
      refine hidT_get (kin b o e) ?_
      match hb : H b with
      | none => rfl
      | some u =>
        have nz : H b ≠ none := by rw [hb]; exact fun z => by cases z
        have eb := one b nz
        rw [eb] at nz e
        rw [notK nz] at e
        cases e
    have modT : Mod K mg (hidT s₁.heap H) := by
      refine ⟨kinT, nsT nsM, ⟨mb, nsT nsB, plainB⟩, ?_⟩
      obtain ⟨mc, l1, l2⟩ := nolim
      exact ⟨mc, nsT l1, l2⟩
    have start0 : Env0 P w K mg (hidT s₁.heap H) callerA [] s₁ H :=
      ⟨rfl, modT, fun _ _ e => of_hidT e, Nat.le_of_eq (hidT_size _ _), trivial, fun _ z => (List.not_mem_nil z).elim, hok, .of_eq gens⟩
    have ran := (F _ kinT (nsT nsM)).go (args := ⟨[.ref a], []⟩) (us := [.ref a]) (vs := [.ref a]) rfl room start0 (bind s₁ (.ref a)) (.cons rfl .nil) (prom H only sq)
    refine codeAny_mono ran ?_
    intro r s' h
    match r, h with
    | .ok (.ret u), ⟨v, H', os, bare, un, hok', rel, val⟩ =>
      have val' : v = .bl true := val
      subst val'
      have eu : u = Value.bool true := rel
      subst eu
      refine ⟨rfl, OldK.of_keep ?_, os, bare⟩
      intro b o e
      match hb : H b with
      | none => exact un.keep b o e hb (fun z => (List.not_mem_nil z).elim) (fun z => (List.not_mem_nil z).elim)
      | some _ =>
        rcases only b with z | ⟨ob, xs, z⟩
        · rw [hb] at z
          cases z
        · have old := (hok b _ z).1
          have new := (hok' b _ (un.frzs b ob _ z)).1
          rw [e] at old
          cases old
          exact new
    | .ok .next, z => exact False.elim z
    | .ok .brk, z => exact False.elim z
    | .ok .cont, z => exact False.elim z
    | .error _, z => exact False.elim z
  match hk : K.lookup a with
  | some o =>
    have e := kin a o hk
    rw [at'] at e
    cases e
    refine go (fun _ => none) (fun _ => Or.inl rfl) (Or.inr ⟨_, vs.toArray, _, hk, rfl, rfl, rfl, ?_, by simpa using hv⟩) (fun _ _ z => by cases z) (fun _ z => absurd rfl z) fun z => absurd rfl z
    rw [List.size_toArray, hlen]
    exact short
  | none =>
    let H1 : Hp := fun b => if b = a then some (.frz { cls := .type "list", data := .seq vs.toArray } (.lst (ns.map V.int))) else none
    have here : H1 a = some (.frz { cls := .type "list", data := .seq vs.toArray } (.lst (ns.map V.int))) := if_pos rfl
    have away : ∀ {b}, b ≠ a → H1 b = none := fun hb => if_neg hb
    refine go H1 (fun b => ?_) (Or.inl (Or.inr ⟨_, here⟩)) (fun b u z => ?_) (fun b z => ?_) fun _ => hk
    · by_cases hb : b = a
      · rw [hb]
        exact Or.inr ⟨_, _, here⟩
      · exact Or.inl (away hb)
    · by_cases hb : b = a
      · rw [hb] at z ⊢
        rw [here] at z
        cases z
        exact ⟨at', by rw [List.length_map]; exact short, vs, _, hv, at'⟩
      · rw [away hb] at z
        cases z
    · by_cases hb : b = a
      · exact hb
      · exact absurd (away hb) z
theorem walk_g {l : PySem.W.OpenLaw} {n k : Nat} {q : Program} {loose : List Str} {XP : (Str → Option Value) → Heap → Prop} {YP : World → Heap → Prop} {d : DefRec} {K : Params → PySem.W.Frag} {sp : PySem.W.Frag → Sp} {x : Str}
    (many : l.most = some n) (fits : n ≤ sizeLine) (plain : d.params.defaults = []) (room : Room k callerA) (hY : ∀ (w : World) (h : Heap), YP w h → (K w.params).In h)
    (F : ∀ (w : World) (mg : Str → Option Value) (fa : Addr) (h : Heap), (K w.params).In h → h.Ns mainGlobals mg → mg d.name = some (.ref fa) →
      ∃ fd : FuncData, (∀ (s : Shared) (u : Value), BindsTo s fd ⟨[u], []⟩ [(x, u)]) ∧ ∀ base : Heap, (K w.params).In base → base.Ns mainGlobals mg → FnG l.prog w (K w.params) mg base CX0 k fa fd [x] (sp (K w.params)))
    (prom : ∀ (K : PySem.W.Frag) (H : Hp) (a : Addr) (ns : List Int), ns.length ≤ n → Only H → SqL K H a (ns.map V.int) → sp K [.ref a] H (fun v _ => v = .bl true) fun _ _ _ => False) :
    PySem.W.WalkO q loose XP YP l.row.toRowW d [] (fun f vs => PySem.call f vs) := by
  refine Att.attach_call many plain ?_
  intro w s₀ s₁ mg mb fa o pm cd doc a vs ns G Y ho hd hcd hmg hobj hints hlen hgens
  obtain ⟨fd, bind, hF⟩ := F w mg fa _ (hY w _ Y) G.T.g hmg
  exact end_g (hY w _ Y) G.T.g G.T.b G.T.builtins G.T.nolimit hgens hobj hints (Nat.le_trans hlen fits) room hF bind fun H only sq => prom _ H a ns hlen only sq
end G
/-! The layer's rules with the written part K named, so that they serve within a comprehension. -/
namespace G
open PySem PySem.Spec PyProof.Rows L2
section
variable {X : Cx} (K : PySem.W.Frag)
theorem g_ix_list (e : X.K = K := by rfl) : IxR X (rIxL K) := by
  subst e
  exact ix_list
theorem g_ix_tup (e : X.K = K := by rfl) : IxR X (rIxT K) := by
  subst e
  exact ix_tup
theorem g_ix_seq (e : X.K = K := by rfl) : IxR X (rIx K) := by
  subst e
  exact ix_seq
def rLenQ : List V → Hp → VK → Prop := fun xs H Q => ∃ p ys, xs = [.ref p] ∧ (SqL K H p ys ∨ SqT K H p ys) ∧ Q (.int (ys.length : Int)) H
theorem g_len_seq (e : X.K = K := by rfl) : CallR X (.builtin "len") (rLenQ K) := by
  subst e
  exact call_len_seq
def rLenG : List V → Hp → VK → Prop := fun xs H Q => ∃ x n, xs = [x] ∧ LenV K x H n ∧ Q (.int (n : Int)) H
theorem g_len (e : X.K = K := by rfl) : CallR X (.builtin "len") (rLenG K) := by
  subst e
  exact call_len
def rListQ : List V → Hp → VK → Prop := fun xs H Q => ∃ p ys, xs = [.ref p] ∧ (SqL K H p ys ∨ SqT K H p ys) ∧ ∀ l, H l = none → Q (.ref l) (upd H l (.lst ys))
theorem g_list_of (e : X.K = K := by rfl) : CallR X (.type "list") (rListQ K) := by
  subst e
  exact call_list_of
def rListAny : List V → Hp → VK → Prop := fun xs H Q => rListS xs H Q ∨ rListQ K xs H Q
theorem g_list_any (hc : X.calm = true) (e : X.K = K := by rfl) : CallR X (.type "list") (rListAny K) := fun pins s σ H xs us Q I r h => by
  rcases h with h | h
  · exact call_list_str hc pins s σ H xs us Q I r h
  · exact g_list_of K e pins s σ H xs us Q I r h
def rDictP : List V → Hp → VK → Prop := fun xs H Q => ∃ (a : Addr) (ps : List Addr) (kvs : List (Key × V)), xs = [.ref a] ∧ SqL K H a (ps.map V.ref) ∧ Paired (fun p kv => SqT K H p [kV kv.1, kv.2]) ps kvs ∧ ∀ p, H p = none → Q (.ref p) (upd H p (.dK (mergeK [] kvs)))
theorem g_dictP (hc : X.calm = true) (e : X.K = K := by rfl) : CallR X (.type "dict") (rDictP K) := by
  subst e
  exact call_dictP hc
def rTupQ : List V → Hp → VK → Prop := fun xs H Q => ∃ p ys, xs = [.ref p] ∧ ((SqL K H p ys ∧ ∀ l, H l = none → Q (.ref l) (upd H l (.tup ys))) ∨ (SqT K H p ys ∧ Q (.ref p) H))
theorem g_tuple_of (e : X.K = K := by rfl) : CallR X (.type "tuple") (rTupQ K) := by
  subst e
  exact call_tuple_of
theorem g_isi (e : X.K = K := by rfl) : CallR X (.builtin "isinstance") (rIsi K) := by
  subst e
  exact call_isi
theorem g_isiT (e : X.K = K := by rfl) : CallR X (.builtin "isinstance") (rIsiT K) := by
  subst e
  exact call_isiT
theorem g_all (hc : X.calm = true) (e : X.K = K := by rfl) : CallR X (.builtin "all") (rAll K) := by
  subst e
  exact cr_all hc
theorem g_any (hc : X.calm = true) (e : X.K = K := by rfl) : CallR X (.builtin "any") (rAny K) := by
  subst e
  exact cr_any hc
theorem g_sum (hc : X.calm = true) (e : X.K = K := by rfl) : CallR X (.builtin "sum") (rSum K) := by
  subst e
  exact cr_sum hc
theorem g_max (hc : X.calm = true) (e : X.K = K := by rfl) : CallR X (.builtin "max") (rMax K) := by
  subst e
  exact cr_max hc
theorem g_min (hc : X.calm = true) (e : X.K = K := by rfl) : CallR X (.builtin "min") (rMin K) := by
  subst e
  exact cr_min hc
theorem g_sortedS (e : X.K = K := by rfl) : CallR X (.builtin "sorted") (rSortedS K) := by
  subst e
  exact cr_sortedS
theorem g_in_seq (e : X.K = K := by rfl) : OpR X (compareOp .In) (rIn K false) := by
  subst e
  exact op_in_seq
theorem g_notIn_seq (e : X.K = K := by rfl) : OpR X (compareOp .NotIn) (rIn K true) := by
  subst e
  exact op_notIn_seq
theorem g_eqD (hu : X.A.units + 64 < cLine) (e : X.K = K := by rfl) : OpR X (compareOp .Eq) (rEqD K) := by
  subst e
  exact op_eqD hu
theorem g_neD (hu : X.A.units + 64 < cLine) (e : X.K = K := by rfl) : OpR X (compareOp .NotEq) (rNeD K) := by
  subst e
  exact op_neD hu
theorem g_sl_list (e : X.K = K := by rfl) : SlR X (rSlL K) := by
  subst e
  exact sl_list
theorem g_sl_tup (e : X.K = K := by rfl) : SlR X (rSlA K) := by
  subst e
  exact sl_tupA
theorem g_repr (hg : X.A.guards = some []) (hu : X.A.units + 64 < cLine) (e : X.K = K := by rfl) : CallR X (.builtin "repr") (rRepr K) := by
  subst e
  exact call_repr hg hu
theorem g_fld {x : Expr} {f : Str} {pos : Pos} {ta : TE} (he : PE X x ta) (hb : attributeBase x f X.env (eval x X.env) = eval x X.env := by rfl) (e : X.K = K := by rfl) : PE X (.Attribute x f pos) (tFld K ta f) := by
  subst e
  exact pe_fld he hb
theorem g_list {tg l : Expr} {tl : TE} (hl : PE X l tl) (e : X.K = K := by rfl) : PI X tg l (iList K tl) := by
  subst e
  exact pi_list hl
theorem g_tuple {tg l : Expr} {tl : TE} (hl : PE X l tl) (e : X.K = K := by rfl) : PI X tg l (iTup K tl) := by
  subst e
  exact pi_tup hl
theorem g_tup {es : List Expr} {k : Nat} {t : TGs} {n : Nat} {pos : Pos} (hc : X.calm = true) (h : PGs X es t) (hn : (assignEach es X.env).length = n := by rfl) (hst : (assignEach es X.env).findIdx? (·.1) = none := by rfl) (e : X.K = K := by rfl) :
    PG X (.Tuple es k pos) (gTup K n t) := by
  subst e
  exact pg_tup hc h hn hst
/-- sep.join(a list or a tuple of texts) -/
def rJoin : V → List V → Hp → VK → Prop := fun x xs H Q => ∃ a p, ∃ ys : List Str, x = .str a ∧ xs = [.ref p] ∧ (SqL K H p (ys.map V.str) ∨ SqT K H p (ys.map V.str)) ∧ (ys.map (·.length)).sum + ys.length * a.length ≤ 16777216 ∧ Q (.str (Txt.join a ys)) H
theorem g_join {o x : Expr} {to te : TE} {apos pos : Pos} (ho : PE X o to) (he : PE X x te) (hs : starEach [x] X.env = [(false, eval x X.env)] := by rfl) (hbase : attributeBase o "join" X.env (eval o X.env) = eval o X.env := by rfl) (hline : (apos.endLine == pos.line) = true := by rfl) (e : X.K = K := by rfl) :
    PE X (.Call (.Attribute o "join" apos) [x] [] pos) (tM1 (rJoin K) to te) := by
  subst e
  exact pe_join ho he hs hbase hline
theorem g_bm0 {T name id : String} {o : Expr} {to : TE} {r : V → List V → Hp → VK → Prop} {apos cpos : Pos} (pa : PlainAttrs T) (slot : Slot T name id) (hty : typeOf (.builtin id) = pure (.type "method_descriptor")) (hm : MtR X id r) (ho : PE X o to)
    (hb : attributeBase o name X.env (eval o X.env) = eval o X.env := by rfl) (hl : (apos.endLine == cpos.line) = true := by rfl) (e : X.K = K := by rfl) : PE X (.Call (.Attribute o name apos) [] [] cpos) (tBM0 K T r to) := by
  subst e
  exact pe_bm0 pa slot hty hm ho hb hl
theorem g_bm {T name id : String} {o x : Expr} {xs : List Expr} {to : TE} {t : TA} {r : V → List V → Hp → VK → Prop} {apos cpos : Pos} (pa : PlainAttrs T) (slot : Slot T name id) (hty : typeOf (.builtin id) = pure (.type "method_descriptor")) (hm : MtR X id r) (ho : PE X o to) (ha : PA X (x :: xs) t)
    (hb : attributeBase o name X.env (eval o X.env) = eval o X.env := by rfl) (hf : ((backTo cpos (starEach (x :: xs) X.env)).all (fun y => !y.1) && (backToKw cpos (keywordEach [] X.env)).all (fun y => y.1.isSome) &&
      decide ((x :: xs).length + ([] : List Keyword).length + (if ([] : List Keyword).isEmpty then 0 else 1) < 30)) = true := by rfl)
    (hl : (apos.endLine == cpos.line) = true := by rfl) (hs : starEach (x :: xs) X.env = (false, eval x X.env) :: starEach xs X.env := by rfl) (hp : (backTo cpos (starEach xs X.env)).any (·.1) = false := by rfl) (e : X.K = K := by rfl) :
    PE X (.Call (.Attribute o name apos) (x :: xs) [] cpos) (tBM K T r to t) := by
  subst e
  exact pe_bm pa slot hty hm ho ha hb hf hl hs hp
end
end G
namespace G
open PySem PySem.Spec PyProof.Rows L2
theorem itT {c : Bool} {A B : Prop} (hc : c = true) (h : A) : if c = true then A else B := by
  rw [if_pos hc]
  exact h
theorem itF {c : Bool} {A B : Prop} (hc : c = false) (h : B) : if c = true then A else B := by
  rw [hc, if_neg Bool.false_ne_true]
  exact h
/-- an if on a Bool that is not known -/
theorem itB {c : Bool} {A B : Prop} (h1 : c = true → A) (h2 : c = false → B) : if c = true then A else B := by
  cases c
  · exact itF rfl (h2 rfl)
  · exact itT rfl (h1 rfl)
/-! ### kinds of values -/
def isStr : V → Bool | .str _ => true | _ => false
def isBl : V → Bool | .bl _ => true | _ => false
def isIntB : V → Bool | .int _ => true | .bl _ => true | _ => false
def Tyd (K : PySem.W.Frag) (H : Hp) (x : V) : Prop := ∃ t, TyX K H x t ∧ PySem.W.kitOne K t (.type "str") = some (isStr x) ∧ PySem.W.kitOne K t (.type "int") = some (isIntB x) ∧ PySem.W.kitOne K t (.type "bool") = some (isBl x)
section
variable {K : PySem.W.Frag} {H : Hp} {x : V}
theorem tyd_of {T : String} {a b c : Bool} (h : TyX K H x (.type T)) (ha : kitB T "str" = some a) (hb : kitB T "int" = some b) (hc : kitB T "bool" = some c) (ea : isStr x = a) (eb : isIntB x = b) (ec : isBl x = c) : Tyd K H x :=
  ⟨_, h, by rw [ea]; exact kit_ty ha, by rw [eb]; exact kit_ty hb, by rw [ec]; exact kit_ty hc⟩
theorem tyd_non  : Tyd K H .non := tyd_of (a := false) (b := false) (c := false) (.base .non) (by decide +kernel) (by decide +kernel) (by decide +kernel) rfl rfl rfl
theorem tyd_bl (b : Bool) : Tyd K H (.bl b) := tyd_of (a := false) (b := true) (c := true) (.base (.bl b)) (by decide +kernel) (by decide +kernel) (by decide +kernel) rfl rfl rfl
theorem tyd_int (i : Int) : Tyd K H (.int i) := tyd_of (a := false) (b := true) (c := false) (.base (.int i)) (by decide +kernel) (by decide +kernel) (by decide +kernel) rfl rfl rfl
theorem tyd_str (z : Str) : Tyd K H (.str z) := tyd_of (a := true) (b := false) (c := false) (.base (.str z)) (by decide +kernel) (by decide +kernel) (by decide +kernel) rfl rfl rfl
theorem tyd_lst {a : Addr} {xs : List V} (h : H a = some (.lst xs)) : Tyd K H (.ref a) := tyd_of (a := false) (b := false) (c := false) (.base (.lst h)) (by decide +kernel) (by decide +kernel) (by decide +kernel) rfl rfl rfl
theorem tyd_tup {a : Addr} {xs : List V} (h : H a = some (.tup xs)) : Tyd K H (.ref a) := tyd_of (a := false) (b := false) (c := false) (.base (.tup h)) (by decide +kernel) (by decide +kernel) (by decide +kernel) rfl rfl rfl
theorem tyd_dK {a : Addr} {kvs : List (Key × V)} (h : H a = some (.dK kvs)) : Tyd K H (.ref a) := tyd_of (a := false) (b := false) (c := false) (.base (.dK h)) (by decide +kernel) (by decide +kernel) (by decide +kernel) rfl rfl rfl
end
/-! ### texts as lists of codes -/
abbrev cs (z : Str) : List Nat := z.cps.toList
theorem cs_len (z : Str) : (cs z).length = z.length := by
  show z.cps.toList.length = z.cps.size
  simp
theorem str_ext {x y : Str} (h : cs x = cs y) : x = y := by
  obtain ⟨a⟩ := x
  obtain ⟨b⟩ := y
  have : a = b := Array.toList_inj.mp h
  rw [this]
theorem cs_app (x y : Str) : cs (x ++ y) = cs x ++ cs y := by
  show (x.cps ++ y.cps).toList = _
  simp
def lett (c : Nat) : Bool := decide (97 ≤ c) && decide (c ≤ 122)
def isWord : V → Bool | .str z => !(cs z).isEmpty && (cs z).all lett | _ => false
def isSign : V → Bool | .str z => decide ((cs z).length = 1) && (cs z).all lett | _ => false
def isText : V → Bool | .str z => decide ((cs z).length ≤ 8000) && (cs z).all lett | _ => false
def isPiece : V → Bool | .str z => decide (1 ≤ (cs z).length) && decide ((cs z).length ≤ 5) && (cs z).all lett | _ => false
def isInteger : V → Bool | .int i => decide (i.natAbs < 10 ^ 60) | _ => false
theorem lt_one {a b : Nat} : decide (([a] : List Nat) < [b]) = decide (a < b) := by
  by_cases h : a < b
  · rw [decide_eq_true h, decide_eq_true (List.cons_lt_cons_iff.mpr (Or.inl h))]
  · rw [decide_eq_false h, decide_eq_false (fun z => ?_)]
    rcases List.cons_lt_cons_iff.mp z with z | ⟨_, z⟩
    · exact h z
    · cases z
theorem lett_eq (c : Nat) : (!decide (([c] : List Nat) < [97])) = decide (97 ≤ c) ∧ (!decide (([122] : List Nat) < [c])) = decide (c ≤ 122) := by
  rw [lt_one, lt_one]
  constructor
  · by_cases h : c < 97
    · rw [decide_eq_true h, decide_eq_false (by omega)]
      rfl
    · rw [decide_eq_false h, decide_eq_true (by omega)]
      rfl
  · by_cases h : 122 < c
    · rw [decide_eq_true h, decide_eq_false (by omega)]
      rfl
    · rw [decide_eq_false h, decide_eq_true (by omega)]
      rfl
theorem abs_lt (i : Int) : decide ((if i < 0 then -i else i) < (10 : Int) ^ (60 : Int).toNat) = isInteger (.int i) := by
  show _ = decide (i.natAbs < 10 ^ 60)
  have e : (10 : Int) ^ (60 : Int).toNat = ((10 ^ 60 : Nat) : Int) := by decide +kernel
  rw [e]
  generalize (10 ^ 60 : Nat) = m
  by_cases h : i.natAbs < m
  · rw [decide_eq_true h, decide_eq_true]
    split <;> omega
  · rw [decide_eq_false h, decide_eq_false]
    split <;> omega
def szV : V → Prop | .str z => z.length ≤ 100000 | _ => True
theorem fits_sz {n : Nat} (h : n ≤ 100000) : n ≤ sizeLine := Nat.le_trans h (by decide)
theorem same_new {H : Hp} {p : Addr} {o : HO} (h : H p = none) : Same H (upd H p o) := fun b u e => by
  rw [upd_ne (ne_of_none e h)]
  exact e
/-- is_integer, is_word and the like: any value, told by a function on values -/
def spIs (K : PySem.W.Frag) (p : V → Bool) : Sp := fun vs H Q _ => ∃ x, vs = [x] ∧ Tyd K H x ∧ szV x ∧ ∀ H', Same H H' → Q (.bl (p x)) H'
theorem v_str_ne {z : Str} : (!decide (V.str z = V.str "")) = !(cs z).isEmpty := by
  by_cases h : cs z = []
  · have e : z = "" := str_ext (by rw [h]; rfl)
    rw [e]
    rfl
  · have e : V.str z ≠ V.str "" := fun q => h (by rw [V.str.inj q]; rfl)
    rw [decide_eq_false e]
    cases hz : cs z with
    | nil => exact absurd hz h
    | cons a l => rfl
theorem v_str_eq {z : Str} : decide (V.str z = V.str "") = (cs z).isEmpty := by
  have := v_str_ne (z := z)
  cases h1 : decide (V.str z = V.str "") <;> cases h2 : (cs z).isEmpty <;> rw [h1, h2] at this <;> first | rfl | cases this
theorem lett_of {c : Nat} (h : decide (97 ≤ c) = true) : lett c = decide (c ≤ 122) := by
  unfold lett
  rw [h]
  rfl
theorem lett_no {c : Nat} (h : decide (97 ≤ c) = false) : lett c = false := by
  unfold lett
  rw [h]
  rfl
theorem one_sign {z : Str} (h : (cs z).length = 1) : ∃ c, z = ⟨#[c]⟩ := by
  match hz : cs z, h with
  | [c], _ => exact ⟨c, str_ext (by rw [hz])⟩
theorem v_len_eq {z : Str} {n : Nat} : decide (V.int (z.length : Int) = V.int (n : Int)) = decide ((cs z).length = n) := by
  rw [cs_len]
  by_cases h : z.length = n
  · rw [decide_eq_true h, decide_eq_true (by rw [h])]
  · rw [decide_eq_false h, decide_eq_false (fun q => h (by have := V.int.inj q; omega))]
theorem v_len_eq1 {z : Str} : decide (V.int (z.length : Int) = V.int 1) = decide ((cs z).length = 1) := v_len_eq (n := 1)
theorem sign_one (c : Nat) : isSign (.str ⟨#[c]⟩) = lett c := by
  show (decide (([c] : List Nat).length = 1) && ([c] : List Nat).all lett) = lett c
  simp
/-! ### a comprehension whose element changes nothing -/
theorem wipe_set {σ : L2.St} {j : Nat} {v : V} : wipe ((wipe σ [j]).set j (some v)) [j] = wipe σ [j] := by
  show ((σ.set j none).set j (some v)).set j none = σ.set j none
  rw [List.set_set, List.set_set]
theorem lcp_str {z : Str} {te : TE} {j : Nat} {σ : L2.St} {H1 : Hp} {D : Addr} {Qd : Hp → Prop} (f : Nat → V) (hz : z.length ≤ sizeLine)
    (hs : ∀ (c : Nat) (acc : List V) (N : VK), c ∈ cs z → N (f c) (upd H1 D (.lst acc)) → te ((wipe σ [j]).set j (some (.str ⟨#[c]⟩))) (upd H1 D (.lst acc)) N) (hd : Qd (upd H1 D (.lst ((cs z).map f)))) :
    ∃ W : Nat → Nat → Hp → Prop, (∃ m, W 0 m (upd H1 D (.lst []))) ∧ ∀ i m H, W i m H →
      ((Its z).stop i H ∧ Qd H) ∨ ((Its z).go i H ∧ ∃ Nx : Hp → Prop, (∀ H', Nx H' → ∃ m', m' < m ∧ W (i + 1) m' H') ∧ ∀ x H', (Its z).yld i H x H' → gName j x (wipe σ [j]) H' fun σ2 H2 => wipe σ2 [j] = wipe σ [j] ∧ tYes σ2 H2 fun b H3 =>
        if b = true then te σ2 H3 fun y H4 => ∃ acc, H4 D = some (.lst acc) ∧ acc.length < sizeLine ∧ Nx (upd H4 D (.lst (acc ++ [y]))) else Nx H3) := by
  have hl := cs_len z
  refine ⟨fun i m H => m = (cs z).length - i ∧ i ≤ (cs z).length ∧ H = upd H1 D (.lst (((cs z).take i).map f)), ⟨_, rfl, Nat.zero_le _, rfl⟩, ?_⟩
  rintro i m H ⟨rfl, hi, rfl⟩
  by_cases hlt : i < (cs z).length
  · have hlt' : i < z.cps.size := by rw [hl] at hlt; exact hlt
    refine .inr ⟨hlt', fun H' => H' = upd H1 D (.lst (((cs z).take (i + 1)).map f)), fun H' e => ⟨(cs z).length - (i + 1), by omega, rfl, hlt, e⟩, ?_⟩
    rintro x H' ⟨rfl, c, hc, rfl⟩
    have hc' : (cs z)[i]? = some c := by simpa [cs] using hc
    refine ⟨wipe_set, hs c _ _ (List.mem_of_getElem? hc') ⟨_, upd_same, ?_, ?_⟩⟩
    · rw [List.length_map, List.length_take]
      omega
    · rw [upd_upd]
      have : (cs z).take (i + 1) = (cs z).take i ++ [c] := by
        rw [List.take_add_one, hc']
        rfl
      rw [this, List.map_append]
      rfl
  · have e : i = (cs z).length := by omega
    refine .inl ⟨by show z.cps.size ≤ i; rw [e, hl]; exact Nat.le_refl _, ?_⟩
    rw [e, List.take_length]
    exact hd

/-! ### the dice of the laws: a list of three ints -/
def Big (i : Int) : Prop := 0 ≤ i ∧ i.natAbs < 2 ^ 2500
/-- dice at l, good for n further rolls -/
def Dice (H : Hp) (l : Addr) (n : Nat) : Prop := ∃ d0 d1 d2 : Int, H l = some (.lst [.int d0, .int d1, .int d2]) ∧ Big d0 ∧ Big d1 ∧ 0 ≤ d2 ∧ d2 + n ≤ 2 ^ 62
/-- all but l is as it was -/
def Kp (l : Addr) (H H' : Hp) : Prop := ∀ b o, H b = some o → b ≠ l → H' b = some o
theorem Kp.refl (l : Addr) (H : Hp) : Kp l H H := fun _ _ e _ => e
theorem Kp.trans {l : Addr} {H H1 H2 : Hp} (a : Kp l H H1) (b : Kp l H1 H2) : Kp l H H2 := fun c o e n => b c o (a c o e n) n
theorem Kp.of {l : Addr} {H H' : Hp} (a : Same H H') : Kp l H H' := fun c o e _ => a c o e
theorem Kp.upd {l : Addr} {H : Hp} {o : HO} : Kp l H (upd H l o) := fun b u e n => by
  rw [upd_ne n]
  exact e
theorem Kp.new {l p : Addr} {H H' : Hp} {o : HO} (a : Kp l H H') (h : H' p = none) : Kp l H (L2.upd H' p o) := a.trans (.of (same_new h))
/-- what was not there ahead may change -/
theorem Kp.mut {l p : Addr} {H H' : Hp} {o : HO} (a : Kp l H H') (h : H p = none) : Kp l H (L2.upd H' p o) := fun b u e n => by
  rw [upd_ne (ne_of_none e h)]
  exact a b u e n
theorem Kp.seq {K : PySem.W.Frag} {l a : Addr} {H H' : Hp} {xs : List V} (k : Kp l H H') (n : a ≠ l) (h : SqL K H a xs) : SqL K H' a xs := by
  rcases h with (h | ⟨o, h⟩) | h
  · exact Or.inl (Or.inl (k _ _ h n))
  · exact Or.inl (Or.inr ⟨o, k _ _ h n⟩)
  · exact Or.inr h
theorem Kp.tup {K : PySem.W.Frag} {l a : Addr} {H H' : Hp} {xs : List V} (k : Kp l H H') (n : a ≠ l) (h : SqT K H a xs) : SqT K H' a xs := by
  rcases h with (h | ⟨o, h⟩) | h
  · exact Or.inl (Or.inl (k _ _ h n))
  · exact Or.inl (Or.inr ⟨o, k _ _ h n⟩)
  · exact Or.inr h
theorem Dice.ne {H : Hp} {l p : Addr} {n : Nat} (d : Dice H l n) (h : H p = none) : p ≠ l := by
  obtain ⟨_, _, _, e, _⟩ := d
  exact (ne_of_none e h).symm
theorem Dice.le {H : Hp} {l : Addr} {n m : Nat} (d : Dice H l n) (h : m ≤ n) : Dice H l m := by
  obtain ⟨d0, d1, d2, e, h0, h1, h2, h3⟩ := d
  exact ⟨d0, d1, d2, e, h0, h1, h2, by omega⟩
theorem Dice.same {H H' : Hp} {l : Addr} {n : Nat} (d : Dice H l n) (s : Same H H') : Dice H' l n := by
  obtain ⟨d0, d1, d2, e, r⟩ := d
  exact ⟨d0, d1, d2, s _ _ e, r⟩
theorem Dice.upd {H : Hp} {l p : Addr} {o : HO} {n : Nat} (d : Dice H l n) (h : p ≠ l) : Dice (L2.upd H p o) l n := by
  obtain ⟨d0, d1, d2, e, r⟩ := d
  exact ⟨d0, d1, d2, by rw [upd_ne h.symm]; exact e, r⟩
theorem big_mod {x : Int} {m : Int} (h : 0 < m) (hm : m.natAbs ≤ 2 ^ 2420) : 0 ≤ x % m ∧ (x % m).natAbs < 2 ^ 2420 := by
  have h1 := Int.emod_nonneg x (by omega : m ≠ 0)
  have h2 := Int.emod_lt_of_pos x h
  refine ⟨h1, ?_⟩
  generalize (2 ^ 2420 : Nat) = M at hm
  omega
theorem pow_mono2 : (2 : Nat) ^ 2420 * 4 + 2 ^ 2420 ≤ 2 ^ 2500 := by decide +kernel
theorem big_of {x : Int} (h0 : 0 ≤ x) (h : x.natAbs < 2 ^ 2420) : Big x := ⟨h0, by
  have := pow_mono2
  generalize (2 ^ 2420 : Nat) = M at *
  generalize (2 ^ 2500 : Nat) = N at *
  omega⟩
theorem big_zero : Big 0 := ⟨Int.le_refl _, by decide +kernel⟩
theorem one_small : (131071 * 64 + 5 : Nat) ≤ 2 ^ 2420 := by decide +kernel
theorem big_seed {x b s : Int} (h0 : 0 ≤ x) (h : x.natAbs < 2 ^ 2420) (hb : 0 ≤ b ∧ b ≤ 1) (hs : 0 ≤ s ∧ s ≤ 64) : Big (2 * x + b + 131071 * s + 3) := by
  have h1 := pow_mono2
  have h2 := one_small
  refine ⟨by omega, ?_⟩
  generalize (2 ^ 2420 : Nat) = M at *
  generalize (2 ^ 2500 : Nat) = N at *
  omega
theorem big_div {x u : Int} (h : Big x) (hu : 1 ≤ u) : Big (x / u) := by
  obtain ⟨h0, h1⟩ := h
  have a := Int.ediv_nonneg h0 (by omega : (0 : Int) ≤ u)
  have b : x / u ≤ x := Int.ediv_le_self u h0
  refine ⟨a, ?_⟩
  generalize (2 ^ 2500 : Nat) = N at *
  omega
/-- an expression with two ways, joined: an int under p on both -/
theorem tif_int {t : TT} {ta tb : TE} {σ : L2.St} {H : Hp} {Q : VK} {c : Bool} (p : Int → Prop) (ht : ∀ N : Bool → Hp → Prop, N c H → t σ H N)
    (ha : c = true → ∀ N : VK, (∀ i, p i → N (.int i) H) → ta σ H N) (hb : c = false → ∀ N : VK, (∀ i, p i → N (.int i) H) → tb σ H N) (hq : ∀ i, p i → Q (.int i) H) : tIf t ta tb σ H Q := by
  refine ht _ ?_
  exact itB (fun e => ha e _ hq) (fun e => hb e _ hq)
/-- _law_dice -/
def spDice (K : PySem.W.Frag) : Sp := fun vs H Q _ => ∃ (a : Addr) (ns : List Int) (s : Int), vs = [.ref a, .int s] ∧ SqL K H a (ns.map V.int) ∧ ns.length ≤ 63 ∧ 0 ≤ s ∧ s ≤ 64 ∧ ∀ l H', H l = none → Same H H' → Dice H' l (2 ^ 60) → Q (.ref l) H'
/-- _law_roll -/
def spRoll : Sp := fun vs H Q _ => ∃ (l : Addr) (u : Int) (n : Nat), vs = [.ref l, .int u] ∧ 1 ≤ u ∧ u ≤ 2 ^ 40 ∧ Dice H l (n + 1) ∧ ∀ r H', 0 ≤ r → r < u → Kp l H H' → Dice H' l n → Q (.int r) H'
/-- what the laws pick from: a list, a tuple, a text -/
inductive Seq (K : PySem.W.Frag) (H : Hp) (l : Addr) : V → List V → Prop
  | lst {a : Addr} {ys : List V} (n : a ≠ l) (h : SqL K H a ys) : Seq K H l (.ref a) ys
  | tup {a : Addr} {ys : List V} (n : a ≠ l) (h : SqT K H a ys) : Seq K H l (.ref a) ys
  | str {z : Str} {ys : List V} (h : z.length ≤ 1000) (e : ys = signsV z) : Seq K H l (.str z) ys
theorem Seq.kp {K : PySem.W.Frag} {H H' : Hp} {l : Addr} {x : V} {ys : List V} (s : Seq K H l x ys) (k : Kp l H H') : Seq K H' l x ys := by
  cases s with
  | lst n h => exact .lst n (k.seq n h)
  | tup n h => exact .tup n (k.tup n h)
  | str h e => exact .str h e
/-- _law_pick -/
def spPick (K : PySem.W.Frag) : Sp := fun vs H Q _ => ∃ (l : Addr) (x : V) (ys : List V) (n : Nat), vs = [.ref l, x] ∧ Seq K H l x ys ∧ ys ≠ [] ∧ ys.length ≤ 1000 ∧ Dice H l (n + 1) ∧ ∀ y H', y ∈ ys → Kp l H H' → Dice H' l n → Q y H'
theorem signsV_len (z : Str) : (signsV z).length = z.length := by
  unfold signsV
  rw [List.length_map, cs_len]

abbrev ch (c : Nat) : Str := ⟨#[c]⟩
abbrev chV (c : Nat) : V := .str (ch c)
def sOf (l : List Nat) : Str := ⟨l.toArray⟩
theorem cs_sOf (l : List Nat) : cs (sOf l) = l := by simp [sOf]
theorem sOf_cs (z : Str) : sOf (cs z) = z := str_ext (cs_sOf _)
theorem sOf_len (l : List Nat) : (sOf l).length = l.length := by rw [← cs_len, cs_sOf]
theorem signsV_eq (z : Str) : signsV z = (cs z).map chV := rfl
theorem joinL_one : ∀ l : List Nat, TL.joinL [] (l.map fun c => [c]) = l
  | [] => rfl
  | [a] => rfl
  | a :: b :: r => by
    show [a] ++ ([] ++ TL.joinL [] ((b :: r).map fun c => [c])) = a :: b :: r
    rw [joinL_one (b :: r)]
    rfl
theorem join_ch (l : List Nat) : Txt.join "" (l.map ch) = sOf l := by
  refine str_ext ?_
  rw [cs_sOf, TL.join_eq]
  have h := TL.tl_join "" (l.map ch)
  rw [List.map_map] at h
  exact h.trans (joinL_one l)
theorem sum_ch (l : List Nat) : ((l.map ch).map (·.length)).sum = l.length := by
  induction l with
  | nil => rfl
  | cons a r ih =>
    rw [List.map_cons, List.map_cons, List.sum_cons, ih]
    show 1 + r.length = r.length + 1
    omega
/-- _law_letters -/
def spLetters (K : PySem.W.Frag) : Sp := fun vs H Q _ => ∃ (l : Addr) (x : V) (cl : List Nat) (m n : Nat), vs = [.ref l, x, .int (m : Int)] ∧ Seq K H l x (cl.map chV) ∧ cl ≠ [] ∧ cl.length ≤ 1000 ∧ m ≤ 10000 ∧ Dice H l (n + m) ∧
  ∀ (zs : List Nat) H', zs.length = m → (∀ c ∈ zs, c ∈ cl) → Kp l H H' → Dice H' l n → Q (.str (sOf zs)) H'

/-! ### what repr shows -/
structure Shw (d : PyData) (k n : Nat) : Prop where
  s : d.showable = true
  h : d.hasDict = false
  dp : d.depth ≤ k
  len : d.shown.length ≤ n
theorem shw_bool (b : Bool) : Shw (.bool b) 0 5 := ⟨by simp [PyData.showable], by simp [PyData.hasDict], by simp [PyData.depth], by cases b <;> simp only [PyData.shown] <;> decide +kernel⟩
theorem shw_none : Shw .none 0 4 := ⟨by simp [PyData.showable], by simp [PyData.hasDict], by simp [PyData.depth], by simp only [PyData.shown]; decide +kernel⟩
theorem shw_int {i : Int} (h : i.natAbs.log2 < 1920) : Shw (.int i) 0 1921 := ⟨by simpa [PyData.showable] using h, by simp [PyData.hasDict], by simp [PyData.depth], by simp only [PyData.shown]; exact int_text_len_1921 h⟩
theorem Shw.le {d : PyData} {k n k' n' : Nat} (a : Shw d k n) (hk : k ≤ k') (hn : n ≤ n') : Shw d k' n' := ⟨a.s, a.h, Nat.le_trans a.dp hk, Nat.le_trans a.len hn⟩
theorem shownAll_map : ∀ ds : List PyData, PyData.shownAll ds = ds.map PyData.shown
  | [] => by simp [PyData.shownAll]
  | d :: r => by simp [PyData.shownAll, shownAll_map r]
theorem textFrom_le : ∀ (ts : List Str) (k : Nat) (acc : Str) (n : Nat), (∀ t ∈ ts, t.length ≤ n) → (textFrom k acc ts).length ≤ acc.length + ts.length * (n + 2)
  | [], k, acc, n, _ => by
    show acc.length ≤ acc.length + 0 * (n + 2)
    omega
  | t :: r, k, acc, n, h => by
    have h1 := textFrom_le r (k + 1) (acc ++ (if k > 0 then ", " else "" : String) ++ t) n fun x hx => h x (List.mem_cons_of_mem _ hx)
    have h2 := h t List.mem_cons_self
    rw [strLen_append, strLen_append] at h1
    have h3 : ((if k > 0 then ", " else "" : String) : Str).length ≤ 2 := by split <;> decide +kernel
    show (textFrom (k + 1) _ r).length ≤ acc.length + (r.length + 1) * (n + 2)
    rw [Nat.add_mul]
    omega
theorem shwAll {ds : List PyData} {k n : Nat} (h : ∀ d ∈ ds, Shw d k n) : PyData.showableAll ds = true ∧ PyData.hasDictAll ds = false ∧ PyData.depthAll ds ≤ k ∧ ∀ t ∈ PyData.shownAll ds, t.length ≤ n := by
  induction ds with
  | nil => exact ⟨by simp [PyData.showableAll], by simp [PyData.hasDictAll], by simp [PyData.depthAll], by simp [PyData.shownAll]⟩
  | cons d r ih =>
    obtain ⟨a1, a2, a3, a4⟩ := h d List.mem_cons_self
    obtain ⟨b1, b2, b3, b4⟩ := ih fun x hx => h x (List.mem_cons_of_mem _ hx)
    refine ⟨by simp [PyData.showableAll, a1, b1], by simp [PyData.hasDictAll, a2, b2], ?_, ?_⟩
    · simp only [PyData.depthAll]
      omega
    · intro t ht
      simp only [PyData.shownAll] at ht
      rcases List.mem_cons.mp ht with rfl | ht
      · exact a4
      · exact b4 t ht
theorem shw_list {ds : List PyData} {k n : Nat} (h : ∀ d ∈ ds, Shw d k n) : Shw (.list ds) (k + 1) (ds.length * (n + 2) + 2) := by
  obtain ⟨b1, b2, b3, b4⟩ := shwAll h
  refine ⟨by simpa [PyData.showable] using b1, by simpa [PyData.hasDict] using b2, by simp only [PyData.depth]; omega, ?_⟩
  simp only [PyData.shown]
  unfold listText
  rw [strLen_append]
  have h1 := textFrom_le _ 0 "[" n b4
  rw [shownAll_map, List.length_map] at h1
  rw [shownAll_map]
  have h2 : ((("[" : String) : Str)).length = 1 := by decide +kernel
  have h3 : ((("]" : String) : Str)).length = 1 := by decide +kernel
  omega
/-- a list of truths as data -/
def dBools (bs : List Bool) : PyData := .list (bs.map PyData.bool)
theorem shw_bools (bs : List Bool) : Shw (dBools bs) 1 (bs.length * 7 + 2) := by
  have h := shw_list (ds := bs.map PyData.bool) (k := 0) (n := 5) fun d hd => by
    obtain ⟨b, _, rfl⟩ := List.mem_map.mp hd
    exact shw_bool b
  rw [List.length_map] at h
  exact h
theorem dpAll_bools {K : PySem.W.Frag} {H : Hp} : ∀ bs : List Bool, DpAll K H (bs.map V.bl) (bs.map PyData.bool)
  | [] => .nil
  | b :: r => .cons (.bl b) (dpAll_bools r)
theorem dp_bools {K : PySem.W.Frag} {H : Hp} {a : Addr} {bs : List Bool} (h : SqL K H a (bs.map V.bl)) : Dp K H (.ref a) (dBools bs) := .lst h (dpAll_bools bs)
/-- repr(a list of truths), as rRepr asks -/
theorem repr_bools {K : PySem.W.Frag} {H : Hp} {a : Addr} {bs : List Bool} {Q : VK} (h : H a = some (.lst (bs.map V.bl))) (hn : bs.length ≤ 1000) (q : Q (.str (dBools bs).shown) H) : rRepr K [.ref a] H Q := by
  obtain ⟨s, hd, dp, len⟩ := shw_bools bs
  exact ⟨_, dBools bs, rfl, dp_bools (SqL.of h), s, hd, by omega, Nat.le_trans len (fits_sz (by omega)), q⟩
theorem mem_all {p : V → Bool} {ys : List V} {y : V} (h : ys.all p = true) (hy : y ∈ ys) : p y = true := List.all_eq_true.mp h y hy
def vIn (lo hi : Int) : V → Bool | .int i => decide (lo ≤ i) && decide (i ≤ hi) | _ => false
theorem vIn_of {lo hi : Int} {y : V} (h : vIn lo hi y = true) : ∃ i, y = .int i ∧ lo ≤ i ∧ i ≤ hi := by
  cases y with
  | int i =>
    have h' : (decide (lo ≤ i) && decide (i ≤ hi)) = true := h
    rw [Bool.and_eq_true] at h'
    exact ⟨i, rfl, of_decide_eq_true h'.1, of_decide_eq_true h'.2⟩
  | _ => cases h
theorem pick_int {lo hi : Int} {ys : List V} {y : V} (h : ys.all (vIn lo hi) = true) (hy : y ∈ ys) : ∃ i, y = .int i ∧ lo ≤ i ∧ i ≤ hi := vIn_of (mem_all h hy)
/-- a promise of a part of a law: it is right, c rolls are made -/
def spRight (c : Nat) : Sp := fun vs H Q _ => ∃ (l : Addr) (n : Nat), vs = [.ref l] ∧ Dice H l (n + c) ∧ ∀ H', Kp l H H' → Dice H' l n → Q (.bl true) H'
/-- is_integer: of any value, no size asked -/
def spIsI (K : PySem.W.Frag) (p : V → Bool) : Sp := fun vs H Q _ => ∃ x, vs = [x] ∧ Tyd K H x ∧ ∀ H', Same H H' → Q (.bl (p x)) H'
theorem Dice.new {H : Hp} {l p : Addr} {o : HO} {n : Nat} (d : Dice H l n) (h : H p = none) : Dice (L2.upd H p o) l n := d.upd (d.ne h)
/-- what a drawn odd value is: of a known kind, as long as it stands, and no integer -/
def OddI (K : PySem.W.Frag) (l : Addr) (H : Hp) (y : V) : Prop := (∀ H', Kp l H H' → Tyd K H' y) ∧ isInteger y = false
theorem isI_near {near r : Int} (h0 : 0 ≤ near + r) (s : Int) (hs : s = 1 ∨ s = -1) : isInteger (.int ((near + r) * s)) = decide (near + r < (10 : Int) ^ (60 : Int).toNat) := by
  show decide (((near + r) * s).natAbs < 10 ^ 60) = _
  have e : (10 : Int) ^ (60 : Int).toNat = ((10 ^ 60 : Nat) : Int) := by decide +kernel
  have e2 : ((near + r) * s).natAbs = (near + r).natAbs := by
    rcases hs with rfl | rfl
    · rw [Int.mul_one]
    · rw [Int.mul_neg, Int.mul_one, Int.natAbs_neg]
  rw [e, e2]
  generalize (10 ^ 60 : Nat) = m
  by_cases h : near + r < (m : Int)
  · rw [decide_eq_true h, decide_eq_true (by omega)]
  · rw [decide_eq_false h, decide_eq_false (by omega)]
theorem log_of {i : Int} (h : i.natAbs < 2 ^ 300) : i.natAbs.log2 < 1920 := Nat.lt_of_lt_of_le (PySem.Flt.log2_lt_of (by decide) h) (by decide)
theorem reprB (bs : List Bool) (hn : bs.length ≤ 1000) : (dBools bs).showable = true ∧ (dBools bs).hasDict = false ∧ (dBools bs).depth ≤ 60 ∧ (dBools bs).shown.length ≤ sizeLine := by
  obtain ⟨s, hd, dp, len⟩ := shw_bools bs
  exact ⟨s, hd, by omega, Nat.le_trans len (fits_sz (by omega))⟩
/-! ### texts made of pieces of texts -/
theorem isText_of {z : Str} (h1 : (cs z).length ≤ 8000) (h2 : ∀ c ∈ cs z, lett c = true) : isText (.str z) = true := by
  show (decide ((cs z).length ≤ 8000) && (cs z).all lett) = true
  rw [decide_eq_true h1, List.all_eq_true.mpr h2]
  rfl
theorem isPiece_of {z : Str} (h2 : ∀ c ∈ cs z, lett c = true) : isPiece (.str z) = (decide (1 ≤ (cs z).length) && decide ((cs z).length ≤ 5)) := by
  show (decide (1 ≤ (cs z).length) && decide ((cs z).length ≤ 5) && (cs z).all lett) = _
  rw [List.all_eq_true.mpr h2, Bool.and_true]
theorem isSign_of {z : Str} (h2 : ∀ c ∈ cs z, lett c = true) : isSign (.str z) = decide ((cs z).length = 1) := by
  show (decide ((cs z).length = 1) && (cs z).all lett) = _
  rw [List.all_eq_true.mpr h2, Bool.and_true]
theorem spoilt {z : Str} {c : Nat} (hc : c ∈ cs z) (h : lett c = false) : isText (.str z) = false ∧ isPiece (.str z) = false ∧ isSign (.str z) = false ∧ isWord (.str z) = false := by
  have e : (cs z).all lett = false := by
    cases q : (cs z).all lett with
    | false => rfl
    | true =>
      rw [List.all_eq_true.mp q c hc] at h
      cases h
  refine ⟨?_, ?_, ?_, ?_⟩
  · show (_ && (cs z).all lett) = false
    rw [e, Bool.and_false]
  · show (_ && (cs z).all lett) = false
    rw [e, Bool.and_false]
  · show (_ && (cs z).all lett) = false
    rw [e, Bool.and_false]
  · show (_ && (cs z).all lett) = false
    rw [e, Bool.and_false]
theorem cs_cut (z : Str) (lo hi : Option Int) : cs (cutS z lo hi) = ((cs z).drop (HT.sIx z.length 0 lo)).take (HT.sIx z.length z.length hi - HT.sIx z.length 0 lo) := by
  unfold cutS
  simp
theorem cut_sub {z : Str} {lo hi : Option Int} {c : Nat} (h : c ∈ cs (cutS z lo hi)) : c ∈ cs z := by
  rw [cs_cut] at h
  exact List.mem_of_mem_drop (List.mem_of_mem_take h)
theorem sIx_pos {n d : Nat} {i : Int} (h : 0 ≤ i) : HT.sIx n d (some i) = min i.toNat n := by
  show (if i < 0 then _ else _) = _
  rw [if_neg (by omega)]
theorem cut_len {z : Str} {a b : Int} (ha : 0 ≤ a) (hab : a ≤ b) (hb : b ≤ z.length) : (cs (cutS z (some a) (some b))).length = (b - a).toNat := by
  rw [cs_cut, sIx_pos ha, sIx_pos (by omega), List.length_take, List.length_drop, cs_len]
  omega
theorem cut_lenFrom {z : Str} {a : Int} (ha : 0 ≤ a) (hb : a ≤ z.length) : (cs (cutS z (some a) none)).length = z.length - a.toNat := by
  rw [cs_cut, sIx_pos ha, List.length_take, List.length_drop, cs_len]
  show min (z.length - _) _ = _
  omega
theorem cut_lenTo {z : Str} {b : Int} (h0 : 0 ≤ b) (hb : b ≤ z.length) : (cs (cutS z none (some b))).length = b.toNat := by
  rw [cs_cut, sIx_pos h0, List.length_take, List.length_drop, cs_len]
  show min (min b.toNat z.length - 0) (z.length - 0) = _
  omega
theorem str_app_len (x y : Str) : (x ++ y).length = x.length + y.length := strLen_append x y
/-- two ways joined, whatever the test and the ways do -/
theorem tif_join {t : TT} {ta tb : TE} {σ : L2.St} {H : Hp} {Q : VK} (P : Hp → Prop) (R : V → Hp → Prop) (ht : ∀ N : Bool → Hp → Prop, (∀ c H1, P H1 → N c H1) → t σ H N)
    (ha : ∀ H1, P H1 → ∀ N : VK, (∀ v H2, R v H2 → N v H2) → ta σ H1 N) (hb : ∀ H1, P H1 → ∀ N : VK, (∀ v H2, R v H2 → N v H2) → tb σ H1 N) (hq : ∀ v H2, R v H2 → Q v H2) : tIf t ta tb σ H Q :=
  ht _ fun c H1 p => itB (fun _ => ha H1 p _ hq) (fun _ => hb H1 p _ hq)
/-- a <= b <= c of known ints, as a value -/
theorem chain_le {ta tb tc : TE} {σ : L2.St} {H : Hp} {Q : VK} {a b c : Int} (ha : ∀ N : VK, N (.int a) H → ta σ H N) (hb : ∀ N : VK, N (.int b) H → tb σ H N) (hc : ∀ N : VK, N (.int c) H → tc σ H N)
    (q : Q (.bl (decide (a ≤ b) && decide (b ≤ c))) H) : tChain (rI0 fun i j => .bl (decide (i ≤ j))) (rI0 fun i j => .bl (decide (i ≤ j))) ta tb tc σ H Q := by
  refine ha _ (hb _ ⟨a, b, rfl, rfl, _, rfl, ?_⟩)
  refine itB (fun e => ?_) (fun e => ?_)
  · refine hc _ ⟨b, c, rfl, rfl, ?_⟩
    rw [e] at q
    exact q
  · rw [e] at q
    exact q
theorem odd_of {z : Str} {o : Nat} (h : (cs z).all (fun c => !lett c) = true) (ho : o ∈ z.cps.toList) : lett o = false := by
  have := List.all_eq_true.mp h o ho
  simpa using this
theorem v_int_eq {a b : Int} : decide (V.int a = V.int b) = decide (a = b) := by
  by_cases h : a = b
  · rw [decide_eq_true h, decide_eq_true (by rw [h])]
  · rw [decide_eq_false h, decide_eq_false (fun q => h (V.int.inj q))]
theorem sz_of' {z : Str} (h : z.length ≤ 100000) : szV (.str z) := h
theorem sign_no {z : Str} (h : (cs z).length ≠ 1) : isSign (.str z) = false := by
  show (decide ((cs z).length = 1) && (cs z).all lett) = false
  rw [decide_eq_false h]
  rfl
theorem piece_no {z : Str} (h : 5 < (cs z).length) : isPiece (.str z) = false := by
  show (decide (1 ≤ (cs z).length) && decide ((cs z).length ≤ 5) && (cs z).all lett) = false
  rw [decide_eq_false (by omega : ¬ (cs z).length ≤ 5), Bool.and_false]
  rfl
theorem ne_self {z : Str} : V.bl (!decide (V.str z = V.str z)) = V.bl false := by
  rw [decide_eq_true rfl]
  rfl
theorem is_self {z : Str} : V.bl (decide (V.str z = V.str z)) = V.bl true := by rw [decide_eq_true rfl]
theorem foldl_cat : ∀ (n : Nat) (a acc : Array Nat), ((List.replicate n a).foldl (· ++ ·) acc).toList = acc.toList ++ (List.replicate n a.toList).flatten
  | 0, a, acc => by simp
  | n + 1, a, acc => by
    rw [List.replicate_succ, List.foldl_cons, foldl_cat n a (acc ++ a), List.replicate_succ, List.flatten_cons]
    simp
theorem cs_rep (z : Str) (n : Nat) : cs (sRep z n) = (List.replicate n (cs z)).flatten := by
  have h := foldl_cat n z.cps #[]
  rw [show (#[] : Array Nat).toList = [] from rfl, List.nil_append] at h
  exact h
theorem rep_mem {z : Str} {n c : Nat} (h : c ∈ cs (sRep z n)) : c ∈ cs z := by
  rw [cs_rep] at h
  obtain ⟨l, hl, hc⟩ := List.mem_flatten.mp h
  rw [List.eq_of_mem_replicate hl] at hc
  exact hc
theorem sum_rep : ∀ n k : Nat, (List.replicate n k).sum = n * k
  | 0, k => by simp
  | n + 1, k => by
    rw [List.replicate_succ, List.sum_cons, sum_rep n k, Nat.add_mul]
    omega
theorem rep_len (z : Str) (n : Nat) : (sRep z n).length = n * z.length := by
  rw [← cs_len, cs_rep, List.length_flatten, List.map_replicate, sum_rep, cs_len]
theorem Kp.sameOf {l : Addr} {H H1 H2 : Hp} (s : Same H H1) (k : Kp l H1 H2) (h : H l = none) : Same H H2 := fun b o e => k b o (s b o e) (ne_of_none e h)
def spLaw (K : PySem.W.Frag) : Sp := fun vs H Q _ => ∃ (a : Addr) (ns : List Int), vs = [.ref a] ∧ SqL K H a (ns.map V.int) ∧ ns.length ≤ 63 ∧ ∀ H', Q (.bl true) H'
/-- how many cells are looked at -/
theorem cells_bound {n : Nat} {m : Int} (hm : 1 ≤ m) : 1 ≤ (if (if (n : Int) < m then (n : Int) else m) > 1 then (if (n : Int) < m then (n : Int) else m) else 1) ∧ (if (if (n : Int) < m then (n : Int) else m) > 1 then (if (n : Int) < m then (n : Int) else m) else 1) ≤ m := by
  split <;> split <;> omega
theorem small1000' {n : Nat} (h : n ≤ 100000) : n < sizeLine := Nat.lt_of_le_of_lt h (by decide)
/-- _law_some: drawn items of a row, each at most once -/
def spSome (K : PySem.W.Frag) : Sp := fun vs H Q _ => ∃ (l : Addr) (x : V) (ys : List V) (m n : Nat), vs = [.ref l, x, .int (m : Int)] ∧ Seq K H l x ys ∧ ys.length ≤ 1000 ∧ m ≤ 1000 ∧ Dice H l (n + m) ∧
  ∀ p zs rest H', H p = none → (zs ++ rest).Perm ys → zs.length = min m ys.length → H' p = some (.lst zs) → Kp l H H' → Dice H' l n → Q (.ref p) H'
theorem ix_pos {n : Nat} {r : Int} (h0 : 0 ≤ r) (h1 : r < n) : seqIndex? r n = some r.toNat := (ixN_seq (n := n) (i := r) (j := r.toNat) (by unfold ixN; rw [if_pos h0, if_pos h1])).1
theorem erase_perm {α : Type} : ∀ {l : List α} {k : Nat} {y : α}, l[k]? = some y → (y :: l.eraseIdx k).Perm l
  | [], k, y, h => by simp at h
  | a :: r, 0, y, h => by
    have e : a = y := by simpa using h
    subst e
    exact List.Perm.refl _
  | a :: r, k + 1, y, h => by
    have ih := erase_perm (l := r) (k := k) (y := y) (by simpa using h)
    show (y :: a :: r.eraseIdx k).Perm (a :: r)
    exact (List.Perm.swap a y _).trans (ih.cons a)
theorem big_cut {x c : Int} (h0 : 0 ≤ x) (h : x.natAbs < 2 ^ 2420) (hc : 0 ≤ c) : Big (if x - c > 0 then x - c else 0) := by
  split
  · refine big_of (by omega) ?_
    generalize (2 ^ 2420 : Nat) = M at h ⊢
    omega
  · exact big_zero
theorem atI_neg {α : Type} {xs : List α} {j : Nat} (h : j < xs.length) : atI xs (-(j : Int) - 1) = xs[xs.length - 1 - j]? := by
  have e : ixN xs.length (-(j : Int) - 1) = some (xs.length - 1 - j) := by
    unfold ixN
    rw [if_neg (by omega), if_pos (by omega)]
    congr 1
    omega
  unfold atI
  rw [e]
  rfl
end G
namespace G
open PySem PySem.Spec PyProof.Rows L2
/-! ### comprehensions over anything that is walked, whose parts leave all that was tracked -/
section
variable {α : Type} {J : It} {G : Hp → Prop} {Y : Nat → Hp → V → Hp → Prop}
theorem take_fm {its : List α} {i : Nat} {a : α} {β : Type} (h : α → Option β) (e : its[i]? = some a) : (its.take (i + 1)).filterMap h = (its.take i).filterMap h ++ (h a).toList := by
  rw [List.take_add_one, e, List.filterMap_append]
  cases hh : h a <;> simp [hh]
theorem lcs (its : List α) (w : Walk J its.length G Y) (h : α → Option V) {g : TG} {tt : TT} {te : TE} {vs : List Nat} {σ : L2.St} {H1 : Hp} {D : Addr} {Qd : Hp → Prop} (hD : H1 D = none) (hz : its.length ≤ 1000000) (hG : ∀ H, Same H1 H → G H)
    (hs : ∀ i a x H H', its[i]? = some a → Same H1 H → Y i H x H' → ∀ (N : VK) (M : Hp → Prop), (∀ v H3, h a = some v → Same H H3 → N v H3) → (∀ H3, h a = none → Same H H3 → M H3) →
      g x (wipe σ vs) H' fun σ2 H2 => wipe σ2 vs = wipe σ vs ∧ tt σ2 H2 fun b H3 => if b = true then te σ2 H3 N else M H3)
    (hd : ∀ H, Same H1 H → H D = some (.lst (its.filterMap h)) → Qd H) :
    ∃ W : Nat → Nat → Hp → Prop, (∃ m, W 0 m (upd H1 D (.lst []))) ∧ ∀ i m H, W i m H →
      (J.stop i H ∧ Qd H) ∨ (J.go i H ∧ ∃ Nx : Hp → Prop, (∀ H', Nx H' → ∃ m', m' < m ∧ W (i + 1) m' H') ∧ ∀ x H', J.yld i H x H' → g x (wipe σ vs) H' fun σ2 H2 => wipe σ2 vs = wipe σ vs ∧ tt σ2 H2 fun b H3 =>
        if b = true then te σ2 H3 fun y H4 => ∃ acc, H4 D = some (.lst acc) ∧ acc.length < sizeLine ∧ Nx (upd H4 D (.lst (acc ++ [y]))) else Nx H3) := by
  refine lc_it w (fun i H => Same H1 H ∧ H D = some (.lst ((its.take i).filterMap h))) ⟨same_new hD, upd_same⟩ (fun i H _ p => hG H p.1) ?_ (fun H p => hd H p.1 (by rw [p.2, List.take_length]))
  rintro i x H H' hi ⟨s, e⟩ y
  obtain ⟨a, ha⟩ : ∃ a, its[i]? = some a := ⟨_, List.getElem?_eq_getElem hi⟩
  have short : ((its.take i).filterMap h).length < sizeLine := by
    have h1 := List.length_filterMap_le h (its.take i)
    rw [List.length_take] at h1
    exact Nat.lt_of_le_of_lt (by omega : _ ≤ 1000000) (by decide)
  refine hs i a x H H' ha s y _ _ (fun v H3 hv s3 => ⟨_, s3 _ _ e, short, fun b o q => ?_, ?_⟩) (fun H3 hv s3 => ⟨s.trans s3, ?_⟩)
  · rw [upd_ne (ne_of_none q hD)]
    exact s3 _ _ (s _ _ q)
  · rw [upd_same, take_fm h ha, hv]
    rfl
  · rw [s3 _ _ e, take_fm h ha, hv]
    show _ = some (HO.lst (_ ++ []))
    rw [List.append_nil]
end
/-- the pairs of a dict, each a new tuple -/
def YKV (kvs : List (Key × V)) : Nat → Hp → V → Hp → Prop := fun i H x H' => ∃ T k v, kvs[i]? = some (k, v) ∧ x = .ref T ∧ H T = none ∧ H' = upd H T (.tup [kV k, v])
theorem walk_kv {d : Addr} {o : Obj} {kvs : List (Key × V)} : Walk (Iti d o kvs) kvs.length (fun H => H d = some (.frz o (.dK kvs))) (YKV kvs) :=
  ⟨fun _ _ hi q => ⟨q, hi⟩, fun _ q => ⟨q, Nat.le_refl _⟩, fun _ _ _ _ _ _ y => y⟩
/-- the end of a body: an object that is not changed any more -/
def tFrz (t : TS) : TS := fun D σ H => t { D with nx := fun σ' H' => ∃ d u, H' d = some u ∧ Mut (some u) ∧ ∀ od, D.nx σ' (upd H' d (.frz od u)) } σ H
theorem pss_frz {X : Cx} {body : List Stmt} {t : TS} (h : PSs X body t) : PSs X body (tFrz t) := by
  refine ⟨fun pins s σ H D I hw => thn (h.run pins s σ H _ I hw) fun f s1 q => ?_⟩
  cases f with
  | next =>
    obtain ⟨σ', H', I1, d, u, hd, mu, k⟩ := q
    obtain ⟨od, I2⟩ := I1.lock hd mu
    exact ⟨σ', _, I2, k od⟩
  | brk => exact q
  | cont => exact q
  | ret v => exact q
/-! ### attributes by name -/
theorem lk_at {k : Str} {v : V} {r : List (Str × V)} : List.lookup k ((k, v) :: r) = some v := by
  have e : (k == k) = true := beq_self_eq_true k
  simp only [List.lookup, e]
theorem lk_by {k g : Str} {v : V} {r : List (Str × V)} (h : (k == g) = false) : List.lookup k ((g, v) :: r) = List.lookup k r := by
  simp only [List.lookup, h]
theorem pf_by {f g : Str} {v x : V} {r : List (Str × V)} (h : ¬ g = f) : putF f v ((g, x) :: r) = (g, x) :: putF f v r := if_neg h
/-! ### books -/
abbrev Ps := List (Str × Int)
def kvOf (ps : Ps) : List (Key × V) := ps.map fun p => (Sum.inr p.1, V.int p.2)
def lens (ps : Ps) : List Int := ps.map fun p => (p.1.length : Int)
def fees (ps : Ps) : List Int := ps.map (·.2)
def sgn (ps : Ps) : List Str := (ps.map (·.1)).filter fun z => decide (z.length = 1)
def IsMax (m : Int) (l : List Int) : Prop := m ∈ l ∧ ∀ y ∈ l, y ≤ m
def bookF (d tp ta : Addr) (L M : Int) : List (Str × V) := [("own_prices", .ref d), ("own_pieces", .ref tp), ("own_alphabet", .ref ta), ("own_longest", .int L), ("own_dearest", .int M)]
structure BookAt (C : Addr) (H : Hp) (b : Addr) (ps : Ps) (L M : Int) (dx d tp ta : Addr) (od : Obj) : Prop where
  ob : H b = some (.ins C dx (bookF d tp ta L M))
  dc : H d = some (.frz od (.dK (kvOf ps)))
  pi : H tp = some (.tup (ps.map fun p => V.str p.1))
  al : H ta = some (.tup ((sgn ps).map V.str))
  lo : IsMax L (lens ps)
  de : IsMax M (fees ps)
theorem BookAt.same {C : Addr} {H H' : Hp} {b : Addr} {ps : Ps} {L M : Int} {dx d tp ta : Addr} {od : Obj} (B : BookAt C H b ps L M dx d tp ta od) (s : Same H H') : BookAt C H' b ps L M dx d tp ta od :=
  ⟨s _ _ B.ob, s _ _ B.dc, s _ _ B.pi, s _ _ B.al, B.lo, B.de⟩
section
variable {d tp ta : Addr} {L M : Int}
theorem bf_prices : (bookF d tp ta L M).lookup ("own_prices" : Str) = some (.ref d) := lk_at
theorem bf_pieces : (bookF d tp ta L M).lookup ("own_pieces" : Str) = some (.ref tp) := (lk_by (by decide +kernel)).trans lk_at
theorem bf_alphabet : (bookF d tp ta L M).lookup ("own_alphabet" : Str) = some (.ref ta) := (lk_by (by decide +kernel)).trans ((lk_by (by decide +kernel)).trans lk_at)
theorem bf_longest : (bookF d tp ta L M).lookup ("own_longest" : Str) = some (.int L) := (lk_by (by decide +kernel)).trans ((lk_by (by decide +kernel)).trans ((lk_by (by decide +kernel)).trans lk_at))
theorem bf_dearest : (bookF d tp ta L M).lookup ("own_dearest" : Str) = some (.int M) := (lk_by (by decide +kernel)).trans ((lk_by (by decide +kernel)).trans ((lk_by (by decide +kernel)).trans ((lk_by (by decide +kernel)).trans lk_at)))
theorem bf_no {m : Str} (h1 : (m == ("own_prices" : Str)) = false) (h2 : (m == ("own_pieces" : Str)) = false) (h3 : (m == ("own_alphabet" : Str)) = false) (h4 : (m == ("own_longest" : Str)) = false) (h5 : (m == ("own_dearest" : Str)) = false) :
    (bookF d tp ta L M).lookup m = none := (lk_by h1).trans ((lk_by h2).trans ((lk_by h3).trans ((lk_by h4).trans ((lk_by h5).trans rfl))))
theorem bf_made : putF "own_dearest" (.int M) (putF "own_longest" (.int L) (putF "own_alphabet" (.ref ta) (putF "own_pieces" (.ref tp) (putF "own_prices" (.ref d) [])))) = bookF d tp ta L M := by
  show putF "own_dearest" (.int M) (putF "own_longest" (.int L) (putF "own_alphabet" (.ref ta) (putF "own_pieces" (.ref tp) [(("own_prices" : Str), .ref d)]))) = _
  rw [pf_by (by decide +kernel)]
  show putF "own_dearest" (.int M) (putF "own_longest" (.int L) (putF "own_alphabet" (.ref ta) [(("own_prices" : Str), .ref d), (("own_pieces" : Str), .ref tp)])) = _
  rw [pf_by (by decide +kernel), pf_by (by decide +kernel)]
  show putF "own_dearest" (.int M) (putF "own_longest" (.int L) [(("own_prices" : Str), .ref d), (("own_pieces" : Str), .ref tp), (("own_alphabet" : Str), .ref ta)]) = _
  rw [pf_by (by decide +kernel), pf_by (by decide +kernel), pf_by (by decide +kernel)]
  show putF "own_dearest" (.int M) [(("own_prices" : Str), .ref d), (("own_pieces" : Str), .ref tp), (("own_alphabet" : Str), .ref ta), (("own_longest" : Str), .int L)] = _
  rw [pf_by (by decide +kernel), pf_by (by decide +kernel), pf_by (by decide +kernel), pf_by (by decide +kernel)]
  rfl
end
/-! ### a def of the program as its callers use it (no word of guards) -/
structure HasO (P : Program) (w : World) (K : PySem.W.Frag) (mg : Str → Option Value) (base : Heap) (CX : CXT) (k : Nat) (x : Str) (ps : List Str) (sp : Sp) : Prop where
  ex : ∃ f fd, FnOk P w K mg base CX k f fd ps sp ∧ mg x = some (.ref f) ∧ PySem.W.keepIn K (.ref f) = true ∧ Binds K fd ps []
section
variable {P : Program} {w : World} {K : PySem.W.Frag} {mg : Str → Option Value} {base : Heap} {CX : CXT} {k : Nat} {x qual : Str} {ps : List Str} {sp : Sp}
theorem HasO.toG (F : HasO P w K mg base CX k x ps sp) : Has P w K mg base CX k x ps sp := by
  obtain ⟨f, fd, G, r⟩ := F.ex
  exact ⟨f, fd, .of G, r⟩
theorem HasO.mk' {f : Addr} {fd : FuncData} {st : Stmt} (F : Fun K x qual st f fd) (hm : mg x = some (.ref f)) (hb : Binds K fd ps []) (G : FnOk P w K mg base CX k f fd ps sp) : HasO P w K mg base CX k x ps sp := ⟨f, fd, G, hm, F.kp, hb⟩
end
section
variable {X : Cx} {CX : CXT} {k : Nat} {x : Str} {ps : List Str} {sp : Sp} {E : XK} {p pos : Pos} {e : Expr} {es : List Expr} {t : TA}
theorem pe_hasO (F : HasO X.prog X.w X.K X.mg X.base CX k x ps sp) (hr : Room k X.A) (hx : Passes CX X E) (ha : PA X (e :: es) t) (hl : Gl X x := by rfl)
    (hdb : (x == ("__debug__" : Str)) = false := by decide) (he : starEach (e :: es) X.env = (false, eval e X.env) :: starEach es X.env := by rfl) (hpl : (backTo pos (starEach es X.env)).any (·.1) = false := by rfl) :
    PE X (.Call (.Name x p) (e :: es) [] pos) (tCall sp [] E t) := by
  obtain ⟨f, fd, G, hm, hk, hb⟩ := F.ex
  exact pe_call G hr hl hm hk hb .nil hx ha hdb he hpl
end
/-! ### a dict that a walk locks -/
theorem unlock {H H' : Hp} {a : Addr} {u : HO} {od : Obj} (h : H a = some u) (s : Same (upd H a (.frz od u)) H') : Same H (upd H' a u) := fun b o e => by
  by_cases hb : b = a
  · rw [hb] at e ⊢
    rw [h] at e
    cases e
    exact upd_same
  · rw [upd_ne hb]
    exact s _ _ (by rw [upd_ne hb]; exact e)
theorem lock_ne {H : Hp} {a D : Addr} {o : HO} (h : upd H a o D = none) : D ≠ a := fun e => by
  rw [e, upd_same] at h
  cases h
theorem lock_free {H : Hp} {a D : Addr} {o : HO} (h : upd H a o D = none) : H D = none := by
  rw [upd_ne (lock_ne h)] at h
  exact h
/-- [elt for piece in a dict of texts for sign in piece], elt a value of the sign alone -/
theorem lc2_ks {kvs : List (Key × V)} {zs : List Str} {te : TE} {j1 j2 : Nat} {σ : L2.St} {H1 : Hp} {D d : Addr} {od : Obj} {Qd : Hp → Prop} (hk : kvs.map (·.1) = zs.map Sum.inr) (f : Nat → V) (hd0 : H1 d = some (.frz od (.dK kvs))) (hD : H1 D = none)
    (hz : ((zs.map cs).flatten).length ≤ 100000) (hw : ∀ v, wipe ((wipe σ [j1, j2]).set j1 (some v)) [j1, j2] = wipe σ [j1, j2])
    (hw1 : ∀ v u, wipe ((wipe ((wipe σ [j1, j2]).set j1 (some v)) [j2]).set j2 (some u)) [j2] = wipe ((wipe σ [j1, j2]).set j1 (some v)) [j2])
    (hv : ∀ v, ((wipe σ [j1, j2]).set j1 (some v))[j1]? = some (some v))
    (hs : ∀ z ∈ zs, ∀ c ∈ cs z, ∀ H, Same H1 H → ∀ N : VK, (∀ H', Same H H' → N (f c) H') → te ((wipe ((wipe σ [j1, j2]).set j1 (some (.str z))) [j2]).set j2 (some (chV c))) H N)
    (hd : ∀ H, Same H1 H → H D = some (.lst ((zs.map cs).flatten.map f)) → Qd H) :
    ∃ W : Nat → Nat → Hp → Prop, (∃ m, W 0 m (upd H1 D (.lst []))) ∧ ∀ i m H, W i m H →
      ((Itk d od kvs).stop i H ∧ Qd H) ∨ ((Itk d od kvs).go i H ∧ ∃ Nx : Hp → Prop, (∀ H', Nx H' → ∃ m', m' < m ∧ W (i + 1) m' H') ∧ ∀ x H', (Itk d od kvs).yld i H x H' → gName j1 x (wipe σ [j1, j2]) H' fun σ2 H2 => wipe σ2 [j1, j2] = wipe σ [j1, j2] ∧ tYes σ2 H2 fun b H3 =>
        if b = true then iStr (tVar j1) σ2 H3 fun J1 H4 => ∃ W1 : Nat → Nat → Hp → Prop, (∃ m, W1 0 m H4) ∧ ∀ j k H, W1 j k H →
          (J1.stop j H ∧ Nx H) ∨ (J1.go j H ∧ ∃ Nx1 : Hp → Prop, (∀ H', Nx1 H' → ∃ k', k' < k ∧ W1 (j + 1) k' H') ∧ ∀ x H', J1.yld j H x H' → gName j2 x (wipe σ2 [j2]) H' fun σ3 H5 => wipe σ3 [j2] = wipe σ2 [j2] ∧ tYes σ3 H5 fun b H6 =>
            if b = true then te σ3 H6 fun y H7 => ∃ acc, H7 D = some (.lst acc) ∧ acc.length < sizeLine ∧ Nx1 (upd H7 D (.lst (acc ++ [y]))) else Nx1 H6)
        else Nx H3) := by
  have len : kvs.length = zs.length := by
    have h := congrArg List.length hk
    rwa [List.length_map, List.length_map] at h
  have keep : ∀ {H : Hp} {o : HO}, Same H1 H → Same H1 (upd H D o) := fun s b o e => by
    rw [upd_ne (ne_of_none e hD)]
    exact s _ _ e
  have part : ∀ (i : Nat) (z : Str), zs[i]? = some z → ∀ j, ((((zs.take i).map cs).flatten.map f) ++ ((cs z).take j).map f).length ≤ 100000 := by
    intro i z hi j
    have e1 : zs = zs.take i ++ z :: zs.drop (i + 1) := by
      obtain ⟨hlt, hz'⟩ := List.getElem?_eq_some_iff.mp hi
      rw [← hz', List.getElem_cons_drop, List.take_append_drop]
    have e2 := hz
    rw [e1, List.map_append, List.flatten_append, List.map_cons, List.flatten_cons, List.length_append, List.length_append] at e2
    rw [List.length_append, List.length_map, List.length_map, List.length_take]
    omega
  refine ⟨fun i m H => m = kvs.length - i ∧ i ≤ kvs.length ∧ Same H1 H ∧ H D = some (.lst (((zs.take i).map cs).flatten.map f)), ⟨_, rfl, Nat.zero_le _, same_new hD, upd_same⟩, ?_⟩
  rintro i m H ⟨rfl, hi, s, e⟩
  have fz := s _ _ hd0
  by_cases hlt : i < kvs.length
  · refine .inr ⟨⟨fz, hlt⟩, fun H' => Same H1 H' ∧ H' D = some (.lst (((zs.take (i + 1)).map cs).flatten.map f)), fun H' q => ⟨kvs.length - (i + 1), by omega, rfl, hlt, q⟩, ?_⟩
    rintro x H' ⟨rfl, k, v, ek, rfl⟩
    obtain ⟨z, hz1⟩ : ∃ z, zs[i]? = some z := ⟨_, List.getElem?_eq_getElem (by omega)⟩
    have ez : k = Sum.inr z := by
      have h1 := congrArg (fun l => l[i]?) hk
      simp only [List.getElem?_map, ek, hz1] at h1
      exact Option.some.inj h1
    subst ez
    have hzm := List.mem_of_getElem? hz1
    refine ⟨hw _, _, hv _, z, rfl, fun j k' H' => k' = (cs z).length - j ∧ j ≤ (cs z).length ∧ Same H1 H' ∧ H' D = some (.lst ((((zs.take i).map cs).flatten.map f) ++ ((cs z).take j).map f)), ⟨_, rfl, Nat.zero_le _, s, by simpa using e⟩, ?_⟩
    rintro j k' H2 ⟨rfl, hj, s2, e2⟩
    have lz := cs_len z
    by_cases hjl : j < (cs z).length
    · refine .inr ⟨by show j < z.cps.size; rw [lz] at hjl; exact hjl, fun H' => Same H1 H' ∧ H' D = some (.lst ((((zs.take i).map cs).flatten.map f) ++ ((cs z).take (j + 1)).map f)), fun H' q => ⟨(cs z).length - (j + 1), by omega, rfl, hjl, q⟩, ?_⟩
      rintro x H3 ⟨rfl, c, hc, rfl⟩
      have hc' : (cs z)[j]? = some c := by simpa [cs] using hc
      refine ⟨hw1 _ _, hs z hzm c (List.mem_of_getElem? hc') _ s2 _ fun H4 s4 => ⟨_, s4 _ _ e2, Nat.lt_of_le_of_lt (part i z hz1 j) (by decide), keep (s2.trans s4), ?_⟩⟩
      rw [upd_same, List.append_assoc]
      congr 3
      have : (cs z).take (j + 1) = (cs z).take j ++ [c] := by
        rw [List.take_add_one, hc']
        rfl
      rw [this, List.map_append]
      rfl
    · have ej : j = (cs z).length := by omega
      subst ej
      refine .inl ⟨by show z.cps.size ≤ _; rw [lz]; exact Nat.le_refl _, s2, ?_⟩
      rw [List.take_length] at e2
      rw [e2]
      have : (zs.take (i + 1)).map cs = (zs.take i).map cs ++ [cs z] := by
        rw [List.take_add_one, hz1, List.map_append]
        rfl
      rw [this, List.flatten_append, List.map_append]
      simp
  · have ei : i = kvs.length := by omega
    subst ei
    refine .inl ⟨⟨fz, Nat.le_refl _⟩, hd H s ?_⟩
    rw [len, List.take_length] at e
    exact e
/-! ### the values of a dict, as a view -/
def vwV (d r : Addr) : HO := .ext fun h => h.IsValuesView r d
section
variable {X : Cx}
theorem mt_values : MtR X "dict.values" (fun x xs H Q => ∃ d kvs, x = .ref d ∧ xs = [] ∧ Rd H d (.dK kvs) ∧ ∀ r, H r = none → Q (.ref r) (upd H r (vwV d r))) := by
  intro pins s σ H x xs v us Q I rx rs h
  obtain ⟨d, kvs, rfl, rfl, hd, q⟩ := h
  cases rx
  cases rs
  obtain ⟨_, low, vs, _, hdo⟩ := dk_rd I.hok hd
  refine call_meetsIn PySem.F.slot_dict_values hdo.typeIs PySem.F.entry_dict_values (PySem.F.args_dict_values_1 _) (meets_dict_values (mixKind X.prog X.w) d low) ⟨⟨vs, hdo⟩, ?_⟩
  have view : (s.heap.push { cls := .type "dict_values", data := .fields #[.ref d] }).IsValuesView s.heap.objs.size d := ⟨_, Heap.get?_push_size _ rfl, rfl, rfl⟩
  refine ⟨.ref s.heap.objs.size, _, I.laid (o := vwV d s.heap.objs.size) (fun _ _ e => Heap.get?_push_of_some _ e) (Nat.le_refl _) ⟨view, ⟨_, Heap.get?_push_size _ rfl⟩, ?_⟩, rfl, q _ (I.hok.fresh (Nat.le_refl _))⟩
  rintro h1 h2 ⟨o, a, b, c⟩ k
  exact ⟨o, k o a, b, c⟩
theorem call_listVw (hc : X.calm = true) : CallR X (.type "list") (fun xs H Q => ∃ r d kvs, xs = [.ref r] ∧ H r = some (vwV d r) ∧ Rd H d (.dK kvs) ∧ ∀ p, H p = none → Q (.ref p) (upd H p (.lst (kvs.map (·.2))))) := by
  intro pins s σ H xs us Q I rs h
  obtain ⟨r, d, kvs, rfl, hr, hd, q⟩ := h
  obtain ⟨u, rfl, ru⟩ := vals1 rs
  cases ru
  obtain ⟨short, low, vs, rel, hdo⟩ := dk_rd I.hok hd
  obtain ⟨ep, at'⟩ := hdo.dictAt
  have view : s.heap.IsValuesView r d := (I.hok r _ hr).1
  have nl : kvs.length = vs.length := rel.length
  refine PySem.W.kdl_call (PySem.W.kdl_values (knd := mixKind X.prog X.w) (kvs := vs) (ep := ep)) (I.ok.hd hc) ⟨view, at'⟩ (by omega) ?_
  intro h' tk acc c' keeps new items
  have va : Vals (kvs.map (·.2)) acc.toList := vals_at _ _ (by rw [Array.length_toList, List.length_map, items.1, nl]) fun j w hw => by
    obtain ⟨k, hk⟩ := items.2 j w (by simpa using hw)
    obtain ⟨p, hp, rp⟩ : ∃ p, kvs[j]? = some p ∧ RelV p.2 w := by
      have jl : j < kvs.length := by
        have := (List.getElem?_eq_some_iff.mp hk).1
        omega
      refine ⟨kvs[j], List.getElem?_eq_getElem jl, ?_⟩
      obtain ⟨y, hy, ry⟩ := LiI.paired_get rel (List.getElem?_eq_getElem jl)
      rw [hk] at hy
      cases hy
      exact ry.2
    exact ⟨p.2, by rw [List.getElem?_map, hp]; rfl, rp⟩
  refine ⟨.ref s.heap.objs.size, _, I.laid (t' := tk) (o := .lst (kvs.map (·.2))) keeps (Nat.le_refl _) ⟨by rw [List.length_map]; exact short, acc.toList, c', va, by simpa using new⟩, rfl, q _ (I.hok.fresh (Nat.le_refl _))⟩
/-- len of a dict, locked or not -/
theorem call_lenF : CallR X (.builtin "len") (fun xs H Q => ∃ a kvs, xs = [V.ref a] ∧ Rd H a (.dK kvs) ∧ Q (.int (kvs.length : Int)) H) := by
  intro pins s σ H xs us Q I rs h
  obtain ⟨a, kvs, rfl, ha, q⟩ := h
  obtain ⟨u, rfl, ru⟩ := vals1 rs
  cases ru
  exact d_len I (by first | exact ha | exact Or.inl ha) fun t s' J => ⟨.int kvs.length, H, J, ⟨t, rfl⟩, q⟩
end
/-! ### what a dict of prices is -/
def inRange (x : V) (a b : Int) : Bool := match x with | .int i => decide (i.natAbs < 10 ^ 60) && (decide (a ≤ i) && decide (i ≤ b)) | _ => false
def isPrice (x : V) : Bool := inRange x 1 99
def keyStrs (kvs : List (Key × V)) : List Str := kvs.filterMap fun kv => match kv.1 with | .inr z => some z | .inl _ => none
def arePrices (kvs : List (Key × V)) : Bool :=
  (decide (1 ≤ (kvs.length : Int)) && decide ((kvs.length : Int) ≤ 12)) && (kvs.all fun kv => isPiece (kV kv.1) && isPrice kv.2) && decide (((keyStrs kvs).filter fun z => decide ((cs z).length = 1)).length ≤ 4) &&
    ((keyStrs kvs).map cs).flatten.all fun c => (valV kvs (Sum.inr (ch c))).isSome
/-- what was tracked is so still, or locked -/
def Sim (H H' : Hp) : Prop := ∀ b o, H b = some o → H' b = some o ∨ ∃ od, H' b = some (.frz od o)
theorem Sim.of {H H' : Hp} (s : Same H H') : Sim H H' := fun b o e => Or.inl (s b o e)
theorem Sim.lock {H : Hp} {a : Addr} {u : HO} {od : Obj} (h : H a = some u) : Sim H (upd H a (.frz od u)) := fun b o e => by
  by_cases hb : b = a
  · rw [hb] at e ⊢
    rw [h] at e
    cases e
    exact Or.inr ⟨od, upd_same⟩
  · exact Or.inl (by rw [upd_ne hb]; exact e)
theorem Sim.then {H H1 H2 : Hp} (a : Sim H H1) (s : Same H1 H2) : Sim H H2 := fun b o e => by
  rcases a b o e with h | ⟨od, h⟩
  · exact Or.inl (s _ _ h)
  · exact Or.inr ⟨od, s _ _ h⟩
theorem Sim.after {H H1 H2 : Hp} (s : Same H H1) (a : Sim H1 H2) : Sim H H2 := fun b o e => a b o (s b o e)
/-- of a known kind, as long as it stands, locked or not -/
def TydS (K : PySem.W.Frag) (H : Hp) (x : V) : Prop := ∀ H', Sim H H' → Tyd K H' x
section
variable {K : PySem.W.Frag} {H : Hp}
theorem TydS.now {x : V} (t : TydS K H x) : Tyd K H x := t H (.of (Same.refl H))
theorem TydS.same {H' : Hp} {x : V} (t : TydS K H x) (s : Same H H') : TydS K H' x := fun H2 z => t H2 (Sim.after s z)
theorem tydS_non : TydS K H .non := fun _ _ => tyd_non
theorem tydS_bl (b : Bool) : TydS K H (.bl b) := fun _ _ => tyd_bl b
theorem tydS_int (i : Int) : TydS K H (.int i) := fun _ _ => tyd_int i
theorem tydS_str (z : Str) : TydS K H (.str z) := fun _ _ => tyd_str z
theorem tydS_lst {a : Addr} {xs : List V} (h : H a = some (.lst xs)) : TydS K H (.ref a) := fun H' z => by
  rcases z a _ h with h | ⟨od, h⟩
  · exact tyd_lst h
  · exact tyd_of (a := false) (b := false) (c := false) (.base (.frz h)) (by decide +kernel) (by decide +kernel) (by decide +kernel) rfl rfl rfl
theorem tydS_tup {a : Addr} {xs : List V} (h : H a = some (.tup xs)) : TydS K H (.ref a) := fun H' z => by
  rcases z a _ h with h | ⟨od, h⟩
  · exact tyd_tup h
  · exact tyd_of (a := false) (b := false) (c := false) (.fTuple h) (by decide +kernel) (by decide +kernel) (by decide +kernel) rfl rfl rfl
theorem tydS_dK {a : Addr} {kvs : List (Key × V)} (h : H a = some (.dK kvs)) : TydS K H (.ref a) := fun H' z => by
  rcases z a _ h with h | ⟨od, h⟩
  · exact tyd_dK h
  · exact tyd_of (a := false) (b := false) (c := false) (.fDict h) (by decide +kernel) (by decide +kernel) (by decide +kernel) rfl rfl rfl
end
def KvOk (K : PySem.W.Frag) (H : Hp) (kvs : List (Key × V)) : Prop := ∀ kv ∈ kvs, szV (kV kv.1) ∧ TydS K H kv.2
theorem tyd_key {K : PySem.W.Frag} {H : Hp} (k : Key) : Tyd K H (kV k) := by
  cases k with
  | inl i => exact tyd_int i
  | inr z => exact tyd_str z
def spWithin (K : PySem.W.Frag) : Sp := fun vs H Q _ => ∃ x a b, vs = [x, .int a, .int b] ∧ Tyd K H x ∧ ∀ H', Same H H' → Q (.bl (inRange x a b)) H'
def spArePrices (K : PySem.W.Frag) : Sp := fun vs H Q _ => ∃ x, vs = [x] ∧
  ((∃ t, TyX K H x t ∧ PySem.W.kitOne K t (.type "dict") = some false ∧ ∀ H', Same H H' → Q (.bl false) H') ∨
   ∃ a kvs, x = .ref a ∧ H a = some (.dK kvs) ∧ kvs.length ≤ 1000 ∧ KvOk K H kvs ∧ ∀ H', Same H H' → Q (.bl (arePrices kvs)) H')
theorem piece_key {k : Key} (h : isPiece (kV k) = true) : ∃ z, k = Sum.inr z ∧ 1 ≤ (cs z).length ∧ (cs z).length ≤ 5 ∧ ∀ c ∈ cs z, lett c = true := by
  cases k with
  | inl i => cases h
  | inr z =>
    have h' : (decide (1 ≤ (cs z).length) && decide ((cs z).length ≤ 5) && (cs z).all lett) = true := h
    rw [Bool.and_eq_true, Bool.and_eq_true] at h'
    exact ⟨z, rfl, of_decide_eq_true h'.1.1, of_decide_eq_true h'.1.2, List.all_eq_true.mp h'.2⟩
theorem keys_of {kvs : List (Key × V)} (h : (kvs.all fun kv => isPiece (kV kv.1) && isPrice kv.2) = true) : kvs.map (·.1) = (keyStrs kvs).map Sum.inr := by
  induction kvs with
  | nil => rfl
  | cons a r ih =>
    rw [List.all_cons, Bool.and_eq_true, Bool.and_eq_true] at h
    obtain ⟨z, ez, _⟩ := piece_key h.1.1
    obtain ⟨k, v⟩ := a
    dsimp only at ez
    subst ez
    show Sum.inr z :: _ = Sum.inr z :: _
    rw [ih h.2]
    rfl
theorem keyStrs_piece {kvs : List (Key × V)} (h : (kvs.all fun kv => isPiece (kV kv.1) && isPrice kv.2) = true) : ∀ z ∈ keyStrs kvs, 1 ≤ (cs z).length ∧ (cs z).length ≤ 5 ∧ ∀ c ∈ cs z, lett c = true := by
  intro z hz
  obtain ⟨kv, hkv, e⟩ := List.mem_filterMap.mp hz
  have h1 := List.all_eq_true.mp h kv hkv
  rw [Bool.and_eq_true] at h1
  obtain ⟨y, ey, r⟩ := piece_key h1.1
  obtain ⟨k, v⟩ := kv
  dsimp only at ey e
  subst ey
  cases e
  exact r
theorem flat_len {zs : List Str} (h : ∀ z ∈ zs, (cs z).length ≤ 5) : ((zs.map cs).flatten).length ≤ 5 * zs.length := by
  induction zs with
  | nil => exact Nat.zero_le _
  | cons a r ih =>
    rw [List.map_cons, List.flatten_cons, List.length_append, List.length_cons]
    have h1 := h a List.mem_cons_self
    have h2 := ih fun z hz => h z (List.mem_cons_of_mem _ hz)
    omega
theorem singles : ∀ kvs : List (Key × V), (kvs.filterMap fun kv => match kv.1 with | .inr z => if decide ((cs z).length = 1) = true then some (V.str z) else none | .inl _ => none) = ((keyStrs kvs).filter fun z => decide ((cs z).length = 1)).map V.str
  | [] => rfl
  | (.inl i, v) :: r => singles r
  | (.inr z, v) :: r => by
    have ih := singles r
    have e : keyStrs ((Sum.inr z, v) :: r) = z :: keyStrs r := rfl
    rw [e, List.filter_cons, List.filterMap_cons]
    dsimp only
    cases h : decide ((cs z).length = 1) with
    | true =>
      rw [if_pos rfl, if_pos rfl, List.map_cons, ih]
    | false =>
      rw [if_neg Bool.false_ne_true, if_neg Bool.false_ne_true, ih]
/-! ### dict comprehensions; walks of lists and tuples told by a function -/
section
variable {α : Type} {J : It} {G : Hp → Prop} {Y : Nat → Hp → V → Hp → Prop}
theorem valV_none {κ : Type} [DecidableEq κ] {kvs : List (κ × V)} {k : κ} (h : k ∉ kvs.map (·.1)) : valV kvs k = none := by
  cases e : valV kvs k with
  | none => rfl
  | some v => exact absurd (valV_in e) h
theorem dcs (its : List α) (w : Walk J its.length G Y) (h : α → Key × V) (nd : (its.map fun a => (h a).1).Nodup) {g : TG} {tt : TT} {tk tv : TE} {vs : List Nat} {σ : L2.St} {H1 : Hp} {D : Addr} {Qd : Hp → Prop} (hD : H1 D = none) (hz : its.length ≤ 100000) (hG : ∀ H, Same H1 H → G H)
    (hs : ∀ i a x H H', its[i]? = some a → Same H1 H → Y i H x H' → ∀ (N : V → V → Hp → Prop) (M : Hp → Prop), (∀ H3, Same H H3 → N (kV (h a).1) (h a).2 H3) →
      g x (wipe σ vs) H' fun σ2 H2 => wipe σ2 vs = wipe σ vs ∧ tt σ2 H2 fun b H3 => if b = true then tk σ2 H3 fun y H4 => tv σ2 H4 fun z H5 => N y z H5 else M H3)
    (hd : ∀ H, Same H1 H → H D = some (.dK (its.map h)) → Qd H) :
    ∃ W : Nat → Nat → Hp → Prop, (∃ m, W 0 m (upd H1 D (.dK []))) ∧ ∀ i m H, W i m H →
      (J.stop i H ∧ Qd H) ∨ (J.go i H ∧ ∃ Nx : Hp → Prop, (∀ H', Nx H' → ∃ m', m' < m ∧ W (i + 1) m' H') ∧ ∀ x H', J.yld i H x H' → g x (wipe σ vs) H' fun σ2 H2 => wipe σ2 vs = wipe σ vs ∧ tt σ2 H2 fun b H3 =>
        if b = true then tk σ2 H3 fun y H4 => tv σ2 H4 fun z H5 => ∃ kvs k, y = kV k ∧ H5 D = some (.dK kvs) ∧ kvs.length < sizeLine ∧ Nx (upd H5 D (.dK (putK kvs k z))) else Nx H3) := by
  refine ⟨fun i m H => m = its.length - i ∧ i ≤ its.length ∧ Same H1 H ∧ H D = some (.dK ((its.take i).map h)), ⟨_, rfl, Nat.zero_le _, same_new hD, upd_same⟩, ?_⟩
  rintro i m H ⟨rfl, hi, s, e⟩
  by_cases hlt : i < its.length
  · obtain ⟨a, ha⟩ : ∃ a, its[i]? = some a := ⟨_, List.getElem?_eq_getElem hlt⟩
    refine .inr ⟨w.goes i H hlt (hG H s), fun H' => Same H1 H' ∧ H' D = some (.dK ((its.take (i + 1)).map h)), fun H' q => ⟨its.length - (i + 1), by omega, rfl, hlt, q⟩, ?_⟩
    intro x H' y
    refine hs i a x H H' ha s (w.yields i H x H' hlt (hG H s) y) _ _ fun H3 s3 => ⟨_, (h a).1, rfl, s3 _ _ e, ?_, fun b o q => ?_, ?_⟩
    · rw [List.length_map, List.length_take]
      exact Nat.lt_of_le_of_lt (by omega : _ ≤ 100000) (by decide)
    · rw [upd_ne (ne_of_none q hD)]
      exact s3 _ _ (s _ _ q)
    · have e1 : its.take (i + 1) = its.take i ++ [a] := by
        rw [List.take_add_one, ha]
        rfl
      have e2 : valV ((its.take i).map h) (h a).1 = none := valV_none fun m => by
        rw [List.map_map] at m
        have nd' : ((its.take (i + 1)).map fun a => (h a).1).Nodup := nd.sublist ((List.take_sublist _ _).map _)
        rw [e1, List.map_append] at nd'
        exact (List.nodup_append.mp nd').2.2 _ m _ (List.mem_singleton.mpr rfl) rfl
      rw [upd_same, putK_new _ e2, e1, List.map_append]
      rfl
  · have ei : i = its.length := by omega
    subst ei
    refine .inl ⟨w.stops H (hG H s), hd H s ?_⟩
    rw [e, List.take_length]
end
theorem walk_listF {β : Type} {K : PySem.W.Frag} {a : Addr} (f : β → V) (ys : List β) : Walk (Itl K a) ys.length (fun H => SqL K H a (ys.map f)) (fun i H x H' => H' = H ∧ ∃ b, ys[i]? = some b ∧ x = f b) := by
  have w := walk_list (K := K) (a := a) (xs := ys.map f)
  rw [List.length_map] at w
  refine w.mono (fun _ h => h) ?_
  rintro i H x H' hi _ ⟨rfl, hx⟩
  rw [List.getElem?_map] at hx
  cases e : ys[i]? with
  | none =>
    rw [e] at hx
    cases hx
  | some b =>
    rw [e] at hx
    exact ⟨rfl, b, rfl, (Option.some.inj hx).symm⟩
theorem walk_tupF {β : Type} {K : PySem.W.Frag} {a : Addr} (f : β → V) (ys : List β) : Walk (Itt K a) ys.length (fun H => SqT K H a (ys.map f)) (fun i H x H' => H' = H ∧ ∃ b, ys[i]? = some b ∧ x = f b) := by
  have w := walk_tup (K := K) (a := a) (xs := ys.map f)
  rw [List.length_map] at w
  refine w.mono (fun _ h => h) ?_
  rintro i H x H' hi _ ⟨rfl, hx⟩
  rw [List.getElem?_map] at hx
  cases e : ys[i]? with
  | none =>
    rw [e] at hx
    cases hx
  | some b =>
    rw [e] at hx
    exact ⟨rfl, b, rfl, (Option.some.inj hx).symm⟩
/-! ### a book is made -/
def priceIn (kvs : List (Key × V)) (z : Str) : Int := match valV kvs (Sum.inr z) with | some (.int p) => p | _ => 0
def psOf (kvs : List (Key × V)) (ys : List Str) : Ps := ys.map fun z => (z, priceIn kvs z)
theorem fm_some {α β : Type} (f : α → β) (l : List α) : l.filterMap (fun a => some (f a)) = l.map f := by
  rw [List.filterMap_eq_map']
theorem price_of_key {kvs : List (Key × V)} (h : (kvs.all fun kv => isPiece (kV kv.1) && isPrice kv.2) = true) {z : Str} (hz : z ∈ keyStrs kvs) : valV kvs (Sum.inr z) = some (.int (priceIn kvs z)) ∧ 1 ≤ priceIn kvs z ∧ priceIn kvs z ≤ 99 := by
  have hm : (Sum.inr z : Key) ∈ kvs.map (·.1) := by
    rw [keys_of h]
    exact List.mem_map.mpr ⟨z, hz, rfl⟩
  cases e : valV kvs (Sum.inr z : Key) with
  | none => exact absurd hm (valV_not e)
  | some v =>
    obtain ⟨kv, hkv, e1⟩ : ∃ kv ∈ kvs, kv.2 = v := by
      unfold valV at e
      cases e2 : kvs.find? (fun kv => decide (kv.1 = (Sum.inr z : Key))) with
      | none =>
        rw [e2] at e
        cases e
      | some kv =>
        rw [e2] at e
        exact ⟨kv, List.mem_of_find?_eq_some e2, Option.some.inj e⟩
    have h1 := List.all_eq_true.mp h kv hkv
    rw [Bool.and_eq_true] at h1
    have h2 := h1.2
    rw [e1] at h2
    cases v with
    | int p =>
      have h3 : (decide (p.natAbs < 10 ^ 60) && (decide (1 ≤ p) && decide (p ≤ 99))) = true := h2
      rw [Bool.and_eq_true, Bool.and_eq_true] at h3
      have e3 : priceIn kvs z = p := by
        unfold priceIn
        rw [e]
      rw [e3]
      exact ⟨rfl, of_decide_eq_true h3.2.1, of_decide_eq_true h3.2.2⟩
    | _ => cases h2
theorem ap_parts {kvs : List (Key × V)} (h : arePrices kvs = true) : (1 ≤ kvs.length ∧ kvs.length ≤ 12) ∧ (kvs.all fun kv => isPiece (kV kv.1) && isPrice kv.2) = true ∧ ((keyStrs kvs).filter fun z => decide ((cs z).length = 1)).length ≤ 4 ∧
    (((keyStrs kvs).map cs).flatten.all fun c => (valV kvs (Sum.inr (ch c))).isSome) = true := by
  unfold arePrices at h
  rw [Bool.and_eq_true, Bool.and_eq_true, Bool.and_eq_true, Bool.and_eq_true] at h
  obtain ⟨⟨⟨⟨a, b⟩, c⟩, d⟩, e⟩ := h
  have a' := of_decide_eq_true a
  have b' := of_decide_eq_true b
  exact ⟨⟨by omega, by omega⟩, c, of_decide_eq_true d, e⟩
theorem not_there {H H' : Hp} {a : Addr} (s : Same H H') (h : H' a = none) : H a = none := by
  cases e : H a with
  | none => rfl
  | some o =>
    rw [s _ _ e] at h
    cases h
theorem nd_of_map {α β : Type} {f : α → β} {l : List α} (h : (l.map f).Nodup) : l.Nodup := List.Pairwise.of_map f (fun _ _ n e => n (congrArg f e)) h
theorem nd_map {α β : Type} {f : α → β} (hf : ∀ a b, f a = f b → a = b) {l : List α} (h : l.Nodup) : (l.map f).Nodup := List.Pairwise.map f (fun a b n e => n (hf a b e)) h
section
variable {x y z u v : V}
theorem pf2 : putF "own_pieces" y [(("own_prices" : Str), x)] = [(("own_prices" : Str), x), ("own_pieces", y)] := by
  rw [pf_by (by decide +kernel)]
  rfl
theorem pf3 : putF "own_alphabet" z [(("own_prices" : Str), x), ("own_pieces", y)] = [(("own_prices" : Str), x), ("own_pieces", y), ("own_alphabet", z)] := by
  rw [pf_by (by decide +kernel), pf_by (by decide +kernel)]
  rfl
theorem pf4 : putF "own_longest" u [(("own_prices" : Str), x), ("own_pieces", y), ("own_alphabet", z)] = [(("own_prices" : Str), x), ("own_pieces", y), ("own_alphabet", z), ("own_longest", u)] := by
  rw [pf_by (by decide +kernel), pf_by (by decide +kernel), pf_by (by decide +kernel)]
  rfl
theorem pf5 : putF "own_dearest" v [(("own_prices" : Str), x), ("own_pieces", y), ("own_alphabet", z), ("own_longest", u)] = [(("own_prices" : Str), x), ("own_pieces", y), ("own_alphabet", z), ("own_longest", u), ("own_dearest", v)] := by
  rw [pf_by (by decide +kernel), pf_by (by decide +kernel), pf_by (by decide +kernel), pf_by (by decide +kernel)]
  rfl
end
theorem sgn_fm (kvs : List (Key × V)) (ys : List Str) : (ys.filterMap fun z => if decide ((cs z).length = 1) = true then some (V.str z) else none) = (sgn (psOf kvs ys)).map V.str := by
  induction ys with
  | nil => rfl
  | cons z r ih =>
    have e : sgn (psOf kvs (z :: r)) = if decide (z.length = 1) = true then z :: sgn (psOf kvs r) else sgn (psOf kvs r) := by
      unfold sgn psOf
      rw [List.map_cons, List.map_cons, List.filter_cons]
    rw [e, List.filterMap_cons, cs_len, ih]
    cases decide (z.length = 1) <;> rfl
theorem kv_keys (ps : Ps) : (kvOf ps).map (fun kv => kV kv.1) = ps.map fun p => V.str p.1 := by
  unfold kvOf
  rw [List.map_map]
  rfl
theorem kv_vals (ps : Ps) : (kvOf ps).map (·.2) = (fees ps).map V.int := by
  unfold kvOf fees
  rw [List.map_map, List.map_map]
  rfl
/-- Book.__init__ on a right dict -/
def spBook (C : Addr) (K : PySem.W.Frag) : Sp := fun vs H Q _ => ∃ (b dx a : Addr) (kvs : List (Key × V)), vs = [.ref b, .ref a] ∧ H b = some (.ins C dx []) ∧ H a = some (.dK kvs) ∧ KvOk K H kvs ∧ arePrices kvs = true ∧ (kvs.map (·.1)).Nodup ∧
  ∀ H' ys L M d tp ta od, ys.Perm (keyStrs kvs) → sortedS ys = true → BookAt C H' b (psOf kvs ys) L M dx d tp ta od → (∀ c o, H c = some o → c ≠ b → H' c = some o) → Q .non H'
end G
/-! Cheapest prices, in plain Lean: cuts by a tariff, the least fee. -/
namespace G
open PySem PySem.Spec PyProof.Rows L2
abbrev Tf := Str → Option Int
def Cut (F : Tf) (l : List Nat) (c : Ps) : Prop := (∀ p ∈ c, F p.1 = some p.2) ∧ (c.map fun p => cs p.1).flatten = l
def fee (c : Ps) : Int := (c.map (·.2)).sum
def Least (F : Tf) (l : List Nat) (m : Int) : Prop := (∃ c, Cut F l c ∧ fee c = m) ∧ ∀ c, Cut F l c → m ≤ fee c
def Over (F : Tf) (l : List Nat) : Prop := ∀ c ∈ l, ∃ p, F (ch c) = some p
structure Good (F : Tf) : Prop where
  pos : ∀ z p, F z = some p → 1 ≤ p ∧ p ≤ 99
  len : ∀ z p, F z = some p → 1 ≤ (cs z).length ∧ (cs z).length ≤ 5
  cov : ∀ z p, F z = some p → Over F (cs z)
open Classical in
noncomputable def lp (F : Tf) (l : List Nat) : Int := if h : ∃ m, Least F l m then h.choose else 0
section
variable {F F1 F2 : Tf} {l a b : List Nat} {m n : Int} {c d : Ps} {z : Str} {p : Int}
theorem Least.uniq (h : Least F l m) (k : Least F l n) : m = n := by
  obtain ⟨⟨c, hc, rfl⟩, hm⟩ := h
  obtain ⟨⟨d, hd, rfl⟩, hn⟩ := k
  have := hm d hd
  have := hn c hc
  omega
theorem lp_of (h : Least F l m) : lp F l = m := by
  have hx : ∃ m, Least F l m := ⟨m, h⟩
  unfold lp
  rw [dif_pos hx]
  exact hx.choose_spec.uniq h
theorem fee_app : fee (c ++ d) = fee c + fee d := by
  unfold fee
  rw [List.map_append, List.sum_append]
theorem Cut.app (h : Cut F a c) (k : Cut F b d) : Cut F (a ++ b) (c ++ d) := by
  refine ⟨fun p hp => ?_, ?_⟩
  · rcases List.mem_append.mp hp with q | q
    · exact h.1 p q
    · exact k.1 p q
  · rw [List.map_append, List.flatten_append, h.2, k.2]
theorem Cut.one (h : F z = some p) : Cut F (cs z) [(z, p)] := ⟨fun q hq => by rw [List.mem_singleton.mp hq]; exact h, by simp⟩
theorem Cut.nil : Cut F [] [] := ⟨fun _ h => (List.not_mem_nil h).elim, rfl⟩
theorem fee_one : fee [(z, p)] = p := by simp [fee]
theorem fee_nil : fee [] = 0 := rfl
theorem fee_cons {q : Str × Int} : fee (q :: c) = q.2 + fee c := rfl
theorem fee_pos (G : Good F) : ∀ c : Ps, (∀ p ∈ c, F p.1 = some p.2) → 0 ≤ fee c
  | [], _ => Int.le_refl _
  | q :: r, h => by
    have h1 := (G.pos _ _ (h q List.mem_cons_self)).1
    have h2 := fee_pos G r fun p hp => h p (List.mem_cons_of_mem _ hp)
    rw [fee_cons]
    omega
theorem cut_ex (o : Over F l) : ∃ c, Cut F l c := by
  induction l with
  | nil => exact ⟨[], Cut.nil⟩
  | cons x r ih =>
    obtain ⟨c, hc⟩ := ih fun y hy => o y (List.mem_cons_of_mem _ hy)
    obtain ⟨p, hp⟩ := o x List.mem_cons_self
    exact ⟨_, (Cut.one hp).app hc⟩
theorem least_ex (G : Good F) (o : Over F l) : ∃ m, Least F l m := by
  obtain ⟨c0, h0⟩ := cut_ex o
  have go : ∀ n : Nat, ∀ c, Cut F l c → (fee c).toNat = n → ∃ m, Least F l m := by
    intro n
    induction n using Nat.strongRecOn with
    | ind n ih =>
      intro c hc hn
      by_cases hx : ∃ d, Cut F l d ∧ fee d < fee c
      · obtain ⟨d, hd, lt⟩ := hx
        have := fee_pos G d hd.1
        exact ih (fee d).toNat (by omega) d hd rfl
      · refine ⟨fee c, ⟨c, hc, rfl⟩, fun d hd => ?_⟩
        by_cases q : fee c ≤ fee d
        · exact q
        · exact absurd ⟨d, hd, by omega⟩ hx
  exact go _ c0 h0 rfl
theorem lp_least (G : Good F) (o : Over F l) : Least F l (lp F l) := by
  obtain ⟨m, h⟩ := least_ex G o
  rw [lp_of h]
  exact h
theorem lp_nil (G : Good F) : lp F [] = 0 := lp_of ⟨⟨[], Cut.nil, rfl⟩, fun c hc => fee_pos G c hc.1⟩
theorem lp_le (G : Good F) (h : Cut F l c) (o : Over F l) : lp F l ≤ fee c := (lp_least G o).2 c h
theorem lp_cut (G : Good F) (o : Over F l) : ∃ c, Cut F l c ∧ fee c = lp F l := (lp_least G o).1
theorem Over.app (h : Over F a) (k : Over F b) : Over F (a ++ b) := fun c hc => by
  rcases List.mem_append.mp hc with q | q
  · exact h c q
  · exact k c q
theorem Over.left (h : Over F (a ++ b)) : Over F a := fun c hc => h c (List.mem_append_left _ hc)
theorem Over.right (h : Over F (a ++ b)) : Over F b := fun c hc => h c (List.mem_append_right _ hc)
theorem Over.take (h : Over F l) (i : Nat) : Over F (l.take i) := fun c hc => h c (List.mem_of_mem_take hc)
theorem Over.drop (h : Over F l) (i : Nat) : Over F (l.drop i) := fun c hc => h c (List.mem_of_mem_drop hc)
theorem lp_add (G : Good F) (ha : Over F a) (hb : Over F b) : lp F (a ++ b) ≤ lp F a + lp F b := by
  obtain ⟨c, hc, e1⟩ := lp_cut G ha
  obtain ⟨d, hd, e2⟩ := lp_cut G hb
  have := lp_le G (hc.app hd) (ha.app hb)
  rw [fee_app, e1, e2] at this
  exact this
theorem lp_piece (G : Good F) (h : F z = some p) : lp F (cs z) ≤ p := by
  have := lp_le G (Cut.one h) (G.cov z p h)
  rwa [fee_one] at this
theorem lp_app (G : Good F) (ha : Over F a) (h : F z = some p) : lp F (a ++ cs z) ≤ lp F a + p := by
  have h1 := lp_add G ha (G.cov z p h)
  have h2 := lp_piece G h
  omega
/-- the last piece of a cheapest cut -/
theorem lp_last (G : Good F) (o : Over F l) (ne : l ≠ []) : ∃ z p a, F z = some p ∧ l = a ++ cs z ∧ lp F l = lp F a + p := by
  obtain ⟨c, hc, e⟩ := lp_cut G o
  have nc : c ≠ [] := fun q => ne (by rw [← hc.2, q]; rfl)
  obtain ⟨d, q, rfl⟩ : ∃ d q, c = d ++ [q] := ⟨c.dropLast, c.getLast nc, (List.dropLast_concat_getLast nc).symm⟩
  have hq := hc.1 q (List.mem_append_right _ (List.mem_singleton.mpr rfl))
  have hl : l = (d.map fun p => cs p.1).flatten ++ cs q.1 := by
    rw [← hc.2, List.map_append, List.flatten_append]
    simp
  have hd : Cut F (d.map fun p => cs p.1).flatten d := ⟨fun p hp => hc.1 p (List.mem_append_left _ hp), rfl⟩
  have oa : Over F (d.map fun p => cs p.1).flatten := by
    rw [hl] at o
    exact o.left
  refine ⟨q.1, q.2, _, hq, hl, ?_⟩
  have h1 := lp_le G hd oa
  have h2 := lp_app G oa hq
  rw [← hl] at h2
  rw [fee_app] at e
  have h3 : fee [q] = q.2 := fee_one (z := q.1)
  rw [h3] at e
  omega
/-- one step of the row of cheapest prices -/
theorem lp_step (G : Good F) (o : Over F l) (ne : l ≠ []) {ys : List Int} (hin : ∀ y ∈ ys, ∃ z p a, F z = some p ∧ l = a ++ cs z ∧ y = lp F a + p)
    (hall : ∀ z p a, F z = some p → l = a ++ cs z → lp F a + p ∈ ys) (hm : m ∈ ys) (hl : ∀ y ∈ ys, m ≤ y) : m = lp F l := by
  obtain ⟨z, p, a, h1, h2, h3⟩ := lp_last G o ne
  have h4 := hl _ (hall z p a h1 h2)
  obtain ⟨z', p', a', h5, h6, h7⟩ := hin m hm
  have h8 := lp_app G (a := a') (by rw [h6] at o; exact o.left) h5
  rw [← h6] at h8
  omega
/-- dearer on no piece, dearer on no text -/
theorem lp_mono (G1 : Good F1) (G2 : Good F2) (h : ∀ z p, F2 z = some p → Over F1 (cs z) ∧ lp F1 (cs z) ≤ p) (o1 : Over F1 l) (o2 : Over F2 l) : lp F1 l ≤ lp F2 l := by
  obtain ⟨c, hc, e⟩ := lp_cut G2 o2
  rw [← e]
  have go : ∀ (c : Ps) (l : List Nat), Cut F2 l c → Over F1 l → lp F1 l ≤ fee c := by
    intro c
    induction c with
    | nil =>
      intro l hc _
      rw [← hc.2]
      exact Int.le_of_eq (lp_nil G1)
    | cons q r ih =>
      intro l hc ol
      have hl : l = cs q.1 ++ (r.map fun p => cs p.1).flatten := hc.2.symm
      rw [hl] at ol ⊢
      obtain ⟨h1, h2⟩ := h _ _ (hc.1 q List.mem_cons_self)
      have h3 := ih _ ⟨fun p hp => hc.1 p (List.mem_cons_of_mem _ hp), rfl⟩ ol.right
      have h4 := lp_add G1 ol.left ol.right
      rw [fee_cons]
      omega
  exact go c l hc o1
end
/-- the tariff of a dict -/
def tfD (kvs : List (Key × V)) : Tf := fun z => match valV kvs (Sum.inr z) with | some (.int p) => some p | _ => none
theorem tf_some {kvs : List (Key × V)} {z : Str} {p : Int} : tfD kvs z = some p ↔ valV kvs (Sum.inr z) = some (.int p) := by
  unfold tfD
  constructor
  · intro h
    split at h
    · rename_i q e
      rw [e, Option.some.inj h]
    · cases h
  · intro h
    rw [h]
theorem ks_mem {kvs : List (Key × V)} {z : Str} : z ∈ keyStrs kvs ↔ (Sum.inr z : Key) ∈ kvs.map (·.1) := by
  unfold keyStrs
  rw [List.mem_filterMap, List.mem_map]
  constructor
  · rintro ⟨⟨k, v⟩, h1, h2⟩
    cases k with
    | inl i => cases h2
    | inr y =>
      cases h2
      exact ⟨_, h1, rfl⟩
  · rintro ⟨⟨k, v⟩, h1, h2⟩
    dsimp only at h2
    subst h2
    exact ⟨_, h1, rfl⟩
theorem good_of {kvs : List (Key × V)} (av : arePrices kvs = true) : Good (tfD kvs) := by
  obtain ⟨_, al, _, fs⟩ := ap_parts av
  have key : ∀ {z p}, tfD kvs z = some p → z ∈ keyStrs kvs := fun h => ks_mem.mpr (valV_in (tf_some.mp h))
  refine ⟨fun z p h => ?_, fun z p h => ?_, fun z p h c hc => ?_⟩
  · obtain ⟨h1, h2, h3⟩ := price_of_key al (key h)
    rw [tf_some.mp h] at h1
    have : p = priceIn kvs z := V.int.inj (Option.some.inj h1)
    rw [this]
    exact ⟨h2, h3⟩
  · obtain ⟨h1, h2, _⟩ := keyStrs_piece al z (key h)
    exact ⟨h1, h2⟩
  · have h1 := List.all_eq_true.mp fs c (List.mem_flatten.mpr ⟨cs z, List.mem_map.mpr ⟨z, key h, rfl⟩, hc⟩)
    have h2 : (Sum.inr (ch c) : Key) ∈ kvs.map (·.1) := by
      cases e : valV kvs (Sum.inr (ch c)) with
      | none =>
        rw [e] at h1
        cases h1
      | some v => exact valV_in e
    exact ⟨_, tf_some.mpr (price_of_key al (ks_mem.mpr h2)).1⟩

theorem valV_mem {kvs : List (Key × V)} {k : Key} {v : V} (h : valV kvs k = some v) : (k, v) ∈ kvs := by
  unfold valV at h
  cases e : kvs.find? (fun kv => decide (kv.1 = k)) with
  | none =>
    rw [e] at h
    cases h
  | some kv =>
    rw [e] at h
    have h1 : kv.2 = v := Option.some.inj h
    have h2 : kv.1 = k := by simpa using List.find?_some e
    have h3 := List.mem_of_find?_eq_some e
    rw [← h1, ← h2]
    exact h3
/-- a dict of texts and prices -/
structure Tar (kvs : List (Key × V)) : Prop where
  good : Good (tfD kvs)
  mem : ∀ kv ∈ kvs, ∃ z p, kv = (Sum.inr z, V.int p) ∧ tfD kvs z = some p
  len : kvs.length ≤ 1000
theorem tar_of {kvs : List (Key × V)} (av : arePrices kvs = true) (nd : (kvs.map (·.1)).Nodup) : Tar kvs := by
  obtain ⟨⟨n1, n2⟩, al, _, fs⟩ := ap_parts av
  refine ⟨good_of av, fun kv hkv => ?_, by omega⟩
  have h1 := List.all_eq_true.mp al kv hkv
  rw [Bool.and_eq_true] at h1
  obtain ⟨z, ez, _⟩ := piece_key h1.1
  have h3 := val_nodup nd kv hkv
  rw [ez] at h3
  have hz : z ∈ keyStrs kvs := ks_mem.mpr (List.mem_map.mpr ⟨kv, hkv, ez⟩)
  obtain ⟨h4, _⟩ := price_of_key al hz
  rw [h4] at h3
  refine ⟨z, priceIn kvs z, ?_, tf_some.mpr h4⟩
  rw [Option.some.inj h3, ← ez]
theorem val_fun {g : Str → Int} : ∀ {ys : List Str} {z : Str}, valV (ys.map fun y => ((Sum.inr y : Key), V.int (g y))) (Sum.inr z) = if z ∈ ys then some (.int (g z)) else none
  | [], z => by
    rw [if_neg (List.not_mem_nil)]
    rfl
  | y :: r, z => by
    by_cases h : y = z
    · subst h
      rw [if_pos List.mem_cons_self, List.map_cons, valV_pos rfl]
    · rw [List.map_cons, valV_neg (fun e => h (Sum.inr.inj e)), val_fun]
      by_cases q : z ∈ r
      · rw [if_pos q, if_pos (List.mem_cons_of_mem _ q)]
      · rw [if_neg q, if_neg fun m => ?_]
        rcases List.mem_cons.mp m with e | e
        · exact h e.symm
        · exact q e
theorem kvOf_ps {kvs : List (Key × V)} {ys : List Str} : kvOf (psOf kvs ys) = ys.map fun y => ((Sum.inr y : Key), V.int (priceIn kvs y)) := by
  unfold kvOf psOf
  rw [List.map_map]
  rfl
theorem tf_psOf {kvs : List (Key × V)} {ys : List Str} (al : (kvs.all fun kv => isPiece (kV kv.1) && isPrice kv.2) = true) (pm : ys.Perm (keyStrs kvs)) : tfD (kvOf (psOf kvs ys)) = tfD kvs := by
  funext z
  unfold tfD
  rw [kvOf_ps, val_fun]
  by_cases h : z ∈ ys
  · rw [if_pos h, (price_of_key al (pm.mem_iff.mp h)).1]
  · rw [if_neg h, valV_none fun m => h (pm.mem_iff.mpr (ks_mem.mpr m))]
theorem tar_book {kvs : List (Key × V)} {ys : List Str} (av : arePrices kvs = true) (pm : ys.Perm (keyStrs kvs)) : Tar (kvOf (psOf kvs ys)) := by
  obtain ⟨⟨n1, n2⟩, al, _, fs⟩ := ap_parts av
  have e := tf_psOf al pm
  refine ⟨by rw [e]; exact good_of av, fun kv hkv => ?_, ?_⟩
  · rw [kvOf_ps] at hkv
    obtain ⟨y, hy, rfl⟩ := List.mem_map.mp hkv
    refine ⟨y, _, rfl, ?_⟩
    rw [e]
    exact tf_some.mpr (price_of_key al (pm.mem_iff.mp hy)).1
  · have h := congrArg List.length (keys_of al)
    rw [List.length_map, List.length_map] at h
    rw [kvOf_ps, List.length_map, pm.length_eq]
    omega
/-- a book as Book(prices) made it -/
structure Book1 (C : Addr) (H : Hp) (b : Addr) (kvs : List (Key × V)) : Prop where
  av : arePrices kvs = true
  nd : (kvs.map (·.1)).Nodup
  ex : ∃ ys L M dx d tp ta od, ys.Perm (keyStrs kvs) ∧ sortedS ys = true ∧ BookAt C H b (psOf kvs ys) L M dx d tp ta od
theorem Book1.same {C : Addr} {H H' : Hp} {b : Addr} {kvs : List (Key × V)} (B : Book1 C H b kvs) (s : Same H H') : Book1 C H' b kvs := by
  obtain ⟨ys, L, M, dx, d, tp, ta, od, h1, h2, h3⟩ := B.ex
  exact ⟨B.av, B.nd, ys, L, M, dx, d, tp, ta, od, h1, h2, h3.same s⟩
theorem kvOk_of {K : PySem.W.Frag} {H : Hp} {kvs : List (Key × V)} (al : (kvs.all fun kv => isPiece (kV kv.1) && isPrice kv.2) = true) : KvOk K H kvs := by
  intro kv hkv
  have h1 := List.all_eq_true.mp al kv hkv
  rw [Bool.and_eq_true] at h1
  obtain ⟨z, ez, _, h2, _⟩ := piece_key h1.1
  constructor
  · rw [ez]
    show z.length ≤ 100000
    rw [← cs_len]
    omega
  · have h3 := h1.2
    generalize kv.2 = v at h3
    cases v with
    | int p => exact tydS_int p
    | _ => cases h3
/-- Book(prices), as pe_mk asks -/
theorem made_book {C a x dx : Addr} {K : PySem.W.Frag} {H : Hp} {kvs : List (Key × V)} {Q : VK} {E : XK} (hx : H x = none) (hdx : H dx = none) (ha : H a = some (.dK kvs)) (av : arePrices kvs = true) (nd : (kvs.map (·.1)).Nodup) (q : ∀ H', Same H H' → Book1 C H' x kvs → Q .non H') :
    spBook C K (.ref x :: ([.ref a] ++ [])) (upd (upd H dx (.own x)) x (.ins C dx [])) Q E := by
  refine ⟨x, dx, a, kvs, rfl, upd_same, ?_, kvOk_of (ap_parts av).2.1, av, nd, ?_⟩
  · rw [upd_ne (ne_of_none ha hx), upd_ne (ne_of_none ha hdx)]
    exact ha
  · intro H' ys L M d tp ta od pm so B k
    refine q H' (fun c o e => k c o ?_ (ne_of_none e hx)) ⟨av, nd, ys, L, M, dx, d, tp, ta, od, pm, so, B⟩
    rw [upd_ne (ne_of_none e hx), upd_ne (ne_of_none e hdx)]
    exact e
/-! ### ends of texts -/
theorem ends_iff {x y : Str} : Txt.endswith x y = true ↔ ∃ a, cs x = a ++ cs y := by
  have l1 := cs_len x
  have l2 := cs_len y
  unfold Txt.endswith
  rw [StrLaws.subAt_eq, Nat.zero_add, Bool.and_eq_true, decide_eq_true_eq, beq_iff_eq]
  constructor
  · rintro ⟨h1, h2⟩
    refine ⟨(cs x).take (x.length - y.length), ?_⟩
    have h3 : ((cs x).drop (x.length - y.length)).take y.length = (cs x).drop (x.length - y.length) := List.take_of_length_le (by rw [List.length_drop]; omega)
    have h4 : (cs x).drop (x.length - y.length) = cs y := h3.symm.trans h2
    rw [← h4, List.take_append_drop]
  · rintro ⟨a, h⟩
    have h0 := congrArg List.length h
    rw [List.length_append] at h0
    refine ⟨by omega, ?_⟩
    show ((cs x).drop (x.length - y.length)).take y.length = cs y
    have e : x.length - y.length = a.length := by omega
    rw [h, e, List.drop_left, List.take_of_length_le (by omega)]
/-! ### rows of cheapest prices -/
noncomputable def rowV (F : Tf) (l : List Nat) (n : Nat) : List V := (List.range n).map fun j => V.int (lp F (l.take j))
theorem rowV_len {F : Tf} {l : List Nat} {n : Nat} : (rowV F l n).length = n := by
  unfold rowV
  rw [List.length_map, List.length_range]
theorem rowV_at {F : Tf} {l : List Nat} {n j : Nat} (h : j < n) : (rowV F l n)[j]? = some (.int (lp F (l.take j))) := by
  unfold rowV
  rw [List.getElem?_map, List.getElem?_range h]
  rfl
theorem rowV_succ {F : Tf} {l : List Nat} {n : Nat} : rowV F l (n + 1) = rowV F l n ++ [.int (lp F (l.take n))] := by
  unfold rowV
  rw [List.range_succ, List.map_append]
  rfl
theorem rowV_one {F : Tf} {l : List Nat} (G : Good F) : rowV F l 1 = [.int 0] := by
  show [V.int (lp F (l.take 0))] = _
  rw [List.take_zero, lp_nil G]
theorem atI_last {α : Type} {xs : List α} {v : α} : atI (xs ++ [v]) (-1) = some v := by
  have e : ixN (xs ++ [v]).length (-1) = some xs.length := by
    rw [List.length_append, List.length_singleton]
    unfold ixN
    rw [if_neg (by omega), if_pos (by omega)]
    congr 1
    omega
  unfold atI
  rw [e]
  show (xs ++ [v])[xs.length]? = some v
  simp
noncomputable def candG (F : Tf) (l : List Nat) (e : Nat) (st : Str) : Key × V → Option Int := fun kv => match kv with
  | (.inr y, .int p) => if Txt.endswith st y = true then some (lp F (l.take (e - y.length)) + p) else none
  | _ => none
theorem cand_min {kvs : List (Key × V)} {l : List Nat} {e : Nat} {st : Str} (T : Tar kvs) (ov : Over (tfD kvs) l) (hst : cs st = l.take e) (he : 1 ≤ e) (hel : e ≤ l.length) :
    0 < (kvs.filterMap (candG (tfD kvs) l e st)).length ∧ ∀ m ∈ kvs.filterMap (candG (tfD kvs) l e st), (∀ y ∈ kvs.filterMap (candG (tfD kvs) l e st), m ≤ y) → m = lp (tfD kvs) (l.take e) := by
  have le : (l.take e).length = e := by
    rw [List.length_take]
    omega
  have ne : l.take e ≠ [] := fun q => by
    rw [q] at le
    simp at le
    omega
  have ove : Over (tfD kvs) (l.take e) := ov.take e
  have part : ∀ {a : List Nat} {y : Str}, l.take e = a ++ cs y → a = l.take (e - y.length) := by
    intro a y h
    have h1 := congrArg List.length h
    rw [List.length_append, le, cs_len] at h1
    have h2 : (l.take e).take (e - y.length) = a := by
      rw [h, List.take_append_of_le_length (by omega), List.take_of_length_le (by omega)]
    rw [← h2, List.take_take]
    congr 1
    omega
  have hin : ∀ y ∈ kvs.filterMap (candG (tfD kvs) l e st), ∃ z p a, tfD kvs z = some p ∧ l.take e = a ++ cs z ∧ y = lp (tfD kvs) a + p := by
    intro y hy
    obtain ⟨kv, hkv, g⟩ := List.mem_filterMap.mp hy
    obtain ⟨z, p, rfl, hp⟩ := T.mem kv hkv
    have g' : (if Txt.endswith st z = true then some (lp (tfD kvs) (l.take (e - z.length)) + p) else none) = some y := g
    by_cases q : Txt.endswith st z = true
    · rw [if_pos q] at g'
      obtain ⟨a, ha⟩ := ends_iff.mp q
      rw [hst] at ha
      refine ⟨z, p, a, hp, ha, ?_⟩
      rw [part ha]
      exact (Option.some.inj g').symm
    · rw [if_neg q] at g'
      cases g'
  have hall : ∀ z p a, tfD kvs z = some p → l.take e = a ++ cs z → lp (tfD kvs) a + p ∈ kvs.filterMap (candG (tfD kvs) l e st) := by
    intro z p a hp ha
    refine List.mem_filterMap.mpr ⟨(Sum.inr z, V.int p), valV_mem (tf_some.mp hp), ?_⟩
    show (if Txt.endswith st z = true then some (lp (tfD kvs) (l.take (e - z.length)) + p) else none) = _
    rw [if_pos (ends_iff.mpr ⟨a, by rw [hst]; exact ha⟩), ← part ha]
  constructor
  · obtain ⟨z, p, a, h1, h2, _⟩ := lp_last T.good ove ne
    exact List.length_pos_of_mem (hall z p a h1 h2)
  · intro m hm hl
    exact lp_step T.good ove ne hin hall hm hl
theorem fm_int {α : Type} {g : α → Option Int} {l : List α} : l.filterMap (fun a => (g a).map V.int) = (l.filterMap g).map V.int := by
  rw [List.map_filterMap]
theorem same_mut {H H' : Hp} {a : Addr} {o : HO} (s : Same H H') (h : H a = none) : Same H (upd H' a o) := fun b u e => by
  rw [upd_ne (ne_of_none e h)]
  exact s _ _ e
theorem cs_cutTo {z : Str} {i : Nat} (h : i ≤ z.length) : cs (cutS z none (some (i : Int))) = (cs z).take i := by
  rw [cs_cut, sIx_pos (by omega)]
  show ((cs z).drop 0).take (min (Int.toNat (i : Int)) z.length - 0) = _
  rw [List.drop_zero, Int.toNat_natCast]
  congr 1
  omega
noncomputable def costF (F : Tf) (l : List Nat) (s : Nat) : Option Int := (F (sOf (l.drop s))).map fun p => lp F (l.take s) + p
noncomputable def costs (F : Tf) (l : List Nat) : List Int := (List.range (l.length - (l.length - 5))).filterMap fun i => costF F l (l.length - 5 + i)
theorem cost_min {F : Tf} {l : List Nat} (G : Good F) (o : Over F l) (ne : l ≠ []) : 0 < (costs F l).length ∧ ∀ m ∈ costs F l, (∀ y ∈ costs F l, m ≤ y) → m = lp F l := by
  have hin : ∀ y ∈ costs F l, ∃ z p a, F z = some p ∧ l = a ++ cs z ∧ y = lp F a + p := by
    intro y hy
    obtain ⟨i, hi, g⟩ := List.mem_filterMap.mp hy
    have g' : (F (sOf (l.drop (l.length - 5 + i)))).map (fun p => lp F (l.take (l.length - 5 + i)) + p) = some y := g
    cases e : F (sOf (l.drop (l.length - 5 + i))) with
    | none =>
      rw [e] at g'
      cases g'
    | some p =>
      rw [e] at g'
      exact ⟨_, p, l.take (l.length - 5 + i), e, by rw [cs_sOf, List.take_append_drop], (Option.some.inj g').symm⟩
  have hall : ∀ z p a, F z = some p → l = a ++ cs z → lp F a + p ∈ costs F l := by
    intro z p a hp ha
    obtain ⟨n1, n2⟩ := G.len z p hp
    have hl := congrArg List.length ha
    rw [List.length_append] at hl
    have e1 : l.length - 5 + (a.length - (l.length - 5)) = a.length := by omega
    refine List.mem_filterMap.mpr ⟨a.length - (l.length - 5), List.mem_range.mpr (by omega), ?_⟩
    show costF F l (l.length - 5 + (a.length - (l.length - 5))) = _
    rw [e1]
    unfold costF
    have e2 : l.drop a.length = cs z := by rw [ha, List.drop_left]
    have e3 : l.take a.length = a := by rw [ha, List.take_left]
    rw [e2, e3, sOf_cs, hp]
    rfl
  constructor
  · obtain ⟨z, p, a, h1, h2, _⟩ := lp_last G o ne
    exact List.length_pos_of_mem (hall z p a h1 h2)
  · intro m hm hl
    exact lp_step G o ne hin hall hm hl
theorem tar_val {kvs : List (Key × V)} (T : Tar kvs) (z : Str) : valV kvs (Sum.inr z) = (tfD kvs z).map V.int := by
  cases e : valV kvs (Sum.inr z : Key) with
  | none =>
    unfold tfD
    rw [e]
    rfl
  | some v =>
    obtain ⟨y, p, e1, e2⟩ := T.mem _ (valV_mem e)
    have e3 : z = y := Sum.inr.inj (congrArg Prod.fst e1)
    subst e3
    rw [e2]
    have e4 : v = V.int p := congrArg Prod.snd e1
    rw [e4]
    rfl
theorem cs_cutAB {z : Str} {a b : Nat} (hab : a ≤ b) (hb : b ≤ z.length) : cs (cutS z (some (a : Int)) (some (b : Int))) = ((cs z).take b).drop a := by
  have e1 : min a z.length = a := by omega
  have e2 : min b z.length = b := by omega
  rw [cs_cut, sIx_pos (by omega), sIx_pos (by omega), Int.toNat_natCast, Int.toNat_natCast, List.drop_take, e1, e2]
theorem cs_cutFrom {z : Str} {a : Nat} (h : a ≤ z.length) : cs (cutS z (some (a : Int)) none) = (cs z).drop a := by
  rw [cs_cut, sIx_pos (by omega), Int.toNat_natCast]
  have e : min a z.length = a := by omega
  rw [e]
  show ((cs z).drop a).take (z.length - a) = _
  exact List.take_of_length_le (by rw [List.length_drop, cs_len]; omega)
theorem max0 (n : Nat) : (if (n : Int) - 5 > 0 then (n : Int) - 5 else 0) = ((n - 5 : Nat) : Int) := by split <;> omega
/-- _law_least, of a dict that is locked or not -/
def spLawLeast : Sp := fun vs H Q _ => ∃ d kvs z, vs = [.ref d, .str z] ∧ Rd H d (.dK kvs) ∧ Tar kvs ∧ Over (tfD kvs) (cs z) ∧ z.length ≤ 10000 ∧ ∀ H', Same H H' → Q (.int (lp (tfD kvs) (cs z))) H'
theorem fm_range_succ {α : Type} {g : Nat → Option α} {j : Nat} : (List.range (j + 1)).filterMap g = (List.range j).filterMap g ++ (g j).toList := by
  rw [List.range_succ, List.filterMap_append]
  congr 1
theorem rd_same {H H' : Hp} {d : Addr} {u : HO} (r : Rd H d u) (s : Same H H') : Rd H' d u := by
  rcases r with h | ⟨od, h⟩
  · exact .inl (s _ _ h)
  · exact .inr ⟨od, s _ _ h⟩
/-! ### tables of cheapest prices -/
structure TblOk (F : Tf) (S : Str → Prop) (kf : List (Key × V)) : Prop where
  val : ∀ z, S z → valV kf (Sum.inr z) = some (.int (lp F (cs z)))
  key : ∀ kv ∈ kf, ∃ z, kv.1 = Sum.inr z ∧ S z
theorem TblOk.congr {F : Tf} {S S' : Str → Prop} {kf : List (Key × V)} (T : TblOk F S kf) (h : ∀ z, S z ↔ S' z) : TblOk F S' kf :=
  ⟨fun z hz => T.val z ((h z).mpr hz), fun kv hkv => (T.key kv hkv).imp fun z q => ⟨q.1, (h z).mp q.2⟩⟩
theorem put_mem {kvs : List (Key × V)} {k : Key} {v : V} {kv : Key × V} (h : kv ∈ putK kvs k v) : kv.1 = k ∨ kv ∈ kvs := by
  unfold putK at h
  by_cases q : (kvs.any fun kv => decide (kv.1 = k)) = true
  · rw [if_pos q] at h
    obtain ⟨x, hx, rfl⟩ := List.mem_map.mp h
    by_cases e : x.1 = k
    · rw [if_pos e]
      exact Or.inl e
    · rw [if_neg e]
      exact Or.inr hx
  · rw [if_neg q] at h
    rcases List.mem_append.mp h with h | h
    · exact Or.inr h
    · rw [List.mem_singleton.mp h]
      exact Or.inl rfl
theorem put_len {kvs : List (Key × V)} {k : Key} {v : V} : (putK kvs k v).length ≤ kvs.length + 1 := by
  unfold putK
  split
  · rw [List.length_map]
    omega
  · rw [List.length_append]
    exact Nat.le_refl _
theorem TblOk.put {F : Tf} {S : Str → Prop} {kf : List (Key × V)} (T : TblOk F S kf) (y : Str) : TblOk F (fun z => S z ∨ z = y) (putK kf (Sum.inr y) (.int (lp F (cs y)))) := by
  refine ⟨fun z hz => ?_, fun kv hkv => ?_⟩
  · rw [valV_put]
    by_cases e : z = y
    · subst e
      rw [if_pos rfl]
    · rw [if_neg fun q => e (Sum.inr.inj q)]
      exact T.val z (hz.resolve_right e)
  · rcases put_mem hkv with h | h
    · exact ⟨y, h, Or.inr rfl⟩
    · obtain ⟨z, h1, h2⟩ := T.key kv h
      exact ⟨z, h1, Or.inl h2⟩
def tv (t : List Nat) : V := .str (sOf t)
def grow (sg : List Nat) (ts : List (List Nat)) : List (List Nat) := ts.flatMap fun t => sg.map fun c => t ++ [c]
def layerL (sg : List Nat) : Nat → List (List Nat)
  | 0 => [[]]
  | n + 1 => grow sg (layerL sg n)
theorem grow_len {sg : List Nat} : ∀ {ts : List (List Nat)}, (grow sg ts).length = ts.length * sg.length
  | [] => by simp [grow]
  | t :: r => by
    have ih := grow_len (sg := sg) (ts := r)
    unfold grow at ih ⊢
    rw [List.flatMap_cons, List.length_append, ih, List.length_map, List.length_cons, Nat.add_mul]
    omega
theorem layer_len {sg : List Nat} (n : Nat) : (layerL sg n).length = sg.length ^ n := by
  induction n with
  | zero => rfl
  | succ n ih => rw [layerL, grow_len, ih, Nat.pow_succ]
theorem layer_le {sg : List Nat} {n : Nat} (h4 : sg.length ≤ 4) (h8 : n ≤ 8) : (layerL sg n).length ≤ 65536 := by
  rw [layer_len]
  calc sg.length ^ n ≤ 4 ^ n := Nat.pow_le_pow_left h4 n
    _ ≤ 4 ^ 8 := Nat.pow_le_pow_right (by decide) h8
    _ = 65536 := by decide
theorem layer_mem {sg : List Nat} : ∀ {n : Nat} {t : List Nat}, t ∈ layerL sg n ↔ t.length = n ∧ ∀ c ∈ t, c ∈ sg
  | 0, t => by
    show t ∈ [[]] ↔ _
    rw [List.mem_singleton]
    constructor
    · rintro rfl
      exact ⟨rfl, fun _ h => (List.not_mem_nil h).elim⟩
    · rintro ⟨h, _⟩
      exact List.eq_nil_of_length_eq_zero h
  | n + 1, t => by
    show t ∈ grow sg (layerL sg n) ↔ _
    unfold grow
    rw [List.mem_flatMap]
    constructor
    · rintro ⟨u, hu, h⟩
      obtain ⟨c, hc, rfl⟩ := List.mem_map.mp h
      obtain ⟨h1, h2⟩ := layer_mem.mp hu
      refine ⟨by rw [List.length_append, h1]; rfl, fun d hd => ?_⟩
      rcases List.mem_append.mp hd with q | q
      · exact h2 d q
      · rw [List.mem_singleton.mp q]
        exact hc
    · rintro ⟨h1, h2⟩
      have ne : t ≠ [] := fun e => by
        rw [e] at h1
        cases h1
      refine ⟨t.dropLast, layer_mem.mpr ⟨by rw [List.length_dropLast, h1]; rfl, fun c hc => h2 c (List.dropLast_subset t hc)⟩, List.mem_map.mpr ⟨t.getLast ne, h2 _ (List.getLast_mem ne), List.dropLast_concat_getLast ne⟩⟩
def InAll (sg : List Nat) (n : Nat) (z : Str) : Prop := (cs z).length ≤ n ∧ ∀ c ∈ cs z, c ∈ sg
theorem inAll_zero {F : Tf} {sg : List Nat} (G : Good F) : TblOk F (InAll sg 0) [(Sum.inr (sOf []), .int 0)] := by
  refine ⟨fun z hz => ?_, fun kv hkv => ?_⟩
  · have e : z = sOf [] := str_ext (List.eq_nil_of_length_eq_zero (Nat.le_zero.mp hz.1))
    rw [e, valV_pos rfl, cs_sOf, lp_nil G]
  · rw [List.mem_singleton.mp hkv]
    exact ⟨_, rfl, Nat.le_refl _, fun c h => (List.not_mem_nil (a := c) h).elim⟩
theorem inAll_succ {sg : List Nat} {n : Nat} {z : Str} : InAll sg n z ∨ z ∈ (layerL sg (n + 1)).map sOf ↔ InAll sg (n + 1) z := by
  constructor
  · rintro (⟨h1, h2⟩ | h)
    · exact ⟨by omega, h2⟩
    · obtain ⟨t, ht, rfl⟩ := List.mem_map.mp h
      obtain ⟨h1, h2⟩ := layer_mem.mp ht
      exact ⟨by rw [cs_sOf]; omega, by rw [cs_sOf]; exact h2⟩
  · rintro ⟨h1, h2⟩
    rcases Nat.lt_or_ge n (cs z).length with h | h
    · exact Or.inr (List.mem_map.mpr ⟨cs z, layer_mem.mpr ⟨by omega, h2⟩, sOf_cs z⟩)
    · exact Or.inl ⟨h, h2⟩
theorem grow_take {sg : List Nat} {ts : List (List Nat)} {j : Nat} {t : List Nat} (h : ts[j]? = some t) : grow sg (ts.take (j + 1)) = grow sg (ts.take j) ++ sg.map fun c => t ++ [c] := by
  rw [List.take_add_one, h]
  unfold grow
  rw [List.flatMap_append]
  simp
theorem emp : Str.ofString "" = sOf [] := str_ext (by rfl)
theorem tv_at {ts : List (List Nat)} {j : Nat} {x : V} (h : (ts.map tv)[j]? = some x) : ∃ t, ts[j]? = some t ∧ x = tv t := by
  rw [List.getElem?_map] at h
  cases e : ts[j]? with
  | none =>
    rw [e] at h
    cases h
  | some t =>
    rw [e] at h
    exact ⟨t, rfl, (Option.some.inj h).symm⟩
theorem tv_app (t : List Nat) (c : Nat) : V.str (sOf t ++ ch c) = tv (t ++ [c]) := by
  unfold tv
  congr 1
  exact str_ext (by rw [cs_app, cs_sOf, cs_sOf])
theorem tbl_take {F : Tf} {S : Str → Prop} {kf : List (Key × V)} {ts : List (List Nat)} {j : Nat} {t : List Nat} (h : ts[j]? = some t) (T : TblOk F (fun z => S z ∨ z ∈ (ts.take j).map sOf) kf) :
    TblOk F (fun z => S z ∨ z ∈ (ts.take (j + 1)).map sOf) (putK kf (Sum.inr (sOf t)) (.int (lp F t))) := by
  have h1 := T.put (sOf t)
  rw [cs_sOf] at h1
  refine h1.congr fun z => ?_
  rw [List.take_add_one, h, List.map_append, List.mem_append]
  show (S z ∨ _) ∨ z = sOf t ↔ S z ∨ _ ∨ z ∈ [sOf t]
  rw [List.mem_singleton, or_assoc]
/-- _law_all -/
def spAll (K : PySem.W.Frag) : Sp := fun vs H Q _ => ∃ d kvs sa sg n, vs = [.ref d, .ref sa, .int ((n : Nat) : Int)] ∧ H d = some (.dK kvs) ∧ Tar kvs ∧ SqL K H sa (sg.map chV) ∧ (∀ c ∈ sg, ∃ p, tfD kvs (ch c) = some p) ∧ sg.length ≤ 4 ∧ n ≤ 8 ∧
  ∀ fo kf H', H fo = none → H' fo = some (.dK kf) → TblOk (tfD kvs) (InAll sg n) kf → kf.length ≤ 600000 → Same H H' → Q (.ref fo) H'
/-! ### dicts of prices while they are made -/
theorem keys_nd' {kvs : List (Key × V)} (nd : (kvs.map (·.1)).Nodup) (al : (kvs.all fun kv => isPiece (kV kv.1) && isPrice kv.2) = true) : (keyStrs kvs).Nodup := by
  rw [keys_of al] at nd
  exact nd_of_map nd
structure PrOk (sg : List Nat) (kvs : List (Key × V)) : Prop where
  mem : ∀ kv ∈ kvs, ∃ z p, kv = (Sum.inr z, V.int p) ∧ (1 ≤ (cs z).length ∧ (cs z).length ≤ 5) ∧ (∀ c ∈ cs z, c ∈ sg) ∧ 1 ≤ p ∧ p ≤ 99
  nd : (kvs.map (·.1)).Nodup
theorem PrOk.nil {sg : List Nat} : PrOk sg [] := ⟨fun _ h => (List.not_mem_nil h).elim, List.nodup_nil⟩
theorem put_keys {kvs : List (Key × V)} {k : Key} {v : V} : (putK kvs k v).map (·.1) = if (valV kvs k).isSome = true then kvs.map (·.1) else kvs.map (·.1) ++ [k] := by
  unfold putK
  rw [valV_any]
  split
  · rw [List.map_map]
    refine List.map_congr_left fun kv _ => ?_
    show (if kv.1 = k then (kv.1, v) else kv).1 = kv.1
    split <;> rfl
  · rw [List.map_append]
    rfl
theorem put_val_mem {kvs : List (Key × V)} {k : Key} {v : V} {kv : Key × V} (h : kv ∈ putK kvs k v) : kv = (k, v) ∨ kv ∈ kvs := by
  unfold putK at h
  by_cases q : (kvs.any fun kv => decide (kv.1 = k)) = true
  · rw [if_pos q] at h
    obtain ⟨x, hx, rfl⟩ := List.mem_map.mp h
    by_cases e : x.1 = k
    · rw [if_pos e, e]
      exact Or.inl rfl
    · rw [if_neg e]
      exact Or.inr hx
  · rw [if_neg q] at h
    rcases List.mem_append.mp h with h | h
    · exact Or.inr h
    · exact Or.inl (List.mem_singleton.mp h)
theorem PrOk.put {sg : List Nat} {kvs : List (Key × V)} (P : PrOk sg kvs) {z : Str} {p : Int} (h1 : 1 ≤ (cs z).length ∧ (cs z).length ≤ 5) (h2 : ∀ c ∈ cs z, c ∈ sg) (h3 : 1 ≤ p ∧ p ≤ 99) : PrOk sg (putK kvs (Sum.inr z) (.int p)) := by
  refine ⟨fun kv hkv => ?_, ?_⟩
  · rcases put_val_mem hkv with h | h
    · exact ⟨z, p, h, h1, h2, h3⟩
    · exact P.mem kv h
  · rw [put_keys]
    split
    · exact P.nd
    · rename_i q
      refine List.nodup_append.mpr ⟨P.nd, by simp, fun a ha b hb e => ?_⟩
      rw [List.mem_singleton.mp hb] at e
      rw [e] at ha
      refine q ?_
      cases e2 : valV kvs (Sum.inr z : Key) with
      | none => exact absurd ha (valV_not e2)
      | some v => rfl
theorem PrOk.merge {sg : List Nat} : ∀ {more kvs : List (Key × V)}, PrOk sg kvs → (∀ kv ∈ more, ∃ z p, kv = (Sum.inr z, V.int p) ∧ (1 ≤ (cs z).length ∧ (cs z).length ≤ 5) ∧ (∀ c ∈ cs z, c ∈ sg) ∧ 1 ≤ p ∧ p ≤ 99) →
    PrOk sg (mergeK kvs more) ∧ (mergeK kvs more).length ≤ kvs.length + more.length
  | [], kvs, P, _ => ⟨P, Nat.le_refl _⟩
  | a :: r, kvs, P, h => by
    obtain ⟨z, p, rfl, h1, h2, h3⟩ := h a List.mem_cons_self
    obtain ⟨q1, q2⟩ := PrOk.merge (more := r) (P.put h1 h2 h3) fun kv hkv => h kv (List.mem_cons_of_mem _ hkv)
    refine ⟨q1, Nat.le_trans q2 ?_⟩
    have := put_len (kvs := kvs) (k := Sum.inr z) (v := .int p)
    rw [List.length_cons]
    omega
theorem merge_has {k : Key} : ∀ {more kvs : List (Key × V)}, (k ∈ more.map (·.1) ∨ (valV kvs k).isSome = true) → (valV (mergeK kvs more) k).isSome = true
  | [], kvs, h => by
    rcases h with h | h
    · simp at h
    · exact h
  | a :: r, kvs, h => by
    refine merge_has (more := r) (kvs := putK kvs a.1 a.2) ?_
    rw [valV_put]
    by_cases e : k = a.1
    · exact Or.inr (by rw [if_pos e]; rfl)
    · rw [if_neg e]
      rcases h with h | h
      · rcases List.mem_cons.mp h with h | h
        · exact absurd h e
        · exact Or.inl h
      · exact Or.inr h
theorem nd_sub_len {α : Type} [BEq α] [LawfulBEq α] : ∀ {l1 l2 : List α}, l1.Nodup → (∀ a ∈ l1, a ∈ l2) → l1.length ≤ l2.length
  | [], _, _, _ => Nat.zero_le _
  | a :: r, l2, nd, h => by
    obtain ⟨h1, h2⟩ := List.nodup_cons.mp nd
    have h3 := nd_sub_len (l1 := r) (l2 := l2.erase a) h2 fun b hb => by
      have nb : b ≠ a := fun e => h1 (e ▸ hb)
      exact (List.mem_erase_of_ne nb).mpr (h b (List.mem_cons_of_mem _ hb))
    have h4 := h a List.mem_cons_self
    rw [List.length_erase_of_mem h4] at h3
    have := List.length_pos_of_mem h4
    rw [List.length_cons]
    omega
theorem PrOk.tf {sg : List Nat} {kvs : List (Key × V)} (P : PrOk sg kvs) {z : Str} : z ∈ keyStrs kvs ↔ ∃ p, tfD kvs z = some p := by
  rw [ks_mem]
  constructor
  · intro h
    obtain ⟨kv, hkv, e⟩ := List.mem_map.mp h
    obtain ⟨y, p, rfl, _⟩ := P.mem kv hkv
    have h2 := val_nodup P.nd _ hkv
    dsimp only at e h2
    cases e
    exact ⟨p, tf_some.mpr h2⟩
  · rintro ⟨p, h⟩
    exact valV_in (tf_some.mp h)
/-- a dict of prices over the signs sg, all of them in it -/
theorem PrOk.right {sg : List Nat} {kvs : List (Key × V)} (P : PrOk sg kvs) (hs : ∀ c ∈ sg, (valV kvs (Sum.inr (ch c))).isSome = true) (hl : ∀ c ∈ sg, lett c = true) (n4 : sg.length ≤ 4) (n0 : 1 ≤ sg.length) (n12 : kvs.length ≤ 12) :
    arePrices kvs = true ∧ ∀ c, (∃ p, tfD kvs (ch c) = some p) ↔ c ∈ sg := by
  have al : (kvs.all fun kv => isPiece (kV kv.1) && isPrice kv.2) = true := by
    rw [List.all_eq_true]
    intro kv hkv
    obtain ⟨z, p, rfl, h1, h2, h3⟩ := P.mem kv hkv
    rw [Bool.and_eq_true]
    refine ⟨?_, ?_⟩
    · show isPiece (.str z) = true
      rw [isPiece_of fun c hc => hl c (h2 c hc), decide_eq_true h1.1, decide_eq_true h1.2]
      rfl
    · show (decide (p.natAbs < 10 ^ 60) && (decide (1 ≤ p) && decide (p ≤ 99))) = true
      rw [decide_eq_true (by omega : p.natAbs < 10 ^ 60), decide_eq_true h3.1, decide_eq_true h3.2]
      rfl
  have key : ∀ {z}, z ∈ keyStrs kvs → (∀ c ∈ cs z, c ∈ sg) := by
    intro z hz
    obtain ⟨kv, hkv, e⟩ := List.mem_map.mp (ks_mem.mp hz)
    obtain ⟨y, p, rfl, _, h2, _⟩ := P.mem kv hkv
    dsimp only at e
    cases e
    exact h2
  refine ⟨?_, fun c => ⟨fun ⟨p, h⟩ => key (ks_mem.mpr (valV_in (tf_some.mp h))) c (by simp [cs]), fun h => ?_⟩⟩
  · unfold arePrices
    have e1 : 1 ≤ kvs.length := by
      cases sg with
      | nil => simp at n0
      | cons c r =>
        have := hs c List.mem_cons_self
        cases kvs with
        | nil => cases this
        | cons a r => simp
    have e3 : ((keyStrs kvs).filter fun z => decide ((cs z).length = 1)).length ≤ 4 := by
      refine Nat.le_trans (nd_sub_len (l2 := sg.map ch) ((keys_nd' P.nd al).filter _) fun z hz => ?_) (by rw [List.length_map]; exact n4)
      obtain ⟨h1, h2⟩ := List.mem_filter.mp hz
      obtain ⟨c, rfl⟩ := G.one_sign (z := z) (by simpa using h2)
      exact List.mem_map.mpr ⟨c, key h1 c (by simp [cs]), rfl⟩
    have e4 : (((keyStrs kvs).map cs).flatten.all fun c => (valV kvs (Sum.inr (ch c))).isSome) = true := by
      rw [List.all_eq_true]
      intro c hc
      obtain ⟨l, hl, hcl⟩ := List.mem_flatten.mp hc
      obtain ⟨z, hz, rfl⟩ := List.mem_map.mp hl
      exact hs c (key hz c hcl)
    rw [decide_eq_true (by omega : 1 ≤ (kvs.length : Int)), decide_eq_true (by omega : (kvs.length : Int) ≤ 12), al, decide_eq_true e3, e4]
    rfl
  · have h1 := hs c h
    cases e : valV kvs (Sum.inr (ch c) : Key) with
    | none =>
      rw [e] at h1
      cases h1
    | some v =>
      have h2 := P.tf.mp (ks_mem.mpr (valV_in e))
      exact h2
theorem kp_free {l a : Addr} {H H' : Hp} (k : Kp l H H') (n : a ≠ l) (h : H' a = none) : H a = none := by
  cases e : H a with
  | none => rfl
  | some o =>
    rw [k a o e n] at h
    cases h
theorem paired_of {α β : Type} {F : α → β → Prop} : ∀ {ps : List (α × β)}, (∀ p ∈ ps, F p.1 p.2) → Paired F (ps.map (·.1)) (ps.map (·.2))
  | [], _ => .nil
  | p :: r, h => .cons (h p List.mem_cons_self) (paired_of fun q hq => h q (List.mem_cons_of_mem _ hq))
theorem lift_map {α : Type} {f : α → V} {P : α → Prop} : ∀ {zs : List V}, (∀ v ∈ zs, ∃ w, v = f w ∧ P w) → ∃ ws : List α, zs = ws.map f ∧ ∀ w ∈ ws, P w
  | [], _ => ⟨[], rfl, fun _ h => (List.not_mem_nil h).elim⟩
  | v :: r, h => by
    obtain ⟨w, rfl, hw⟩ := h v List.mem_cons_self
    obtain ⟨ws, rfl, hws⟩ := lift_map (zs := r) fun u hu => h u (List.mem_cons_of_mem _ hu)
    refine ⟨w :: ws, rfl, fun u hu => ?_⟩
    rcases List.mem_cons.mp hu with rfl | hu
    · exact hw
    · exact hws u hu
def PairOk (sg : List Nat) (kv : Key × V) : Prop := ∃ z p, kv = (Sum.inr z, V.int p) ∧ (1 ≤ (cs z).length ∧ (cs z).length ≤ 5) ∧ (∀ c ∈ cs z, c ∈ sg) ∧ 1 ≤ p ∧ p ≤ 99
/-- a word of the menu -/
def Word (sg w : List Nat) : Prop := 2 ≤ w.length ∧ w.length ≤ 5 ∧ ∀ c ∈ w, c ∈ sg
theorem Word.piece {sg w : List Nat} (h : Word sg w) : (1 ≤ (cs (sOf w)).length ∧ (cs (sOf w)).length ≤ 5) ∧ ∀ c ∈ cs (sOf w), c ∈ sg := by
  obtain ⟨h1, h2, h3⟩ := h
  rw [cs_sOf]
  exact ⟨⟨by omega, h2⟩, h3⟩
/-! ### what is sorted -/
theorem so_pw : ∀ {ys : List Str}, sortedS ys = true → ys.Pairwise fun a b => cs a ≤ cs b
  | [], _ => .nil
  | [x], _ => by simp
  | x :: y :: r, h => by
    have h' : (!ltCps y.cps.toList x.cps.toList && risingS y r) = true := h
    rw [Bool.and_eq_true] at h'
    have ih := so_pw (ys := y :: r) h'.2
    have h1 : cs x ≤ cs y := by
      have h2 := h'.1
      rw [ltCps_eq] at h2
      exact List.not_lt.mp (by simpa using h2)
    refine List.Pairwise.cons (fun b hb => ?_) ih
    rcases List.mem_cons.mp hb with rfl | hb
    · exact h1
    · exact List.le_trans h1 ((List.pairwise_cons.mp ih).1 b hb)
theorem so_eq {ys zs : List Str} (h1 : ys.Pairwise fun a b => cs a ≤ cs b) (h2 : zs.Pairwise fun a b => cs a ≤ cs b) (p : ys.Perm zs) : ys = zs := p.eq_of_pairwise (fun a b _ _ h k => str_ext (List.le_antisymm h k)) h1 h2
def SameSigns (F1 F2 : Tf) : Prop := ∀ c, (∃ p, F1 (ch c) = some p) ↔ ∃ p, F2 (ch c) = some p
theorem sgn_ps {kvs : List (Key × V)} {ys : List Str} : sgn (psOf kvs ys) = ys.filter fun z => decide (z.length = 1) := by
  unfold sgn psOf
  rw [List.map_map]
  congr 1
  exact List.map_id' ys
theorem tf_key {kvs : List (Key × V)} {z : Str} (al : (kvs.all fun kv => isPiece (kV kv.1) && isPrice kv.2) = true) : z ∈ keyStrs kvs ↔ ∃ p, tfD kvs z = some p :=
  ⟨fun h => ⟨_, tf_some.mpr (price_of_key al h).1⟩, fun ⟨p, h⟩ => ks_mem.mpr (valV_in (tf_some.mp h))⟩
theorem keys_nd {kvs : List (Key × V)} (al : (kvs.all fun kv => isPiece (kV kv.1) && isPrice kv.2) = true) (nd : (kvs.map (·.1)).Nodup) : (keyStrs kvs).Nodup := by
  rw [keys_of al] at nd
  exact nd_of_map nd
theorem sgn_eq {kvs1 kvs2 : List (Key × V)} {ys1 ys2 : List Str} (al1 : (kvs1.all fun kv => isPiece (kV kv.1) && isPrice kv.2) = true) (al2 : (kvs2.all fun kv => isPiece (kV kv.1) && isPrice kv.2) = true)
    (nd1 : (kvs1.map (·.1)).Nodup) (nd2 : (kvs2.map (·.1)).Nodup) (pm1 : ys1.Perm (keyStrs kvs1)) (pm2 : ys2.Perm (keyStrs kvs2)) (so1 : sortedS ys1 = true) (so2 : sortedS ys2 = true) (ss : SameSigns (tfD kvs1) (tfD kvs2)) :
    sgn (psOf kvs1 ys1) = sgn (psOf kvs2 ys2) := by
  rw [sgn_ps, sgn_ps]
  refine so_eq ((so_pw so1).filter _) ((so_pw so2).filter _) ?_
  refine (List.perm_ext_iff_of_nodup ((pm1.nodup_iff.mpr (keys_nd al1 nd1)).filter _) ((pm2.nodup_iff.mpr (keys_nd al2 nd2)).filter _)).mpr fun z => ?_
  rw [List.mem_filter, List.mem_filter, pm1.mem_iff, pm2.mem_iff, tf_key al1, tf_key al2]
  constructor
  · rintro ⟨h1, h2⟩
    obtain ⟨c, rfl⟩ := one_sign (z := z) (by rw [cs_len]; simpa using h2)
    exact ⟨(ss c).mp h1, h2⟩
  · rintro ⟨h1, h2⟩
    obtain ⟨c, rfl⟩ := one_sign (z := z) (by rw [cs_len]; simpa using h2)
    exact ⟨(ss c).mpr h1, h2⟩
/-! ### tuples of texts as data -/
theorem dpAll_strs {K : PySem.W.Frag} {H : Hp} : ∀ zs : List Str, DpAll K H (zs.map V.str) (zs.map PyData.str)
  | [] => .nil
  | z :: r => .cons (.str z) (dpAll_strs r)
theorem strOk_lett {z : Str} (h : ∀ c ∈ cs z, lett c = true) : PyData.strOk z = true := by
  show z.cps.all (fun c => decide (c < 0x110000)) = true
  rw [Array.all_eq_true_iff_forall_mem]
  intro c hc
  have h1 := h c (by simpa [cs] using hc)
  unfold lett at h1
  rw [Bool.and_eq_true] at h1
  have := of_decide_eq_true h1.2
  exact decide_eq_true (by omega)
theorem shaped_strs {zs : List Str} (h : ∀ z ∈ zs, ∀ c ∈ cs z, lett c = true) : SeqAt.shaped (.tuple (zs.map PyData.str)) = true := by
  have h1 : ∀ l : List Str, (∀ z ∈ l, ∀ c ∈ cs z, lett c = true) → PyData.canLayAll0 (l.map PyData.str) = true := by
    intro l hl
    induction l with
    | nil => rfl
    | cons a r ih => simp [PyData.canLayAll0, PyData.canLay0, strOk_lett (hl a List.mem_cons_self), ih fun z hz => hl z (List.mem_cons_of_mem _ hz)]
  have h2 : ∀ l : List Str, PyData.depthAll (l.map PyData.str) = 0 := by
    intro l
    induction l with
    | nil => simp [PyData.depthAll]
    | cons a r ih => simp [PyData.depthAll, PyData.depth, ih]
  unfold SeqAt.shaped
  rw [Bool.and_eq_true]
  refine ⟨by simpa [PyData.canLay0] using h1 zs h, decide_eq_true ?_⟩
  simp only [PyData.depth, h2]
  omega
theorem eqv_strs {zs : List Str} (h : ∀ z ∈ zs, ∀ c ∈ cs z, lett c = true) : PyData.eqv (.tuple (zs.map PyData.str)) (.tuple (zs.map PyData.str)) = true :=
  SeqAt.eqv_refl _ (SeqAt.canLay_of_shaped (shaped_strs h))
/-! ### promises of cutbehind.base.compared -/
def NoDear (F1 F2 : Tf) : Prop := ∀ z p, F2 z = some p → lp F1 (cs z) ≤ p
/-- what dearer_in returns -/
def DearR (F1 F2 : Tf) (r : V) : Prop := (r = .non ∧ NoDear F1 F2) ∨ ∃ z p, r = .str z ∧ F2 z = some p ∧ p < lp F1 (cs z) ∧ ∀ z' p', F2 z' = some p' → cs z' < cs z → lp F1 (cs z') ≤ p'
def spReqBook (C : Addr) : Sp := fun vs H Q _ => ∃ b dx fs, vs = [.ref b] ∧ H b = some (.ins C dx fs) ∧ Q .non H
def Two (C : Addr) (H : Hp) (vs : List V) (k1 k2 : List (Key × V)) : Prop := ∃ b1 b2, vs = [.ref b1, .ref b2] ∧ Book1 C H b1 k1 ∧ Book1 C H b2 k2 ∧ SameSigns (tfD k1) (tfD k2)
def spReqCmp (C : Addr) : Sp := fun vs H Q _ => ∃ k1 k2, Two C H vs k1 k2 ∧ ∀ H', Same H H' → Q .non H'
def spDearer (C : Addr) : Sp := fun vs H Q _ => ∃ k1 k2, Two C H vs k1 k2 ∧ ∀ r H', Same H H' → DearR (tfD k1) (tfD k2) r → Q r H'
def spNowhere (C : Addr) : Sp := fun vs H Q _ => ∃ k1 k2, Two C H vs k1 k2 ∧ ∀ b H', Same H H' → (b = true ↔ NoDear (tfD k1) (tfD k2)) → Q (.bl b) H'
def spAsCheap (C : Addr) : Sp := fun vs H Q _ => ∃ k1 k2, Two C H vs k1 k2 ∧ ∀ b H', Same H H' → (b = true ↔ NoDear (tfD k1) (tfD k2) ∧ NoDear (tfD k2) (tfD k1)) → Q (.bl b) H'
theorem dear_non {F1 F2 : Tf} {r : V} (d : DearR F1 F2 r) : decide (r = .non) = true ↔ NoDear F1 F2 := by
  rw [decide_eq_true_eq]
  rcases d with ⟨h1, h2⟩ | ⟨z, p, h1, h2, h3, _⟩
  · exact ⟨fun _ => h2, fun _ => h1⟩
  · refine ⟨fun e => ?_, fun n => ?_⟩
    · rw [h1] at e
      cases e
    · have := n z p h2
      omega
theorem SameSigns.symm {F1 F2 : Tf} (h : SameSigns F1 F2) : SameSigns F2 F1 := fun c => (h c).symm
/-! ### lists of texts as data; heaps with a lock -/
theorem shaped_lstrs {zs : List Str} (h : ∀ z ∈ zs, ∀ c ∈ cs z, lett c = true) : SeqAt.shaped (.list (zs.map PyData.str)) = true := by
  have h1 := shaped_strs h
  unfold SeqAt.shaped at h1 ⊢
  simpa [PyData.canLay0, PyData.depth] using h1
theorem eqv_nil (zs : List Str) : PyData.eqv (.list (zs.map PyData.str)) (.list []) = zs.isEmpty := by cases zs <;> simp [PyData.eqv, PyData.eqvAll]
theorem rd_lock {H : Hp} {a b : Addr} {u v : HO} {od : Obj} (h : H a = some u) (k : H b = some v) : Rd (upd H b (.frz od v)) a u := by
  by_cases e : a = b
  · subst e
    rw [h] at k
    cases k
    exact .inr ⟨od, upd_same⟩
  · exact .inl (by rw [upd_ne e]; exact h)
theorem repr_bool {K : PySem.W.Frag} {H : Hp} {b : Bool} {Q : VK} (q : Q (.str (PyData.bool b).shown) H) : rRepr K [.bl b] H Q :=
  ⟨_, .bool b, rfl, .bl b, (shw_bool b).s, (shw_bool b).h, Nat.le_trans (shw_bool b).dp (by omega), Nat.le_trans (shw_bool b).len (fits_sz (by omega)), q⟩
/-- x == [] for a list of texts -/
theorem eq_nil {K : PySem.W.Frag} {H : Hp} {a p : Addr} {zs : List Str} {Q : VK} (h : SqL K H a (zs.map V.str)) (hp : H p = some (.lst [])) (hl : ∀ z ∈ zs, ∀ c ∈ cs z, lett c = true) (q : Q (.bl zs.isEmpty) H) : rEqD K (.ref a) (.ref p) H Q := by
  refine ⟨.list (zs.map PyData.str), .list [], .lst h (dpAll_strs zs), .lst (SqL.of hp) .nil, shaped_lstrs hl, by decide, ?_⟩
  rw [eqv_nil]
  exact q
/-! ### books under changes of lists; which texts are dearer -/
theorem Book1.keep {C : Addr} {H H' : Hp} {b : Addr} {kvs : List (Key × V)} (B : Book1 C H b kvs) (h : ∀ a o, H a = some o → (∀ xs, o ≠ .lst xs) → H' a = some o) : Book1 C H' b kvs := by
  obtain ⟨ys, L, M, dx, d, tp, ta, od, h1, h2, A⟩ := B.ex
  exact ⟨B.av, B.nd, ys, L, M, dx, d, tp, ta, od, h1, h2, h _ _ A.ob (fun _ e => by cases e), h _ _ A.dc (fun _ e => by cases e), h _ _ A.pi (fun _ e => by cases e), h _ _ A.al (fun _ e => by cases e), A.lo, A.de⟩
theorem Book1.updL {C : Addr} {H : Hp} {a b : Addr} {kvs : List (Key × V)} {xs : List V} {o : HO} (B : Book1 C H b kvs) (h : H a = some (.lst xs)) : Book1 C (upd H a o) b kvs :=
  B.keep fun c u e n => by
    rw [upd_ne fun q => ?_]
    · exact e
    · rw [q, h] at e
      exact n xs (Option.some.inj e).symm
theorem Book1.kp {C : Addr} {H H' : Hp} {l b : Addr} {kvs : List (Key × V)} {n : Nat} (B : Book1 C H b kvs) (D : Dice H l n) (k : Kp l H H') : Book1 C H' b kvs := by
  obtain ⟨d0, d1, d2, h, _⟩ := D
  refine B.keep fun c u e n => k c u e fun q => ?_
  rw [q, h] at e
  exact n _ (Option.some.inj e).symm
noncomputable def dearG (F1 F2 : Tf) : Key × V → Option Str := fun kv => match kv.1 with
  | .inr z => if lp F2 (cs z) < lp F1 (cs z) then some z else none
  | .inl _ => none
theorem Tar.mono {k1 k2 : List (Key × V)} (t1 : Tar k1) (t2 : Tar k2) (ss : SameSigns (tfD k1) (tfD k2)) (h : NoDear (tfD k1) (tfD k2)) {l : List Nat} (o : Over (tfD k1) l) : lp (tfD k1) l ≤ lp (tfD k2) l :=
  lp_mono t1.good t2.good (fun z p hz => ⟨fun c hc => (ss c).mpr (t2.good.cov z p hz c hc), h z p hz⟩) o fun c hc => (ss c).mp (o c hc)
theorem dear_iff {k1 k2 kf : List (Key × V)} {S : Str → Prop} (T : TblOk (tfD k1) S kf) (t1 : Tar k1) (t2 : Tar k2) (ss : SameSigns (tfD k1) (tfD k2)) (hS : ∀ z, S z → Over (tfD k1) (cs z)) (hk : ∀ z p, tfD k2 z = some p → S z) :
    kf.filterMap (dearG (tfD k1) (tfD k2)) = [] ↔ NoDear (tfD k1) (tfD k2) := by
  rw [List.filterMap_eq_nil_iff]
  constructor
  · intro h z p hz
    have h1 := h _ (valV_mem (T.val z (hk z p hz)))
    have h2 : (if lp (tfD k2) (cs z) < lp (tfD k1) (cs z) then some z else none) = none := h1
    have h3 := lp_piece t2.good hz
    by_cases q : lp (tfD k2) (cs z) < lp (tfD k1) (cs z)
    · rw [if_pos q] at h2
      cases h2
    · omega
  · intro n kv hkv
    obtain ⟨z, ez, hz⟩ := T.key kv hkv
    unfold dearG
    rw [ez]
    show (if lp (tfD k2) (cs z) < lp (tfD k1) (cs z) then some z else none) = none
    have := t1.mono t2 ss n (hS z hz)
    rw [if_neg (by omega)]
theorem nodear_trans {k0 k1 k2 : List (Key × V)} (t0 : Tar k0) (t1 : Tar k1) (t2 : Tar k2) (s01 : SameSigns (tfD k0) (tfD k1)) (s12 : SameSigns (tfD k1) (tfD k2)) (h : NoDear (tfD k0) (tfD k1)) (k : NoDear (tfD k1) (tfD k2)) : NoDear (tfD k0) (tfD k2) := by
  intro z p hz
  have h1 := k z p hz
  have h2 := t0.mono t1 s01 h (l := cs z) fun c hc => (s01 c).mpr ((s12 c).mpr (t2.good.cov z p hz c hc))
  omega
theorem nodear_self {k : List (Key × V)} (t : Tar k) : NoDear (tfD k) (tfD k) := fun z p hz => lp_piece t.good hz
theorem fm_str {α : Type} {g : α → Option Str} {l : List α} : l.filterMap (fun a => (g a).map V.str) = (l.filterMap g).map V.str := by
  rw [List.map_filterMap]
theorem tandv {ta tb : TE} {σ : L2.St} {H : Hp} {Q : VK} {a b : Bool} (ha : ∀ N : VK, N (.bl a) H → ta σ H N) (hb : ∀ N : VK, N (.bl b) H → tb σ H N) (q : Q (.bl (a && b)) H) : tAndV ta tb σ H Q := by
  refine ha _ ⟨a, rfl, ?_⟩
  refine itB (fun e => hb _ ?_) (fun e => ?_)
  · rw [e] at q
    exact q
  · rw [e] at q
    exact q
/-! ### the row of prices_along -/
theorem best_end {F : Tf} {l : List Nat} {L : Nat} {m : Int} (G : Good F) (o : Over F l) (ne : l ≠ []) (hL : ∀ z p, F z = some p → (cs z).length ≤ L) (hm : ∃ s, s < l.length ∧ costF F l s = some m)
    (hb : ∀ s y, l.length - L ≤ s → s < l.length → costF F l s = some y → m ≤ y) : m = lp F l := by
  refine lp_step G o ne (ys := (List.range l.length).filterMap (costF F l)) ?_ ?_ ?_ ?_
  · intro y hy
    obtain ⟨s, hs, g⟩ := List.mem_filterMap.mp hy
    have g' : (F (sOf (l.drop s))).map (fun p => lp F (l.take s) + p) = some y := g
    cases e : F (sOf (l.drop s)) with
    | none =>
      rw [e] at g'
      cases g'
    | some p =>
      rw [e] at g'
      exact ⟨_, p, l.take s, e, by rw [cs_sOf, List.take_append_drop], (Option.some.inj g').symm⟩
  · intro z p a hp ha
    have hn := (G.len z p hp).1
    have hl := congrArg List.length ha
    rw [List.length_append] at hl
    refine List.mem_filterMap.mpr ⟨a.length, List.mem_range.mpr (by omega), ?_⟩
    unfold costF
    have e2 : l.drop a.length = cs z := by rw [ha, List.drop_left]
    have e3 : l.take a.length = a := by rw [ha, List.take_left]
    rw [e2, e3, sOf_cs, hp]
    rfl
  · obtain ⟨s, hs, e⟩ := hm
    exact List.mem_filterMap.mpr ⟨s, List.mem_range.mpr hs, e⟩
  · intro y hy
    obtain ⟨s, hs, g⟩ := List.mem_filterMap.mp hy
    have hs' := List.mem_range.mp hs
    refine hb s y ?_ hs' g
    have g' : (F (sOf (l.drop s))).map (fun p => lp F (l.take s) + p) = some y := g
    cases e : F (sOf (l.drop s)) with
    | none =>
      rw [e] at g'
      cases g'
    | some p =>
      have := hL _ _ e
      rw [cs_sOf, List.length_drop] at this
      omega
theorem maxN (n m : Nat) : (if (n : Int) - (m : Int) > 0 then (n : Int) - (m : Int) else 0) = ((n - m : Nat) : Int) := by split <;> omega
/-- prices_along -/
def spAlong (C : Addr) : Sp := fun vs H Q _ => ∃ b kvs z, vs = [.ref b, .str z] ∧ Book1 C H b kvs ∧ Over (tfD kvs) (cs z) ∧ z.length ≤ 10000 ∧ ∀ p H', H p = none → H' p = some (.lst (rowV (tfD kvs) (cs z) (z.length + 1))) → Same H H' → Q (.ref p) H'
/-! ### properties -/
structure HasP (P : Program) (w : World) (K : PySem.W.Frag) (mg : Str → Option Value) (base : Heap) (k : Nat) (C : Addr) (f : Str) (sp : Sp) : Prop where
  ex : ∃ p g fd, Cls K C ∧ PropOf K C f p g ∧ FnOk P w K mg base CX0 k g fd ["self"] sp ∧ Binds K fd ["self"] []
theorem pe_prp {X : Cx} {k j : Nat} {C : Addr} {f : Str} {sp : Sp} {e : Expr} {pos : Pos} {ta : TE} (c : HasP X.prog X.w X.K X.mg X.base k C f sp) (hr : Room j X.A) (hk : k + 1 ≤ j) (he : PE X e ta)
    (hab : attributeBase e f X.env (eval e X.env) = eval e X.env := by rfl) : PE X (.Attribute e f pos) (tProp C sp [] C8.E0 ta) := by
  obtain ⟨p, g, fd, hc, hp, F, hb⟩ := c.ex
  exact pe_prop he hc hp F (hr.mono hk) hb .nil pass0 hab
/-! ### texts over a book -/
theorem inV_str {z : Str} : ∀ {zs : List Str}, inV (.str z) (zs.map V.str) = decide (z ∈ zs)
  | [] => by simp [inV]
  | a :: r => by
    have ih := inV_str (z := z) (zs := r)
    unfold inV at ih ⊢
    rw [List.map_cons, List.any_cons, ih]
    have e : eqV (.str a) (.str z) = decide (z = a) := by
      by_cases h : z = a
      · subst h
        simp [eqV]
      · have h' : ¬ a = z := fun q => h q.symm
        simp [eqV, h, h']
    rw [e]
    by_cases h : z = a <;> simp [h]
theorem flat_strs (zs : List Str) : (zs.map V.str).all flatV = true := by
  rw [List.all_map, List.all_eq_true]
  intro z _
  rfl
theorem sgn_mem {kvs : List (Key × V)} {ys : List Str} (al : (kvs.all fun kv => isPiece (kV kv.1) && isPrice kv.2) = true) (pm : ys.Perm (keyStrs kvs)) {c : Nat} : ch c ∈ sgn (psOf kvs ys) ↔ ∃ p, tfD kvs (ch c) = some p := by
  rw [sgn_ps, List.mem_filter, pm.mem_iff, tf_key al]
  exact ⟨fun h => h.1, fun h => ⟨h, rfl⟩⟩
def overB (kvs : List (Key × V)) (z : Str) : Bool := isText (.str z) && (cs z).all fun c => (tfD kvs (ch c)).isSome
theorem overB_true {kvs : List (Key × V)} {z : Str} (h1 : isText (.str z) = true) (h2 : Over (tfD kvs) (cs z)) : overB kvs z = true := by
  unfold overB
  rw [h1, Bool.true_and, List.all_eq_true]
  intro c hc
  obtain ⟨p, hp⟩ := h2 c hc
  rw [hp]
  rfl
/-- is_text_over, accepts -/
def spTextOver (C : Addr) : Sp := fun vs H Q _ => ∃ b kvs z, vs = [.ref b, .str z] ∧ Book1 C H b kvs ∧ z.length ≤ 100000 ∧ ∀ H', Same H H' → Q (.bl (overB kvs z)) H'
/-- require_text -/
def spReqText (C : Addr) : Sp := fun vs H Q _ => ∃ b kvs z, vs = [.ref b, .str z] ∧ Book1 C H b kvs ∧ z.length ≤ 100000 ∧ overB kvs z = true ∧ ∀ H', Same H H' → Q .non H'
/-- prices -/
def spPrices (C : Addr) : Sp := fun vs H Q _ => ∃ b kvs, vs = [.ref b] ∧ Book1 C H b kvs ∧ ∀ p ys H', H p = none → ys.Perm (keyStrs kvs) → sortedS ys = true → H' p = some (.dK (kvOf (psOf kvs ys))) → Same H H' → Q (.ref p) H'
/-- least_price, of a dict that is not changed -/
def spLeastPrice : Sp := fun vs H Q _ => ∃ d od kvs z, vs = [.ref d, .str z] ∧ H d = some (.frz od (.dK kvs)) ∧ Tar kvs ∧ Over (tfD kvs) (cs z) ∧ z.length ≤ 10000 ∧ ∀ H', Same H H' → Q (.int (lp (tfD kvs) (cs z))) H'
theorem rNe_nil {K : PySem.W.Frag} {H : Hp} {a p : Addr} {zs : List Str} {Q : VK} (h : SqL K H a (zs.map V.str)) (hp : H p = some (.lst [])) (hl : ∀ z ∈ zs, ∀ c ∈ cs z, lett c = true) (q : Q (.bl (!zs.isEmpty)) H) : rNeD K (.ref a) (.ref p) H Q := by
  refine ⟨.list (zs.map PyData.str), .list [], .lst h (dpAll_strs zs), .lst (SqL.of hp) .nil, shaped_lstrs hl, by decide, ?_⟩
  rw [eqv_nil]
  exact q
end G
/-! Fronts, in plain Lean. -/
namespace G
open PySem PySem.Spec PyProof.Rows L2
def Wide (F : Tf) (L : Nat) : Prop := (∃ z p, F z = some p ∧ (cs z).length = L) ∧ ∀ z p, F z = some p → (cs z).length ≤ L
def frontW (L : Nat) (l : List Nat) : List Nat := l.drop (l.length - min (L - 1) l.length)
noncomputable def frontD (F : Tf) (L : Nat) (l : List Nat) : List Int := (List.range (min (L - 1) l.length)).map fun i => lp F (l.take (l.length - (i + 1))) - lp F l
def FrontAt (H : Hp) (t : Addr) (l : List Nat) (ds : List Int) : Prop := ∃ td, H t = some (.tup [.str (sOf l), .ref td]) ∧ H td = some (.tup (ds.map V.int))
theorem FrontAt.same {H H' : Hp} {t : Addr} {l : List Nat} {ds : List Int} (f : FrontAt H t l ds) (s : Same H H') : FrontAt H' t l ds := by
  obtain ⟨td, h1, h2⟩ := f
  exact ⟨td, s _ _ h1, s _ _ h2⟩
section
variable {F : Tf} {L : Nat} {l : List Nat} {ds : List Int} {c : Nat} {m : Int}
theorem frontW_len : (frontW L l).length = min (L - 1) l.length := by
  unfold frontW
  rw [List.length_drop]
  omega
theorem frontD_len : (frontD F L l).length = min (L - 1) l.length := by
  unfold frontD
  rw [List.length_map, List.length_range]
theorem frontD_at {i : Nat} (h : i < min (L - 1) l.length) : (frontD F L l)[i]? = some (lp F (l.take (l.length - (i + 1))) - lp F l) := by
  unfold frontD
  rw [List.getElem?_map, List.getElem?_range h]
  rfl
/-- 0 and the differences: what the row says by steps back -/
theorem ahead_at {i : Nat} (h : i ≤ min (L - 1) l.length) : ((0 : Int) :: frontD F L l)[i]? = some (lp F (l.take (l.length - i)) - lp F l) := by
  cases i with
  | zero =>
    show some (0 : Int) = _
    rw [Nat.sub_zero, List.take_length]
    simp
  | succ i =>
    show (frontD F L l)[i]? = _
    exact frontD_at (by omega)
/-- the change at a sign, of any front -/
def StepR (F : Tf) (l : List Nat) (ds : List Int) (c : Nat) (m : Int) : Prop :=
  (∃ z p a y, F z = some p ∧ l ++ [c] = a ++ cs z ∧ ((0 : Int) :: ds)[(cs z).length - 1]? = some y ∧ m = p + y) ∧ ∀ z p a y, F z = some p → l ++ [c] = a ++ cs z → ((0 : Int) :: ds)[(cs z).length - 1]? = some y → m ≤ p + y
theorem StepR.uniq {n : Int} (h : StepR F l ds c m) (k : StepR F l ds c n) : m = n := by
  obtain ⟨⟨z, p, a, y, h1, h2, h3, rfl⟩, h4⟩ := h
  obtain ⟨⟨z', p', a', y', k1, k2, k3, rfl⟩, k4⟩ := k
  have := h4 z' p' a' y' k1 k2 k3
  have := k4 z p a y h1 h2 h3
  omega
def stepW (L : Nat) (l : List Nat) (c : Nat) : List Nat := (l ++ [c]).drop (l.length + 1 - (L - 1))
def stepD (L : Nat) (l : List Nat) (ds : List Int) (c : Nat) (m : Int) : List Int := (((0 : Int) :: ds).map fun x => x - m).take (stepW L l c).length
theorem stepW_len : (stepW L l c).length = min (L - 1) (l.length + 1) := by
  unfold stepW
  rw [List.length_drop, List.length_append]
  show l.length + 1 - _ = _
  omega
/-- a piece at the end of the front's signs is one at the end of the text, and the other way about -/
theorem front_suffix {z : Str} {p : Int} (W : Wide F L) (G : Good F) (hz : F z = some p) : (∃ a, frontW L l ++ [c] = a ++ cs z) ↔ ∃ a, l ++ [c] = a ++ cs z := by
  have n1 := (G.len z p hz).1
  have n2 := W.2 z p hz
  have el : l = l.take (l.length - min (L - 1) l.length) ++ frontW L l := (List.take_append_drop _ _).symm
  constructor
  · rintro ⟨a, h⟩
    refine ⟨l.take (l.length - min (L - 1) l.length) ++ a, ?_⟩
    rw [List.append_assoc, ← h, ← List.append_assoc, ← el]
  · rintro ⟨a, h⟩
    have hl := congrArg List.length h
    rw [List.length_append, List.length_append, List.length_singleton] at hl
    refine ⟨(frontW L l ++ [c]).take (min (L - 1) l.length + 1 - (cs z).length), ?_⟩
    have e1 : (frontW L l ++ [c]) = (l ++ [c]).drop (l.length - min (L - 1) l.length) := by
      rw [List.drop_append_of_le_length (by omega)]
      rfl
    have e2 : (frontW L l ++ [c]).drop (min (L - 1) l.length + 1 - (cs z).length) = cs z := by
      rw [e1, List.drop_drop, h, List.drop_append, List.drop_of_length_le (by omega)]
      have : l.length - min (L - 1) l.length + (min (L - 1) l.length + 1 - (cs z).length) - a.length = 0 := by omega
      rw [this]
      rfl
    conv => lhs; rw [← List.take_append_drop (min (L - 1) l.length + 1 - (cs z).length) (frontW L l ++ [c])]
    rw [e2]
/-- the change of a text's front is what the sign costs more -/
theorem front_change (G : Good F) (W : Wide F L) (o : Over F (l ++ [c])) : StepR F (frontW L l) (frontD F L l) c (lp F (l ++ [c]) - lp F l) := by
  have at' : ∀ {z : Str} {p : Int} {a : List Nat}, F z = some p → l ++ [c] = a ++ cs z → ((0 : Int) :: frontD F L l)[(cs z).length - 1]? = some (lp F a - lp F l) := by
    intro z p a hz h
    have n1 := (G.len z p hz).1
    have n2 := W.2 z p hz
    have hl := congrArg List.length h
    rw [List.length_append, List.length_append, List.length_singleton] at hl
    rw [ahead_at (by omega)]
    have e : l.take (l.length - ((cs z).length - 1)) = a := by
      have h2 : (l ++ [c]).take a.length = a := by rw [h, List.take_left]
      rw [List.take_append_of_le_length (by omega)] at h2
      have : l.length - ((cs z).length - 1) = a.length := by omega
      rw [this, h2]
    rw [e]
  constructor
  · obtain ⟨z, p, a, h1, h2, h3⟩ := lp_last G o (by simp)
    obtain ⟨a', ha'⟩ := (front_suffix (c := c) (l := l) W G h1).mpr ⟨a, h2⟩
    exact ⟨z, p, a', _, h1, ha', at' h1 h2, by omega⟩
  · intro z p a y h1 h2 h3
    obtain ⟨a', ha'⟩ := (front_suffix (c := c) (l := l) W G h1).mp ⟨a, h2⟩
    rw [at' h1 ha'] at h3
    have e := Option.some.inj h3
    have h4 := lp_app G (a := a') (by rw [ha'] at o; exact o.left) h1
    rw [← ha'] at h4
    omega
theorem front_stepW (hL : 1 ≤ L) : stepW L (frontW L l) c = frontW L (l ++ [c]) := by
  have e1 : (frontW L l ++ [c]) = (l ++ [c]).drop (l.length - min (L - 1) l.length) := by
    rw [List.drop_append_of_le_length (by omega)]
    rfl
  unfold stepW
  rw [e1, List.drop_drop]
  show _ = (l ++ [c]).drop ((l ++ [c]).length - min (L - 1) (l ++ [c]).length)
  rw [List.length_append, List.length_singleton, frontW_len]
  congr 1
  omega
theorem front_stepD (hL : 1 ≤ L) : stepD L (frontW L l) (frontD F L l) c (lp F (l ++ [c]) - lp F l) = frontD F L (l ++ [c]) := by
  have ln : (stepW L (frontW L l) c).length = min (L - 1) (l.length + 1) := by
    rw [stepW_len, frontW_len]
    omega
  refine List.ext_getElem? fun i => ?_
  unfold stepD
  rw [ln, List.getElem?_take]
  by_cases h : i < min (L - 1) (l.length + 1)
  · rw [if_pos h, List.getElem?_map, ahead_at (by omega), frontD_at (by rw [List.length_append]; exact h)]
    show some _ = some _
    congr 1
    have e : (l ++ [c]).take ((l ++ [c]).length - (i + 1)) = l.take (l.length - i) := by
      rw [List.length_append, List.length_singleton, List.take_append_of_le_length (by omega)]
      congr 1
      omega
    rw [e]
    dsimp only
    omega
  · rw [if_neg h, List.getElem?_eq_none]
    rw [frontD_len, List.length_append]
    show min (L - 1) (l.length + 1) ≤ i
    omega
end
/-! ### promises -/
theorem wide_of {kvs : List (Key × V)} {ys : List Str} {Ln : Nat} (av : arePrices kvs = true) (pm : ys.Perm (keyStrs kvs)) (h : IsMax (Ln : Int) (lens (psOf kvs ys))) : Wide (tfD kvs) Ln ∧ 1 ≤ Ln ∧ Ln ≤ 5 := by
  obtain ⟨_, al, _, _⟩ := ap_parts av
  obtain ⟨lm, lo⟩ := h
  obtain ⟨q, hq, e⟩ := List.mem_map.mp lm
  obtain ⟨y, hy, rfl⟩ := List.mem_map.mp hq
  have e' : (y.length : Int) = (Ln : Int) := e
  have hk := pm.mem_iff.mp hy
  obtain ⟨p, hp⟩ := (tf_key al).mp hk
  have h1 := keyStrs_piece al y hk
  have h2 := cs_len y
  refine ⟨⟨⟨y, p, hp, by omega⟩, fun z q hz => ?_⟩, by omega, by omega⟩
  have h3 := lo _ (List.mem_map.mpr ⟨(z, priceIn kvs z), List.mem_map.mpr ⟨z, pm.mem_iff.mpr ((tf_key al).mpr ⟨q, hz⟩), rfl⟩, rfl⟩)
  have h4 : (z.length : Int) ≤ (Ln : Int) := h3
  rw [cs_len]
  omega
theorem Wide.uniq {F : Tf} {L M : Nat} (h : Wide F L) (k : Wide F M) : L = M := by
  obtain ⟨⟨z, p, h1, h2⟩, h3⟩ := h
  obtain ⟨⟨y, q, k1, k2⟩, k3⟩ := k
  have := h3 y q k1
  have := k3 z p h1
  omega
/-- front_in, front_of -/
def spFrontIn (C : Addr) : Sp := fun vs H Q _ => ∃ b kvs z, vs = [.ref b, .str z] ∧ Book1 C H b kvs ∧ Over (tfD kvs) (cs z) ∧ z.length ≤ 8000 ∧ isText (.str z) = true ∧
  ∀ L t H', Wide (tfD kvs) L → FrontAt H' t (frontW L (cs z)) (frontD (tfD kvs) L (cs z)) → Same H H' → Q (.ref t) H'
/-- what step_in returns -/
def StepAt (H : Hp) (t : Addr) (l : List Nat) (ds : List Int) (m : Int) : Prop := ∃ u, H t = some (.tup [.ref u, .int m]) ∧ FrontAt H u l ds
/-- step_in, next_front -/
def spStepIn (C : Addr) : Sp := fun vs H Q _ => ∃ (b f : Addr) (kvs : List (Key × V)) (l : List Nat) (ds : List Int) (c L : Nat), vs = [.ref b, .ref f, .str (ch c)] ∧ Book1 C H b kvs ∧ FrontAt H f l ds ∧ Wide (tfD kvs) L ∧ Over (tfD kvs) l ∧ Over (tfD kvs) [c] ∧ l.length < L ∧ ds.length = l.length ∧ (∀ x ∈ l, lett x = true) ∧
  (∀ x ∈ ds, isInteger (.int x) = true) ∧ ∀ t m H', StepR (tfD kvs) l ds c m → StepAt H' t (stepW L l c) (stepD L l ds c m) m → Same H H' → Q (.ref t) H'
theorem cutV_to {xs : List V} {i : Nat} (h : i ≤ xs.length) : cutV xs none (some (i : Int)) = xs.take i := by
  unfold cutV
  rw [show HT.sIx xs.length xs.length (some (i : Int)) = i by rw [sIx_pos (by omega), Int.toNat_natCast]; omega]
  rfl
noncomputable def aheadAt (ds : List Int) (y : Str) : Int := (((0 : Int) :: ds)[(cs y).length - 1]?).getD 0
theorem ends_fm {lg : Str} {ys : List Str} : (ys.filterMap fun y => if Txt.endswith lg y = true then some (V.str y) else none) = (ys.filter fun y => Txt.endswith lg y).map V.str := by
  induction ys with
  | nil => rfl
  | cons a r ih =>
    rw [List.filterMap_cons, List.filter_cons, ih]
    cases Txt.endswith lg a <;> rfl
/-- the least candidate is the change -/
theorem step_min {kvs : List (Key × V)} {ys : List Str} {lg : Str} {l : List Nat} {ds : List Int} {c : Nat} (av : arePrices kvs = true) (pm : ys.Perm (keyStrs kvs)) (hg : cs lg = l ++ [c]) (hds : ds.length = l.length) (oc : Over (tfD kvs) [c]) :
    0 < ((ys.filter fun y => Txt.endswith lg y).map fun y => priceIn kvs y + aheadAt ds y).length ∧ ∀ m ∈ (ys.filter fun y => Txt.endswith lg y).map (fun y => priceIn kvs y + aheadAt ds y), (∀ y ∈ (ys.filter fun y => Txt.endswith lg y).map (fun y => priceIn kvs y + aheadAt ds y), m ≤ y) → StepR (tfD kvs) l ds c m := by
  obtain ⟨_, al, _, _⟩ := ap_parts av
  have good := good_of av
  have price : ∀ {y p}, tfD kvs y = some p → p = priceIn kvs y := fun {y p} h => by
    have h1 := (price_of_key al ((tf_key al).mpr ⟨p, h⟩)).1
    rw [tf_some.mp h] at h1
    exact V.int.inj (Option.some.inj h1)
  have mem : ∀ {y p a}, tfD kvs y = some p → l ++ [c] = a ++ cs y → y ∈ ys.filter fun y => Txt.endswith lg y := fun {y p a} h h2 =>
    List.mem_filter.mpr ⟨pm.mem_iff.mpr ((tf_key al).mpr ⟨p, h⟩), ends_iff.mpr ⟨a, by rw [hg]; exact h2⟩⟩
  have ah : ∀ {y p a}, tfD kvs y = some p → l ++ [c] = a ++ cs y → ((0 : Int) :: ds)[(cs y).length - 1]? = some (aheadAt ds y) := fun {y p a} h h2 => by
    have n1 := (good.len y p h).1
    have h3 := congrArg List.length h2
    rw [List.length_append, List.length_append, List.length_singleton] at h3
    unfold aheadAt
    rw [List.getElem?_eq_getElem (by rw [List.length_cons]; omega)]
    rfl
  constructor
  · rw [List.length_map]
    obtain ⟨p, hp⟩ := oc c List.mem_cons_self
    exact List.length_pos_of_mem (mem (y := ch c) (a := l) hp rfl)
  · intro m hm hle
    constructor
    · obtain ⟨y, hy, rfl⟩ := List.mem_map.mp hm
      obtain ⟨h1, h2⟩ := List.mem_filter.mp hy
      obtain ⟨a, ha⟩ := ends_iff.mp h2
      rw [hg] at ha
      obtain ⟨p, hp⟩ := (tf_key al).mp (pm.mem_iff.mp h1)
      exact ⟨y, p, a, _, hp, ha, ah hp ha, by rw [price hp]⟩
    · intro z p a y hz h2 h3
      have h4 := hle _ (List.mem_map.mpr ⟨z, mem hz h2, rfl⟩)
      rw [ah hz h2] at h3
      rw [price hz, ← Option.some.inj h3]
      exact h4
structure FrontArg (C : Addr) (H : Hp) (b f : Addr) (kvs : List (Key × V)) (l : List Nat) (ds : List Int) (L : Nat) : Prop where
  bk : Book1 C H b kvs
  fr : FrontAt H f l ds
  wd : Wide (tfD kvs) L
  ov : Over (tfD kvs) l
  ln : l.length < L
  dl : ds.length = l.length
  lt : ∀ x ∈ l, lett x = true
  di : ∀ x ∈ ds, isInteger (.int x) = true
theorem FrontArg.same {C : Addr} {H H' : Hp} {b f : Addr} {kvs : List (Key × V)} {l : List Nat} {ds : List Int} {L : Nat} (a : FrontArg C H b f kvs l ds L) (s : Same H H') : FrontArg C H' b f kvs l ds L :=
  ⟨a.bk.same s, a.fr.same s, a.wd, a.ov, a.ln, a.dl, a.lt, a.di⟩
/-- has_front_form, of a front in its form -/
def spForm (C : Addr) : Sp := fun vs H Q _ => ∃ (b f : Addr) (kvs : List (Key × V)) (l : List Nat) (ds : List Int) (L : Nat), vs = [.ref b, .ref f] ∧ FrontArg C H b f kvs l ds L ∧ ∀ H', Same H H' → Q (.bl true) H'
def spReqFront (C : Addr) : Sp := fun vs H Q _ => ∃ (b f : Addr) (kvs : List (Key × V)) (l : List Nat) (ds : List Int) (L : Nat), vs = [.ref b, .ref f] ∧ FrontArg C H b f kvs l ds L ∧ ∀ H', Same H H' → Q .non H'
def spReqSign (C : Addr) : Sp := fun vs H Q _ => ∃ (b : Addr) (kvs : List (Key × V)) (c : Nat), vs = [.ref b, .str (ch c)] ∧ Book1 C H b kvs ∧ Over (tfD kvs) [c] ∧ ∀ H', Same H H' → Q .non H'
def spNext (C : Addr) : Sp := fun vs H Q _ => ∃ (b f : Addr) (kvs : List (Key × V)) (l : List Nat) (ds : List Int) (c L : Nat), vs = [.ref b, .ref f, .str (ch c)] ∧ FrontArg C H b f kvs l ds L ∧ Over (tfD kvs) [c] ∧ lett c = true ∧
  ∀ t m H', StepR (tfD kvs) l ds c m → StepAt H' t (stepW L l c) (stepD L l ds c m) m → Same H H' → Q (.ref t) H'
/-! ### the law's helpers -/
/-- _law_shuffled, of letters -/
def spShuf (K : PySem.W.Frag) : Sp := fun vs H Q _ => ∃ (l a : Addr) (cl : List Nat) (n : Nat), vs = [.ref l, .ref a] ∧ a ≠ l ∧ SqL K H a (cl.map chV) ∧ cl.length ≤ 100 ∧ (∀ c ∈ cl, lett c = true) ∧ Dice H l (n + cl.length) ∧
  ∀ (p : Addr) (zs : List Nat) H', H p = none → p ≠ l → zs.Perm cl → H' p = some (.lst (zs.map chV)) → Kp l H H' → Dice H' l n → Q (.ref p) H'
/-- _law_letters of these laws: some letters -/
def spLett (K : PySem.W.Frag) : Sp := fun vs H Q _ => ∃ (l : Addr) (m n : Nat), vs = [.ref l, .int (m : Int)] ∧ m ≤ 26 ∧ Dice H l (n + 26) ∧
  ∀ (p : Addr) (zs : List Nat) H', H p = none → p ≠ l → zs.length = m → (∀ c ∈ zs, lett c = true) → H' p = some (.lst (zs.map chV)) → Kp l H H' → Dice H' l n → Q (.ref p) H'
theorem chs_strs (l : List Nat) : l.map chV = (l.map ch).map V.str := by
  rw [List.map_map]
  rfl
/-- _law_prices: a right dict over the signs -/
def spPrices20 (K : PySem.W.Frag) : Sp := fun vs H Q _ => ∃ (l sa ma : Addr) (sg : List Nat) (ms : List Int) (n : Nat), vs = [.ref l, .ref sa, .int 6, .int 5, .ref ma] ∧ sa ≠ l ∧ ma ≠ l ∧ SqL K H sa (sg.map chV) ∧ SqL K H ma (ms.map V.int) ∧ 1 ≤ sg.length ∧ sg.length ≤ 4 ∧ (∀ c ∈ sg, lett c = true) ∧
  1 ≤ ms.length ∧ ms.length ≤ 100 ∧ (∀ i ∈ ms, 1 ≤ i ∧ i ≤ 99) ∧ Dice H l (n + 100) ∧
  ∀ (p : Addr) (kvs : List (Key × V)) H', H p = none → p ≠ l → H' p = some (.dK kvs) → arePrices kvs = true → (kvs.map (·.1)).Nodup → (∀ c, (∃ q, tfD kvs (ch c) = some q) ↔ c ∈ sg) → Kp l H H' → Dice H' l n → Q (.ref p) H'
/-- _law_cheap -/
def spCheap : Sp := fun vs H Q _ => ∃ d kvs z, vs = [.ref d, .str z] ∧ H d = some (.dK kvs) ∧ Tar kvs ∧ Over (tfD kvs) (cs z) ∧ z.length ≤ 10000 ∧ ∀ p H', H p = none → H' p = some (.lst (rowV (tfD kvs) (cs z) (z.length + 1))) → Same H H' → Q (.ref p) H'
/-- _law_wide -/
def spWide : Sp := fun vs H Q _ => ∃ d kvs, vs = [.ref d] ∧ H d = some (.dK kvs) ∧ Tar kvs ∧ kvs ≠ [] ∧ ∀ (L : Nat) H', Wide (tfD kvs) L → 1 ≤ L → L ≤ 5 → Same H H' → Q (.int (L : Int)) H'
/-- _law_front -/
def spLawFront : Sp := fun vs H Q _ => ∃ d kvs z, vs = [.ref d, .str z] ∧ H d = some (.dK kvs) ∧ Tar kvs ∧ kvs ≠ [] ∧ Over (tfD kvs) (cs z) ∧ z.length ≤ 10000 ∧ ∀ L t H', Wide (tfD kvs) L → FrontAt H' t (frontW L (cs z)) (frontD (tfD kvs) L (cs z)) → Same H H' → Q (.ref t) H'
/-- _law_step -/
def spLawStep : Sp := fun vs H Q _ => ∃ (d f : Addr) (kvs : List (Key × V)) (l : List Nat) (ds : List Int) (c L : Nat), vs = [.ref d, .ref f, .str (ch c)] ∧ H d = some (.dK kvs) ∧ Tar kvs ∧ kvs ≠ [] ∧ FrontAt H f l ds ∧ Wide (tfD kvs) L ∧ Over (tfD kvs) [c] ∧ l.length < L ∧ ds.length = l.length ∧
  ∀ t m H', StepR (tfD kvs) l ds c m → StepAt H' t (stepW L l c) (stepD L l ds c m) m → Same H H' → Q (.ref t) H'
noncomputable def stepG (ds : List Int) (lg : Str) : Key × V → Option Int := fun kv => match kv with
  | (.inr y, .int p) => if Txt.endswith lg y = true then some (p + aheadAt ds y) else none
  | _ => none
theorem step_minT {kvs : List (Key × V)} {lg : Str} {l : List Nat} {ds : List Int} {c : Nat} (T : Tar kvs) (hg : cs lg = l ++ [c]) (hds : ds.length = l.length) (oc : Over (tfD kvs) [c]) :
    0 < (kvs.filterMap (stepG ds lg)).length ∧ ∀ m ∈ kvs.filterMap (stepG ds lg), (∀ y ∈ kvs.filterMap (stepG ds lg), m ≤ y) → StepR (tfD kvs) l ds c m := by
  have mem : ∀ {y p a}, tfD kvs y = some p → l ++ [c] = a ++ cs y → p + aheadAt ds y ∈ kvs.filterMap (stepG ds lg) := fun {y p a} h h2 => by
    refine List.mem_filterMap.mpr ⟨_, valV_mem (tf_some.mp h), ?_⟩
    show (if Txt.endswith lg y = true then some (p + aheadAt ds y) else none) = _
    rw [if_pos (ends_iff.mpr ⟨a, by rw [hg]; exact h2⟩)]
  have ah : ∀ {y p a}, tfD kvs y = some p → l ++ [c] = a ++ cs y → ((0 : Int) :: ds)[(cs y).length - 1]? = some (aheadAt ds y) := fun {y p a} h h2 => by
    have n1 := (T.good.len y p h).1
    have h3 := congrArg List.length h2
    rw [List.length_append, List.length_append, List.length_singleton] at h3
    unfold aheadAt
    rw [List.getElem?_eq_getElem (by rw [List.length_cons]; omega)]
    rfl
  constructor
  · obtain ⟨p, hp⟩ := oc c List.mem_cons_self
    exact List.length_pos_of_mem (mem (y := ch c) (a := l) hp rfl)
  · intro m hm hle
    constructor
    · obtain ⟨kv, hkv, g⟩ := List.mem_filterMap.mp hm
      obtain ⟨y, p, rfl, hp⟩ := T.mem kv hkv
      have g' : (if Txt.endswith lg y = true then some (p + aheadAt ds y) else none) = some m := g
      by_cases q : Txt.endswith lg y = true
      · rw [if_pos q] at g'
        obtain ⟨a, ha⟩ := ends_iff.mp q
        rw [hg] at ha
        exact ⟨y, p, a, _, hp, ha, ah hp ha, (Option.some.inj g').symm⟩
      · rw [if_neg q] at g'
        cases g'
    · intro z p a y hz h2 h3
      rw [ah hz h2] at h3
      rw [← Option.some.inj h3]
      exact hle _ (mem hz h2)
/-- _law_large -/
def spLarge : Sp := fun vs H Q _ => ∃ (l : Addr) (n : Nat), vs = [.ref l] ∧ Dice H l (n + 2) ∧ ∀ (i : Int) H', isInteger (.int i) = true → Kp l H H' → Dice H' l n → Q (.int i) H'
theorem isI_of {i : Int} (h : i.natAbs < 10 ^ 60) : isInteger (.int i) = true := decide_eq_true h
theorem ten60 : (10 : Int) ^ (60 : Int).toNat = ((10 ^ 60 : Nat) : Int) := by decide +kernel
theorem large60 : 1000 ≤ (10 ^ 60 : Nat) := by decide +kernel
/-! ### fronts as data -/
def dFront (l : List Nat) (ds : List Int) : PyData := .tuple [.str (sOf l), .tuple (ds.map PyData.int)]
def dStep (l : List Nat) (ds : List Int) (m : Int) : PyData := .tuple [dFront l ds, .int m]
theorem dpAll_ints {K : PySem.W.Frag} {H : Hp} : ∀ ds : List Int, DpAll K H (ds.map V.int) (ds.map PyData.int)
  | [] => .nil
  | d :: r => .cons (.int d) (dpAll_ints r)
theorem dp_front {K : PySem.W.Frag} {H : Hp} {t : Addr} {l : List Nat} {ds : List Int} (f : FrontAt H t l ds) : Dp K H (.ref t) (dFront l ds) := by
  obtain ⟨td, h1, h2⟩ := f
  exact .tup (SqT.of h1) (.cons (.str _) (.cons (.tup (SqT.of h2) (dpAll_ints ds)) .nil))
theorem dp_step {K : PySem.W.Frag} {H : Hp} {t : Addr} {l : List Nat} {ds : List Int} {m : Int} (f : StepAt H t l ds m) : Dp K H (.ref t) (dStep l ds m) := by
  obtain ⟨u, h1, h2⟩ := f
  exact .tup (SqT.of h1) (.cons (dp_front h2) (.cons (.int m) .nil))
theorem shw_tuple {ds : List PyData} {k n : Nat} (h : ∀ d ∈ ds, Shw d k n) : Shw (.tuple ds) (k + 1) (ds.length * (n + 2) + 4) := by
  obtain ⟨b1, b2, b3, b4⟩ := shwAll h
  refine ⟨by simpa [PyData.showable] using b1, by simpa [PyData.hasDict] using b2, by simp only [PyData.depth]; omega, ?_⟩
  simp only [PyData.shown]
  unfold tupleText
  rw [strLen_append, strLen_append]
  have c1 : (("(" : String) : Str).length = 1 := by decide +kernel
  have c2 : ((if (PyData.shownAll ds).length == 1 then ",)" else ")" : String) : Str).length ≤ 2 := by split <;> decide +kernel
  have c3 : piled (PyData.shownAll ds) ≤ (PyData.shownAll ds).length * (n + 2) := by
    have gen : ∀ l : List Str, (∀ t ∈ l, t.length ≤ n) → piled l ≤ l.length * (n + 2) := by
      intro l hl
      induction l with
      | nil => simp [piled]
      | cons t r ih =>
        have h1 := hl t List.mem_cons_self
        have h2 := ih fun u hu => hl u (List.mem_cons_of_mem _ hu)
        have e : piled (t :: r) = t.length + 2 + piled r := by simp [piled]
        rw [e, List.length_cons, Nat.add_mul]
        omega
    exact gen _ b4
  have c4 : (Str.join ", " (PyData.shownAll ds)).length ≤ piled (PyData.shownAll ds) := by
    by_cases q : PyData.shownAll ds = []
    · rw [q]
      decide +kernel
    · have := join_length_add _ q
      omega
  have c5 : (PyData.shownAll ds).length = ds.length := by rw [shownAll_map, List.length_map]
  rw [c5] at c3
  omega
theorem shw_str {z : Str} {n : Nat} (h : z.length ≤ n) (hc : ∀ c ∈ cs z, c < 16 ^ 8) : Shw (.str z) 0 (10 * n + 2) :=
  ⟨by simp [PyData.showable], by simp [PyData.hasDict], by simp [PyData.depth], by simp only [PyData.shown]; exact Nat.le_trans (StrLaws.reprText_len z hc) (by omega)⟩
theorem shw_front {l : List Nat} {ds : List Int} (hl : l.length ≤ 5) (hc : ∀ c ∈ l, lett c = true) (hd : ds.length ≤ 5) (hi : ∀ d ∈ ds, d.natAbs < 2 ^ 300) : Shw (dFront l ds) 2 (2 * 9700) := by
  have h1 : Shw (.str (sOf l)) 1 9650 := (shw_str (n := 5) (by rw [sOf_len]; exact hl) fun c h => by
    rw [cs_sOf] at h
    have := hc c h
    unfold lett at this
    rw [Bool.and_eq_true] at this
    have := of_decide_eq_true this.2
    exact Nat.lt_of_le_of_lt this (by decide)).le (by omega) (by omega)
  have h2 : Shw (.tuple (ds.map PyData.int)) 1 9650 := (shw_tuple (k := 0) (n := 1921) fun d hd' => by
    obtain ⟨i, hi', rfl⟩ := List.mem_map.mp hd'
    exact shw_int (log_of (hi i hi'))).le (by omega) (by
      rw [List.length_map]
      have := Nat.mul_le_mul_right (1921 + 2) hd
      omega)
  refine (shw_tuple (k := 1) (n := 9650) fun d hd' => ?_).le (by omega) (by show 2 * (9650 + 2) + 4 ≤ 2 * 9700; omega)
  simp only [List.mem_cons, List.not_mem_nil, or_false] at hd'
  rcases hd' with rfl | rfl
  · exact h1
  · exact h2
theorem shw_step {l : List Nat} {ds : List Int} {m : Int} (hl : l.length ≤ 5) (hc : ∀ c ∈ l, lett c = true) (hd : ds.length ≤ 5) (hi : ∀ d ∈ ds, d.natAbs < 2 ^ 300) (hm : m.natAbs < 2 ^ 300) : Shw (dStep l ds m) 3 40000 := by
  refine (shw_tuple (k := 2) (n := 2 * 9700) fun d hd' => ?_).le (by omega) (by show 2 * (2 * 9700 + 2) + 4 ≤ 40000; omega)
  simp only [List.mem_cons, List.not_mem_nil, or_false] at hd'
  rcases hd' with rfl | rfl
  · exact shw_front hl hc hd hi
  · exact (shw_int (log_of hm)).le (by omega) (by omega)
/-- repr of shown data -/
theorem repr_shw {K : PySem.W.Frag} {H : Hp} {x : V} {d : PyData} {k n : Nat} {Q : VK} (h : Dp K H x d) (s : Shw d k n) (hk : k ≤ 60) (hn : n ≤ 100000) (q : Q (.str d.shown) H) : rRepr K [x] H Q :=
  ⟨x, d, rfl, h, s.s, s.h, Nat.le_trans s.dp hk, Nat.le_trans s.len (fits_sz hn), q⟩
theorem lift_ch {P : Nat → Prop} : ∀ {ys : List Str}, (∀ y ∈ ys, ∃ c, y = ch c ∧ P c) → ∃ sg : List Nat, ys = sg.map ch ∧ ∀ c ∈ sg, P c
  | [], _ => ⟨[], rfl, fun _ h => (List.not_mem_nil h).elim⟩
  | y :: r, h => by
    obtain ⟨c, rfl, hc⟩ := h y List.mem_cons_self
    obtain ⟨sg, rfl, hs⟩ := lift_ch (ys := r) fun z hz => h z (List.mem_cons_of_mem _ hz)
    refine ⟨c :: sg, rfl, fun d hd => ?_⟩
    rcases List.mem_cons.mp hd with rfl | hd
    · exact hc
    · exact hs d hd
/-! ### bounds -/
theorem lp_bound {F : Tf} (G : Good F) : ∀ l, Over F l → 0 ≤ lp F l ∧ lp F l ≤ 99 * (l.length : Int)
  | [], _ => by
    rw [lp_nil G]
    exact ⟨Int.le_refl _, by decide⟩
  | c :: r, o => by
    have o1 : Over F [c] := fun d hd => o d (by rw [List.mem_singleton.mp hd]; exact List.mem_cons_self)
    have o2 : Over F r := fun d hd => o d (List.mem_cons_of_mem _ hd)
    obtain ⟨p, hp⟩ := o c List.mem_cons_self
    have h1 : lp F [c] ≤ p := lp_piece G hp
    have h2 := (G.pos _ _ hp).2
    have h3 := (lp_bound G r o2).2
    have h4 : lp F (c :: r) ≤ lp F [c] + lp F r := lp_add G o1 o2
    obtain ⟨d, hd, e⟩ := lp_cut G o
    have h5 := fee_pos G d hd.1
    rw [List.length_cons]
    omega
theorem front_small {F : Tf} {L : Nat} {l : List Nat} (G : Good F) (o : Over F l) : ∀ d ∈ frontD F L l, d.natAbs ≤ 99 * l.length := fun d hd => by
  unfold frontD at hd
  obtain ⟨i, _, rfl⟩ := List.mem_map.mp hd
  have h1 := lp_bound G _ o
  have h2 := lp_bound G _ (o.take (l.length - (i + 1)))
  have h3 : (l.take (l.length - (i + 1))).length ≤ l.length := by
    rw [List.length_take]
    omega
  omega
theorem frontW_mem {L : Nat} {l : List Nat} {c : Nat} (h : c ∈ frontW L l) : c ∈ l := List.mem_of_mem_drop h
theorem stepW_mem {L : Nat} {l : List Nat} {c d : Nat} (h : d ∈ stepW L l c) : d ∈ l ∨ d = c := by
  have h1 := List.mem_of_mem_drop h
  rcases List.mem_append.mp h1 with h | h
  · exact Or.inl h
  · exact Or.inr (List.mem_singleton.mp h)
theorem stepR_small {F : Tf} {l : List Nat} {ds : List Int} {c B : Nat} {m : Int} (G : Good F) (h : StepR F l ds c m) (hb : ∀ d ∈ ds, d.natAbs ≤ B) : m.natAbs ≤ B + 99 := by
  obtain ⟨⟨z, p, a, y, h1, _, h3, rfl⟩, _⟩ := h
  have h4 := G.pos _ _ h1
  rcases List.mem_cons.mp (List.mem_of_getElem? h3) with rfl | h5
  · omega
  · have := hb y h5
    omega
theorem stepD_small {L : Nat} {l : List Nat} {ds : List Int} {c B : Nat} {m : Int} (hm : m.natAbs ≤ B + 99) (hb : ∀ d ∈ ds, d.natAbs ≤ B) : ∀ d ∈ stepD L l ds c m, d.natAbs ≤ 2 * B + 99 := fun d hd => by
  obtain ⟨x, hx, rfl⟩ := List.mem_map.mp (List.mem_of_mem_take hd)
  rcases List.mem_cons.mp hx with rfl | h5
  · omega
  · have := hb x h5
    omega
theorem stepD_len {L : Nat} {l : List Nat} {ds : List Int} {c : Nat} {m : Int} : (stepD L l ds c m).length ≤ (stepW L l c).length := by
  unfold stepD
  rw [List.length_take]
  omega
/-! ### fronts of given books, worked out -/
def psK (kvs : List (Key × V)) : List (List Nat × Int) := kvs.filterMap fun kv => match kv with | (.inr z, .int p) => some (cs z, p) | _ => none
theorem ps_tf {kvs : List (Key × V)} (nd : (kvs.map (·.1)).Nodup) {z : Str} {p : Int} : tfD kvs z = some p ↔ (cs z, p) ∈ psK kvs := by
  unfold psK
  rw [List.mem_filterMap]
  constructor
  · intro h
    exact ⟨_, valV_mem (tf_some.mp h), rfl⟩
  · rintro ⟨⟨k, v⟩, h1, h2⟩
    have h3 := val_nodup nd _ h1
    rcases k with i | y
    · cases h2
    · cases v
      case int q =>
        have e := Option.some.inj h2
        have e1 : y = z := str_ext (Prod.mk.inj e).1
        have e2 : q = p := (Prod.mk.inj e).2
        subst e1
        subst e2
        exact tf_some.mpr h3
      all_goals cases h2
def candF (ps : List (List Nat × Int)) (w : List Nat) (d : List Int) (c : Nat) : List Int :=
  ps.filterMap fun q => if (w ++ [c]).drop ((w ++ [c]).length - q.1.length) = q.1 then (((0 : Int) :: d)[q.1.length - 1]?).map fun y => q.2 + y else none
def minI : List Int → Option Int
  | [] => none
  | a :: r => match minI r with
    | none => some a
    | some b => some (if a ≤ b then a else b)
theorem minI_none : ∀ {xs : List Int}, minI xs = none → xs = []
  | [], _ => rfl
  | a :: r, h => by
    unfold minI at h
    split at h <;> cases h
theorem minI_spec : ∀ {xs : List Int} {m : Int}, minI xs = some m → m ∈ xs ∧ ∀ y ∈ xs, m ≤ y
  | [], _, h => by cases h
  | a :: r, m, h => by
    unfold minI at h
    split at h
    · rename_i e
      have er := minI_none e
      have em := Option.some.inj h
      subst em
      rw [er]
      exact ⟨List.mem_cons_self, fun y hy => by rw [List.mem_singleton.mp hy]; exact Int.le_refl _⟩
    · rename_i b e
      obtain ⟨h1, h2⟩ := minI_spec e
      have em := Option.some.inj h
      subst em
      constructor
      · split
        · exact List.mem_cons_self
        · exact List.mem_cons_of_mem _ h1
      · intro y hy
        rcases List.mem_cons.mp hy with rfl | hy
        · split <;> omega
        · have := h2 y hy
          split <;> omega
theorem step_of {kvs : List (Key × V)} (nd : (kvs.map (·.1)).Nodup) {w : List Nat} {d : List Int} {c : Nat} {m : Int} (h : minI (candF (psK kvs) w d c) = some m) : StepR (tfD kvs) w d c m := by
  obtain ⟨h1, h2⟩ := minI_spec h
  constructor
  · obtain ⟨q, hq, e⟩ := List.mem_filterMap.mp h1
    split at e
    · rename_i s
      obtain ⟨y, hy, rfl⟩ := Option.map_eq_some_iff.mp e
      refine ⟨sOf q.1, q.2, (w ++ [c]).take ((w ++ [c]).length - q.1.length), y, (ps_tf nd).mpr (by rw [cs_sOf]; exact hq), ?_, by rw [cs_sOf]; exact hy, rfl⟩
      rw [cs_sOf]
      conv => rhs; rw [← s]
      exact (List.take_append_drop _ _).symm.trans (by rw [s])
    · cases e
  · intro z p a y hz hs hy
    refine h2 _ (List.mem_filterMap.mpr ⟨_, (ps_tf nd).mp hz, ?_⟩)
    have e : (w ++ [c]).drop ((w ++ [c]).length - (cs z).length) = cs z := by
      rw [hs, List.length_append, Nat.add_sub_cancel, List.drop_left]
    dsimp only
    rw [if_pos e, hy]
    rfl
def runF (ps : List (List Nat × Int)) (L : Nat) : List Nat → List Nat → List Int → Option (List Nat × List Int)
  | [], w, d => some (w, d)
  | c :: r, w, d => match minI (candF ps w d c) with
    | none => none
    | some m => runF ps L r (stepW L w c) (stepD L w d c m)
theorem run_front {kvs : List (Key × V)} (nd : (kvs.map (·.1)).Nodup) (G : Good (tfD kvs)) {L : Nat} (W : Wide (tfD kvs) L) (hL : 1 ≤ L) : ∀ {r l w : List Nat} {d : List Int} {w' : List Nat} {d' : List Int}, Over (tfD kvs) (l ++ r) → frontW L l = w → frontD (tfD kvs) L l = d →
    runF (psK kvs) L r w d = some (w', d') → frontW L (l ++ r) = w' ∧ frontD (tfD kvs) L (l ++ r) = d'
  | [], l, w, d, w', d', _, hw, hd, h => by
    have e := Option.some.inj h
    rw [List.append_nil, hw, hd]
    exact Prod.mk.inj e
  | c :: r, l, w, d, w', d', o, hw, hd, h => by
    unfold runF at h
    split at h
    · cases h
    · rename_i m e
      have st := step_of nd e
      have o1 : Over (tfD kvs) (l ++ [c]) := fun x hx => o x (by
        rcases List.mem_append.mp hx with h | h
        · exact List.mem_append_left _ h
        · rw [List.mem_singleton.mp h]
          exact List.mem_append_right _ List.mem_cons_self)
      have fc := front_change G W o1
      have em : m = lp (tfD kvs) (l ++ [c]) - lp (tfD kvs) l := (show StepR (tfD kvs) (frontW L l) (frontD (tfD kvs) L l) c m by rw [hw, hd]; exact st).uniq fc
      have e2 : l ++ c :: r = (l ++ [c]) ++ r := by rw [List.append_assoc]; rfl
      rw [e2]
      refine run_front nd G W hL (by rw [← e2]; exact o) ?_ ?_ h
      · rw [← hw, front_stepW hL]
      · rw [← hw, ← hd, em, front_stepD hL]
theorem run_all {kvs : List (Key × V)} (nd : (kvs.map (·.1)).Nodup) (G : Good (tfD kvs)) {L : Nat} (W : Wide (tfD kvs) L) (hL : 1 ≤ L) {r w' : List Nat} {d' : List Int} (o : Over (tfD kvs) r) (h : runF (psK kvs) L r [] [] = some (w', d')) : frontW L r = w' ∧ frontD (tfD kvs) L r = d' :=
  run_front nd G W hL (l := []) (w := []) (d := []) o (by unfold frontW; exact List.drop_nil) (by unfold frontD; rw [List.length_nil, Nat.min_zero]; rfl) h
/-- a front that comes back behind a word -/
theorem run_round {kvs : List (Key × V)} (nd : (kvs.map (·.1)).Nodup) (G : Good (tfD kvs)) {L : Nat} (W : Wide (tfD kvs) L) (hL : 1 ≤ L) {r w : List Nat} {d : List Int} (o : Over (tfD kvs) r) (h1 : runF (psK kvs) L r [] [] = some (w, d)) (h2 : runF (psK kvs) L r w d = some (w, d)) :
    ∀ n : Nat, frontW L (List.replicate (n + 1) r).flatten = w ∧ frontD (tfD kvs) L (List.replicate (n + 1) r).flatten = d
  | 0 => by
    have e : (List.replicate 1 r).flatten = r := by simp
    rw [e]
    exact run_all nd G W hL o h1
  | n + 1 => by
    obtain ⟨i1, i2⟩ := run_round nd G W hL o h1 h2 n
    have e : (List.replicate (n + 1 + 1) r).flatten = (List.replicate (n + 1) r).flatten ++ r := by
      rw [List.replicate_succ', List.flatten_append]
      simp
    rw [e]
    refine run_front nd G W hL (fun c hc => ?_) i1 i2 h2
    rcases List.mem_append.mp hc with h | h
    · obtain ⟨t, ht, hc⟩ := List.mem_flatten.mp h
      rw [(List.mem_replicate.mp ht).2] at hc
      exact o c hc
    · exact o c h
theorem wide_ps {kvs : List (Key × V)} (nd : (kvs.map (·.1)).Nodup) {L : Nat} (h : ((psK kvs).any fun q => decide (q.1.length = L)) = true) (k : ((psK kvs).all fun q => decide (q.1.length ≤ L)) = true) : Wide (tfD kvs) L := by
  constructor
  · obtain ⟨q, hq, e⟩ := List.any_eq_true.mp h
    exact ⟨sOf q.1, q.2, (ps_tf nd).mpr (by rw [cs_sOf]; exact hq), by rw [cs_sOf]; exact of_decide_eq_true e⟩
  · intro z p hz
    exact of_decide_eq_true (List.all_eq_true.mp k _ ((ps_tf nd).mp hz))
theorem over_ps {kvs : List (Key × V)} (nd : (kvs.map (·.1)).Nodup) {l : List Nat} (h : (l.all fun c => (psK kvs).any fun q => decide (q.1 = [c])) = true) : Over (tfD kvs) l := fun c hc => by
  obtain ⟨q, hq, e⟩ := List.any_eq_true.mp (List.all_eq_true.mp h c hc)
  exact ⟨q.2, (ps_tf nd).mpr (by
    show ([c], q.2) ∈ _
    rw [← of_decide_eq_true e]
    exact hq)⟩
end G
/-! sorted(d.items()) of a dict from texts to ints. -/
namespace G
open PySem PySem.W PySem.Spec PyProof.Rows
/-- the text that stands first in a tuple -/
def txK (h : Heap) (v : Value) : Str := DT.txOf (DT.seqAt0 h (DT.refOf (some v)))
def PairTI (h : Heap) (v : Value) (y : Str) (n : Int) : Prop := ∃ a t u, v = .ref a ∧ IsTup h a #[.str y t, .int n u]
theorem PairTI.tx {h : Heap} {v : Value} {y : Str} {n : Int} (x : PairTI h v y n) : txK h v = y := by
  obtain ⟨a, t, u, rfl, i⟩ := x
  have e := DT.seqAt0_of i
  unfold txK
  show DT.txOf (DT.seqAt0 h a) = y
  rw [e]
  rfl
theorem firstsTI {h : Heap} {M : Str → Int} : ∀ vs : List Value, (∀ v ∈ vs, ∃ y, PairTI h v y (M y)) → ∃ fs : List Value, KatTups h vs fs ∧ fs.length = vs.length ∧ ∀ f ∈ fs, ∃ y t, f = Value.str y t
  | [], _ => ⟨[], KatTups.nil, rfl, fun _ z => (List.not_mem_nil z).elim⟩
  | v :: r, x => by
    obtain ⟨fs, k, hl, hi⟩ := firstsTI r fun u hu => x u (List.mem_cons_of_mem _ hu)
    obtain ⟨y, a, t, u, rfl, ⟨o, ho, hc, n, hd⟩⟩ := x v List.mem_cons_self
    refine ⟨.str y t :: fs, KatTups.cons ho hc hd rfl k, congrArg (· + 1) hl, fun f hf => ?_⟩
    rcases List.mem_cons.mp hf with rfl | hf
    · exact ⟨y, t, rfl⟩
    · exact hi f hf
section
variable {prog : Program} {w : World} {A : Around} {E : Value → Shared → Prop} {s : Shared}
theorem kindTI {vs : List Value} {ρ : Str → Int} {M : Str → Int} (h2 : 2 ≤ vs.length) (x : ∀ v ∈ vs, ∃ y, PairTI s.heap v y (M y))
    (hρ : ∀ v ∈ vs, ∀ u ∈ vs, decide ((txK s.heap v).cps.toList < (txK s.heap u).cps.toList) = decide (ρ (txK s.heap v) < ρ (txK s.heap u))) (Q : SortKind → Shared → Prop)
    (h : ∀ κ, _root_.TS.Cmp prog w A s κ (pairsOf vs) (fun v => ρ (txK s.heap v)) → Q κ s) : wpAny (model prog w) A (keyKind' vs.toArray) Q E s := by
  obtain ⟨fs, k, hl, hi⟩ := firstsTI vs x
  refine kat_kind (T := Value.type "str") k (by omega) (fun f hf => ?_) rfl (h _ ?_)
  · obtain ⟨y, t, rfl⟩ := hi f hf
    exact .now
  · have hb : (Value.type "str" != Value.type "tuple") = true := by first | rfl | decide | simp
    rw [hb]
    intro p q hp hq Q' E' hQ
    rw [pairsOf_toList] at hp hq
    have mp := (mem_zip_self hp).2
    have mq := (mem_zip_self hq).2
    obtain ⟨y, py⟩ := x _ mp
    obtain ⟨z, pz⟩ := x _ mq
    have hQ1 : Q' (decide (ρ (txK s.heap p.1) < ρ (txK s.heap q.1))) s := hQ
    rw [← hρ _ mp _ mq, py.tx, pz.tx] at hQ1
    obtain ⟨a, t, u, e1, ⟨o, ho, _, n, hd⟩⟩ := py
    obtain ⟨b, t', u', e2, ⟨o', ho', _, n', hd'⟩⟩ := pz
    rw [e1, e2]
    refine kat_lt ho hd ho' hd' ?_
    show KatLex prog w A true false Q' [(Value.str y t, Value.str z t'), (Value.int (M y) u, Value.int (M z) u')] 0 s
    refine kat_cons (SeqAt.EqAt.str_str y t z t' _ _ _ _ ?_)
    refine kat_go (fun e0 => ?_) (fun e0 => ?_)
    · have e : y = z := by simpa using e0
      subst e
      have irr : decide (y.cps.toList < y.cps.toList) = false := decide_eq_false (List.lt_irrefl _)
      rw [irr] at hQ1
      refine kat_yes (kat_cons (SeqAt.EqAt.int_int (M y) u (M y) u' _ _ _ _ ?_))
      refine kat_go (fun _ => kat_yes (kat_nil hQ1)) (fun e1' => ?_)
      simp at e1'
    · refine kat_no ?_
      show wpAny _ _ (oneLt' true _ _) _ _ _
      exact oneLt_str hQ1
end
/-! ### the rank of a text among some -/
def rankOf (ks : List Str) (y : Str) : Int := (ks.countP fun k => decide (cs k < cs y) : Nat)
theorem countP_le {α : Type} {p q : α → Bool} : ∀ {l : List α}, (∀ a ∈ l, p a = true → q a = true) → l.countP p ≤ l.countP q
  | [], _ => Nat.le_refl _
  | a :: r, h => by
    have ih := countP_le (l := r) fun b hb => h b (List.mem_cons_of_mem _ hb)
    rw [List.countP_cons, List.countP_cons]
    have := h a List.mem_cons_self
    by_cases e : p a = true
    · rw [if_pos e, if_pos (this e)]
      omega
    · rw [if_neg e]
      split <;> omega
theorem countP_lt {α : Type} {p q : α → Bool} {x : α} : ∀ {l : List α}, (∀ a ∈ l, p a = true → q a = true) → x ∈ l → p x = false → q x = true → l.countP p < l.countP q
  | [], _, hx, _, _ => (List.not_mem_nil hx).elim
  | a :: r, h, hx, h1, h2 => by
    have hr : ∀ b ∈ r, p b = true → q b = true := fun b hb => h b (List.mem_cons_of_mem _ hb)
    rw [List.countP_cons, List.countP_cons]
    rcases List.mem_cons.mp hx with rfl | hx
    · have ih := countP_le hr
      rw [if_neg (by rw [h1]; exact Bool.false_ne_true), if_pos h2]
      omega
    · have ih := countP_lt hr hx h1 h2
      have := h a List.mem_cons_self
      by_cases e : p a = true
      · rw [if_pos e, if_pos (this e)]
        omega
      · rw [if_neg e]
        split <;> omega
theorem rank_lt {ks : List Str} {y z : Str} (hy : y ∈ ks) (hz : z ∈ ks) : decide (cs y < cs z) = decide (rankOf ks y < rankOf ks z) := by
  unfold rankOf
  by_cases h : cs y < cs z
  · have h1 := countP_lt (p := fun k => decide (cs k < cs y)) (q := fun k => decide (cs k < cs z)) (l := ks) (fun a _ ha => decide_eq_true (List.lt_trans (of_decide_eq_true ha) h)) hy (decide_eq_false (List.lt_irrefl _)) (decide_eq_true h)
    rw [decide_eq_true h, decide_eq_true (by omega)]
  · have h1 := countP_le (p := fun k => decide (cs k < cs z)) (q := fun k => decide (cs k < cs y)) (l := ks) fun a _ ha => by
      by_cases q : cs a < cs y
      · exact decide_eq_true q
      · exact absurd (List.lt_of_le_of_lt (List.not_lt.mp q) (of_decide_eq_true ha)) h
    rw [decide_eq_false h, decide_eq_false (by omega)]
theorem rank_le {ks : List Str} {y z : Str} (hy : y ∈ ks) (hz : z ∈ ks) (h : rankOf ks y ≤ rankOf ks z) : cs y ≤ cs z := by
  have h1 := rank_lt hz hy
  rw [decide_eq_false (by omega : ¬ rankOf ks z < rankOf ks y)] at h1
  exact List.not_lt.mp (of_decide_eq_false h1)
/-! ### the rule -/
theorem pairs_get {prog : Program} {w : World} {K : Type} [DecidableEq K] {knd : KeyKind prog w K} : ∀ {es : List DictEntry} {kvs : List (K × Value)} {j : Nat} {e : DictEntry}, Pairs knd es kvs → es[j]? = some e → ∃ kv, kvs[j]? = some kv ∧ knd.is kv.1 e.key = true ∧ e.val = kv.2
  | _, _, _, _, .nil, h => by simp at h
  | _, _, 0, _, .cons h1 h2 _, h => by
    cases h
    exact ⟨_, rfl, h1, h2⟩
  | _, _, j + 1, _, .cons _ _ t, h => pairs_get (j := j) t (by simpa using h)
theorem pairs_len {prog : Program} {w : World} {K : Type} [DecidableEq K] {knd : KeyKind prog w K} : ∀ {es : List DictEntry} {kvs : List (K × Value)}, Pairs knd es kvs → es.length = kvs.length
  | _, _, .nil => rfl
  | _, _, .cons _ _ t => congrArg (· + 1) (pairs_len t)
abbrev entS (e : Str × Int) : L2.Key × L2.V := (Sum.inr e.1, L2.V.int e.2)
/-- d.items(), d locked or not -/
theorem mt_itemsK {X : L2.Cx} : L2.MtR X "dict.items" (fun x xs H Q => ∃ d kvs, x = .ref d ∧ xs = [] ∧ L2.Rd H d (.dK kvs) ∧ ∀ r, H r = none → Q (.ref r) (L2.upd H r (L2.DX.itemsO r d))) := by
  intro pins s σ H x xs v us Q I rx rs h
  obtain ⟨d, kvs, rfl, rfl, hd, q⟩ := h
  cases rx
  cases rs
  obtain ⟨_, low, vs, _, o, es, ep, ho, hx, hdat, _⟩ := L2.dk_rd I.hok hd
  refine DT.callItems (es := es) (ep := ep) low ⟨o, ho, hx, hdat⟩ ?_
  exact ⟨.ref s.heap.objs.size, _, I.laid (t' := s.toks) (o := L2.DX.itemsO s.heap.objs.size d) (fun _ _ e => Heap.get?_push_of_some _ e) (Nat.le_refl _) (L2.DX.itemsO_ok (Heap.get?_push_size _ rfl)), rfl, q _ (I.hok.fresh (Nat.le_refl _))⟩
/-- sorted(d.items()), d from texts to ints -/
def rSortTI : List L2.V → L2.Hp → L2.VK → Prop := fun vs H Q => ∃ (p a : Addr) (ks : List (Str × Int)), vs = [.ref p] ∧ H p = some (L2.DX.itemsO p a) ∧ L2.Rd H a (.dK (ks.map entS)) ∧ (ks.map (·.1)).Nodup ∧ ks.length < 64 ∧
  ∀ (H' : L2.Hp) (l : Addr) (ps : List (Addr × Str × Int)), L2.Same H H' → (ps.map (·.2)).Perm ks → (ps.map (·.2)).Pairwise (fun e f => cs e.1 ≤ cs f.1) → H' l = some (.lst (ps.map fun z => L2.V.ref z.1)) → (∀ z ∈ ps, H' z.1 = some (.tup [.str z.2.1, .int z.2.2])) → Q (.ref l) H'
def valS (ks : List (Str × Int)) (y : Str) : Int := ((ks.find? fun e => decide (e.1 = y)).map (·.2)).getD 0
theorem valS_of : ∀ {ks : List (Str × Int)} {e : Str × Int}, (ks.map (·.1)).Nodup → e ∈ ks → valS ks e.1 = e.2
  | [], _, _, h => (List.not_mem_nil h).elim
  | a :: r, e, nd, h => by
    obtain ⟨n1, n2⟩ := List.nodup_cons.mp nd
    unfold valS
    rw [List.find?_cons]
    rcases List.mem_cons.mp h with rfl | h
    · rw [decide_eq_true rfl]
      rfl
    · have ne : ¬ a.1 = e.1 := fun q => n1 (by
      show a.1 ∈ _
      rw [q]
      exact List.mem_map.mpr ⟨e, h, rfl⟩)
      rw [decide_eq_false ne]
      exact valS_of n2 h
open L2 in
theorem cr_sortTI {X : Cx} (hc : X.calm = true) : CallR X (.builtin "sorted") rSortTI := by
  intro pins s σ H xs us Q I r h
  obtain ⟨p, a, ks, rfl, hp, ha, nk, h64, q⟩ := h
  obtain rfl := Vals.ref1 r
  have view : s.heap.IsItemsView p a := (show ObjOk X.prog X.w H s.heap p (DX.itemsO p a) from I.hok p _ hp).1
  obtain ⟨_, low, ws, kv, o, es, ep, ho, hx, hdat, _, prs, _⟩ := dk_rd I.hok ha
  have n1 : ks.length = ws.length := by
    have := Paired.length kv
    rwa [List.length_map] at this
  have n2 : es.size = ws.length := by
    have := pairs_len prs
    rwa [Array.length_toList] at this
  refine DT.sortedI (es := es) (ep := ep) (I.ok.hd hc) view ⟨o, ho, hx, hdat⟩ (by rw [sizeLine_eq]; omega) fun g tk as hk hlt hl hG => ?_
  have nas : as.length = ks.length := by omega
  have nd : as.Nodup := List.Pairwise.imp (fun h => Nat.ne_of_lt h) hG.rise
  have made : ∀ (j : Nat) (b : Addr), as[j]? = some b → ∃ (e : Str × Int) (t u : Tok), ks[j]? = some e ∧ g.get? b = some { cls := .type "tuple", data := .seq #[Value.str e.1 t, Value.int e.2 u] } := by
    intro j b hj
    obtain ⟨en, he, hg⟩ := hG.pairs j b hj
    obtain ⟨kw, hw, h1, h2⟩ := pairs_get (j := j) prs (by rw [Array.getElem?_toList]; exact he)
    obtain ⟨e0, he0, r1, r2⟩ := DX.pget kv hw
    rw [List.getElem?_map] at he0
    cases hkj : ks[j]? with
    | none =>
      rw [hkj] at he0
      cases he0
    | some e =>
      rw [hkj] at he0
      cases he0
      have rk : RelV (kV (Sum.inr e.1)) en.key := relV_key (show keyIs (Sum.inr e.1) en.key = true by rw [show (Sum.inr e.1 : L2.Key) = kw.1 from r1]; exact h1)
      obtain ⟨t, ek⟩ := rk
      have rv : RelV (V.int e.2) en.val := by
        rw [h2]
        exact r2
      obtain ⟨u, ev⟩ := rv
      refine ⟨e, t, u, rfl, ?_⟩
      rw [hg, ek, ev]
  -- the heap while the sort asks
  have lo : (g.push { cls := .type "list", data := .seq (as.map Value.ref).toArray }).get? g.objs.size = some (seqObj "list" (as.map Value.ref).toArray 0) := Heap.get?_push_size _ rfl
  have up : ∀ b o, g.get? b = some o → (g.push { cls := .type "list", data := .seq (as.map Value.ref).toArray }).get? b = some o := fun b o e => Heap.get?_push_of_some _ e
  have off : ∀ b o, g.get? b = some o → b ≠ g.objs.size := fun b o e => Nat.ne_of_lt (Heap.lt_size e)
  generalize g.push { cls := .type "list", data := .seq (as.map Value.ref).toArray } = m at lo up ⊢
  have pin : ∀ (j : Nat) (b : Addr), as[j]? = some b → ∃ e : Str × Int, ks[j]? = some e ∧ PairTI (_root_.TS.midHeap m g.objs.size (as.map Value.ref)) (.ref b) e.1 (valS ks e.1) := by
    intro j b hj
    obtain ⟨e, t, u, he, hg⟩ := made j b hj
    refine ⟨e, he, b, t, u, rfl, ⟨_, _root_.TS.midHeap_old (off _ _ hg) (up _ _ hg), rfl, 0, ?_⟩⟩
    rw [valS_of nk (List.mem_of_getElem? he)]
  have tx : ∀ (j : Nat) (b : Addr) (e : Str × Int), as[j]? = some b → ks[j]? = some e → txK (_root_.TS.midHeap m g.objs.size (as.map Value.ref)) (.ref b) = e.1 := by
    intro j b e hj he
    obtain ⟨e', he', hp'⟩ := pin j b hj
    rw [he] at he'
    cases he'
    exact hp'.tx
  have each : ∀ v ∈ as.map Value.ref, ∃ (j : Nat) (b : Addr) (e : Str × Int), v = .ref b ∧ as[j]? = some b ∧ ks[j]? = some e := by
    intro v hv
    obtain ⟨b, hb, rfl⟩ := List.mem_map.mp hv
    obtain ⟨j, hj⟩ := List.mem_iff_getElem?.mp hb
    obtain ⟨e, _, _, he, _⟩ := made j b hj
    exact ⟨j, b, e, rfl, hj, he⟩
  have inK : ∀ {j : Nat} {e : Str × Int}, ks[j]? = some e → e.1 ∈ ks.map (·.1) := fun h => List.mem_map.mpr ⟨_, List.mem_of_getElem? h, rfl⟩
  refine wpAny_call_entry PyProof.Rows.slot_list_sort ⟨_, lo, rfl⟩ PyProof.Rows.entry_list_sort (SK.plain_sort (s := { s with heap := m, toks := tk })
    (r := fun v => rankOf (ks.map (·.1)) (txK (_root_.TS.midHeap m g.objs.size (as.map Value.ref)) v)) lo (by rw [List.length_map]; omega) (fun two Qk hQk => ?_) fun ps out o1 o2 o3 => ⟨.none, rfl, ?_⟩) (PyProof.Rows.args_list_sort _)
  · refine kindTI (s := { s with heap := _root_.TS.midHeap m g.objs.size (as.map Value.ref), toks := tk }) (ρ := rankOf (ks.map (·.1))) (M := valS ks) two (fun v hv => ?_) (fun v hv u hu => ?_) Qk hQk
    · obtain ⟨j, b, e, rfl, hj, _⟩ := each v hv
      obtain ⟨e', _, hp'⟩ := pin j b hj
      exact ⟨e'.1, hp'⟩
    · obtain ⟨j, b, e, rfl, hj, he⟩ := each v hv
      obtain ⟨j', b', e', rfl, hj', he'⟩ := each u hu
      dsimp only
      rw [tx j b e hj he, tx j' b' e' hj' he']
      exact rank_lt (inK he) (inK he')
  · show EP X pins σ Q (.ref g.objs.size) { s with heap := sortedHeap m g.objs.size (as.map Value.ref) out, toks := tk }
    obtain ⟨zs, pz, ez⟩ := perm_lift (fun z : Addr × Str × Int => (Value.ref z.1, Value.ref z.1)) o2 (as.zip ks) (DX.zip_self Value.ref as ks nas)
    have idx : ∀ z ∈ zs, ∃ j : Nat, as[j]? = some z.1 ∧ ks[j]? = some z.2 := by
      intro z hz
      obtain ⟨j, hj⟩ := List.mem_iff_getElem?.mp (pz.mem_iff.mp hz)
      exact ⟨j, List.getElem?_zip_eq_some.mp hj⟩
    have eout : out.toList = zs.map fun z => Value.ref z.1 := by
      rw [o1, ← ez, List.map_map]
      rfl
    have perm : (zs.map (·.2)).Perm ks := by
      have e := pz.map (·.2)
      rwa [show (as.zip ks).map (·.2) = ks from List.map_snd_zip (by omega)] at e
    have srt : (zs.map (·.2)).Pairwise (fun e f => cs e.1 ≤ cs f.1) := by
      rw [← ez, List.pairwise_map] at o3
      rw [List.pairwise_map]
      refine List.Pairwise.imp_of_mem (fun {x y} hx hy h => ?_) o3
      obtain ⟨j, j1, j2⟩ := idx x hx
      obtain ⟨i, i1, i2⟩ := idx y hy
      dsimp only at h
      rw [tx j _ _ j1 j2, tx i _ _ i1 i2] at h
      exact rank_le (inK j2) (inK i2) h
    have keepM : ∀ b o, b ≠ g.objs.size → m.get? b = some o → (sortedHeap m g.objs.size (as.map Value.ref) out).get? b = some o := fun b o hb e => (PyProof.Rows.sortedHeap_old hb (Heap.lt_size e)).trans e
    have keepS : ∀ b o, s.heap.get? b = some o → (sortedHeap m g.objs.size (as.map Value.ref) out).get? b = some o := fun b o e => keepM b o (off _ _ (hk b o e)) (up _ _ (hk b o e))
    obtain ⟨ce, hce⟩ := PyProof.Rows.sortedHeap_at (vs := as.map Value.ref) (out := out) lo
    have J1 : Inv X pins σ H { s with heap := sortedHeap m g.objs.size (as.map Value.ref) out, toks := tk } := I.kept (t' := tk) keepS
    have free : H g.objs.size = none := I.hok.fresh (Nat.le_of_lt hlt)
    have zlen : (zs.map fun z => V.ref z.1).length ≤ sizeLine := by
      have e := perm.length_eq
      rw [List.length_map] at e
      rw [List.length_map, sizeLine_eq]
      omega
    have J2 : Inv X pins σ (upd H g.objs.size (.lst (zs.map fun z => V.ref z.1))) { s with heap := sortedHeap m g.objs.size (as.map Value.ref) out, toks := tk } :=
      J1.take (h' := sortedHeap m g.objs.size (as.map Value.ref) out) (t' := tk) (fun b ob _ e => e) (I.fpOk (Nat.le_of_lt hlt) free) ⟨zlen, out.toList, ce, by rw [eout]; exact vals_maps (fun z : Addr × Str × Int => V.ref z.1) (fun z => Value.ref z.1) zs fun _ _ => rfl, hce⟩
    obtain ⟨H2, J3, kp, tups⟩ := DX.takeT (P := fun b xs => ∃ (j : Nat) (e : Str × Int), as[j]? = some b ∧ ks[j]? = some e ∧ xs = [V.str e.1, V.int e.2]) I as _ J2 nd fun b hb => by
      obtain ⟨j, hj⟩ := List.mem_iff_getElem?.mp hb
      obtain ⟨e, t, u, he, hg⟩ := made j b hj
      have low' : s.heap.objs.size ≤ b := Nat.le_of_lt (hG.above b hb)
      refine ⟨low', ?_, [V.str e.1, V.int e.2], ⟨j, e, hj, he, rfl⟩, fun H3 => ⟨by show 2 ≤ sizeLine; decide, [Value.str e.1 t, Value.int e.2 u], .cons ⟨t, rfl⟩ (.cons ⟨u, rfl⟩ .nil), ⟨_, keepM _ _ (off _ _ hg) (up _ _ hg), rfl, 0, rfl⟩⟩⟩
      rw [upd_ne (off _ _ hg)]
      exact I.hok.fresh low'
    have same : Same H H2 := fun b o e => kp b o (by rw [upd_ne (ne_of_none e free)]; exact e)
    refine ⟨.ref g.objs.size, H2, J3, rfl, q H2 g.objs.size zs same perm srt (kp _ _ upd_same) fun z hz => ?_⟩
    obtain ⟨i, i1, i2⟩ := idx z hz
    obtain ⟨xs, ⟨j, e, j1, j2, rfl⟩, hH⟩ := tups z.1 (List.mem_of_getElem? i1)
    have eij : i = j := (List.getElem?_inj (List.getElem?_eq_some_iff.mp i1).1 nd).mp (i1.trans j1.symm)
    subst eij
    rw [i2] at j2
    cases j2
    exact hH
/-! ### repr of a dict from texts to ints -/
def dDict (ks : List (Str × Int)) : PyData := .dict (ks.map fun e => (PyData.str e.1, PyData.int e.2))
theorem reads_ks {prog : Program} {w : World} {h : Heap} : ∀ {ks : List (Str × Int)} {es : List DictEntry} {ws : List (L2.Key × Value)}, Pairs (L2.mixKind prog w) es ws → L2.KV (ks.map entS) ws →
    ReadsAll h (es.map (·.key)) (ks.map fun e => PyData.str e.1) [] ∧ ReadsAll h (es.map (·.val)) (ks.map fun e => PyData.int e.2) []
  | [], _, _, .nil, _ => ⟨.nil, .nil⟩
  | [], _, _, .cons _ _ _, kv => by cases kv
  | _ :: _, _, _, .nil, kv => by cases kv
  | e :: r, _, _, .cons h1 h2 t, kv => by
    cases kv with
    | cons hd tl =>
      obtain ⟨i1, i2⟩ := reads_ks (h := h) t tl
      obtain ⟨r1, r2⟩ := hd
      obtain ⟨tk, ek⟩ : L2.RelV (L2.kV (Sum.inr e.1)) _ := L2.relV_key (show L2.keyIs (Sum.inr e.1) _ = true by rw [show (Sum.inr e.1 : L2.Key) = _ from r1]; exact h1)
      obtain ⟨u, ev⟩ : L2.RelV (L2.V.int e.2) _ := by
        rw [← h2] at r2
        exact r2
      refine ⟨?_, ?_⟩
      · rw [List.map_cons, List.map_cons, ek]
        exact ReadsAll.cons (as := []) (bs := []) (.str _ _) i1
      · rw [List.map_cons, List.map_cons, ev]
        exact ReadsAll.cons (as := []) (bs := []) (.int _ _) i2
theorem depth_kv : ∀ ks : List (Str × Int), PyData.depthKv (ks.map fun e => (PyData.str e.1, PyData.int e.2)) = 0
  | [] => by simp [PyData.depthKv]
  | e :: r => by simp [PyData.depthKv, PyData.depth, depth_kv r]
theorem piled_le {n : Nat} : ∀ {ts : List Str}, (∀ t ∈ ts, t.length ≤ n) → piled ts ≤ ts.length * (n + 2)
  | [], _ => by simp [piled]
  | t :: r, h => by
    have h1 := h t List.mem_cons_self
    have h2 := piled_le (ts := r) fun u hu => h u (List.mem_cons_of_mem _ hu)
    have e : piled (t :: r) = t.length + 2 + piled r := by simp [piled]
    rw [e, List.length_cons, Nat.add_mul]
    omega
/-- a dict of pieces and prices may be shown -/
theorem show_dict {ks : List (Str × Int)} (hl : ks.length ≤ 100) (h : ∀ e ∈ ks, e.1.length ≤ 10 ∧ (∀ c ∈ cs e.1, c < 128) ∧ 0 ≤ e.2 ∧ e.2 ≤ 99) : (dDict ks).showable = true ∧ (dDict ks).shown.length ≤ sizeLine := by
  constructor
  · have : ∀ l : List (Str × Int), (∀ e ∈ l, 0 ≤ e.2 ∧ e.2 ≤ 99) → PyData.showableKv (l.map fun e => (PyData.str e.1, PyData.int e.2)) = true := by
      intro l hl
      induction l with
      | nil => simp [PyData.showableKv]
      | cons a r ih =>
        have h1 := hl a List.mem_cons_self
        have h2 : a.2.natAbs.log2 < 1920 := Nat.lt_of_lt_of_le (PySem.Flt.log2_lt_of (k := 7) (by decide) (by omega)) (by decide)
        simp [PyData.showableKv, PyData.showable, h2, ih fun e he => hl e (List.mem_cons_of_mem _ he)]
    unfold dDict
    simp only [PyData.showable]
    exact this ks fun e he => (h e he).2.2
  · have each : ∀ t ∈ PyData.shownKv (ks.map fun e => (PyData.str e.1, PyData.int e.2)), t.length ≤ 2100 := by
      intro t ht
      have gen : ∀ l : List (Str × Int), t ∈ PyData.shownKv (l.map fun e => (PyData.str e.1, PyData.int e.2)) → ∃ e ∈ l, t = reprText e.1 ++ ": " ++ toString e.2 := by
        intro l
        induction l with
        | nil => intro h; simp [PyData.shownKv] at h
        | cons a r ih =>
          intro h
          simp only [List.map_cons, PyData.shownKv, PyData.shown, List.mem_cons] at h
          rcases h with h | h
          · exact ⟨a, List.mem_cons_self, h⟩
          · obtain ⟨e, he, q⟩ := ih h
            exact ⟨e, List.mem_cons_of_mem _ he, q⟩
      obtain ⟨e, he, rfl⟩ := gen ks ht
      obtain ⟨l1, l2, l3, l4⟩ := h e he
      have r1 := StrLaws.reprText_len e.1 fun c hc => Nat.lt_of_lt_of_le (l2 c hc) (by decide)
      have r2 := int_text_len_1921 (i := e.2) (Nat.lt_of_lt_of_le (PySem.Flt.log2_lt_of (k := 7) (by decide) (by omega)) (by decide))
      have r3 : ((": " : String) : Str).length = 2 := by decide +kernel
      rw [strLen_append, strLen_append, r3]
      omega
    unfold dDict
    simp only [PyData.shown]
    unfold dictText
    rw [strLen_append, strLen_append]
    have c1 : (("{" : String) : Str).length = 1 := by decide +kernel
    have c2 : (("}" : String) : Str).length = 1 := by decide +kernel
    have c3 := piled_le each
    have c4 : (PyData.shownKv (ks.map fun e => (PyData.str e.1, PyData.int e.2))).length = ks.length := by
      generalize ks = l
      induction l with
      | nil => simp [PyData.shownKv]
      | cons a r ih => simp [PyData.shownKv, ih]
    rw [c4] at c3
    have c5 : (Str.join ", " (PyData.shownKv (ks.map fun e => (PyData.str e.1, PyData.int e.2)))).length ≤ piled (PyData.shownKv (ks.map fun e => (PyData.str e.1, PyData.int e.2))) := by
      by_cases q : PyData.shownKv (ks.map fun e => (PyData.str e.1, PyData.int e.2)) = []
      · rw [q]
        decide +kernel
      · have := join_length_add _ q
        omega
    have c6 : ks.length * (2100 + 2) ≤ 100 * 2102 := Nat.mul_le_mul_right _ hl
    rw [c1, c2]
    exact Nat.le_trans (by omega : _ ≤ 1000000) (by decide)
def rReprD : List L2.V → L2.Hp → L2.VK → Prop := fun xs H Q => ∃ a ks, xs = [.ref a] ∧ L2.Rd H a (.dK (ks.map entS)) ∧ (dDict ks).showable = true ∧ (dDict ks).shown.length ≤ sizeLine ∧ Q (.str (dDict ks).shown) H
theorem call_reprD {X : L2.Cx} (hg : X.A.guards = some []) (hu : X.A.units + 64 < cLine) : L2.CallR X (.builtin "repr") rReprD := by
  intro pins s σ H xs us Q I r h
  obtain ⟨a, ks, rfl, ha, hs, hz, q⟩ := h
  obtain rfl := L2.Vals.ref1 r
  obtain ⟨_, low, ws, kv, o, es, ep, ho, hx, hdat, _, prs, _⟩ := L2.dk_rd I.hok ha
  obtain ⟨k1, k2⟩ := reads_ks (h := s.heap) prs kv
  have rd : Reads s.heap (.ref a) (dDict ks) [a] := by
    refine Reads.dict (as := []) (bs := []) ho hx.1 hdat ?_ ?_
    · rw [List.map_map]
      exact k1
    · rw [List.map_map]
      exact k2
  have dep : (dDict ks).depth ≤ 10 := by
    unfold dDict
    simp only [PyData.depth, depth_kv]
    omega
  refine repr_of_reads' rd hs (fun _ hm => ?_) hg (by omega) (fun _ _ e => e) (fun h' u tk keeps => ⟨L2.V.str (dDict ks).shown, H, I.kept keeps, ⟨u, rfl⟩, q⟩) hz
  rw [List.mem_singleton.mp hm] at low
  simp at low
/-- dict(pairs) without double keys -/
theorem merge_nd : ∀ {more kvs : List (L2.Key × L2.V)}, ((kvs ++ more).map (·.1)).Nodup → L2.mergeK kvs more = kvs ++ more
  | [], kvs, _ => by rw [List.append_nil]; rfl
  | a :: r, kvs, h => by
    have no : L2.valV kvs a.1 = none := valV_none fun m => by
      rw [List.map_append, List.map_cons] at h
      exact (List.nodup_append.mp h).2.2 _ m _ List.mem_cons_self rfl
    show L2.mergeK (L2.putK kvs a.1 a.2) r = _
    rw [L2.putK_new _ no, merge_nd (by rw [List.append_assoc]; exact h), List.append_assoc]
    rfl
/-- two lists of pairs, both ascending by their texts, with the same pairs -/
theorem pairs_eq {xs ys : List (Str × Int)} (nd : (xs.map (·.1)).Nodup) (hx : xs.Pairwise fun e f => cs e.1 ≤ cs f.1) (hy : ys.Pairwise fun e f => cs e.1 ≤ cs f.1) (p : xs.Perm ys) : xs = ys := by
  refine p.eq_of_pairwise (fun a b ha hb h1 h2 => ?_) hx hy
  have e : a.1 = b.1 := str_ext (List.le_antisymm h1 h2)
  have hb' := p.mem_iff.mpr hb
  have v1 := valS_of nd ha
  have v2 := valS_of nd hb'
  rw [e] at v1
  exact Prod.ext e (v1.symm.trans v2)
theorem lift_ent : ∀ {kvs : List (L2.Key × L2.V)}, (∀ kv ∈ kvs, ∃ z p, kv = (Sum.inr z, L2.V.int p)) → ∃ ks : List (Str × Int), kvs = ks.map entS
  | [], _ => ⟨[], rfl⟩
  | kv :: r, h => by
    obtain ⟨z, p, rfl⟩ := h kv List.mem_cons_self
    obtain ⟨ks, rfl⟩ := lift_ent (kvs := r) fun x hx => h x (List.mem_cons_of_mem _ hx)
    exact ⟨(z, p) :: ks, rfl⟩
theorem keys_ent : ∀ ks : List (Str × Int), keyStrs (ks.map entS) = ks.map (·.1)
  | [] => rfl
  | e :: r => congrArg (e.1 :: ·) (keys_ent r)
theorem nd_ent {ks : List (Str × Int)} (nd : ((ks.map entS).map (·.1)).Nodup) : (ks.map (·.1)).Nodup := by
  have e : (ks.map entS).map (·.1) = (ks.map (·.1)).map (Sum.inr : Str → L2.Key) := by
    rw [List.map_map, List.map_map]
    rfl
  rw [e] at nd
  exact List.Pairwise.imp (fun h q => h (congrArg _ q)) (List.pairwise_map.mp nd)
theorem ps_perm {ks : List (Str × Int)} {ys : List Str} (al : ((ks.map entS).all fun kv => isPiece (L2.kV kv.1) && isPrice kv.2) = true) (nd : ((ks.map entS).map (·.1)).Nodup) (pm : ys.Perm (keyStrs (ks.map entS))) : (psOf (ks.map entS) ys).Perm ks := by
  rw [keys_ent] at pm
  have h1 := pm.map fun y => (y, priceIn (ks.map entS) y)
  refine h1.trans ?_
  rw [List.map_map]
  have h2 : ks.map ((fun y => (y, priceIn (ks.map entS) y)) ∘ (·.1)) = ks := by
    conv => rhs; rw [← List.map_id ks]
    refine List.map_congr_left fun e he => ?_
    have h3 := L2.val_nodup nd _ (List.mem_map.mpr ⟨e, he, rfl⟩)
    have hk : e.1 ∈ keyStrs (ks.map entS) := by
      rw [keys_ent]
      exact List.mem_map.mpr ⟨e, he, rfl⟩
    have h4 := (price_of_key al hk).1
    rw [show L2.valV (ks.map entS) (Sum.inr e.1) = some (L2.V.int e.2) from h3] at h4
    have h5 := L2.V.int.inj (Option.some.inj h4)
    show (e.1, priceIn (ks.map entS) e.1) = e
    rw [← h5]
  rw [h2]
theorem so_ps {kvs : List (L2.Key × L2.V)} {ys : List Str} (h : sortedS ys = true) : (psOf kvs ys).Pairwise fun e f => cs e.1 ≤ cs f.1 := List.pairwise_map.mpr (so_pw h)
theorem ps_keys {kvs : List (L2.Key × L2.V)} {ys : List Str} : (psOf kvs ys).map (·.1) = ys := by
  unfold psOf
  rw [List.map_map]
  exact List.map_id' ys
end G
/-! Own operators: in, ==, | & - of a class's instances, by the promise of the method. -/
namespace G
open PySem PySem.Spec PyProof.Rows L2
open L2 (St)
/-- the promise of a method that returns a truth -/
def backB (Q : VK) : VK := fun r H => ∃ b, r = .bl b ∧ Q (.bl b) H
def rInO (C : Addr) (sp : Sp) : R2 := fun x y H Q => ∃ a dx fs, y = .ref a ∧ H a = some (.ins C dx fs) ∧ sp [.ref a, x] H (backB Q) C8.E0
def rNotInO (C : Addr) (sp : Sp) : R2 := fun x y H Q => ∃ a dx fs, y = .ref a ∧ H a = some (.ins C dx fs) ∧ sp [.ref a, x] H (fun r H' => ∃ b, r = .bl b ∧ Q (.bl (!b)) H') C8.E0
section
variable {X : Cx} {k j : Nat} {C : Addr} {sp : Sp}
theorem met_run {m : Str} {pins : List (Addr × Obj)} {σ : L2.St} {H : Hp} {s : Shared} {Q : VK} {us : List Value} {vs : List V} (c : C8.Met X.prog X.w X.K X.mg X.base k C m sp []) (hr : Room j X.A) (hk : k ≤ j) (I : Inv X pins σ H s) (r : Vals vs us) (h : sp vs H Q C8.E0) :
    ∃ f : Addr, PySem.W.findIn X.K (.ref C) m = some (some (.ref f)) ∧ PySem.W.isFn X.K (.ref f) = true ∧ wpAny (model X.prog X.w) X.A (call (.ref f) us) (EP X pins σ Q) X.xe s := by
  obtain ⟨f, fd, ps, ds, hc, hm, F, b, d⟩ := c.ex
  refine ⟨f, hm.at_, hm.fn, ?_⟩
  have e : vs ++ ([] : List V) = vs := List.append_nil vs
  exact run_fn F (hr.mono hk) b d C8.pass0 I r (by rw [e]; exact h)
theorem op_inO (c : C8.Met X.prog X.w X.K X.mg X.base k C "__contains__" sp []) (hr : Room j X.A) (hk : k ≤ j) : OpR X (compareOp .In) (rInO C sp) := by
  intro pins s σ H x y v u Q I rx ry h
  obtain ⟨a, dx, fs, rfl, ha, q⟩ := h
  cases ry
  obtain ⟨mA, J, _⟩ := ins_get I.hok ha
  obtain ⟨od, J, _⟩ := J.look
  obtain ⟨m, hF⟩ := I.fr
  obtain ⟨f, h1, h2, h3⟩ := met_run (us := [.ref a, v]) (vs := [.ref a, x]) c hr hk I (.cons rfl (.cons rx .nil)) q
  refine PySem.W.in_K hF I.ok.mod.kin J h1 h2 (wpAny_mono h3 (fun r s' hq => ?_) fun _ _ e => e)
  obtain ⟨z, H', I', rz, b, rfl, q⟩ := hq
  cases rz
  exact wpAny_truthy_bool ⟨.bl b, H', I', rfl, q⟩
theorem op_notInO (c : C8.Met X.prog X.w X.K X.mg X.base k C "__contains__" sp []) (hr : Room j X.A) (hk : k ≤ j) : OpR X (compareOp .NotIn) (rNotInO C sp) := by
  intro pins s σ H x y v u Q I rx ry h
  obtain ⟨a, dx, fs, rfl, ha, q⟩ := h
  cases ry
  obtain ⟨mA, J, _⟩ := ins_get I.hok ha
  obtain ⟨od, J, _⟩ := J.look
  obtain ⟨m, hF⟩ := I.fr
  obtain ⟨f, h1, h2, h3⟩ := met_run (us := [.ref a, v]) (vs := [.ref a, x]) c hr hk I (.cons rfl (.cons rx .nil)) q
  refine PySem.W.notIn_K hF I.ok.mod.kin J h1 h2 (wpAny_mono h3 (fun r s' hq => ?_) fun _ _ e => e)
  obtain ⟨z, H', I', rz, b, rfl, q⟩ := hq
  cases rz
  exact wpAny_truthy_bool ⟨.bl (!b), H', I', rfl, q⟩
/-- == of two instances of one class -/
def rEqO (C : Addr) (sp : Sp) : R2 := fun x y H Q => ∃ a dx fs b dy gs, x = .ref a ∧ y = .ref b ∧ H a = some (.ins C dx fs) ∧ H b = some (.ins C dy gs) ∧ sp [.ref a, .ref b] H (backB Q) C8.E0
theorem op_eqO (c : C8.Met X.prog X.w X.K X.mg X.base k C "__eq__" sp []) (hr : Room j X.A) (hk : k ≤ j) (hu : X.A.units < cLine) : OpR X (compareOp .Eq) (rEqO C sp) := by
  intro pins s σ H x y v u Q I rx ry h
  obtain ⟨a, dx, fs, b, dy, gs, rfl, rfl, ha, hb, q⟩ := h
  cases rx
  cases ry
  obtain ⟨_, J, _⟩ := ins_get I.hok ha
  obtain ⟨_, J', _⟩ := ins_get I.hok hb
  obtain ⟨_, J, _⟩ := J.look
  obtain ⟨_, J', _⟩ := J'.look
  obtain ⟨m, hF⟩ := I.fr
  obtain ⟨f, h1, h2, h3⟩ := met_run (us := [.ref a, .ref b]) (vs := [.ref a, .ref b]) c hr hk I (.cons rfl (.cons rfl .nil)) q
  refine PySem.W.cmp_K (op := .Eq) (tb := .ref C) hu hF I.ok.mod.kin J J'.type (by simp [PySem.W.notFirst]) h1 h2 (wpAny_mono h3 (fun r s' hq => ?_) fun _ _ e => e)
  obtain ⟨z, H', I', rz, b', rfl, q⟩ := hq
  cases rz
  exact ⟨.bl b', H', I', rfl, q⟩
end
end G
/-! Needless pieces; books made of parts of books. -/
namespace G
open PySem PySem.Spec PyProof.Rows L2
/-! ### books by their signs -/
structure Sgs (kvs : List (Key × V)) (sg : List Nat) : Prop where
  ok : PrOk sg kvs
  n1 : 1 ≤ sg.length
  n4 : sg.length ≤ 4
  lt : ∀ c ∈ sg, lett c = true
  tf : ∀ c, (∃ q, tfD kvs (ch c) = some q) ↔ c ∈ sg
theorem sgs_of {kvs : List (Key × V)} (av : arePrices kvs = true) (nd : (kvs.map (·.1)).Nodup) : ∃ sg, Sgs kvs sg := by
  obtain ⟨⟨n1, n2⟩, al, n4, _⟩ := ap_parts av
  have tar := tar_of av nd
  have mem : ∀ c, c ∈ (((keyStrs kvs).filter fun z => decide ((cs z).length = 1)).map cs).flatten ↔ ch c ∈ keyStrs kvs := fun c => by
    rw [List.mem_flatten]
    constructor
    · rintro ⟨l, hl, hc⟩
      obtain ⟨z, hz, rfl⟩ := List.mem_map.mp hl
      obtain ⟨h1, h2⟩ := List.mem_filter.mp hz
      obtain ⟨d, rfl⟩ := G.one_sign (z := z) (by simpa using h2)
      have e : c = d := by simpa [cs] using hc
      rw [e]
      exact h1
    · intro h
      exact ⟨[c], List.mem_map.mpr ⟨ch c, List.mem_filter.mpr ⟨h, rfl⟩, rfl⟩, List.mem_cons_self⟩
  have len : (((keyStrs kvs).filter fun z => decide ((cs z).length = 1)).map cs).flatten.length = ((keyStrs kvs).filter fun z => decide ((cs z).length = 1)).length := by
    rw [List.length_flatten, List.map_map]
    have : ∀ l : List Str, (∀ z ∈ l, (cs z).length = 1) → (l.map (List.length ∘ cs)).sum = l.length := by
      intro l h
      induction l with
      | nil => rfl
      | cons a r ih =>
        rw [List.map_cons, List.sum_cons, ih fun z hz => h z (List.mem_cons_of_mem _ hz), List.length_cons]
        have := h a List.mem_cons_self
        show (cs a).length + _ = _
        omega
    exact this _ fun z hz => by simpa using (List.mem_filter.mp hz).2
  have tf : ∀ c, (∃ q, tfD kvs (ch c) = some q) ↔ c ∈ (((keyStrs kvs).filter fun z => decide ((cs z).length = 1)).map cs).flatten := fun c => by
    rw [mem, tf_key al]
  refine ⟨_, ⟨fun kv hkv => ?_, nd⟩, ?_, by rw [len]; exact n4, fun c hc => ?_, tf⟩
  · obtain ⟨z, p, rfl, hp⟩ := tar.mem kv hkv
    exact ⟨z, p, rfl, tar.good.len z p hp, fun c hc => (tf c).mp (tar.good.cov z p hp c hc), tar.good.pos z p hp⟩
  · cases kvs with
    | nil => simp at n1
    | cons a r =>
      obtain ⟨z, p, rfl, hp⟩ := tar.mem a List.mem_cons_self
      have h1 := (tar.good.len z p hp).1
      obtain ⟨c, hc⟩ : ∃ c, c ∈ cs z := by
        cases e : cs z with
        | nil =>
          rw [e] at h1
          simp at h1
        | cons c _ => exact ⟨c, List.mem_cons_self⟩
      exact List.length_pos_of_mem ((tf c).mp (tar.good.cov z p hp c hc))
  · exact (keyStrs_piece al (ch c) ((mem c).mp hc)).2.2 c (by simp [cs])
/-- some of a book's pieces, all signs among them -/
theorem ap_sub {kvs kvs' : List (Key × V)} (av : arePrices kvs = true) (nd : (kvs.map (·.1)).Nodup) (nd' : (kvs'.map (·.1)).Nodup) (sub : ∀ kv ∈ kvs', kv ∈ kvs) (one : ∀ c, (∃ q, tfD kvs (ch c) = some q) → ∃ q, tfD kvs' (ch c) = some q) (len : kvs'.length ≤ 12) :
    arePrices kvs' = true ∧ ∀ c, (∃ q, tfD kvs' (ch c) = some q) ↔ ∃ q, tfD kvs (ch c) = some q := by
  obtain ⟨sg, S⟩ := sgs_of av nd
  have P : PrOk sg kvs' := ⟨fun kv h => S.ok.mem kv (sub kv h), nd'⟩
  obtain ⟨h1, h2⟩ := P.right (fun c hc => by
    obtain ⟨q, hq⟩ := one c ((S.tf c).mpr hc)
    rw [tf_some.mp hq]
    rfl) S.lt S.n4 S.n1 len
  exact ⟨h1, fun c => by rw [h2 c, S.tf c]⟩
theorem tf_put {kvs : List (Key × V)} {z y : Str} {p : Int} : tfD (putK kvs (Sum.inr z) (.int p)) y = if y = z then some p else tfD kvs y := by
  unfold tfD
  rw [valV_put]
  by_cases h : y = z
  · subst h
    rw [if_pos rfl, if_pos rfl]
  · rw [if_neg (fun e => h (Sum.inr.inj e)), if_neg h]
/-- a further piece, or another price -/
theorem ap_put {kvs : List (Key × V)} {z : Str} {p : Int} (av : arePrices kvs = true) (nd : (kvs.map (·.1)).Nodup) (len : kvs.length ≤ 11) (lz : 1 ≤ (cs z).length ∧ (cs z).length ≤ 5) (ov : Over (tfD kvs) (cs z)) (hp : 1 ≤ p ∧ p ≤ 99) :
    arePrices (putK kvs (Sum.inr z) (.int p)) = true ∧ ((putK kvs (Sum.inr z) (.int p)).map (·.1)).Nodup := by
  obtain ⟨sg, S⟩ := sgs_of av nd
  have P : PrOk sg (putK kvs (Sum.inr z) (.int p)) := S.ok.put lz (fun c hc => (S.tf c).mp (ov c hc)) hp
  have h1 := put_len (kvs := kvs) (k := Sum.inr z) (v := .int p)
  refine ⟨(P.right (fun c hc => ?_) S.lt S.n4 S.n1 (by omega)).1, P.nd⟩
  rw [valV_put]
  split
  · rfl
  · obtain ⟨q, hq⟩ := (S.tf c).mpr hc
    rw [tf_some.mp hq]
    rfl
/-! ### needless pieces -/
def remF (F : Tf) (z : Str) : Tf := fun y => if y = z then none else F y
def Needless (F : Tf) (z : Str) : Prop := ∃ p, F z = some p ∧ 1 < (cs z).length ∧ lp (remF F z) (cs z) ≤ p
theorem rem_good {F : Tf} (G : Good F) {z : Str} (hz : 1 < (cs z).length) : Good (remF F z) := by
  have sub : ∀ {y p}, remF F z y = some p → F y = some p := fun {y p} h => by
    unfold remF at h
    split at h
    · cases h
    · exact h
  refine ⟨fun y p h => G.pos y p (sub h), fun y p h => G.len y p (sub h), fun y p h c hc => ?_⟩
  obtain ⟨q, hq⟩ := G.cov y p (sub h) c hc
  refine ⟨q, ?_⟩
  unfold remF
  rw [if_neg fun e => ?_]
  · exact hq
  · rw [← e] at hz
    exact absurd (show 1 < 1 from hz) (by decide)
theorem rem_over {F : Tf} {z : Str} {l : List Nat} (hz : 1 < (cs z).length) (o : Over F l) : Over (remF F z) l := fun c hc => by
  obtain ⟨q, hq⟩ := o c hc
  refine ⟨q, ?_⟩
  unfold remF
  rw [if_neg fun e => ?_]
  · exact hq
  · rw [← e] at hz
    exact absurd (show 1 < 1 from hz) (by decide)
/-! ### dict comprehensions with a test -/
section
variable {α : Type} {J : It} {G : Hp → Prop} {Y : Nat → Hp → V → Hp → Prop}
theorem dcsF (its : List α) (w : Walk J its.length G Y) (keep : α → Bool) (h : α → Key × V) (nd : (its.map fun a => (h a).1).Nodup) {g : TG} {tt : TT} {tk tv : TE} {vs : List Nat} {σ : L2.St} {H1 : Hp} {D : Addr} {Qd : Hp → Prop} (hD : H1 D = none) (hz : its.length ≤ 100000) (hG : ∀ H, Same H1 H → G H)
    (hs : ∀ i a x H H', its[i]? = some a → Same H1 H → Y i H x H' → ∀ (N : V → V → Hp → Prop) (M : Hp → Prop), (∀ H3, keep a = true → Same H H3 → N (kV (h a).1) (h a).2 H3) → (∀ H3, keep a = false → Same H H3 → M H3) →
      g x (wipe σ vs) H' fun σ2 H2 => wipe σ2 vs = wipe σ vs ∧ tt σ2 H2 fun b H3 => if b = true then tk σ2 H3 fun y H4 => tv σ2 H4 fun z H5 => N y z H5 else M H3)
    (hd : ∀ H, Same H1 H → H D = some (.dK ((its.filter keep).map h)) → Qd H) :
    ∃ W : Nat → Nat → Hp → Prop, (∃ m, W 0 m (upd H1 D (.dK []))) ∧ ∀ i m H, W i m H →
      (J.stop i H ∧ Qd H) ∨ (J.go i H ∧ ∃ Nx : Hp → Prop, (∀ H', Nx H' → ∃ m', m' < m ∧ W (i + 1) m' H') ∧ ∀ x H', J.yld i H x H' → g x (wipe σ vs) H' fun σ2 H2 => wipe σ2 vs = wipe σ vs ∧ tt σ2 H2 fun b H3 =>
        if b = true then tk σ2 H3 fun y H4 => tv σ2 H4 fun z H5 => ∃ kvs k, y = kV k ∧ H5 D = some (.dK kvs) ∧ kvs.length < sizeLine ∧ Nx (upd H5 D (.dK (putK kvs k z))) else Nx H3) := by
  refine ⟨fun i m H => m = its.length - i ∧ i ≤ its.length ∧ Same H1 H ∧ H D = some (.dK (((its.take i).filter keep).map h)), ⟨_, rfl, Nat.zero_le _, same_new hD, upd_same⟩, ?_⟩
  rintro i m H ⟨rfl, hi, s, e⟩
  by_cases hlt : i < its.length
  · obtain ⟨a, ha⟩ : ∃ a, its[i]? = some a := ⟨_, List.getElem?_eq_getElem hlt⟩
    refine .inr ⟨w.goes i H hlt (hG H s), fun H' => Same H1 H' ∧ H' D = some (.dK (((its.take (i + 1)).filter keep).map h)), fun H' q => ⟨its.length - (i + 1), by omega, rfl, hlt, q⟩, ?_⟩
    intro x H' y
    have e1 : its.take (i + 1) = its.take i ++ [a] := by
      rw [List.take_add_one, ha]
      rfl
    refine hs i a x H H' ha s (w.yields i H x H' hlt (hG H s) y) _ _ (fun H3 kp s3 => ⟨_, (h a).1, rfl, s3 _ _ e, ?_, fun b o q => ?_, ?_⟩) fun H3 kp s3 => ⟨s.trans s3, ?_⟩
    · have h1 := List.length_filter_le keep (its.take i)
      rw [List.length_take] at h1
      rw [List.length_map]
      exact Nat.lt_of_le_of_lt (by omega : _ ≤ 100000) (by decide)
    · rw [upd_ne (ne_of_none q hD)]
      exact s3 _ _ (s _ _ q)
    · have e2 : valV (((its.take i).filter keep).map h) (h a).1 = none := valV_none fun m => by
        rw [List.map_map] at m
        have nd' : ((its.take (i + 1)).map fun a => (h a).1).Nodup := nd.sublist ((List.take_sublist _ _).map _)
        rw [e1, List.map_append] at nd'
        obtain ⟨b, hb, eb⟩ := List.mem_map.mp m
        exact (List.nodup_append.mp nd').2.2 _ (List.mem_map.mpr ⟨b, (List.mem_filter.mp hb).1, eb⟩) _ (List.mem_singleton.mpr rfl) rfl
      rw [upd_same, putK_new _ e2, e1, List.filter_append, List.map_append]
      have : [a].filter keep = [a] := by simp [kp]
      rw [this]
      rfl
    · have : [a].filter keep = [] := by simp [kp]
      rw [e1, List.filter_append, this, List.append_nil]
      exact s3 _ _ e
  · have ei : i = its.length := by omega
    subst ei
    refine .inl ⟨w.stops H (hG H s), hd H s ?_⟩
    rw [e, List.take_length]
end
noncomputable def needB (kvs : List (Key × V)) (z : Str) : Bool := decide (1 < (cs z).length) && decide (lp (remF (tfD kvs) z) (cs z) ≤ priceIn kvs z)
def others (kvs : List (Key × V)) (ys : List Str) (z : Str) : List (Key × V) := (ys.filter fun y => !decide (y = z)).map fun y => (Sum.inr y, .int (priceIn kvs y))
theorem tf_others {kvs : List (Key × V)} {ys : List Str} {z : Str} (al : (kvs.all fun kv => isPiece (kV kv.1) && isPrice kv.2) = true) (pm : ys.Perm (keyStrs kvs)) : tfD (others kvs ys z) = remF (tfD kvs) z := by
  funext y
  have e := congrFun (tf_psOf al pm) y
  unfold tfD at e ⊢
  rw [kvOf_ps, val_fun] at e
  unfold others remF
  rw [val_fun]
  by_cases h : y = z
  · rw [if_pos h, if_neg (fun q => by simpa [h] using (List.mem_filter.mp q).2)]
  · rw [if_neg h]
    by_cases m : y ∈ ys
    · rw [if_pos m] at e
      rw [if_pos (List.mem_filter.mpr ⟨m, by simp [h]⟩)]
      exact e
    · rw [if_neg m] at e
      rw [if_neg fun q => m (List.mem_filter.mp q).1]
      exact e
theorem tar_others {kvs : List (Key × V)} {ys : List Str} {z : Str} (av : arePrices kvs = true) (pm : ys.Perm (keyStrs kvs)) (ndy : ys.Nodup) (len : ys.length ≤ 1000) (hz : 1 < (cs z).length) : Tar (others kvs ys z) := by
  obtain ⟨_, al, _, _⟩ := ap_parts av
  have e := tf_others (z := z) al pm
  refine ⟨by rw [e]; exact rem_good (good_of av) hz, fun kv hkv => ?_, ?_⟩
  · obtain ⟨y, hy, rfl⟩ := List.mem_map.mp hkv
    refine ⟨y, priceIn kvs y, rfl, ?_⟩
    unfold tfD others
    rw [val_fun, if_pos hy]
  · unfold others
    rw [List.length_map]
    exact Nat.le_trans (List.length_filter_le _ _) len
theorem ne_key {y z : Str} {b : Bool} (q : (!decide (V.str y = kV (Sum.inr z))) = b) : (!decide (y = z)) = b := by
  rw [← q]
  have e : decide (V.str y = kV (Sum.inr z)) = decide (y = z) := decide_eq_decide.mpr ⟨fun h => V.str.inj h, fun h => congrArg V.str h⟩
  rw [e]
def partK (kvs : List (Key × V)) (ys : List Str) (q : Str → Bool) : List (Key × V) := (ys.filter q).map fun y => (Sum.inr y, .int (priceIn kvs y))
theorem tf_part {kvs : List (Key × V)} {ys : List Str} {q : Str → Bool} (al : (kvs.all fun kv => isPiece (kV kv.1) && isPrice kv.2) = true) (pm : ys.Perm (keyStrs kvs)) (z : Str) : tfD (partK kvs ys q) z = if q z = true then tfD kvs z else none := by
  have e := congrFun (tf_psOf al pm) z
  unfold tfD at e ⊢
  rw [kvOf_ps, val_fun] at e
  unfold partK
  rw [val_fun]
  by_cases h : q z = true
  · rw [if_pos h]
    by_cases m : z ∈ ys
    · rw [if_pos m] at e
      rw [if_pos (List.mem_filter.mpr ⟨m, h⟩)]
      exact e
    · rw [if_neg m] at e
      rw [if_neg fun w => m (List.mem_filter.mp w).1]
      exact e
  · rw [if_neg h, if_neg fun w => h (List.mem_filter.mp w).2]
theorem part_book {kvs : List (Key × V)} {ys : List Str} {q : Str → Bool} (av : arePrices kvs = true) (nd : (kvs.map (·.1)).Nodup) (pm : ys.Perm (keyStrs kvs)) (one : ∀ c, (∃ p, tfD kvs (ch c) = some p) → q (ch c) = true) :
    arePrices (partK kvs ys q) = true ∧ ((partK kvs ys q).map (·.1)).Nodup := by
  obtain ⟨⟨_, n2⟩, al, _, _⟩ := ap_parts av
  have ndy : ys.Nodup := pm.nodup_iff.mpr (keys_nd al nd)
  have ly : ys.length ≤ 12 := by
    have h := congrArg List.length (keys_of al)
    rw [List.length_map, List.length_map] at h
    rw [pm.length_eq]
    omega
  have nd' : ((partK kvs ys q).map (·.1)).Nodup := by
    unfold partK
    rw [List.map_map]
    exact List.pairwise_map.mpr (List.Pairwise.imp (R := fun a b : Str => a ≠ b) (fun h e => h (Sum.inr.inj e)) (ndy.filter _))
  refine ⟨(ap_sub av nd nd' (fun kv hkv => ?_) (fun c hc => ?_) ?_).1, nd'⟩
  · obtain ⟨y, hy, rfl⟩ := List.mem_map.mp hkv
    exact valV_mem (price_of_key al (pm.mem_iff.mp (List.mem_filter.mp hy).1)).1
  · obtain ⟨p, hp⟩ := hc
    exact ⟨p, by rw [tf_part al pm, if_pos (one c ⟨p, hp⟩)]; exact hp⟩
  · unfold partK
    rw [List.length_map]
    exact Nat.le_trans (List.length_filter_le _ _) ly
theorem need_sign {F : Tf} {c : Nat} : ¬ Needless F (ch c) := fun ⟨_, _, h, _⟩ => absurd (show 1 < 1 from h) (by decide)
/-! ### promises -/
def spNeedIn (C : Addr) : Sp := fun vs H Q _ => ∃ b kvs, vs = [.ref b] ∧ Book1 C H b kvs ∧ ∀ p (zs : List Str) H', H p = none → H' p = some (.lst (zs.map V.str)) → (∀ z, z ∈ zs ↔ Needless (tfD kvs) z) → (zs.Pairwise (fun y z => cs y ≤ cs z) ∧ zs.Nodup) → Same H H' → Q (.ref p) H'
def spNeed (C : Addr) : Sp := fun vs H Q _ => ∃ b kvs, vs = [.ref b] ∧ Book1 C H b kvs ∧ ∀ p (zs : List Str) H', H p = none → H' p = some (.tup (zs.map V.str)) → (∀ z, z ∈ zs ↔ Needless (tfD kvs) z) → (zs.Pairwise (fun y z => cs y ≤ cs z) ∧ zs.Nodup) → Same H H' → Q (.ref p) H'
def spLeast (C : Addr) : Sp := fun vs H Q _ => ∃ b kvs, vs = [.ref b] ∧ Book1 C H b kvs ∧ ∀ p kvs' H', Book1 C H' p kvs' → (∀ z q, tfD kvs' z = some q ↔ tfD kvs z = some q ∧ ¬ Needless (tfD kvs) z) → Same H H' → Q (.ref p) H'
def spResult (C : Addr) : Sp := fun vs H Q _ => ∃ d kvs, vs = [.ref d] ∧ H d = some (.dK kvs) ∧ arePrices kvs = true ∧ (kvs.map (·.1)).Nodup ∧ ∀ p H', Book1 C H' p kvs → Same H H' → Q (.ref p) H'
def spWith (C : Addr) : Sp := fun vs H Q _ => ∃ b kvs z p, vs = [.ref b, .str z, .int p] ∧ Book1 C H b kvs ∧ kvs.length ≤ 11 ∧ (1 ≤ (cs z).length ∧ (cs z).length ≤ 5) ∧ Over (tfD kvs) (cs z) ∧ (1 ≤ p ∧ p ≤ 99) ∧
  ∀ b' kvs' H', Book1 C H' b' kvs' → (∀ y, tfD kvs' y = if y = z then some p else tfD kvs y) → kvs'.length ≤ kvs.length + 1 → Same H H' → Q (.ref b') H'
/-- own in, of a text -/
def spHasKey (C : Addr) : Sp := fun vs H Q _ => ∃ b kvs z, vs = [.ref b, .str z] ∧ Book1 C H b kvs ∧ z.length ≤ 8000 ∧ ∀ H', Same H H' → Q (.bl (tfD kvs z).isSome) H'
/-! ### name = {k: v for ..}, the name a local -/
section
variable {X : L2.Cx}
abbrev AllBlk (X : L2.Cx) (scope : Scope) (P : L2.Cx → Prop) : Prop := ∀ (s : Shared) (H : L2.Hp) (C : Addr) (cl : List (Str × Addr)) (fp : List Addr), P (X.blk s H scope (compEnvC scope cl C X.env) fp)
theorem ps_setDc {i : Nat} {y : Str} {py : Pos} {kx vx tg iter : Expr} {ifs : List Expr} {scope : Scope} {own : List (Str × Nat)} {pos spos : Pos} {wi : TI} {g : TG} {tt : TT} {tk tv : TE} (hc : X.calm = true) (hN : X.N.Nodup) (hy : X.N[i]? = some y) (hyl : X.env.scope.names.lookup y = some .local)
    (hsw : swapsWith (.DictComp kx vx [⟨tg, iter, ifs, 0⟩] scope pos) (some (.Name y py)) spos.line X.env = pure true) (hi : PI X tg iter wi) (ok : BlkOk X.N X.env.scope scope own)
    (hg : AllBlk X scope fun B => PG B tg g) (ht : AllBlk X scope fun B => PTs B ifs tt) (hk : AllBlk X scope fun B => PE B kx tk) (he : AllBlk X scope fun B => PE B vx tv)
    (hs : ∀ x, foldedSetIterable iter X.env x = pure x := by intro _; rfl) : PS X (.Assign [.Name y py] (.DictComp kx vx [⟨tg, iter, ifs, 0⟩] scope pos) spos) (tAsg (tDc wi g tt tk tv (own.map (·.2))) (gName i)) := by
  refine ⟨fun pins s σ H D I h => ?_⟩
  rw [exec_Assign_Name_used _ _ _ _ hsw]
  refine wpAny_bind (wpAny_standAt (wpAny_bind ?_))
  show wpAny _ X.A (do let _ ← comprehension (.DictComp kx vx [⟨tg, iter, ifs, 0⟩] scope pos) scope X.env (firstIterPos [⟨tg, iter, ifs, 0⟩] pos) newDict false (eval iter X.env) (some (assign (.Name y py) X.env))) _ _ s
  have h : tDc wi g tt tk tv (own.map (·.2)) σ H (fun x H1 => gName i x σ H1 D.nx) := h
  refine wpAny_bind (thn (dc_core (Qf := fun _ s' => SP X pins D .next s') hc hN I hi ok hg ht hk he hs h fun L C s' m H' I' q hn f => ?_) fun _ s' hq => wpAny_pure (wpAny_pure hq))
  show wpAny _ _ (assign (.Name y py) X.env (.ref L)) _ _ _
  refine wpAny_assign_Name (store_ok2 (v := V.ref L) I' hN hy (.inl hyl) rfl (fun s2 I2 ⟨a, sb, ha⟩ => ?_) (.inr hyl))
  obtain ⟨f0, f1, f2, f3, f4, f5⟩ := f
  have other : C ≠ a := by
    rcases ha with z | z
    · rw [z]
      exact f1
    · exact fun e => f4 y a z e.symm
  exact ⟨m, hn.sameBut sb other, fun h3 sb3 => ⟨_, H', I2.turned (t' := s2.toks) (fun b o hb e => (sb3.2 b hb).trans e) f0 f1 f3 f4 f5, q⟩⟩
theorem sw_trueD {kx vx : Expr} {gs : List Comprehension} {scope : Scope} {pos py : Pos} {y : Str} {l : Nat} {env : Env} (hk : env.scope.kind = .function) (hy : env.scope.names.lookup y = some .local) (hl : (py.line == pos.line) = true)
    (ha : (scope.names.any fun (n, k) => n == y && (k == .local || k == .cell)) = false) : swapsWith (.DictComp kx vx gs scope pos) (some (.Name y py)) l env = pure true := by
  have kind : env.kindOf y = some .local := hy
  have fn : env.blockKind = .function := by
    unfold Env.blockKind
    rw [hk]
    rfl
  unfold swapsWith
  simp only [fn, kind, ha, Expr.pos, hl]
  rfl
end
end G
/-! != of instances that have only ==; - and others with a value of another kind. -/
namespace G
open PySem PySem.Spec PyProof.Rows L2
section
variable {prog : Program} {w : World} {A : Around} {E : Value → Shared → Prop} {s : Shared} {K : PySem.W.Frag} {x y C f : Addr} {ox : Obj} {od : Option Obj}
theorem ne_entry {Q : Fin → Shared → Prop} (X : K.In s.heap) (I : PySem.W.InstAt s.heap x ox C od) (hs : PySem.W.findIn K (.ref C) "__eq__" = some (some (.ref f))) (hf : PySem.W.isFn K (.ref f) = true) (hu : A.units < cLine)
    (h : wpAny (model prog w) A (call (.ref f) [.ref x, .ref y]) (fun v s' => ∃ b, v = .bool b ∧ Q (.done (.ret (.bool (!b)))) s') E s) : wpAny (model prog w) A (Builtin.«object.__ne__» ⟨[.ref x, .ref y], []⟩) Q E s := by
  unfold Builtin.«object.__ne__»
  repeat (first
    | with_reducible refine wpAny_cRoomFor hu ?_
    | (refine wpAny_bind (m := callSpecialIfBound? (.ref x) (Str.ofString "__eq__") [.ref y]) (PySem.W.ifBound_K X I hs hf (wpAny_mono h (fun r s' hr => ?_) fun _ _ e => e)))
    | wp_step)
  obtain ⟨b, rfl, hq⟩ := hr
  repeat (first
    | exact hq
    | exact wpAny_pure hq
    | exact wpAny_truthy_bool hq
    | (refine wpAny_bind (m := truthy (.bool _)) (wpAny_truthy_bool ?_))
    | wp_step)
theorem call_ne {Q : Value → Shared → Prop} (X : K.In s.heap) (I : PySem.W.InstAt s.heap x ox C od) (hm : PySem.W.mroIn K C (.type "object") = some true) (hs : PySem.W.findIn K (.ref C) "__eq__" = some (some (.ref f))) (hf : PySem.W.isFn K (.ref f) = true) (hu : A.in1.units < cLine)
    (h : wpAny (model prog w) A.in1 (call (.ref f) [.ref x, .ref y]) (fun v s' => ∃ b, v = .bool b ∧ Q (.bool (!b)) s') E s) : wpAny (model prog w) A (call (.builtin "object.__ne__") [.ref x, .ref y]) Q E s :=
  wpAny_call (codeAny_call_builtin F.cmp_object.ne.plain F.cmpEntry_ne (PySem.W.check_slot F.cmpKind_ne F.cmpSplit_ne (I.type.andThen (PySem.W.looks_mroIn X hm)) (F.cmpArgs_ne _ _) (ne_entry X I hs hf hu h)))
theorem bound_ne {args : List Value} {Q : Option Value → Shared → Prop} {M : Model} (X : K.In s.heap) (I : PySem.W.InstAt s.heap x ox C od) (hs : PySem.W.findIn K (.ref C) "__ne__" = some (some (.builtin "object.__ne__")))
    (h : wpAny M A (call (.builtin "object.__ne__") (.ref x :: args)) (fun v => Q (some v)) E s) : wpAny M A (callSpecialIfBound? (.ref x) "__ne__" args) Q E s := by
  simp only [callSpecialIfBound?, bindSpecialIfBound?]
  refine wpAny_holding (wpAny_bind (wpAny_bind (wpAny_bind (I.type.here ((PySem.W.looks_findIn X hs).here ?_)))))
  have go : wpAny M A (call (.builtin "object.__ne__") ([.ref x] ++ args) >>= fun v => pure (some v)) Q E s := wpAny_bind (wpAny_mono h (fun v s' q => wpAny_pure q) fun _ _ q => q)
  refine wpAny_bind (wpAny_askSetting (wpAny_ite ?_))
  split
  · exact wpAny_bind (wpAny_of_eq (F.cmp_object.ne.bind _) (wpAny_pure (by exact go)))
  · exact wpAny_tryCatch (wpAny_bind (wpAny_of_eq (F.cmp_object.ne.bind _) (wpAny_pure (by exact go))))
end
section
variable {X : L2.Cx} {k j : Nat} {C : Addr} {sp : Sp}
/-- the method run below a built-in -/
theorem met_run1 {m : Str} {pins : List (Addr × Obj)} {σ : L2.St} {H : Hp} {s : Shared} {Q : VK} {us : List Value} {vs : List V} (c : C8.Met X.prog X.w X.K X.mg X.base k C m sp []) (hr : Room j X.A) (hk : k + 1 ≤ j) (I : Inv X pins σ H s) (r : Vals vs us) (h : sp vs H Q C8.E0) :
    ∃ f : Addr, PySem.W.findIn X.K (.ref C) m = some (some (.ref f)) ∧ PySem.W.isFn X.K (.ref f) = true ∧ wpAny (model X.prog X.w) X.A.in1 (call (.ref f) us) (EP X pins σ Q) X.xe s := by
  obtain ⟨f, fd, ps, ds, hc, hm, F, b, d⟩ := c.ex
  refine ⟨f, hm.at_, hm.fn, ?_⟩
  have sb : Sub X k X.A.in1 := (Sub.in1 (n := k) ⟨hr.mono hk, rfl⟩)
  have e0 : Env0 X.prog X.w X.K X.mg X.base X.A.in1 X.stack s H := by
    have e := I.env0
    exact ⟨by rw [sb.fr]; exact e.frames, e.mod, e.bs, e.bsz, e.funs, e.frf, e.hok, e.bare⟩
  have h' : sp (vs ++ []) H Q C8.E0 := by
    rw [List.append_nil]
    exact h
  have r2 : Vals (vs ++ []) (us ++ ds) := r.append d
  have hl : (us ++ ds).length = ps.length := by
    rw [← r2.length]
    exact F.len _ _ _ _ h'
  refine wpAny_call (codeAny_mono (F.run X.A.in1 X.stack s H ⟨us, []⟩ (us ++ ds) (vs ++ []) Q C8.E0 sb.room e0 (b s us I.kIn hl) r2 h') fun r s' hq => ?_)
  cases r with
  | error e => exact C8.pass0 (E := C8.E0) pins σ H s e s' I hq
  | ok fl =>
    cases fl with
    | ret u => exact I.after hq
    | next => exact False.elim hq
    | brk => exact False.elim hq
    | cont => exact False.elim hq
def rNeO (C : Addr) (sp : Sp) : R2 := fun x y H Q => ∃ a dx fs b dy gs, x = .ref a ∧ y = .ref b ∧ H a = some (.ins C dx fs) ∧ H b = some (.ins C dy gs) ∧ sp [.ref a, .ref b] H (fun r H' => ∃ b, r = .bl b ∧ Q (.bl (!b)) H') C8.E0
theorem op_neO (c : C8.Met X.prog X.w X.K X.mg X.base k C "__eq__" sp []) (hr : Room j X.A) (hk : k + 1 ≤ j) (hu : X.A.units + 1 < cLine) (hm : PySem.W.mroIn X.K C (.type "object") = some true) (hne : PySem.W.findIn X.K (.ref C) "__ne__" = some (some (.builtin "object.__ne__"))) : OpR X (compareOp .NotEq) (rNeO C sp) := by
  intro pins s σ H x y v u Q I rx ry h
  obtain ⟨a, dx, fs, b, dy, gs, rfl, rfl, ha, hb, q⟩ := h
  cases rx
  cases ry
  obtain ⟨_, J, _⟩ := ins_get I.hok ha
  obtain ⟨_, J', _⟩ := ins_get I.hok hb
  obtain ⟨_, J, _⟩ := J.look
  obtain ⟨_, J', _⟩ := J'.look
  obtain ⟨m, hF⟩ := I.fr
  have kin := I.kIn
  obtain ⟨f, h1, h2, h3⟩ := met_run1 (us := [.ref a, .ref b]) (vs := [.ref a, .ref b]) c hr hk I (.cons rfl (.cons rfl .nil)) q
  have one : wpAny (model X.prog X.w) X.A (tryCompare (.ref a) "__ne__" (.ref b)) (fun r s' => ∃ v, r = some v ∧ EP X pins σ Q v s') X.xe s := by
    unfold tryCompare
    refine wpAny_bind (bound_ne kin J hne (call_ne kin J hm h1 h2 (show X.A.units + 1 < cLine from hu) (wpAny_mono h3 (fun r s' hq => ?_) fun _ _ e => e)))
    obtain ⟨z, H', I', rz, b', rfl, q'⟩ := hq
    cases rz
    exact ⟨b', rfl, wpAny_pure ⟨_, rfl, .bl (!b'), H', I', rfl, q'⟩⟩
  show wpAny _ _ (richCompare .NotEq (.ref a) (.ref b)) _ _ _
  unfold richCompare
  simp only [oneThing_ref]
  refine wpAny_holding (wpAny_bind (wpAny_cRoomFor (by omega) ?_))
  refine wpAny_bind (J.type.here (wpAny_bind (J'.type.here ?_)))
  split
  · rename_i q
    simp at q
  · refine wpAny_bind (wpAny_pure ?_)
    simp only [Bool.false_eq_true, if_false]
    refine wpAny_bind (wpAny_mono one (fun r s' z => ?_) fun _ _ e => e)
    obtain ⟨v, rfl, hq⟩ := z
    exact wpAny_pure hq
end
section
open PySem.W PySem.Calls
variable {prog : Program} {w : World} {A : Around} {E : Value → Shared → Prop} {s : Shared} {K : Frag} {x C f : Addr} {ox : Obj} {od : Option Obj} {T : String}
/-- an own operator whose right side is of a built-in type, wherever it lies -/
theorem bin_own {op : Operator} {b : Value} {fo ro : Option Value} {Q : Value → Shared → Prop} (X : K.In s.heap) (I : InstAt s.heap x ox C od) (hb : Looks (model prog w) s.heap (typeOf b) (.type T)) (first : selfFirst K C = true)
    (own : findIn K (.ref C) (PySem.dunder op.info.2) = some (some (.ref f))) (fn : isFn K (.ref f) = true) (back : findIn K (.ref C) (dunderR op.info.2) = some none) (tl : findIn K (.type T) (PySem.dunder op.info.2) = some fo) (tr : findIn K (.type T) (dunderR op.info.2) = some ro)
    (apart : subIn K (.type T) (.ref C) = some false) (h : wpAny (model prog w) A (call (.ref f) [.ref x, b]) (PySem.W.CmpBack Q) E s) : wpAny (model prog w) A (binaryOp op (.ref x) b) Q E s := by
  obtain ⟨cd, rest, k1, k2⟩ := ksp_first first
  rcases info : op.info with ⟨sign, nm⟩
  rw [info] at own back tl tr
  dsimp only at own back tl tr
  have go := ksp_try X I own fn h
  obtain ⟨hp, gn, dr, tk, os⟩ := s
  have a1 : Looks (model prog w) hp (typeOf (.ref x)) (.ref C) := I.type
  have a2 : Looks (model prog w) hp (typeOf b) (.type T) := hb
  have a3 : Looks (model prog w) hp (fillsNumberSlot (.ref C) nm) true := fills_K X k1 k2 own
  have a4 := ksp_fillsT (M := model prog w) X tl tr
  have a5 : Looks (model prog w) hp (isSubtype (.type T) (.ref C)) false := looks_subIn X apart
  have a6 : Looks (model prog w) hp (numberSlotInPython (.ref C) nm) true := ksp_inPy X own back (Or.inl rfl)
  have a7 : Looks (model prog w) hp (numberSlotInPython (.type T) nm) false := Looks.of_pure rfl
  have a8 : Looks (model prog w) hp (typeLookup (.type T) (dunderR nm)) ro := looks_findIn X tr
  generalize ((fo.isSome && !isSeqSlot fo) || (ro.isSome && !isSeqSlot ro)) = both at a4
  have differ : (Value.ref C == Value.type T) = false := Bool.eq_false_iff.mpr fun q => by cases beq_iff_eq.mp q
  simp only [binaryOp, info]
  unfold binaryOp1
  refine wpAny_holding (wpAny_bind (wpAny_bind (a1.at (wpAny_bind (a2.at (wpAny_bind (a3.at ?_)))))))
  simp only [differ, Bool.false_eq_true, if_false]
  cases both
  all_goals
    ksp_lk
    refine wpAny_mono go (fun r s' hr' => ?_) fun _ _ e => e
    obtain ⟨v, rfl, hq⟩ := hr'
    ksp_lk
    exact hq
end
section
variable {X : L2.Cx} {k j : Nat} {C : Addr} {sp : Sp}
def rSubO (K : PySem.W.Frag) (C : Addr) (sp : Sp) : R2 := fun x y H Q => ∃ a dx fs t xs, x = .ref a ∧ y = .ref t ∧ H a = some (.ins C dx fs) ∧ SqT K H t xs ∧ sp [.ref a, .ref t] H (fun r H' => (∃ b, r = .ref b) ∧ Q r H') C8.E0
theorem op_subO (K : PySem.W.Frag) (c : C8.Met X.prog X.w X.K X.mg X.base k C "__sub__" sp []) (hr : Room j X.A) (hk : k ≤ j) (first : PySem.W.selfFirst X.K C = true) (back : PySem.W.findIn X.K (.ref C) "__rsub__" = some none)
    (tl : PySem.W.findIn X.K (.type "tuple") "__sub__" = some none) (tr : PySem.W.findIn X.K (.type "tuple") "__rsub__" = some none) (apart : PySem.W.subIn X.K (.type "tuple") (.ref C) = some false) (e : X.K = K := by rfl) : OpR X (binaryOp .Sub) (rSubO K C sp) := by
  subst e
  intro pins s σ H x y v u Q I rx ry h
  obtain ⟨a, dx, fs, t, xs, rfl, rfl, ha, ht, q⟩ := h
  cases rx
  cases ry
  obtain ⟨_, J, _⟩ := ins_get I.hok ha
  obtain ⟨_, J, _⟩ := J.look
  obtain ⟨its, _, p1, _⟩ := I.tuple ht
  obtain ⟨f, h1, h2, h3⟩ := met_run (us := [.ref a, .ref t]) (vs := [.ref a, .ref t]) c hr hk I (.cons rfl (.cons rfl .nil)) q
  obtain ⟨ob, g1, g2, n, g3⟩ := p1
  refine bin_own (op := .Sub) I.kIn J (b := .ref t) (T := "tuple") ?_ first h1 h2 back tl tr apart (wpAny_mono h3 (fun r s' hq => ?_) fun _ _ e => e)
  · intro A Q E s' k q
    exact wpAny_typeOf_ref (k _ _ g1) (by rw [g2]; exact q)
  · obtain ⟨z, H', I', rz, ⟨b, rfl⟩, q⟩ := hq
    cases rz
    exact ⟨.ref b, H', I', rfl, q⟩
end
/-! ### == of dicts with texts and ints, different only in their sizes; not in, of data -/
def rEqDB : R2 := fun x y H Q => ∃ a b ks ls, x = .ref a ∧ y = .ref b ∧ Rd H a (.dK ks) ∧ Rd H b (.dK ls) ∧
  ((ks.length = ls.length ∧ (∀ p ∈ ks, valV ls p.1 = some p.2 ∧ flatB p.2 = true) ∧ Q (.bl true) H) ∨ (ks.length ≠ ls.length ∧ Q (.bl false) H))
section
variable {X : L2.Cx}
theorem op_eqDB (hu : X.A.units + 64 < cLine) : OpR X (compareOp .Eq) rEqDB := by
  intro pins s σ H x y v u Q I rx ry h
  obtain ⟨a, b, ks, ls, rfl, rfl, ea, eb, q⟩ := h
  cases rx
  cases ry
  obtain ⟨_, la, va, ra, da⟩ := dk_rd I.hok ea
  obtain ⟨_, lb, vb, rb, db⟩ := dk_rd I.hok eb
  have na := Paired.length ra
  have nb := Paired.length rb
  rcases q with ⟨hl, hp, q⟩ | ⟨hl, q⟩
  · exact PySem.W.keq_eq (knd := mixKind X.prog X.w) (r := true) la lb da db (by omega) (fun _ => hits_all rb ra hp) (fin_bl I q (by simp [show va.length = vb.length by omega]))
  · exact PySem.W.keq_eq (knd := mixKind X.prog X.w) (r := true) la lb da db (by omega) (fun e => absurd e (by omega)) (fin_bl I q (by simp [show ¬ va.length = vb.length by omega]))
theorem units65 {k : Nat} {A : Around} (r : Room k A) : A.units + 65 < cLine := by
  have := r.un
  omega
theorem g_notInD (K : PySem.W.Frag) (hu : X.A.units + 65 < cLine) (e : X.K = K := by rfl) : OpR X (compareOp .NotIn) (rNotInD K) := by
  subst e
  exact op_notInD hu
end
/-! ### dicts that are equal, their sizes not asked -/
def rNeDS : R2 := fun x y H Q => ∃ a b ks ls, x = .ref a ∧ y = .ref b ∧ Rd H a (.dK ks) ∧ Rd H b (.dK ls) ∧ (∀ p ∈ ks, ∃ v, valV ks p.1 = some v ∧ valV ls p.1 = some v ∧ flatB v = true) ∧ (∀ p ∈ ls, p.1 ∈ ks.map (·.1)) ∧ Q (.bl false) H
theorem kvR_keys : ∀ {ks : List (Key × V)} {vs : List (Key × Value)}, KV ks vs → ks.map (·.1) = vs.map (·.1)
  | [], _, h => by
    cases h
    rfl
  | k :: r, _, h => by
    cases h with
    | cons h1 t => rw [List.map_cons, List.map_cons, kvR_keys t, h1.1]
theorem nd_le {α : Type} [DecidableEq α] {l1 l2 : List α} (nd : l1.Nodup) (h : ∀ a ∈ l1, a ∈ l2) : l1.length ≤ l2.length := @nd_sub_len α instBEqOfDecidableEq inferInstance l1 l2 nd h
theorem op_neDS {X : L2.Cx} (hu : X.A.units + 64 < cLine) : OpR X (compareOp .NotEq) rNeDS := by
  intro pins s σ H x y v u Q I rx ry h
  obtain ⟨a, b, ks, ls, rfl, rfl, ea, eb, h0, h2, q⟩ := h
  cases rx
  cases ry
  obtain ⟨_, la, va, ra, da⟩ := dk_rd I.hok ea
  obtain ⟨_, lb, vb, rb, db⟩ := dk_rd I.hok eb
  have na := Paired.length ra
  have nb := Paired.length rb
  have nda : (ks.map (·.1)).Nodup := by
    rw [kvR_keys ra]
    obtain ⟨_, _, _, _, _, _, _, _, nd⟩ := da
    exact nd
  have ndb : (ls.map (·.1)).Nodup := by
    rw [kvR_keys rb]
    obtain ⟨_, _, _, _, _, _, _, _, nd⟩ := db
    exact nd
  have h1 : ∀ p ∈ ks, valV ls p.1 = some p.2 ∧ flatB p.2 = true := fun p hp => by
    obtain ⟨v, e1, e2, e3⟩ := h0 p hp
    rw [val_nodup nda p hp] at e1
    cases e1
    exact ⟨e2, e3⟩
  have i1 := nd_le (l2 := ls.map (·.1)) nda fun k hk => by
    obtain ⟨p, hp, rfl⟩ := List.mem_map.mp hk
    exact valV_in (h1 p hp).1
  have i2 := nd_le (l2 := ks.map (·.1)) ndb fun k hk => by
    obtain ⟨p, hp, rfl⟩ := List.mem_map.mp hk
    exact h2 p hp
  rw [List.length_map, List.length_map] at i1 i2
  exact PySem.W.keq_ne (knd := mixKind X.prog X.w) (r := true) la lb da db (by omega) (fun _ => hits_all rb ra h1) (fin_bl I q (by simp [show va.length = vb.length by omega]))
end G
/-! All cuts of a text, as lists of pieces. -/
namespace G
open PySem PySem.Spec PyProof.Rows L2
def IsCut (F : Tf) (l : List Nat) (c : List Str) : Prop := (∀ y ∈ c, ∃ p, F y = some p) ∧ (c.map cs).flatten = l
/-- a list of objects that are just the cuts -/
structure CutsAt (H : Hp) (F : Tf) (l : List Nat) (ws : List (Addr × List Str)) : Prop where
  at_ : ∀ w ∈ ws, H w.1 = some (.tup (w.2.map V.str))
  all : ∀ c, (∃ w ∈ ws, w.2 = c) ↔ IsCut F l c
  len : ws.length ≤ 2 ^ l.length
theorem CutsAt.same {H H' : Hp} {F : Tf} {l : List Nat} {ws : List (Addr × List Str)} (C : CutsAt H F l ws) (s : Same H H') : CutsAt H' F l ws := ⟨fun w hw => s _ _ (C.at_ w hw), C.all, C.len⟩
theorem cut_nil {F : Tf} (G : Good F) {c : List Str} : IsCut F [] c ↔ c = [] := by
  constructor
  · rintro ⟨h1, h2⟩
    cases c with
    | nil => rfl
    | cons y r =>
      obtain ⟨p, hp⟩ := h1 y List.mem_cons_self
      have h3 := (G.len y p hp).1
      have h4 := congrArg List.length h2
      rw [List.map_cons, List.flatten_cons, List.length_append] at h4
      have h5 : (cs y).length + (r.map cs).flatten.length = 0 := h4
      omega
  · rintro rfl
    exact ⟨fun _ h => (List.not_mem_nil h).elim, rfl⟩
/-- the cuts that end with a piece that begins ahead of s -/
def CutTo (F : Tf) (l : List Nat) (s : Nat) (c : List Str) : Prop := ∃ a y, a < s ∧ (∃ p, F y = some p) ∧ (cs y) = l.drop a ∧ ∃ d, IsCut F (l.take a) d ∧ c = d ++ [y]
theorem cut_to {F : Tf} (G : Good F) {l : List Nat} (ne : l ≠ []) {c : List Str} : CutTo F l l.length c ↔ IsCut F l c := by
  constructor
  · rintro ⟨a, y, ha, hy, e, d, ⟨h1, h2⟩, rfl⟩
    refine ⟨fun z hz => ?_, ?_⟩
    · rcases List.mem_append.mp hz with h | h
      · exact h1 z h
      · rw [List.mem_singleton.mp h]
        exact hy
    · rw [List.map_append, List.flatten_append, h2]
      show _ ++ [cs y].flatten = _
      rw [List.flatten_singleton, e, List.take_append_drop]
  · rintro ⟨h1, h2⟩
    have nc : c ≠ [] := fun q => ne (by rw [← h2, q]; rfl)
    obtain ⟨d, y, rfl⟩ : ∃ d y, c = d ++ [y] := ⟨c.dropLast, c.getLast nc, (List.dropLast_concat_getLast nc).symm⟩
    rw [List.map_append, List.flatten_append] at h2
    have h2' : (d.map cs).flatten ++ cs y = l := by
      rw [← h2]
      show _ = _ ++ [cs y].flatten
      rw [List.flatten_singleton]
    obtain ⟨p, hp⟩ := h1 y (List.mem_append_right _ List.mem_cons_self)
    have n1 := (G.len y p hp).1
    have e : l.length = (d.map cs).flatten.length + (cs y).length := by rw [← h2', List.length_append]
    refine ⟨(d.map cs).flatten.length, y, by omega, ⟨p, hp⟩, ?_, d, ⟨fun z hz => h1 z (List.mem_append_left _ hz), ?_⟩, rfl⟩
    · rw [← h2', List.drop_left]
    · rw [← h2', List.take_left]
theorem cut_zero {F : Tf} {l : List Nat} {c : List Str} : ¬ CutTo F l 0 c := fun ⟨_, _, h, _⟩ => absurd h (Nat.not_lt_zero _)
theorem cut_succ {F : Tf} {l : List Nat} {s : Nat} {c : List Str} : CutTo F l (s + 1) c ↔ CutTo F l s c ∨ ∃ y, (∃ p, F y = some p) ∧ cs y = l.drop s ∧ ∃ d, IsCut F (l.take s) d ∧ c = d ++ [y] := by
  constructor
  · rintro ⟨a, y, ha, r⟩
    rcases Nat.lt_or_ge a s with h | h
    · exact Or.inl ⟨a, y, h, r⟩
    · have e : a = s := by omega
      subst e
      exact Or.inr ⟨y, r⟩
  · rintro (⟨a, y, ha, r⟩ | ⟨y, r⟩)
    · exact ⟨a, y, by omega, r⟩
    · exact ⟨s, y, by omega, r⟩
def spCuts : Sp := fun vs H Q _ => ∃ d kvs z, vs = [.ref d, .str z] ∧ H d = some (.dK kvs) ∧ Tar kvs ∧ z.length ≤ 5 ∧
  ∀ p ws H', H' p = some (.lst (ws.map fun w : Addr × List Str => V.ref w.1)) → CutsAt H' (tfD kvs) (cs z) ws → Same H H' → Q (.ref p) H'
/-! ### the cheapest cut -/
def sumOf (F : Tf) (c : List Str) : Int := (c.map fun y => (F y).getD 0).sum
theorem fee_sum {F : Tf} : ∀ {c : Ps}, (∀ p ∈ c, F p.1 = some p.2) → sumOf F (c.map (·.1)) = fee c
  | [], _ => rfl
  | q :: r, h => by
    have h1 := h q List.mem_cons_self
    have ih := fee_sum (c := r) fun p hp => h p (List.mem_cons_of_mem _ hp)
    rw [fee_cons, ← ih]
    show ((F q.1).getD 0 :: (r.map (·.1)).map fun y => (F y).getD 0).sum = _
    rw [List.sum_cons, h1]
    rfl
theorem cut_iff {F : Tf} {l : List Nat} {d : List Str} : IsCut F l d ↔ ∃ c, Cut F l c ∧ c.map (·.1) = d := by
  constructor
  · rintro ⟨h1, h2⟩
    refine ⟨d.map fun y => (y, (F y).getD 0), ⟨fun p hp => ?_, ?_⟩, ?_⟩
    · obtain ⟨y, hy, rfl⟩ := List.mem_map.mp hp
      obtain ⟨q, hq⟩ := h1 y hy
      rw [hq]
      rfl
    · rw [List.map_map]
      exact h2
    · rw [List.map_map]
      exact List.map_id' d
  · rintro ⟨c, ⟨h1, h2⟩, rfl⟩
    refine ⟨fun y hy => ?_, ?_⟩
    · obtain ⟨p, hp, rfl⟩ := List.mem_map.mp hy
      exact ⟨p.2, h1 p hp⟩
    · rw [List.map_map]
      exact h2
/-- the least of all sums is the cheapest price -/
theorem cuts_min {F : Tf} {l : List Nat} {H : Hp} {ws : List (Addr × List Str)} (G : Good F) (o : Over F l) (C : CutsAt H F l ws) : 0 < (ws.map fun w => sumOf F w.2).length ∧ ∀ m, m ∈ ws.map (fun w => sumOf F w.2) → (∀ y ∈ ws.map (fun w => sumOf F w.2), m ≤ y) → m = lp F l := by
  have mem : ∀ c, Cut F l c → fee c ∈ ws.map fun w => sumOf F w.2 := fun c hc => by
    obtain ⟨w, hw, e⟩ := (C.all _).mpr (cut_iff.mpr ⟨c, hc, rfl⟩)
    exact List.mem_map.mpr ⟨w, hw, by rw [e, fee_sum hc.1]⟩
  constructor
  · obtain ⟨c, hc, _⟩ := lp_cut G o
    exact List.length_pos_of_mem (mem c hc)
  · intro m hm hle
    refine (lp_of ⟨?_, fun c hc => hle _ (mem c hc)⟩).symm
    obtain ⟨w, hw, rfl⟩ := List.mem_map.mp hm
    obtain ⟨c, hc, e⟩ := cut_iff.mp ((C.all w.2).mp ⟨w, hw, rfl⟩)
    exact ⟨c, hc, by rw [← e, fee_sum hc.1]⟩
theorem unpaired {α β : Type} {F : α → β → Prop} {as : List α} {bs : List β} (h : Paired F as bs) : ∃ ps : List (α × β), ps.map (·.1) = as ∧ ps.map (·.2) = bs ∧ ∀ p ∈ ps, F p.1 p.2 := by
  induction h with
  | nil => exact ⟨[], rfl, rfl, fun _ h => (List.not_mem_nil h).elim⟩
  | @cons a b as bs h t ih =>
    obtain ⟨ps, h1, h2, h3⟩ := ih
    refine ⟨(a, b) :: ps, by rw [List.map_cons, h1], by rw [List.map_cons, h2], fun p hp => ?_⟩
    rcases List.mem_cons.mp hp with rfl | hp
    · exact h
    · exact h3 p hp
def Upto (kv : List (Key × V)) (up : Int) : Prop := ∀ e ∈ kv, ∀ q, e.2 = V.int q → q ≤ up
theorem Upto.put {kv : List (Key × V)} {up : Int} (h : Upto kv up) {k : Key} {p : Int} (hp : p ≤ up) : Upto (putK kv k (.int p)) up := fun e he q eq => by
  rcases put_val_mem he with e1 | h1
  · subst e1
    have := V.int.inj eq
    omega
  · exact h e h1 q eq
/-- _law_prices of these laws -/
def spPrices6 (K : PySem.W.Frag) : Sp := fun vs H Q _ => ∃ (l sa : Addr) (sg : List Nat) (many : Nat) (up : Int) (n : Nat), vs = [.ref l, .ref sa, .int (many : Int), .int up] ∧ sa ≠ l ∧ SqL K H sa (sg.map chV) ∧ 1 ≤ sg.length ∧ sg.length ≤ 4 ∧ (∀ c ∈ sg, lett c = true) ∧
  many ≤ 8 ∧ 1 ≤ up ∧ up ≤ 99 ∧ Dice H l (n + 100) ∧
  ∀ (p : Addr) (kvs : List (Key × V)) H', H p = none → p ≠ l → H' p = some (.dK kvs) → arePrices kvs = true → (kvs.map (·.1)).Nodup → (∀ c, (∃ q, tfD kvs (ch c) = some q) ↔ c ∈ sg) → kvs.length ≤ sg.length + many → (∀ z q, tfD kvs z = some q → q ≤ up) → Kp l H H' → Dice H' l n → Q (.ref p) H'
theorem g_catA {X : L2.Cx} (K : PySem.W.Frag) (e : X.K = K := by rfl) : OpR X (binaryOp .Add) (rCatA K) := by
  subst e
  exact op_catA
theorem CutsAt.updL {H : Hp} {F : Tf} {l : List Nat} {ws : List (Addr × List Str)} {D : Addr} {ys : List V} {o : HO} (C : CutsAt H F l ws) (h : H D = some (.lst ys)) : CutsAt (upd H D o) F l ws :=
  ⟨fun w hw => by
    have n : w.1 ≠ D := fun e => by
      have := C.at_ w hw
      rw [e, h] at this
      cases this
    rw [upd_ne n]
    exact C.at_ w hw, C.all, C.len⟩
theorem isCut_len {F : Tf} (G : Good F) {l : List Nat} {d : List Str} (h : IsCut F l d) (hl : l.length ≤ 1000) : d.length ≤ 1000 := by
  obtain ⟨h1, h2⟩ := h
  have h3 := congrArg List.length h2
  rw [List.length_flatten, List.map_map] at h3
  have h4 : ∀ l : List Str, (∀ y ∈ l, ∃ p, F y = some p) → l.length ≤ (l.map (List.length ∘ cs)).sum := fun l hl => by
    induction l with
    | nil => exact Nat.le_refl _
    | cons y r ih =>
      obtain ⟨p', hp'⟩ := hl y List.mem_cons_self
      have := (G.len y p' hp').1
      have := ih fun x hx => hl x (List.mem_cons_of_mem _ hx)
      rw [List.map_cons, List.sum_cons, List.length_cons]
      show _ ≤ (cs y).length + _
      omega
  have := h4 d h1
  omega
theorem _root_.G.Dice.ne_of {H : Hp} {l a : Addr} {n : Nat} {kvs : List (Key × V)} (D : Dice H l n) (h : H a = some (.dK kvs)) : a ≠ l := fun e => by
  obtain ⟨_, _, _, h2, _⟩ := D
  rw [e, h2] at h
  cases h
end G
/-! What one further piece, or another price, changes. -/
namespace G
open PySem PySem.Spec PyProof.Rows L2
def putF (F : Tf) (w : Str) (p : Int) : Tf := fun y => if y = w then some p else F y
section
variable {F : Tf} {w : Str} {p : Int} {r : V}
theorem put_at_w : putF F w p w = some p := if_pos rfl
theorem put_ne {y : Str} (h : y ≠ w) : putF F w p y = F y := if_neg h
theorem rem_put (h0 : F w = none) : remF (putF F w p) w = F := by
  funext y
  unfold remF
  by_cases h : y = w
  · rw [if_pos h, h, h0]
  · rw [if_neg h, put_ne h]
theorem fwd_iff (G : Good F) : NoDear F (putF F w p) ↔ lp F (cs w) ≤ p := by
  constructor
  · intro h
    exact h w p put_at_w
  · intro h z q hz
    by_cases e : z = w
    · subst e
      rw [put_at_w] at hz
      have e := Option.some.inj hz
      omega
    · rw [put_ne e] at hz
      exact lp_piece G hz
theorem bwd_all (Gp : Good (putF F w p)) (h0 : F w = none) : NoDear (putF F w p) F := fun z q hz => by
  have e : z ≠ w := fun e => by
    rw [e, h0] at hz
    cases hz
  exact lp_piece Gp (by rw [put_ne e]; exact hz)
theorem need_iff (h0 : F w = none) (hw : 1 < (cs w).length) : Needless (putF F w p) w ↔ lp F (cs w) ≤ p := by
  unfold Needless
  rw [rem_put h0, put_at_w]
  constructor
  · rintro ⟨q, e, _, h⟩
    have := Option.some.inj e
    omega
  · intro h
    exact ⟨p, rfl, hw, h⟩
theorem dear_fwd (G : Good F) (d : DearR F (putF F w p) r) : r = if p < lp F (cs w) then .str w else .non := by
  rcases d with ⟨h1, h2⟩ | ⟨z, q, h1, h2, h3, _⟩
  · have := (fwd_iff G).mp h2
    rw [if_neg (by omega)]
    exact h1
  · have e : z = w := by
      by_cases e : z = w
      · exact e
      · rw [put_ne e] at h2
        have := lp_piece G h2
        omega
    subst e
    rw [put_at_w] at h2
    have e := Option.some.inj h2
    rw [if_pos (by omega)]
    exact h1
theorem dear_bwd (Gp : Good (putF F w p)) (h0 : F w = none) (d : DearR (putF F w p) F r) : r = .non := by
  rcases d with ⟨h1, h2⟩ | ⟨z, q, h1, h2, h3, _⟩
  · exact h1
  · have := bwd_all Gp h0 z q h2
    omega
/-- a sign is cut in one way -/
theorem lp_sign (G : Good F) {c : Nat} {q : Int} (h : F (ch c) = some q) : lp F [c] = q := by
  have o : Over F [c] := fun d hd => ⟨q, by rw [List.mem_singleton.mp hd]; exact h⟩
  obtain ⟨z, p, a, h1, h2, h3⟩ := lp_last G o (by simp)
  have n1 := (G.len z p h1).1
  have hl := congrArg List.length h2
  rw [List.length_append, List.length_singleton] at hl
  have ea : a = [] := List.length_eq_zero_iff.mp (by omega)
  subst ea
  have ez : z = ch c := str_ext h2.symm
  subst ez
  rw [h] at h1
  have := Option.some.inj h1
  rw [h3, lp_nil G]
  omega
theorem sign_fwd (G : Good F) {c : Nat} {q : Int} (h : F (ch c) = some q) : NoDear F (putF F (ch c) p) ↔ q ≤ p := by
  rw [fwd_iff G]
  show lp F [c] ≤ p ↔ _
  rw [lp_sign G h]
theorem put_back {c : Nat} {q : Int} (h : F (ch c) = some q) : putF (putF F (ch c) p) (ch c) q = F := by
  funext y
  by_cases e : y = ch c
  · rw [e, put_at_w, h]
  · rw [put_ne e, put_ne e]
theorem sign_bwd (Gp : Good (putF F (ch c) p)) {q : Int} (h : F (ch c) = some q) : NoDear (putF F (ch c) p) F ↔ p ≤ q := by
  have e := sign_fwd (F := putF F (ch c) p) (p := q) Gp put_at_w
  rwa [put_back h] at e
end
theorem lp_most {F : Tf} (G : Good F) {B : Int} (hb : ∀ z p, F z = some p → p ≤ B) : ∀ l, Over F l → lp F l ≤ B * (l.length : Int)
  | [], _ => by
    rw [lp_nil G]
    exact Int.le_of_eq (by simp)
  | c :: r, o => by
    have o1 : Over F [c] := fun d hd => o d (by rw [List.mem_singleton.mp hd]; exact List.mem_cons_self)
    have o2 : Over F r := fun d hd => o d (List.mem_cons_of_mem _ hd)
    obtain ⟨p, hp⟩ := o c List.mem_cons_self
    have h1 := lp_sign G hp
    have h2 := hb _ _ hp
    have h3 := lp_most G hb r o2
    have h4 : lp F (c :: r) ≤ lp F [c] + lp F r := lp_add G o1 o2
    rw [List.length_cons, Int.natCast_add, Int.mul_add]
    omega
theorem lp_pos {F : Tf} (G : Good F) {l : List Nat} (o : Over F l) (ne : l ≠ []) : 1 ≤ lp F l := by
  obtain ⟨z, p, a, h1, h2, h3⟩ := lp_last G o ne
  have oa : Over F a := fun c hc => o c (by rw [h2]; exact List.mem_append_left _ hc)
  obtain ⟨d, hd, e⟩ := lp_cut G oa
  have := fee_pos G d hd.1
  have := (G.pos z p h1).1
  omega
/-! ### lists of pairs -/
def dPairs (ks : List (Str × Int)) : PyData := .list (ks.map fun e => .tuple [.str e.1, .int e.2])
theorem dp_pairs {K : PySem.W.Frag} {H : Hp} : ∀ {ps : List (Addr × Str × Int)}, (∀ z ∈ ps, H z.1 = some (.tup [.str z.2.1, .int z.2.2])) → DpAll K H (ps.map fun z => V.ref z.1) ((ps.map (·.2)).map fun e => PyData.tuple [.str e.1, .int e.2])
  | [], _ => .nil
  | z :: r, h => .cons (.tup (SqT.of (h z List.mem_cons_self)) (.cons (.str _) (.cons (.int _) .nil))) (dp_pairs fun y hy => h y (List.mem_cons_of_mem _ hy))
theorem neD_same {K : PySem.W.Frag} {H : Hp} {x y : V} {d : PyData} {Q : VK} (hx : Dp K H x d) (hy : Dp K H y d) (s : SeqAt.shaped d = true) (q : Q (.bl false) H) : rNeD K x y H Q := by
  refine ⟨d, d, hx, hy, s, s, ?_⟩
  rw [SeqAt.eqv_refl _ (SeqAt.canLay_of_shaped s)]
  exact q
theorem shaped_pairs {ks : List (Str × Int)} (h : ∀ e ∈ ks, ∀ c ∈ cs e.1, lett c = true) : SeqAt.shaped (dPairs ks) = true := by
  have h1 : ∀ l : List (Str × Int), (∀ e ∈ l, ∀ c ∈ cs e.1, lett c = true) → PyData.canLayAll0 (l.map fun e => PyData.tuple [.str e.1, .int e.2]) = true := by
    intro l hl
    induction l with
    | nil => rfl
    | cons e r ih =>
      have hs := shaped_lstrs (zs := [e.1]) fun z hz => by
        rw [List.mem_singleton.mp hz]
        exact hl e List.mem_cons_self
      have hc := SeqAt.canLay_of_shaped hs
      have h2 : PyData.canLay0 (.str e.1) = true := by
        have h3 : (PyData.canLay0 (.str e.1) && true) = true := hc
        rwa [Bool.and_true] at h3
      show (PyData.canLay0 (.tuple [.str e.1, .int e.2]) && _) = true
      rw [ih fun x hx => hl x (List.mem_cons_of_mem _ hx), Bool.and_true]
      show (PyData.canLay0 (.str e.1) && (true && true)) = true
      rw [h2]
      rfl
  have h2 : ∀ l : List (Str × Int), PyData.depthAll (l.map fun e => PyData.tuple [.str e.1, .int e.2]) ≤ 2 := by
    intro l
    induction l with
    | nil => simp [PyData.depthAll]
    | cons e r ih =>
      simp only [List.map_cons, PyData.depthAll, PyData.depth]
      omega
  unfold SeqAt.shaped dPairs
  rw [Bool.and_eq_true, decide_eq_true_eq]
  refine ⟨h1 ks h, ?_⟩
  have := h2 ks
  simp only [PyData.depth]
  omega
/-- _law_prices_of -/
def spPricesOf (C : Addr) : Sp := fun vs H Q _ => ∃ b kvs, vs = [.ref b] ∧ Book1 C H b kvs ∧ ∀ p (ps : List (Addr × Str × Int)) ys H', ys.Perm (keyStrs kvs) → sortedS ys = true → ps.map (·.2) = psOf kvs ys → H' p = some (.lst (ps.map fun z => V.ref z.1)) → (∀ z ∈ ps, H' z.1 = some (.tup [.str z.2.1, .int z.2.2])) → Same H H' → Q (.ref p) H'
/-- what the laws' parts about one book promise -/
def spPart (ok : List (Key × V) → Str → Prop) : Sp := fun vs H Q _ => ∃ (l pd : Addr) (kvs : List (Key × V)) (w : Str) (n : Nat), vs = [.ref l, .ref pd, .str w] ∧ pd ≠ l ∧ H pd = some (.dK kvs) ∧ arePrices kvs = true ∧ (kvs.map (·.1)).Nodup ∧ ok kvs w ∧ Dice H l (n + 1) ∧ ∀ H', Kp l H H' → Dice H' l n → Q (.bl true) H'
def lessK (kvs : List (Key × V)) (w : Str) : List (Key × V) := kvs.filter fun kv => !decide (kv.1 = Sum.inr w)
theorem tf_less {kvs : List (Key × V)} {w : Str} : tfD (lessK kvs w) = remF (tfD kvs) w := by
  have h : ∀ (l : List (Key × V)) (y : Str), valV (lessK l w) (Sum.inr y) = if y = w then none else valV l (Sum.inr y) := by
    intro l y
    induction l with
    | nil =>
      show (none : Option V) = _
      split <;> rfl
    | cons a r ih =>
      by_cases e : a.1 = Sum.inr w
      · have e1 : lessK (a :: r) w = lessK r w := by
          unfold lessK
          rw [List.filter_cons, if_neg (by simp [e])]
        rw [e1, ih]
        by_cases q : y = w
        · rw [if_pos q, if_pos q]
        · rw [if_neg q, if_neg q]
          unfold valV
          rw [List.find?_cons, decide_eq_false (fun z => q (Sum.inr.inj (z.symm.trans e)))]
      · have e1 : lessK (a :: r) w = a :: lessK r w := by
          unfold lessK
          rw [List.filter_cons, if_pos (by simp [e])]
        rw [e1]
        by_cases z : a.1 = Sum.inr y
        · have q : y ≠ w := fun q => e (by rw [z, q])
          rw [if_neg q]
          unfold valV
          rw [List.find?_cons, List.find?_cons, decide_eq_true z]
        · have h1 : valV (a :: lessK r w) (Sum.inr y) = valV (lessK r w) (Sum.inr y) := by
            unfold valV
            rw [List.find?_cons, decide_eq_false z]
          have h2 : valV (a :: r) (Sum.inr y) = valV r (Sum.inr y) := by
            unfold valV
            rw [List.find?_cons, decide_eq_false z]
          rw [h1, h2, ih]
  funext y
  unfold tfD remF
  rw [h]
  by_cases q : y = w
  · rw [if_pos q, if_pos q]
  · rw [if_neg q, if_neg q]
theorem less_book {kvs : List (Key × V)} {w : Str} (av : arePrices kvs = true) (nd : (kvs.map (·.1)).Nodup) (hw : 1 < (cs w).length) : arePrices (lessK kvs w) = true ∧ ((lessK kvs w).map (·.1)).Nodup := by
  have nd' : ((lessK kvs w).map (·.1)).Nodup := nd.sublist (List.filter_sublist.map _)
  refine ⟨(ap_sub av nd nd' (fun kv h => (List.mem_filter.mp h).1) (fun c hc => ?_) (Nat.le_trans (List.length_filter_le _ _) (ap_parts av).1.2)).1, nd'⟩
  obtain ⟨q, hq⟩ := hc
  refine ⟨q, ?_⟩
  rw [tf_less]
  unfold remF
  rw [if_neg fun e => ?_]
  · exact hq
  · rw [← e] at hw
    exact absurd (show 1 < 1 from hw) (by decide)
theorem bool_iff {b : Bool} {P : Prop} [Decidable P] (h : b = true ↔ P) : b = decide P := by
  by_cases q : P
  · rw [decide_eq_true q, h.mpr q]
  · rw [decide_eq_false q]
    cases b with
    | false => rfl
    | true => exact absurd (h.mp rfl) q
/-- data of a list of truths, a text or None behind them -/
theorem repr_three {K : PySem.W.Frag} {H : Hp} {a : Addr} {b1 b2 : Bool} {x : V} {d : PyData} {Q : VK} (h : H a = some (.lst [.bl b1, .bl b2, x])) (hd : Dp K H x d) (s : Shw d 0 1000) (q : Q (.str (PyData.list [.bool b1, .bool b2, d]).shown) H) : rRepr K [.ref a] H Q := by
  have S : Shw (PyData.list [.bool b1, .bool b2, d]) 1 _ := shw_list (k := 0) (n := 1000) fun e he => by
    simp only [List.mem_cons, List.not_mem_nil, or_false] at he
    rcases he with rfl | rfl | rfl
    · exact (shw_bool b1).le (Nat.le_refl _) (by omega)
    · exact (shw_bool b2).le (Nat.le_refl _) (by omega)
    · exact s
  exact ⟨_, _, rfl, .lst (SqL.of h) (.cons (.bl b1) (.cons (.bl b2) (.cons hd .nil))), S.s, S.h, Nat.le_trans S.dp (by omega), Nat.le_trans S.len (fits_sz (by show _ ≤ 100000; simp)), q⟩
theorem shw_non6 : Shw PyData.none 0 1000 := ⟨by simp [PyData.showable], by simp [PyData.hasDict], by simp [PyData.depth], by simp only [PyData.shown]; decide +kernel⟩
theorem shw_word {z : Str} (h : z.length ≤ 5) (hc : ∀ c ∈ cs z, c < 16 ^ 8) : Shw (.str z) 0 1000 :=
  ⟨by simp [PyData.showable], by simp [PyData.hasDict], by simp [PyData.depth], by simp only [PyData.shown]; exact Nat.le_trans (StrLaws.reprText_len z hc) (by omega)⟩
theorem seq_if_join {tc : TT} {ta tb tr : TS} {D : Ends} {σ : L2.St} {H : Hp} (P : L2.St → Hp → Prop) (h : ∀ N : L2.St → Hp → Prop, (∀ σ' H', P σ' H' → N σ' H') → tIfS tc ta tb { D with nx := N } σ H) (k : ∀ σ' H', P σ' H' → tr D σ' H') : tSeq (tIfS tc ta tb) tr D σ H := h _ k
def longG : Key × V → Option Str := fun kv => match kv.1 with | .inr y => if 1 < y.length then some y else none | .inl _ => none
theorem long_mem {kvs : List (Key × V)} (T : Tar kvs) {z : Str} (h : z ∈ kvs.filterMap longG) : 1 < z.length ∧ ∃ q, tfD kvs z = some q := by
  obtain ⟨kv, hkv, e⟩ := List.mem_filterMap.mp h
  obtain ⟨y, q, rfl, hq⟩ := T.mem kv hkv
  have e' : (if 1 < y.length then some y else none) = some z := e
  split at e'
  · rename_i l
    cases e'
    exact ⟨l, q, hq⟩
  · cases e'
end G
/-! Least books, in plain Lean; what more of Book's methods promise. -/
namespace G
open PySem PySem.Spec PyProof.Rows L2
def spAsc1 : Sp := fun vs H Q _ => ∃ t x, vs = [.ref t] ∧ H t = some (.tup [x]) ∧ ∀ H', Same H H' → Q (.bl true) H'
def spPo1 (C : Addr) : Sp := fun vs H Q _ => ∃ b t kvs z q, vs = [.ref b, .ref t] ∧ Book1 C H b kvs ∧ H t = some (.tup [.str z]) ∧ tfD kvs z = some q ∧ ∀ H', Same H H' → Q (.bl true) H'
def spSub1 (C : Addr) : Sp := fun vs H Q _ => ∃ b t kvs z q, vs = [.ref b, .ref t] ∧ Book1 C H b kvs ∧ H t = some (.tup [.str z]) ∧ tfD kvs z = some q ∧ 1 < (cs z).length ∧ ∀ b' kvs' H', Book1 C H' b' kvs' → tfD kvs' = remF (tfD kvs) z → Same H H' → Q (.ref b') H'
def spPieces (C : Addr) : Sp := fun vs H Q _ => ∃ b kvs, vs = [.ref b] ∧ Book1 C H b kvs ∧ ∀ t ys, ys.Perm (keyStrs kvs) → sortedS ys = true → H t = some (.tup (ys.map V.str)) → Q (.ref t) H
def spEqB (C : Addr) : Sp := fun vs H Q _ => ∃ a b k1 k2, vs = [.ref a, .ref b] ∧ Book1 C H a k1 ∧ Book1 C H b k2 ∧ (∀ z q, tfD k1 z = some q → tfD k2 z = some q) ∧ ∀ r, (r = true ↔ tfD k1 = tfD k2) → Q (.bl r) H
theorem nd_full {α : Type} [DecidableEq α] : ∀ {l m : List α}, l.Nodup → (∀ x ∈ l, x ∈ m) → m.length ≤ l.length → ∀ x ∈ m, x ∈ l
  | l, m, nd, inc, len, x, hx => by
    by_cases h : x ∈ l
    · exact h
    · exfalso
      have nd' : (x :: l).Nodup := List.nodup_cons.mpr ⟨h, nd⟩
      have h2 := nd_sub_len (l2 := m) nd' fun y hy => by
        rcases List.mem_cons.mp hy with rfl | hy
        · exact hx
        · exact inc y hy
      rw [List.length_cons] at h2
      omega
/-! ### the least tariff -/
open Classical in
noncomputable def leastF (F : Tf) : Tf := fun z => if Needless F z then none else F z
section
variable {F F' : Tf}
theorem least_sub {z : Str} {q : Int} (h : leastF F z = some q) : F z = some q := by
  unfold leastF at h
  split at h
  · cases h
  · exact h
theorem least_not {z : Str} {q : Int} (h : leastF F z = some q) : ¬ Needless F z := fun n => by
  unfold leastF at h
  rw [if_pos n] at h
  cases h
theorem least_in {z : Str} {q : Int} (h : F z = some q) (n : ¬ Needless F z) : leastF F z = some q := by
  unfold leastF
  rw [if_neg n]
  exact h
theorem least_ext (h : ∀ z q, F' z = some q ↔ F z = some q ∧ ¬ Needless F z) : F' = leastF F := by
  funext z
  cases e : F' z with
  | some q =>
    obtain ⟨h1, h2⟩ := (h z q).mp e
    exact (least_in h1 h2).symm
  | none =>
    cases e2 : leastF F z with
    | none => rfl
    | some q =>
      have := (h z q).mpr ⟨least_sub e2, least_not e2⟩
      rw [e] at this
      cases this
/-- part of a tariff, with all its signs -/
structure Sub1 (F F' : Tf) : Prop where
  sub : ∀ z q, F' z = some q → F z = some q
  one : ∀ c q, F (ch c) = some q → F' (ch c) = some q
theorem Sub1.good (G : Good F) (S : Sub1 F F') : Good F' := ⟨fun z p h => G.pos z p (S.sub z p h), fun z p h => G.len z p (S.sub z p h), fun z p h c hc => by
  obtain ⟨q, hq⟩ := G.cov z p (S.sub z p h) c hc
  exact ⟨q, S.one c q hq⟩⟩
theorem Sub1.over (S : Sub1 F F') {l : List Nat} : Over F' l ↔ Over F l := ⟨fun o c hc => by obtain ⟨q, hq⟩ := o c hc; exact ⟨q, S.sub _ _ hq⟩, fun o c hc => by obtain ⟨q, hq⟩ := o c hc; exact ⟨q, S.one c q hq⟩⟩
theorem Sub1.le (G : Good F) (S : Sub1 F F') {l : List Nat} (o : Over F l) : lp F l ≤ lp F' l :=
  lp_mono G (S.good G) (fun z p h => ⟨G.cov z p (S.sub z p h), lp_piece G (S.sub z p h)⟩) o (S.over.mpr o)
theorem sub_least : Sub1 F (leastF F) := ⟨fun z q h => least_sub h, fun c q h => least_in h need_sign⟩
theorem sub_rem {z : Str} (hz : 1 < (cs z).length) : Sub1 F (remF F z) := ⟨fun y q h => by
  unfold remF at h
  split at h
  · cases h
  · exact h, fun c q h => by
  unfold remF
  rw [if_neg fun e => ?_]
  · exact h
  · rw [← e] at hz
    exact absurd (show 1 < 1 from hz) (by decide)⟩
/-- a cut's pieces that do not reach the whole are shorter -/
theorem cut_short (G : Good F) {l : List Nat} {c : Ps} (h : Cut F l c) {y : Str × Int} (hy : y ∈ c) (ne : cs y.1 ≠ l) : (cs y.1).length < l.length := by
  obtain ⟨a, b, rfl⟩ := List.append_of_mem hy
  have e := h.2
  rw [List.map_append, List.map_cons, List.flatten_append, List.flatten_cons] at e
  have hl := congrArg List.length e
  rw [List.length_append, List.length_append] at hl
  rcases Nat.lt_or_ge (cs y.1).length l.length with h1 | h1
  · exact h1
  · exfalso
    have e1 : (a.map fun p => cs p.1).flatten = [] := List.length_eq_zero_iff.mp (by omega)
    have e2 : (b.map fun p => cs p.1).flatten = [] := List.length_eq_zero_iff.mp (by omega)
    rw [e1, e2, List.nil_append, List.append_nil] at e
    exact ne e
theorem fee_mono {F1 : Tf} {g : Str → Int} : ∀ {c : Ps}, (∀ p ∈ c, g p.1 ≤ p.2) → (c.map fun p => g p.1).sum ≤ fee c
  | [], _ => Int.le_refl _
  | q :: r, h => by
    have h1 := h q List.mem_cons_self
    have h2 := fee_mono (F1 := F1) (c := r) fun p hp => h p (List.mem_cons_of_mem _ hp)
    rw [fee_cons, List.map_cons, List.sum_cons]
    omega
theorem lp_flat (G : Good F) : ∀ {c : Ps}, (∀ p ∈ c, Over F (cs p.1)) → lp F (c.map fun p => cs p.1).flatten ≤ (c.map fun p => lp F (cs p.1)).sum
  | [], _ => by
    rw [List.map_nil, List.flatten_nil, lp_nil G]
    exact Int.le_refl _
  | q :: r, h => by
    have h1 := h q List.mem_cons_self
    have hr := fun p hp => h p (List.mem_cons_of_mem q hp)
    have h2 := lp_flat G (c := r) hr
    rw [List.map_cons, List.flatten_cons, List.map_cons, List.sum_cons]
    have o2 : Over F (r.map fun p => cs p.1).flatten := fun d hd => by
      obtain ⟨l, hl, hd'⟩ := List.mem_flatten.mp hd
      obtain ⟨p, hp, rfl⟩ := List.mem_map.mp hl
      exact hr p hp d hd'
    have h3 := lp_add G h1 o2
    omega
/-- without all needless pieces every piece can be had as cheaply -/
theorem least_piece (G : Good F) : ∀ (n : Nat) (z : Str) (p : Int), (cs z).length ≤ n → F z = some p → lp (leastF F) (cs z) ≤ p
  | 0, z, p, hn, hz => by
    have := (G.len z p hz).1
    omega
  | n + 1, z, p, hn, hz => by
    have Gl := sub_least.good (F := F) G
    by_cases nd : Needless F z
    · obtain ⟨q, hq, h1, h2⟩ := nd
      rw [hz] at hq
      have eq : p = q := Option.some.inj hq
      subst eq
      have Gr := rem_good G h1
      obtain ⟨c, hc, e⟩ := lp_cut Gr (rem_over h1 (G.cov z p hz))
      have each : ∀ y ∈ c, y.1 ≠ z ∧ F y.1 = some y.2 := fun y hy => by
        have := hc.1 y hy
        unfold remF at this
        split at this
        · cases this
        · rename_i ne
          exact ⟨ne, this⟩
      have h3 : ∀ y ∈ c, lp (leastF F) (cs y.1) ≤ y.2 := fun y hy => by
        obtain ⟨ne, hF⟩ := each y hy
        have hs := cut_short Gr hc hy fun e => ne (str_ext e)
        exact least_piece G n y.1 y.2 (by omega) hF
      have h4 := lp_flat Gl (c := c) fun y hy => sub_least.over.mpr (G.cov _ _ (each y hy).2)
      rw [hc.2] at h4
      have h5 := fee_mono (F1 := F) (g := fun y => lp (leastF F) (cs y)) h3
      omega
    · exact lp_piece Gl (least_in hz nd)
theorem least_same (G : Good F) {l : List Nat} (o : Over F l) : lp (leastF F) l = lp F l := by
  have h1 := sub_least.le (F := F) G o
  have h2 := lp_mono (sub_least.good (F := F) G) G (fun z p h => ⟨sub_least.over.mpr (G.cov z p h), least_piece G _ z p (Nat.le_refl _) h⟩) (sub_least.over.mpr o) o
  omega
/-- a part between both is as cheap -/
theorem between (G : Good F) (S : Sub1 F F') (h : ∀ z q, leastF F z = some q → F' z = some q) {l : List Nat} (o : Over F l) : lp F' l = lp F l := by
  have h1 := S.le G o
  have S2 : Sub1 F' (leastF F) := ⟨h, fun c q hq => least_in (S.sub _ _ hq) need_sign⟩
  have h2 := S2.le (S.good G) (S.over.mpr o)
  rw [least_same G o] at h2
  omega
/-- a longer piece of the least book is dearer without it -/
theorem least_tight (G : Good F) {z : Str} {p : Int} (h : leastF F z = some p) (hz : 1 < (cs z).length) (S : Sub1 F F') (no : F' z = none) : p < lp F' (cs z) := by
  have n := least_not h
  have hF := least_sub h
  have h1 : p < lp (remF F z) (cs z) := by
    rcases Int.lt_or_le p (lp (remF F z) (cs z)) with q | q
    · exact q
    · exact absurd ⟨p, hF, hz, q⟩ n
  have S2 : Sub1 (remF F z) F' := ⟨fun y q hq => by
    unfold remF
    rw [if_neg fun e => by
      rw [e, no] at hq
      cases hq]
    exact S.sub y q hq, fun c q hq => S.one c q ((sub_rem hz).sub _ _ hq)⟩
  have h2 := S2.le (rem_good G hz) (rem_over hz (G.cov z p hF))
  omega
/-- what is as cheap has all pieces of the least book, and the other way about -/
theorem choice_iff (G : Good F) (S : Sub1 F F') : NoDear F' F ↔ ∀ z q, leastF F z = some q → F' z = some q := by
  constructor
  · intro h z q hz
    by_cases l1 : 1 < (cs z).length
    · cases e : F' z with
      | some q' =>
        have h1 := S.sub z q' e
        rw [least_sub hz] at h1
        exact h1.symm
      | none =>
        have h1 := least_tight G hz l1 S e
        have h2 := h z q (least_sub hz)
        omega
    · have n1 := (G.len z q (least_sub hz)).1
      obtain ⟨c, rfl⟩ := _root_.G.one_sign (z := z) (by omega)
      exact S.one c q (least_sub hz)
  · intro h z p hz
    rw [between G S h (G.cov z p hz)]
    exact lp_piece G hz
theorem sub_nodear (G : Good F) (S : Sub1 F F') : NoDear F F' := fun z p h => lp_piece G (S.sub z p h)
theorem least_between (G : Good F) (S : Sub1 F F') (h : ∀ z q, leastF F z = some q → F' z = some q) : leastF F' = leastF F := by
  have key : ∀ z q, leastF F' z = some q ↔ leastF F z = some q := fun z q => by
    constructor
    · intro hz
      have h1 := least_sub hz
      have h2 := S.sub z q h1
      refine least_in h2 fun n => least_not hz ?_
      obtain ⟨p, hp, l1, le⟩ := id n
      rw [h2] at hp
      have ep : q = p := Option.some.inj hp
      subst ep
      have S2 : Sub1 (remF F' z) (leastF F) := ⟨fun y r hy => by
        unfold remF
        rw [if_neg fun e => by
          rw [e] at hy
          exact least_not hy n]
        exact h y r hy, fun c r hr => least_in (S.sub _ _ ((sub_rem l1).sub _ _ hr)) need_sign⟩
      have G' := S.good G
      have o := G.cov z q h2
      have h3 := S2.le (rem_good G' l1) (rem_over l1 (S.over.mpr o))
      rw [least_same G o] at h3
      have h4 := lp_piece G h2
      exact ⟨q, h1, l1, by omega⟩
    · intro hz
      have h1 := h z q hz
      refine least_in h1 fun n => ?_
      obtain ⟨p, hp, l1, le⟩ := n
      rw [h1] at hp
      have ep : q = p := Option.some.inj hp
      subst ep
      have S2 : Sub1 F (remF F' z) := ⟨fun y r hy => S.sub y r ((sub_rem l1).sub y r hy), fun c r hr => (sub_rem l1).one c r (S.one c r hr)⟩
      have h2 := least_tight G hz l1 S2 (if_pos rfl)
      omega
  funext z
  cases e : leastF F' z with
  | some q => exact ((key z q).mp e).symm
  | none =>
    cases e2 : leastF F z with
    | none => rfl
    | some q =>
      have := (key z q).mpr e2
      rw [e] at this
      cases this
end
def sizeL (n : Nat) : Nat := if n = 1 then 8 else if n = 2 then 6 else if n = 3 then 4 else 3
theorem sizeL_at {n : Nat} (h1 : 1 ≤ n) (h4 : n ≤ 4) : atI [V.int 8, .int 6, .int 4, .int 3] ((n : Int) - 1) = some (.int ((sizeL n : Nat) : Int)) := by
  have : n = 1 ∨ n = 2 ∨ n = 3 ∨ n = 4 := by omega
  rcases this with rfl | rfl | rfl | rfl <;> rfl
theorem sizeL_le (n : Nat) : sizeL n ≤ 8 := by
  unfold sizeL
  repeat' split
  all_goals omega
/-- _law_same -/
def spSame (K : PySem.W.Frag) : Sp := fun vs H Q _ => ∃ (d1 d2 sa ta : Addr) (k1 k2 : List (Key × V)) (sg : List Nat) (ts : List Str), vs = [.ref d1, .ref d2, .ref sa, .ref ta] ∧ H d1 = some (.dK k1) ∧ H d2 = some (.dK k2) ∧ Tar k1 ∧ Tar k2 ∧ SqL K H sa (sg.map chV) ∧ 1 ≤ sg.length ∧ sg.length ≤ 4 ∧
  (∀ c ∈ sg, (∃ p, tfD k1 (ch c) = some p) ∧ ∃ p, tfD k2 (ch c) = some p) ∧ SqL K H ta (ts.map V.str) ∧ ts.length ≤ 1000 ∧ (∀ t ∈ ts, (cs t).length ≤ 100 ∧ ∀ c ∈ cs t, c ∈ sg) ∧ (∀ l, Over (tfD k1) l → lp (tfD k1) l = lp (tfD k2) l) ∧ ∀ H', Same H H' → Q (.bl true) H'
/-- _law_tight -/
def spTight (C : Addr) : Sp := fun vs H Q _ => ∃ b kvs, vs = [.ref b] ∧ Book1 C H b kvs ∧ (∀ z q, tfD kvs z = some q → 1 < (cs z).length → q < lp (remF (tfD kvs) z) (cs z)) ∧ ∀ H', Same H H' → Q (.bl true) H'
theorem shaped_ints (is : List Int) : SeqAt.shaped (.list (is.map PyData.int)) = true := by
  have h1 : PyData.canLayAll0 (is.map PyData.int) = true := by
    induction is with
    | nil => rfl
    | cons i r ih =>
      show (PyData.canLay0 (.int i) && _) = true
      rw [ih]
      rfl
  have h2 : PyData.depthAll (is.map PyData.int) ≤ 1 := by
    induction is with
    | nil => simp [PyData.depthAll]
    | cons i r ih =>
      have ih' := ih (by
        have h3 : (PyData.canLay0 (.int i) && PyData.canLayAll0 (r.map PyData.int)) = true := h1
        rw [Bool.and_eq_true] at h3
        exact h3.2)
      simp only [List.map_cons, PyData.depthAll, PyData.depth]
      omega
  unfold SeqAt.shaped
  rw [Bool.and_eq_true, decide_eq_true_eq]
  refine ⟨h1, ?_⟩
  simp only [PyData.depth]
  omega
theorem dp_intsL {K : PySem.W.Frag} {H : Hp} : ∀ is : List Int, DpAll K H (is.map V.int) (is.map PyData.int)
  | [] => .nil
  | i :: r => .cons (.int i) (dp_intsL r)
theorem eqD_same {K : PySem.W.Frag} {H : Hp} {x y : V} {d : PyData} {Q : VK} (hx : Dp K H x d) (hy : Dp K H y d) (s : SeqAt.shaped d = true) (q : Q (.bl true) H) : rEqD K x y H Q := by
  refine ⟨d, d, hx, hy, s, s, ?_⟩
  rw [SeqAt.eqv_refl _ (SeqAt.canLay_of_shaped s)]
  exact q
theorem shaped_str {z : Str} (h : ∀ c ∈ cs z, lett c = true) : SeqAt.shaped (.str z) = true := by
  have hs := shaped_lstrs (zs := [z]) fun y hy => by
    rw [List.mem_singleton.mp hy]
    exact h
  have hc := SeqAt.canLay_of_shaped hs
  have h3 : (PyData.canLay0 (.str z) && true) = true := hc
  rw [Bool.and_true] at h3
  unfold SeqAt.shaped
  rw [h3]
  simp [PyData.depth]
theorem put_rem {F : Tf} {z : Str} {q : Int} (h : F z = some q) : putF (remF F z) z q = F := by
  funext y
  by_cases e : y = z
  · rw [e, put_at_w, h]
  · rw [put_ne e]
    exact if_neg e
theorem whole_book {kvs : List (Key × V)} {ys : List Str} (av : arePrices kvs = true) (nd : (kvs.map (·.1)).Nodup) (pm : ys.Perm (keyStrs kvs)) : arePrices (kvOf (psOf kvs ys)) = true ∧ ((kvOf (psOf kvs ys)).map (·.1)).Nodup ∧ tfD (kvOf (psOf kvs ys)) = tfD kvs := by
  have e0 : partK kvs ys (fun _ => true) = kvOf (psOf kvs ys) := by
    unfold partK
    rw [List.filter_eq_self.mpr fun _ _ => rfl, kvOf_ps]
  obtain ⟨h1, h2⟩ := part_book (q := fun _ => true) av nd pm fun _ _ => rfl
  rw [e0] at h1 h2
  exact ⟨h1, h2, tf_psOf (ap_parts av).2.1 pm⟩
theorem no_need {F : Tf} (G : Good F) {z : Str} : ¬ Needless (leastF F) z := fun n => by
  obtain ⟨p, hp, hz, le⟩ := n
  have := least_tight G hp hz (F' := remF (leastF F) z) ⟨fun y q h => least_sub ((sub_rem hz).sub y q h), fun c q h => (sub_rem hz).one c q (sub_least.one c q h)⟩ (if_pos rfl)
  omega
theorem least_twice {F : Tf} (G : Good F) : leastF (leastF F) = leastF F := least_between G sub_least fun z q h => h
theorem least_cheap {F : Tf} (G : Good F) : NoDear F (leastF F) ∧ NoDear (leastF F) F := ⟨sub_nodear G sub_least, (choice_iff G sub_least).mpr fun z q h => h⟩
theorem least_all {F : Tf} : leastF F = F ↔ ∀ z, ¬ Needless F z := by
  constructor
  · intro h z n
    obtain ⟨q, hq, _⟩ := id n
    rw [← h] at hq
    exact least_not hq n
  · intro h
    funext z
    exact if_neg (h z)
/-- a tuple of texts == () -/
theorem eq_nilT {K : PySem.W.Frag} {H : Hp} {a p : Addr} {zs : List Str} {Q : VK} (h : SqT K H a (zs.map V.str)) (hp : H p = some (.tup [])) (hl : ∀ z ∈ zs, ∀ c ∈ cs z, lett c = true) (q : Q (.bl zs.isEmpty) H) : rEqD K (.ref a) (.ref p) H Q := by
  refine ⟨.tuple (zs.map PyData.str), .tuple [], .tup h (dpAll_strs zs), .tup (SqT.of hp) .nil, shaped_strs hl, by decide +kernel, ?_⟩
  have e : PyData.eqv (.tuple (zs.map PyData.str)) (.tuple []) = zs.isEmpty := by
    cases zs with
    | nil => rfl
    | cons z r => rfl
  rw [e]
  exact q
theorem shw_unit : Shw (.tuple []) 1 10 := ⟨by simp [PyData.showable, PyData.showableAll], by simp [PyData.hasDict, PyData.hasDictAll], by simp [PyData.depth, PyData.depthAll], by simp only [PyData.shown]; decide +kernel⟩
def dTold (b : Bool) : PyData := .list [.tuple [], .bool true, .bool true, .bool b]
theorem repr_told {K : PySem.W.Frag} {H : Hp} {a t : Addr} {b : Bool} {Q : VK} (h : H a = some (.lst [.ref t, .bl true, .bl true, .bl b])) (ht : H t = some (.tup [])) (q : Q (.str (dTold b).shown) H) : rRepr K [.ref a] H Q := by
  have S : Shw (dTold b) 2 _ := shw_list (k := 1) (n := 1000) fun e he => by
    simp only [List.mem_cons, List.not_mem_nil, or_false] at he
    rcases he with rfl | rfl | rfl | rfl
    · exact shw_unit.le (Nat.le_refl _) (by omega)
    · exact (shw_bool true).le (by omega) (by omega)
    · exact (shw_bool true).le (by omega) (by omega)
    · exact (shw_bool b).le (by omega) (by omega)
  exact ⟨_, _, rfl, .lst (SqL.of h) (.cons (.tup (SqT.of ht) .nil) (.cons (.bl true) (.cons (.bl true) (.cons (.bl b) .nil)))), S.s, S.h, Nat.le_trans S.dp (by omega), Nat.le_trans S.len (fits_sz (by show _ ≤ 100000; simp)), q⟩
/-! ### pairs in a list -/
theorem shaped_ent {z : Str} {q : Int} (h : ∀ c ∈ cs z, lett c = true) : SeqAt.shaped (.tuple [.str z, .int q]) = true := by
  have hs := shaped_lstrs (zs := [z]) fun y hy => by
    rw [List.mem_singleton.mp hy]
    exact h
  have hc := SeqAt.canLay_of_shaped hs
  have h2 : PyData.canLay0 (.str z) = true := by
    have h3 : (PyData.canLay0 (.str z) && true) = true := hc
    rwa [Bool.and_true] at h3
  unfold SeqAt.shaped
  rw [Bool.and_eq_true, decide_eq_true_eq]
  constructor
  · show (PyData.canLay0 (.str z) && (true && true)) = true
    rw [h2]
    rfl
  · simp only [PyData.depth, PyData.depthAll]
    omega
theorem dp_paired {K : PySem.W.Frag} {H : Hp} : ∀ {ts : List Addr} {ks : List (Str × Int)}, Paired (fun (t : Addr) (q : Key × V) => H t = some (.tup [kV q.1, q.2])) ts (ks.map entS) → DpAll K H (ts.map V.ref) (ks.map fun e => PyData.tuple [.str e.1, .int e.2])
  | [], [], _ => .nil
  | [], _ :: _, h => by cases h
  | _ :: _, [], h => by cases h
  | t :: r, e :: l, h => by
    rcases h with _ | ⟨h1, h2⟩
    exact .cons (.tup (SqT.of h1) (.cons (.str _) (.cons (.int _) .nil))) (dp_paired h2)
theorem dp_pairedS {K : PySem.W.Frag} {H H' : Hp} (s : Same H H') : ∀ {ts : List Addr} {ks : List (Str × Int)}, Paired (fun (t : Addr) (q : Key × V) => H t = some (.tup [kV q.1, q.2])) ts (ks.map entS) → DpAll K H' (ts.map V.ref) (ks.map fun e => PyData.tuple [.str e.1, .int e.2])
  | [], [], _ => .nil
  | [], _ :: _, h => by cases h
  | _ :: _, [], h => by cases h
  | t :: r, e :: l, h => by
    rcases h with _ | ⟨h1, h2⟩
    exact .cons (.tup (SqT.of (s _ _ h1)) (.cons (.str _) (.cons (.int _) .nil))) (dp_pairedS s h2)
theorem any_ent {ks : List (Str × Int)} {e : Str × Int} (h : e ∈ ks) (s : SeqAt.shaped (.tuple [.str e.1, .int e.2]) = true) : (ks.map fun e => PyData.tuple [.str e.1, .int e.2]).any (fun z => PyData.eqv z (.tuple [.str e.1, .int e.2])) = true := by
  rw [List.any_eq_true]
  exact ⟨_, List.mem_map.mpr ⟨e, h, rfl⟩, SeqAt.eqv_refl _ (SeqAt.canLay_of_shaped s)⟩
/-! ### a choice of the pieces -/
def pickK (kvs : List (Key × V)) (S : List Str) : List (Key × V) := S.map fun y => (Sum.inr y, V.int ((tfD kvs y).getD 0))
theorem valV_pick {kvs : List (Key × V)} {z : Str} : ∀ {S : List Str} {ks : List (Key × V)}, valV (mergeK ks (pickK kvs S)) (Sum.inr z) = if z ∈ S then some (V.int ((tfD kvs z).getD 0)) else valV ks (Sum.inr z)
  | [], ks => by
    rw [if_neg (List.not_mem_nil)]
    rfl
  | y :: r, ks => by
    show valV (mergeK (putK ks (Sum.inr y) (V.int ((tfD kvs y).getD 0))) (pickK kvs r)) (Sum.inr z) = _
    rw [valV_pick, valV_put]
    by_cases h1 : z ∈ r
    · rw [if_pos h1, if_pos (List.mem_cons_of_mem _ h1)]
    · rw [if_neg h1]
      by_cases h2 : z = y
      · rw [if_pos (by rw [h2]), if_pos (by rw [h2]; exact List.mem_cons_self), h2]
      · rw [if_neg fun e => h2 (Sum.inr.inj e), if_neg fun e => (List.mem_cons.mp e).elim h2 h1]
theorem tf_pick {kvs : List (Key × V)} {S : List Str} (h : ∀ y ∈ S, ∃ q, tfD kvs y = some q) (z : Str) : tfD (mergeK [] (pickK kvs S)) z = if z ∈ S then tfD kvs z else none := by
  have e := valV_pick (kvs := kvs) (z := z) (S := S) (ks := [])
  by_cases hz : z ∈ S
  · rw [if_pos hz] at e ⊢
    obtain ⟨q, hq⟩ := h z hz
    rw [hq] at e
    rw [tf_some.mpr e, hq]
    rfl
  · rw [if_neg hz] at e ⊢
    unfold tfD
    rw [e]
    rfl
/-- what a choice of the pieces gives -/
theorem pick_book {kvs : List (Key × V)} {S : List Str} {sg : List Nat} (av : arePrices kvs = true) (nd : (kvs.map (·.1)).Nodup) (sgns : ∀ c, (∃ q, tfD kvs (ch c) = some q) ↔ c ∈ sg) (h : ∀ y ∈ S, ∃ q, tfD kvs y = some q) (hs : ∀ c ∈ sg, ch c ∈ S) :
    arePrices (mergeK [] (pickK kvs S)) = true ∧ ((mergeK [] (pickK kvs S)).map (·.1)).Nodup ∧ Sub1 (tfD kvs) (tfD (mergeK [] (pickK kvs S))) ∧ ∀ z q, tfD (mergeK [] (pickK kvs S)) z = some q ↔ z ∈ S ∧ tfD kvs z = some q := by
  have good := good_of av
  have al := (ap_parts av).2.1
  have T := tf_pick h
  have key : ∀ z q, tfD (mergeK [] (pickK kvs S)) z = some q ↔ z ∈ S ∧ tfD kvs z = some q := fun z q => by
    rw [T]
    by_cases hz : z ∈ S
    · rw [if_pos hz]
      exact ⟨fun e => ⟨hz, e⟩, fun e => e.2⟩
    · rw [if_neg hz]
      exact ⟨fun e => (nomatch e), fun e => absurd e.1 hz⟩
  obtain ⟨P, _⟩ := PrOk.merge (sg := sg) (more := pickK kvs S) PrOk.nil fun kv hkv => by
    obtain ⟨y, hy, rfl⟩ := List.mem_map.mp hkv
    obtain ⟨q, hq⟩ := h y hy
    refine ⟨y, q, by rw [hq]; rfl, good.len y q hq, fun c hc => (sgns c).mp (good.cov y q hq c hc), ?_⟩
    have hk := (tf_key al).mpr ⟨q, hq⟩
    obtain ⟨h1, h2, h3⟩ := price_of_key al hk
    rw [tf_some] at hq
    rw [h1] at hq
    cases hq
    exact ⟨h2, h3⟩
  have nd' := P.nd
  refine ⟨(ap_sub av nd nd' (fun kv hkv => ?_) (fun c hc => ?_) ?_).1, nd', ⟨fun z q e => ((key z q).mp e).2, fun c q e => (key _ q).mpr ⟨hs c ((sgns c).mp ⟨q, e⟩), e⟩⟩, key⟩
  · obtain ⟨z, q, rfl, _⟩ := P.mem kv hkv
    have h1 := tf_some.mpr (val_nodup nd' _ hkv)
    exact valV_mem (tf_some.mp ((key z q).mp h1).2)
  · obtain ⟨q, hq⟩ := hc
    exact ⟨q, (key _ q).mpr ⟨hs c ((sgns c).mp ⟨q, hq⟩), hq⟩⟩
  · refine Nat.le_trans (?_ : (mergeK [] (pickK kvs S)).length ≤ kvs.length) (ap_parts av).1.2
    have h1 := nd_le (l2 := kvs.map (·.1)) nd' fun k hk => by
      obtain ⟨kv, hkv, rfl⟩ := List.mem_map.mp hk
      obtain ⟨z, q, rfl, _⟩ := P.mem kv hkv
      have h1 := tf_some.mpr (val_nodup nd' _ hkv)
      exact valV_in (tf_some.mp ((key z q).mp h1).2)
    rwa [List.length_map, List.length_map] at h1
theorem fm_out {S : List Str} : ∀ zs : List Str, (zs.filterMap fun z => if decide (z ∈ S) = true then none else some (V.str z)) = (zs.filter fun z => !decide (z ∈ S)).map V.str
  | [] => rfl
  | z :: r => by
    have ih := fm_out (S := S) r
    by_cases h : z ∈ S
    · rw [List.filterMap_cons, List.filter_cons, if_pos (decide_eq_true h), decide_eq_true h, ih]
      rfl
    · rw [List.filterMap_cons, List.filter_cons, if_neg (by rw [decide_eq_false h]; exact Bool.false_ne_true), decide_eq_false h, ih]
      rfl
theorem out_none {S zs : List Str} : (zs.filter fun z => !decide (z ∈ S)).isEmpty = true ↔ ∀ z ∈ zs, z ∈ S := by
  rw [List.isEmpty_iff, List.filter_eq_nil_iff]
  refine forall_congr' fun z => forall_congr' fun _ => ?_
  by_cases h : z ∈ S
  · simp [h]
  · simp [h]
/-- _law_choices_right -/
def spChoices (K : PySem.W.Frag) (C : Addr) : Sp := fun vs H Q _ => ∃ (l b pd sa la : Addr) (kvs : List (Key × V)) (sg : List Nat) (zs : List Str) (n : Nat), vs = [.ref l, .ref b, .ref pd, .ref sa, .ref la] ∧ pd ≠ l ∧ sa ≠ l ∧ la ≠ l ∧ Book1 C H b kvs ∧ H pd = some (.dK kvs) ∧ H sa = some (.lst (sg.map chV)) ∧
  (∀ c, (∃ q, tfD kvs (ch c) = some q) ↔ c ∈ sg) ∧ sg.length ≤ 4 ∧ H la = some (.lst (zs.map V.str)) ∧ (∀ z, z ∈ zs ↔ ∃ q, leastF (tfD kvs) z = some q) ∧ zs.length ≤ 12 ∧ Dice H l (n + 200) ∧ ∀ H', Kp l H H' → Dice H' l n → Q (.bl true) H'
end G
/-! Cuts from the front: the pieces at a place, the prices of the rests, a cheapest cut; what cutbehind.cuts.cuts promises. -/
namespace G
open PySem PySem.Spec PyProof.Rows L2
section
variable {F : Tf} {l m : List Nat}
/-- the first piece of a cheapest cut -/
theorem lp_first (G : Good F) (o : Over F l) (ne : l ≠ []) : ∃ z p b, F z = some p ∧ l = cs z ++ b ∧ lp F l = p + lp F b := by
  obtain ⟨c, hc, e⟩ := lp_cut G o
  obtain ⟨q, d, rfl⟩ : ∃ q d, c = q :: d := by
    cases c with
    | nil => exact absurd hc.2.symm ne
    | cons q d => exact ⟨q, d, rfl⟩
  have hq := hc.1 q List.mem_cons_self
  have hl : l = cs q.1 ++ (d.map fun p => cs p.1).flatten := by
    rw [← hc.2, List.map_cons, List.flatten_cons]
  have hd : Cut F (d.map fun p => cs p.1).flatten d := ⟨fun p hp => hc.1 p (List.mem_cons_of_mem _ hp), rfl⟩
  have ob : Over F (d.map fun p => cs p.1).flatten := by
    rw [hl] at o
    exact o.right
  refine ⟨q.1, q.2, _, hq, hl, ?_⟩
  have h1 := lp_le G hd ob
  have h2 := lp_add G (G.cov _ _ hq) ob
  have h3 := lp_piece G hq
  rw [← hl] at h2
  rw [fee_cons] at e
  omega
theorem lp_pre (G : Good F) (o : Over F (cs z ++ b)) {p : Int} (h : F z = some p) : lp F (cs z ++ b) ≤ p + lp F b := by
  have h2 := lp_add G (G.cov _ _ h) o.right
  have h3 := lp_piece G h
  omega
/-- the piece of so many signs with which a row of signs begins -/
def headAt (F : Tf) (m : List Nat) (j : Nat) : Option Str := if (F (sOf (m.take (j + 1)))).isSome = true then some (sOf (m.take (j + 1))) else none
def headsK (F : Tf) (m : List Nat) (k : Nat) : List Str := (List.range (min k m.length)).filterMap (headAt F m)
/-- the pieces with which a row of signs begins, shorter ones first -/
def heads (F : Tf) (m : List Nat) : List Str := headsK F m 5
theorem headAt_some {j : Nat} {z : Str} : headAt F m j = some z ↔ (∃ p, F z = some p) ∧ z = sOf (m.take (j + 1)) := by
  unfold headAt
  split
  · rename_i h
    obtain ⟨p, hp⟩ := Option.isSome_iff_exists.mp h
    constructor
    · intro e
      have e := Option.some.inj e
      subst e
      exact ⟨⟨p, hp⟩, rfl⟩
    · rintro ⟨_, rfl⟩
      rfl
  · rename_i h
    constructor
    · intro e
      cases e
    · rintro ⟨⟨p, hp⟩, rfl⟩
      rw [hp] at h
      exact absurd rfl h
theorem heads_mem (G : Good F) {z : Str} : z ∈ heads F m ↔ ∃ p b, F z = some p ∧ m = cs z ++ b := by
  unfold heads headsK
  rw [List.mem_filterMap]
  constructor
  · rintro ⟨j, hj, e⟩
    obtain ⟨⟨p, hp⟩, rfl⟩ := headAt_some.mp e
    exact ⟨p, m.drop (j + 1), hp, by rw [cs_sOf, List.take_append_drop]⟩
  · rintro ⟨p, b, hp, e⟩
    obtain ⟨h1, h5⟩ := G.len z p hp
    have hm := congrArg List.length e
    rw [List.length_append] at hm
    refine ⟨(cs z).length - 1, List.mem_range.mpr (by omega), headAt_some.mpr ⟨⟨p, hp⟩, str_ext ?_⟩⟩
    rw [cs_sOf, e, show (cs z).length - 1 + 1 = (cs z).length by omega, List.take_left]
/-- that many signs are enough, if no piece is longer -/
theorem heads_long {k : Nat} (hk : ∀ z p, F z = some p → (cs z).length ≤ k) (h5 : k ≤ 5) : headsK F m k = heads F m := by
  unfold heads headsK
  have e : List.range (min 5 m.length) = List.range (min k m.length) ++ (List.range (min 5 m.length - min k m.length)).map (min k m.length + ·) := by
    rw [← List.range_add]
    congr 1
    omega
  rw [e, List.filterMap_append]
  have e2 : ((List.range (min 5 m.length - min k m.length)).map (min k m.length + ·)).filterMap (headAt F m) = [] := by
    rw [List.filterMap_eq_nil_iff]
    intro j hj
    obtain ⟨i, hi, rfl⟩ := List.mem_map.mp hj
    have hi := List.mem_range.mp hi
    cases e3 : headAt F m (min k m.length + i) with
    | none => rfl
    | some z =>
      obtain ⟨⟨p, hp⟩, rfl⟩ := headAt_some.mp e3
      have h := hk _ _ hp
      rw [cs_sOf, List.length_take] at h
      omega
  rw [e2, List.append_nil]
/-- the price of the cheapest cut of a row from the prices of its first pieces -/
noncomputable def frontCosts (F : Tf) (m : List Nat) : List Int := (heads F m).map fun z => (F z).getD 0 + lp F (m.drop (cs z).length)
theorem front_min (G : Good F) (o : Over F m) (ne : m ≠ []) : 0 < (frontCosts F m).length ∧ ∀ y ∈ frontCosts F m, (∀ x ∈ frontCosts F m, y ≤ x) → y = lp F m := by
  obtain ⟨z, p, b, hz, e, h⟩ := lp_first G o ne
  have dz : m.drop (cs z).length = b := by rw [e, List.drop_left]
  have hin : p + lp F b ∈ frontCosts F m := List.mem_map.mpr ⟨z, (heads_mem G).mpr ⟨p, b, hz, e⟩, by rw [hz, dz]; rfl⟩
  refine ⟨List.length_pos_of_mem hin, fun y hy hl => ?_⟩
  have h1 := hl _ hin
  obtain ⟨x, hx, rfl⟩ := List.mem_map.mp hy
  obtain ⟨p', b', hx', e'⟩ := (heads_mem G).mp hx
  have h2 := lp_pre G (z := x) (b := b') (by rw [← e']; exact o) hx'
  rw [← e'] at h2
  have dx : m.drop (cs x).length = b' := by rw [e', List.drop_left]
  rw [hx', dx] at h1 ⊢
  have h3 : (some p').getD 0 = p' := rfl
  rw [h3] at h1 ⊢
  omega
/-- the pieces with which a cheapest cut of a row begins -/
noncomputable def bests (F : Tf) (m : List Nat) : List Str := (heads F m).filter fun z => decide ((F z).getD 0 + lp F (m.drop (cs z).length) = lp F m)
theorem bests_mem (G : Good F) {z : Str} : z ∈ bests F m ↔ ∃ p b, F z = some p ∧ m = cs z ++ b ∧ p + lp F b = lp F m := by
  unfold bests
  rw [List.mem_filter, heads_mem G, decide_eq_true_eq]
  constructor
  · rintro ⟨⟨p, b, hp, e⟩, h⟩
    refine ⟨p, b, hp, e, ?_⟩
    rw [hp, e, List.drop_left] at h
    rw [e]
    exact h
  · rintro ⟨p, b, hp, e, h⟩
    refine ⟨⟨p, b, hp, e⟩, ?_⟩
    rw [hp, e, List.drop_left]
    rw [e] at h
    exact h
theorem bests_ne (G : Good F) (o : Over F m) (ne : m ≠ []) : bests F m ≠ [] := by
  obtain ⟨z, p, b, hz, e, h⟩ := lp_first G o ne
  exact List.ne_nil_of_mem ((bests_mem G).mpr ⟨p, b, hz, e, h.symm⟩)
end
/-- the prices of the rests from the place a on, 0 ahead of it -/
noncomputable def restV (F : Tf) (l : List Nat) (a : Nat) : List V := (List.range (l.length + 1)).map fun i => V.int (if a ≤ i then lp F (l.drop i) else 0)
theorem restV_len {F : Tf} {l : List Nat} {a : Nat} : (restV F l a).length = l.length + 1 := by simp [restV]
theorem restV_at {F : Tf} {l : List Nat} {a i : Nat} (h : i ≤ l.length) (ha : a ≤ i) : (restV F l a)[i]? = some (.int (lp F (l.drop i))) := by
  unfold restV
  rw [List.getElem?_map, List.getElem?_range (by omega)]
  show some (V.int (if a ≤ i then _ else _)) = _
  rw [if_pos ha]
theorem restV_set {F : Tf} {l : List Nat} {a : Nat} (h : a < l.length) : (restV F l (a + 1)).set a (.int (lp F (l.drop a))) = restV F l a := by
  refine List.ext_getElem? fun i => ?_
  rw [List.getElem?_set]
  unfold restV
  by_cases e : a = i
  · subst e
    rw [if_pos rfl, if_pos (by simp; omega), List.getElem?_map, List.getElem?_range (by omega)]
    show _ = some (V.int (if a ≤ a then _ else _))
    rw [if_pos (Nat.le_refl _)]
  · rw [if_neg e, List.getElem?_map, List.getElem?_map]
    by_cases hi : i < l.length + 1
    · rw [List.getElem?_range hi]
      show some (V.int (if a + 1 ≤ i then _ else _)) = some (V.int (if a ≤ i then _ else _))
      by_cases h2 : a + 1 ≤ i
      · rw [if_pos h2, if_pos (by omega)]
      · rw [if_neg h2, if_neg (by omega)]
    · rw [List.getElem?_eq_none (by simp; omega)]
      rfl
theorem restV_start {F : Tf} {l : List Nat} (G : Good F) : (List.replicate (l.length + 1) [V.int 0]).flatten = restV F l l.length := by
  unfold restV
  have e : (List.replicate (l.length + 1) [V.int 0]).flatten = List.replicate (l.length + 1) (V.int 0) := by
    induction l.length + 1 with
    | zero => rfl
    | succ k ih => rw [List.replicate_succ, List.replicate_succ, List.flatten_cons, ih]; rfl
  rw [e]
  refine List.ext_getElem? fun i => ?_
  rw [List.getElem?_map]
  by_cases hi : i < l.length + 1
  · rw [List.getElem?_range hi, List.getElem?_replicate, if_pos hi]
    show _ = some (V.int (if l.length ≤ i then _ else _))
    by_cases h : l.length ≤ i
    · rw [if_pos h, List.drop_eq_nil_of_le h, lp_nil G]
    · rw [if_neg h]
  · rw [List.getElem?_eq_none (by simp; omega), List.getElem?_eq_none (by simp; omega)]
    rfl
theorem fm_ifs {p : Str → Bool} : ∀ l : List Str, (l.filterMap fun y => if p y = true then some (V.str y) else none) = (l.filter p).map V.str
  | [] => rfl
  | y :: r => by
    have ih := fm_ifs (p := p) r
    cases h : p y with
    | true =>
      rw [List.filterMap_cons, List.filter_cons, h, if_pos rfl, if_pos rfl, ih]
      rfl
    | false =>
      rw [List.filterMap_cons, List.filter_cons, h, if_neg Bool.false_ne_true, if_neg Bool.false_ne_true, ih]
theorem heads_le {F : Tf} {m : List Nat} : (heads F m).length ≤ 5 := by
  unfold heads headsK
  refine Nat.le_trans (List.length_filterMap_le _ _) ?_
  rw [List.length_range]
  omega
/-! ### promises -/
/-- a book and a text over it -/
structure BT (C : Addr) (H : Hp) (b : Addr) (kvs : List (Key × V)) (z : Str) : Prop where
  bk : Book1 C H b kvs
  ov : Over (tfD kvs) (cs z)
  len : z.length ≤ 8000
theorem over_text {kvs : List (Key × V)} (av : arePrices kvs = true) {z : Str} (h : Over (tfD kvs) (cs z)) (hz : z.length ≤ 8000) : overB kvs z = true := by
  obtain ⟨_, al, _, _⟩ := ap_parts av
  refine overB_true (isText_of (by rw [cs_len]; exact hz) fun c hc => ?_) h
  obtain ⟨_, _, hl⟩ := keyStrs_piece al _ ((tf_key al).mpr (h c hc))
  exact hl c (by simp [cs])
theorem BT.over {C : Addr} {H : Hp} {b : Addr} {kvs : List (Key × V)} {z : Str} (B : BT C H b kvs z) : overB kvs z = true := over_text B.bk.av B.ov B.len
theorem BT.same {C : Addr} {H H' : Hp} {b : Addr} {kvs : List (Key × V)} {z : Str} (B : BT C H b kvs z) (s : Same H H') : BT C H' b kvs z := ⟨B.bk.same s, B.ov, B.len⟩
def spPriceIn (C : Addr) : Sp := fun vs H Q _ => ∃ b kvs z, vs = [.ref b, .str z] ∧ BT C H b kvs z ∧ ∀ H', Same H H' → Q (.int (lp (tfD kvs) (cs z))) H'
def spPiecesAt (C : Addr) : Sp := fun vs H Q _ => ∃ (b : Addr) (kvs : List (Key × V)) (z : Str) (a : Nat), vs = [.ref b, .str z, .int (a : Int)] ∧ BT C H b kvs z ∧ a ≤ z.length ∧ ∀ p H', H p = none → H' p = some (.lst ((heads (tfD kvs) ((cs z).drop a)).map V.str)) → Same H H' → Q (.ref p) H'
def spRests (C : Addr) : Sp := fun vs H Q _ => ∃ b kvs z, vs = [.ref b, .str z] ∧ BT C H b kvs z ∧ ∀ p H', H p = none → H' p = some (.lst (restV (tfD kvs) (cs z) 0)) → Same H H' → Q (.ref p) H'
def spHarmlessAt (C : Addr) : Sp := fun vs H Q _ => ∃ (b : Addr) (kvs : List (Key × V)) (z : Str) (r : Addr) (a : Nat), vs = [.ref b, .str z, .ref r, .int (a : Int)] ∧ BT C H b kvs z ∧ H r = some (.lst (restV (tfD kvs) (cs z) 0)) ∧ a ≤ z.length ∧ ∀ p H', H p = none → H' p = some (.lst ((bests (tfD kvs) ((cs z).drop a)).map V.str)) → Same H H' → Q (.ref p) H'
/-- the steps: one list for each place -/
def StepsAt (H : Hp) (p : Addr) (f : Nat → List Str) (n : Nat) : Prop := ∃ ps : List Addr, ps.length = n ∧ H p = some (.lst (ps.map V.ref)) ∧ ∀ i q, ps[i]? = some q → H q = some (.lst ((f i).map V.str))
def spSteps (C : Addr) (g : Tf → List Nat → List Str) : Sp := fun vs H Q _ => ∃ b kvs z, vs = [.ref b, .str z] ∧ BT C H b kvs z ∧ ∀ p H', H p = none → StepsAt H' p (fun i => g (tfD kvs) ((cs z).drop i)) z.length → Same H H' → Q (.ref p) H'
/-- a cheapest cut -/
structure Cheap (F : Tf) (l : List Nat) (c : List Str) : Prop where
  all : ∀ y ∈ c, ∃ p, F y = some p
  flat : (c.map cs).flatten = l
  sum : (c.map fun y => (F y).getD 0).sum = lp F l
def spCheapest (C : Addr) : Sp := fun vs H Q _ => ∃ b kvs z, vs = [.ref b, .str z] ∧ BT C H b kvs z ∧ ∀ p c H', H p = none → Cheap (tfD kvs) (cs z) c → H' p = some (.tup (c.map V.str)) → Same H H' → Q (.ref p) H'
def spReqPair (C : Addr) : Sp := fun vs H Q _ => ∃ b kvs z, vs = [.ref b, .str z] ∧ BT C H b kvs z ∧ ∀ H', Same H H' → Q .non H'
/-! ### the laws' drawn books -/
/-- pairs of a text and a number, at their places -/
structure PrsAt (H : Hp) (prs : List (Addr × (Key × V))) : Prop where
  at_ : ∀ p ∈ prs, H p.1 = some (.tup [kV p.2.1, p.2.2])
  ent : ∀ p ∈ prs, ∃ e : Str × Int, p.2 = entS e ∧ ∀ c ∈ cs e.1, lett c = true
theorem dp_prs {K : PySem.W.Frag} {H : Hp} : ∀ {prs : List (Addr × (Key × V))}, PrsAt H prs → ∃ ks : List (Str × Int), DpAll K H (prs.map fun p => V.ref p.1) (ks.map fun e => PyData.tuple [.str e.1, .int e.2]) ∧ ks.length = prs.length ∧ ∀ e ∈ ks, ∀ c ∈ cs e.1, lett c = true
  | [], _ => ⟨[], .nil, rfl, fun _ h => (List.not_mem_nil h).elim⟩
  | p :: r, h => by
    obtain ⟨ks, h1, h2, h3⟩ := dp_prs (prs := r) ⟨fun q hq => h.at_ q (List.mem_cons_of_mem _ hq), fun q hq => h.ent q (List.mem_cons_of_mem _ hq)⟩
    obtain ⟨e, he, hl⟩ := h.ent p List.mem_cons_self
    have ha := h.at_ p List.mem_cons_self
    rw [he] at ha
    refine ⟨e :: ks, .cons (.tup (SqT.of ha) (.cons (.str _) (.cons (.int _) .nil))) h1, by rw [List.length_cons, List.length_cons, h2], fun x hx => ?_⟩
    rcases List.mem_cons.mp hx with rfl | hx
    · exact hl
    · exact h3 x hx
theorem rNe_nilP {K : PySem.W.Frag} {H : Hp} {a p : Addr} {prs : List (Addr × (Key × V))} {Q : VK} (h : H a = some (.lst (prs.map fun z => V.ref z.1))) (hz : PrsAt H prs) (hp : H p = some (.lst [])) (q : Q (.bl (!prs.isEmpty)) H) : rNeD K (.ref a) (.ref p) H Q := by
  obtain ⟨ks, h1, h2, h3⟩ := dp_prs (K := K) hz
  refine ⟨dPairs ks, .list [], .lst (SqL.of h) h1, .lst (SqL.of hp) .nil, shaped_pairs h3, by decide, ?_⟩
  have e : PyData.eqv (dPairs ks) (.list []) = prs.isEmpty := by
    cases ks with
    | nil =>
      cases prs with
      | nil => rfl
      | cons z r => cases h2
    | cons z r =>
      cases prs with
      | nil => cases h2
      | cons z r => simp [dPairs, PyData.eqv, PyData.eqvAll]
  rw [e]
  exact q
/-- _law_mixed: pairs in a drawn order -/
def spMixed : Sp := fun vs H Q _ => ∃ (l a : Addr) (ps : List (Addr × (Key × V))) (n : Nat), vs = [.ref l, .ref a] ∧ a ≠ l ∧ H a = some (.lst (ps.map fun z => V.ref z.1)) ∧ PrsAt H ps ∧ ps.length ≤ 1000 ∧ Dice H l (n + ps.length) ∧
  ∀ p (zs : List (Addr × (Key × V))) H', H p = none → zs.Perm ps → H' p = some (.lst (zs.map fun z => V.ref z.1)) → Kp l H H' → Dice H' l n → Q (.ref p) H'
/-- _law_letters -/
def spLetts : Sp := fun vs H Q _ => ∃ (l : Addr) (m : Nat) (n : Nat), vs = [.ref l, .int (m : Int)] ∧ 1 ≤ m ∧ m ≤ 26 ∧ Dice H l (n + (m + 1)) ∧
  ∀ p (sg : List Nat) H', H p = none → 1 ≤ sg.length → sg.length ≤ m → (∀ c ∈ sg, lett c = true) → H' p = some (.lst (sg.map chV)) → Kp l H H' → Dice H' l n → Q (.ref p) H'
/-- _law_book -/
def spLawBook : Sp := fun vs H Q _ => ∃ (l : Addr) (s lo mo tp : Nat) (n : Nat), vs = [.ref l, .int (s : Int), .int (lo : Int), .int (mo : Int), .int (tp : Int)] ∧ 1 ≤ s ∧ s ≤ 4 ∧ 2 ≤ lo ∧ lo ≤ 5 ∧ s + mo ≤ 12 ∧ 1 ≤ tp ∧ tp ≤ 99 ∧ Dice H l (n + 120) ∧
  ∀ (p : Addr) (kvs : List (Key × V)) H', H p = none → p ≠ l → H' p = some (.dK kvs) → arePrices kvs = true → (kvs.map (·.1)).Nodup → Kp l H H' → Dice H' l n → Q (.ref p) H'
/-- _law_signs -/
def spSigns : Sp := fun vs H Q _ => ∃ (d : Addr) (kvs : List (Key × V)), vs = [.ref d] ∧ H d = some (.dK kvs) ∧ arePrices kvs = true ∧ (kvs.map (·.1)).Nodup ∧
  ∀ p (sg : List Nat) H', H p = none → 1 ≤ sg.length → sg.length ≤ 4 → (∀ c, (∃ q, tfD kvs (ch c) = some q) ↔ c ∈ sg) → H' p = some (.lst (sg.map chV)) → Same H H' → Q (.ref p) H'
theorem lift_chs : ∀ {ys : List Str}, (∀ y ∈ ys, ∃ c, y = ch c) → ∃ sg : List Nat, ys = sg.map ch
  | [], _ => ⟨[], rfl⟩
  | y :: r, h => by
    obtain ⟨c, rfl⟩ := h y List.mem_cons_self
    obtain ⟨sg, rfl⟩ := lift_chs (ys := r) fun z hz => h z (List.mem_cons_of_mem _ hz)
    exact ⟨c :: sg, rfl⟩
theorem chs_strs' (l : List Nat) : l.map chV = (l.map ch).map V.str := by
  rw [List.map_map]
  rfl
/-- a book has a sign -/
theorem some_sign {kvs : List (Key × V)} (av : arePrices kvs = true) (nd : (kvs.map (·.1)).Nodup) : ∃ c q, tfD kvs (ch c) = some q := by
  obtain ⟨⟨n1, _⟩, al, _⟩ := ap_parts av
  have tar := tar_of av nd
  obtain ⟨kv, hkv⟩ : ∃ kv, kv ∈ kvs := by
    cases kvs with
    | nil => simp at n1
    | cons a r => exact ⟨a, List.mem_cons_self⟩
  obtain ⟨z, q, rfl, hq⟩ := tar.mem kv hkv
  have l1 := (tar.good.len z q hq).1
  obtain ⟨c, hc⟩ : ∃ c, c ∈ cs z := by
    cases e : cs z with
    | nil => rw [e] at l1; simp at l1
    | cons c r => exact ⟨c, List.mem_cons_self⟩
  obtain ⟨p, hp⟩ := tar.good.cov z q hq c hc
  exact ⟨c, p, hp⟩
/-- _law_here -/
def spHere : Sp := fun vs H Q _ => ∃ (d : Addr) (kvs : List (Key × V)) (z : Str) (a : Nat), vs = [.ref d, .str z, .int (a : Int)] ∧ H d = some (.dK kvs) ∧ Tar kvs ∧ z.length ≤ 10000 ∧ a ≤ z.length ∧
  ∀ p H', H p = none → H' p = some (.lst ((heads (tfD kvs) ((cs z).drop a)).map V.str)) → Same H H' → Q (.ref p) H'
/-- _law_sum -/
def spSumOf : Sp := fun vs H Q _ => ∃ (d t : Addr) (kvs : List (Key × V)) (c : List Str), vs = [.ref d, .ref t] ∧ H d = some (.dK kvs) ∧ Tar kvs ∧ H t = some (.tup (c.map V.str)) ∧ c.length ≤ 100000 ∧ (∀ y ∈ c, ∃ p, tfD kvs y = some p) ∧
  ∀ H', Same H H' → Q (.int (c.map fun y => (tfD kvs y).getD 0).sum) H'
/-- _law_long -/
def spLong (K : PySem.W.Frag) : Sp := fun vs H Q _ => ∃ (a l sa : Addr) (ns : List Int) (sg : List Nat) (e : Nat) (n : Nat), vs = [.ref a, .ref l, .ref sa, .int (e : Int)] ∧ (∀ H', Kp l H H' → SqL K H' a (ns.map V.int)) ∧ ns.length ≤ 63 ∧ sa ≠ l ∧ H sa = some (.lst (sg.map chV)) ∧ sg ≠ [] ∧ sg.length ≤ 1000 ∧ e ≤ 2 ∧ Dice H l (n + 20) ∧
  ∀ (zs : List Nat) H', zs.length ≤ 200 → (∀ c ∈ zs, c ∈ sg) → Kp l H H' → Dice H' l n → Q (.str (sOf zs)) H'
/-- _law_stranger -/
def spStranger : Sp := fun vs H Q _ => ∃ (d : Addr) (kvs : List (Key × V)), vs = [.ref d] ∧ H d = some (.dK kvs) ∧ arePrices kvs = true ∧ (kvs.map (·.1)).Nodup ∧ ∀ c H', lett c = true → tfD kvs (ch c) = none → Same H H' → Q (.str (ch c)) H'
/-- _law_are_pieces of a tuple of pieces -/
def spArePcs : Sp := fun vs H Q _ => ∃ (d t : Addr) (kvs : List (Key × V)) (c : List Str), vs = [.ref d, .ref t] ∧ H d = some (.dK kvs) ∧ Tar kvs ∧ H t = some (.tup (c.map V.str)) ∧ c.length ≤ 100000 ∧ (∀ y ∈ c, ∃ p, tfD kvs y = some p) ∧ ∀ H', Same H H' → Q (.bl true) H'
/-- _law_least of k11 -/
def spLeastOk : Sp := fun vs H Q _ => ∃ (d : Addr) (kvs : List (Key × V)) (z : Str), vs = [.ref d, .str z] ∧ H d = some (.dK kvs) ∧ arePrices kvs = true ∧ (kvs.map (·.1)).Nodup ∧ Over (tfD kvs) (cs z) ∧ z.length ≤ 1000 ∧ ∀ H', Same H H' → Q (.bl true) H'
theorem fm_ifc {p : Nat → Bool} : ∀ l : List Nat, (l.filterMap fun c => if p c = true then some (chV c) else none) = (l.filter p).map chV
  | [] => rfl
  | y :: r => by
    have ih := fm_ifc (p := p) r
    cases h : p y with
    | true =>
      rw [List.filterMap_cons, List.filter_cons, h, if_pos rfl, if_pos rfl, ih]
      rfl
    | false => rw [List.filterMap_cons, List.filter_cons, h, if_neg Bool.false_ne_true, if_neg Bool.false_ne_true, ih]
/-- eight letters are more than the signs of a book -/
theorem stranger_ex {kvs : List (Key × V)} (av : arePrices kvs = true) {l : List Nat} (nd : l.Nodup) (h8 : 5 ≤ l.length) : l.filter (fun c => !(tfD kvs (ch c)).isSome) ≠ [] := fun e => by
  obtain ⟨_, al, n4, _⟩ := ap_parts av
  rw [List.filter_eq_nil_iff] at e
  have h := nd_sub_len (l1 := l.map ch) (l2 := (keyStrs kvs).filter fun z => decide ((cs z).length = 1)) ?_ fun y hy => ?_
  · rw [List.length_map] at h
    omega
  · exact List.pairwise_map.mpr (nd.imp fun {a b} n e => n (by
      have := congrArg cs e
      simpa [cs] using this))
  · obtain ⟨c, hc, rfl⟩ := List.mem_map.mp hy
    have h1 := e c hc
    refine List.mem_filter.mpr ⟨(tf_key al).mpr (Option.isSome_iff_exists.mp ?_), by simp [cs]⟩
    cases e2 : (tfD kvs (ch c)).isSome with
    | true => rfl
    | false =>
      rw [e2] at h1
      exact absurd rfl h1
end G
/-! Defs that raise: calls of them, statements that are not reached, values that are no books and no texts. -/
namespace G
open PySem PySem.Spec PyProof.Rows L2
section
variable {X : Cx}
/-- what is not reached -/
theorem ps_any {st : Stmt} : PS X st (fun _ _ _ => False) := ⟨fun _ _ _ _ _ _ h => h.elim⟩
theorem pss_any {body : List Stmt} : PSs X body (fun _ _ _ => False) := ⟨fun _ _ _ _ _ _ h => h.elim⟩
end
/-- an own error class without __init__ over ValueError -/
structure ErrC (K : PySem.W.Frag) (mg : Str → Option Value) (x : Str) (C : Addr) : Prop where
  xc : PySem.W.excIn K C [.type "ValueError", .type "Exception", .type "BaseException", .type "object"] "ValueError.__new__" = true
  g : mg x = some (.ref C)
  k : PySem.W.keepIn K (.ref C) = true
  b : PySem.W.subIn K (.ref C) (.type "BaseException") = some true
  t : PySem.W.typeIn K (.ref C) = some (.type "type")
theorem ps_err {X : Cx} {W : WX} {C : Addr} {x m : Str} {j : Nat} {p p2 pos pos2 : Pos} (T : ErrC X.K X.mg x C) (hc : X.calm = true) (tk : Takes X W) (hg : Gl X x := by rfl) (hdb : (x == ("__debug__" : Str)) = false := by decide) :
    PS X (.Raise (some (.Call (.Name x p) [.Constant (.str m) j p2] [] pos)) none pos2) (fun _ σ H => W (.ref C) none σ H) :=
  ps_raise hc tk (pmk_own PySem.F.excBase_ValueError T.xc T.g T.k (raises_own T.b T.t) hg hdb)
/-! ### values of other kinds -/
inductive Odd (H : Hp) : V → Prop
  | non : Odd H .non
  | bl (b : Bool) : Odd H (.bl b)
  | int (i : Int) : Odd H (.int i)
  | lst {a : Addr} {xs : List V} (h : H a = some (.lst xs)) : Odd H (.ref a)
  | tup {a : Addr} {xs : List V} (h : H a = some (.tup xs)) : Odd H (.ref a)
  | dK {a : Addr} {kvs : List (Key × V)} (h : H a = some (.dK kvs)) : Odd H (.ref a)
theorem Odd.mono {H H' : Hp} {x : V} (o : Odd H x) (s : ∀ a u, H a = some u → (∀ ps, u ≠ .tbl ps) → H' a = some u) : Odd H' x := by
  cases o with
  | non => exact .non
  | bl b => exact .bl b
  | int i => exact .int i
  | lst h => exact .lst (s _ _ h fun _ e => nomatch e)
  | tup h => exact .tup (s _ _ h fun _ e => nomatch e)
  | dK h => exact .dK (s _ _ h fun _ e => nomatch e)
theorem Odd.same {H H' : Hp} {x : V} (o : Odd H x) (s : Same H H') : Odd H' x := o.mono fun a u e _ => s a u e
theorem Odd.tyd {K : PySem.W.Frag} {H : Hp} {x : V} (o : Odd H x) : Tyd K H x := by
  cases o with
  | non => exact tyd_non
  | bl b => exact tyd_bl b
  | int i => exact tyd_int i
  | lst h => exact tyd_lst h
  | tup h => exact tyd_tup h
  | dK h => exact tyd_dK h
theorem Odd.text {H : Hp} {x : V} (o : Odd H x) : isText x = false := by cases o <;> rfl
/-- a value of a known kind, texts among them -/
def Val (H : Hp) (x : V) : Prop := Odd H x ∨ ∃ z : Str, x = .str z ∧ z.length ≤ 100000
theorem Val.mono {H H' : Hp} {x : V} (o : Val H x) (s : ∀ a u, H a = some u → (∀ ps, u ≠ .tbl ps) → H' a = some u) : Val H' x := o.imp (fun o => o.mono s) id
theorem Val.same {H H' : Hp} {x : V} (o : Val H x) (s : Same H H') : Val H' x := o.mono fun a u e _ => s a u e
theorem Val.tyd {K : PySem.W.Frag} {H : Hp} {x : V} (o : Val H x) : Tyd K H x := by
  rcases o with o | ⟨z, rfl, _⟩
  · exact o.tyd
  · exact tyd_str z
theorem Val.sz {H : Hp} {x : V} (o : Val H x) : szV x := by
  rcases o with o | ⟨z, rfl, h⟩
  · cases o <;> exact True.intro
  · exact h
theorem Val.kp {H H' : Hp} {l : Addr} {x : V} (o : Val H x) (n : x ≠ .ref l) (k : Kp l H H') : Val H' x := by
  have ne : ∀ {a : Addr}, x = .ref a → a ≠ l := fun e q => n (by rw [e, q])
  rcases o with o | h
  · refine .inl ?_
    cases o with
    | non => exact .non
    | bl b => exact .bl b
    | int i => exact .int i
    | lst h => exact .lst (k _ _ h (ne rfl))
    | tup h => exact .tup (k _ _ h (ne rfl))
    | dK h => exact .dK (k _ _ h (ne rfl))
  · exact .inr h
/-- whether a value is a text over a book -/
def overV (kvs : List (Key × V)) : V → Bool | .str z => overB kvs z | _ => false
theorem overV_text {kvs : List (Key × V)} {x : V} (h : isText x = false) : overV kvs x = false := by
  cases x with
  | str z =>
    show overB kvs z = false
    unfold overB
    rw [h]
    rfl
  | _ => rfl
/-- the built-in kinds are no Book -/
structure NoC (K : PySem.W.Frag) (C : Addr) : Prop where
  non : PySem.W.kitOne K (.type "NoneType") (.ref C) = some false
  bl : PySem.W.kitOne K (.type "bool") (.ref C) = some false
  int : PySem.W.kitOne K (.type "int") (.ref C) = some false
  str : PySem.W.kitOne K (.type "str") (.ref C) = some false
  lst : PySem.W.kitOne K (.type "list") (.ref C) = some false
  tup : PySem.W.kitOne K (.type "tuple") (.ref C) = some false
  dct : PySem.W.kitOne K (.type "dict") (.ref C) = some false
theorem kit_refC {K : PySem.W.Frag} {C : Addr} {T : String} {l : List String} (hcl : (PySem.W.clsIn K C).isSome = true) (ht : PySem.W.typeIn K (.ref C) = some (.type "type")) (h : fastBuiltinMro T = some (l.map Value.type)) : PySem.W.kitOne K (.type T) (.ref C) = some false := by
  have e : (l.map Value.type).contains (.ref C) = false := by
    cases hc : (l.map Value.type).contains (.ref C) with
    | false => rfl
    | true =>
      obtain ⟨n, _, e⟩ := List.mem_map.mp (List.contains_iff_mem.mp hc)
      cases e
  unfold PySem.W.kitOne PySem.W.kitCls PySem.W.subIn
  rw [if_neg (fun q => by have := beq_iff_eq.mp q; cases this)]
  dsimp only
  rw [hcl, ht, if_pos (by rfl), h, Option.map_some, e]
theorem noC_of {K : PySem.W.Frag} {C : Addr} (hcl : (PySem.W.clsIn K C).isSome = true) (ht : PySem.W.typeIn K (.ref C) = some (.type "type")) : NoC K C :=
  ⟨kit_refC hcl ht rfl, kit_refC hcl ht rfl, kit_refC hcl ht rfl, kit_refC hcl ht rfl, kit_refC hcl ht rfl, kit_refC hcl ht rfl, kit_refC hcl ht rfl⟩
theorem call_notC {X : Cx} {C : Addr} (c : NoC X.K C) : CallR X (.builtin "isinstance") (fun xs H Q => ∃ x, xs = [x, .ref C] ∧ Val H x ∧ Q (.bl false) H) := by
  intro pins s σ H xs us Q I r h
  obtain ⟨x, rfl, hv, q⟩ := h
  obtain ⟨u, w', rfl, ru, rw'⟩ := vals2 r
  cases rw'
  have fin : ∀ tk, ∃ y H', Inv X pins σ H' { s with toks := tk } ∧ RelV y (Value.bool false) ∧ Q y H' := fun tk => ⟨.bl false, H, I.tok _, rfl, q⟩
  rcases hv with o | ⟨z, rfl, _⟩
  · cases o with
    | non => exact isinst_ok I ru .non c.non fin
    | bl b => exact isinst_ok I ru (.bl b) c.bl fin
    | int i => exact isinst_ok I ru (.int i) c.int fin
    | lst h => exact isinst_ok I ru (.lst h) c.lst fin
    | tup h => exact isinst_ok I ru (.tup h) c.tup fin
    | dK h => exact isinst_ok I ru (.dK h) c.dct fin
  · exact isinst_ok I ru (.str z) c.str fin
/-! ### promises -/
/-- is_text_over of any value -/
def spOverV (C : Addr) : Sp := fun vs H Q _ => ∃ b kvs x, vs = [.ref b, x] ∧ Book1 C H b kvs ∧ Val H x ∧ ∀ H', Same H H' → Q (.bl (overV kvs x)) H'
def spBadBook (CB : Addr) : Sp := fun vs H _ E => ∃ x, vs = [x] ∧ Val H x ∧ E (.ref CB) none H
def spBadText (C CT : Addr) : Sp := fun vs H _ E => ∃ b kvs x, vs = [.ref b, x] ∧ Book1 C H b kvs ∧ Val H x ∧ overV kvs x = false ∧ ∀ H', Same H H' → E (.ref CT) none H'
/-- a book and a text, one of them is none -/
def spBadPair (C CB CT : Addr) : Sp := fun vs H _ E => ∃ x y, vs = [x, y] ∧ ((Val H x ∧ E (.ref CB) none H) ∨ ∃ b kvs, x = .ref b ∧ Book1 C H b kvs ∧ Val H y ∧ overV kvs y = false ∧ ∀ H', Same H H' → E (.ref CT) none H')
/-- _law_bad_book -/
def spBadB : Sp := fun vs H Q _ => ∃ (l d : Addr) (kvs : List (Key × V)) (n : Nat), vs = [.ref l, .ref d] ∧ d ≠ l ∧ H d = some (.dK kvs) ∧ kvs.length ≤ 1000 ∧ Dice H l (n + 1) ∧ ∀ x H', Val H' x → x ≠ .ref l → Kp l H H' → Dice H' l n → Q x H'
/-- _law_bad_text -/
def spBadT : Sp := fun vs H Q _ => ∃ (l d : Addr) (kvs : List (Key × V)) (z : Str) (n : Nat), vs = [.ref l, .ref d, .str z] ∧ d ≠ l ∧ H d = some (.dK kvs) ∧ arePrices kvs = true ∧ (kvs.map (·.1)).Nodup ∧ z.length ≤ 1000 ∧ Dice H l (n + 1) ∧ ∀ x H', Val H' x → x ≠ .ref l → overV kvs x = false → Kp l H H' → Dice H' l n → Q x H'
/-- a def of two arguments of which the first is no book -/
def spBad2 (CB : Addr) : Sp := fun vs H _ E => ∃ x y, vs = [x, y] ∧ Val H x ∧ E (.ref CB) none H
theorem overB_no {kvs : List (Key × V)} {z : Str} {c : Nat} (hc : c ∈ cs z) (h : tfD kvs (ch c) = none) : overB kvs z = false := by
  cases e : overB kvs z with
  | false => rfl
  | true =>
    unfold overB at e
    rw [Bool.and_eq_true] at e
    have := List.all_eq_true.mp e.2 c hc
    rw [h] at this
    cases this
theorem overB_spoilt {kvs : List (Key × V)} {z : Str} {c : Nat} (hc : c ∈ cs z) (h : lett c = false) : overB kvs z = false := overV_text (x := .str z) (spoilt hc h).1
theorem overB_long {kvs : List (Key × V)} {z : Str} (h : 8000 < z.length) : overB kvs z = false := overV_text (x := .str z) (by
  show (decide ((cs z).length ≤ 8000) && _) = false
  rw [decide_eq_false (by rw [cs_len]; omega)]
  rfl)
theorem upper_no {c : Nat} (h : lett c = true) : isText (.str (Txt.upper (ch c))) = false ∧ (Txt.upper (ch c)).length ≤ 100000 := by
  have h0 : (97 ≤ c ∧ c ≤ 122) := by
    unfold lett at h
    rw [Bool.and_eq_true] at h
    exact ⟨of_decide_eq_true h.1, of_decide_eq_true h.2⟩
  have all : ((List.range 26).all fun i => !isText (.str (Txt.upper (ch (97 + i)))) && decide ((Txt.upper (ch (97 + i))).length ≤ 100000)) = true := by decide +kernel
  have := List.all_eq_true.mp all (c - 97) (List.mem_range.mpr (by omega))
  rw [show 97 + (c - 97) = c by omega, Bool.and_eq_true] at this
  exact ⟨by simpa using this.1, of_decide_eq_true this.2⟩
end G
/-! tuple(d.items()) -/
namespace G
open PySem PySem.Spec PyProof.Rows L2 PyProof
section
variable {prog : Program} {w : World} {A : Around} {E : Value → Shared → Prop} {s : Shared}
theorem code_tuple_items {r d : Addr} {es : Array DictEntry} {ep : Nat} {Q₁ : Value → Shared → Prop} (hh : A.handled = none) (hv : s.heap.IsItemsView r d) (hm : s.heap.DictRaw d es ep) (hn : es.size ≤ sizeLine)
    (h : ∀ (h' : Heap) (tk : Nat) (as : List Addr), (∀ b o, s.heap.get? b = some o → h'.get? b = some o) → as.length = es.size →
      Q₁ (.ref h'.objs.size) { s with heap := h'.push { cls := .type "tuple", data := .seq (as.map Value.ref).toArray }, toks := tk }) :
    codeAny (model prog w) A (.call (.builtin "tuple.__new__") ⟨[.type "tuple", .ref r], []⟩) (wants Q₁ E) s := by
  refine codeAny_of_tree ?_
  show wpAny _ A.in1 (do checkBuiltinCall "tuple.__new__" ⟨[.type "tuple", .ref r], []⟩; again (.builtin "tuple.__new__" ⟨[.type "tuple", .ref r], []⟩)) _ _ s
  refine wpAny_bind (wpAny_of_eq (F.newCall_tuple_1 _) (wpAny_pure ⟨plainId_quiet F.plain_tuple_new _, codeAny_builtin F.entry_tuple_new ?_⟩))
  rw [Around.under_plainId F.plain_tuple_new _]
  have hsub := PySem.sub_tuple_self
  have hinit := PySem.init_tuple_lookup
  have hmh := PySem.madeHere_tuple
  have hTI : s.TypeIs (.ref r) "dict_items" := hv.typeIs
  have hh1 : A.in1.handled = none := hh
  wp_walk using wpAny_typeOf hTI, PySem.W.dil_collect (A := A.in1) hh1 hv hm hn
  intro h' tk as hk hl _
  show wpAny _ _ (Builtin.Tuple.tupleExact (as.map Value.ref).toArray >>= fun v => ret v) _ _ _
  unfold Builtin.Tuple.tupleExact
  refine wpAny_bind (wpAny_newObj_type ?_ (by show (as.map Value.ref).toArray.size ≤ sizeLine; simp; omega))
  refine wpAny_pure ?_
  exact h h' tk as hk hl
theorem call_tuple_items {r d : Addr} {es : Array DictEntry} {ep : Nat} {Q : Value → Shared → Prop} (hh : A.handled = none) (hv : s.heap.IsItemsView r d) (hm : s.heap.DictRaw d es ep) (hn : es.size ≤ sizeLine)
    (hQ : ∀ (h' : Heap) (tk : Nat) (as : List Addr), (∀ b o, s.heap.get? b = some o → h'.get? b = some o) → as.length = es.size →
      Q (.ref h'.objs.size) { s with heap := h'.push { cls := .type "tuple", data := .seq (as.map Value.ref).toArray }, toks := tk }) :
    wpAny (model prog w) A (call (.type "tuple") [.ref r]) Q E s := by
  refine callType_codes (Q₁ := fun obj s₁ => s₁.TypeIs obj "tuple" ∧ Q obj s₁) F.called_tuple (F.typeCall_tuple_1 _) F.entry_object_init
    (code_tuple_items (A := A.in1) hh hv hm hn fun h' tk as hk hl => ⟨⟨_, Heap.get?_push_size _ rfl, rfl⟩, hQ h' tk as hk hl⟩) fun obj s₁ h₁ => ?_
  exact ⟨h₁.1, F.args_object_init_2 obj _, object_init_meets F.called_tuple.init.lookup F.called_tuple.made (by decide) prog w A.in1 _ s₁ ⟨h₁.1, rfl, h₁.2⟩⟩
end
/-- tuple(e.items()): the pairs stand somewhere -/
def tTupItems (te : TE) : TE := fun σ H Q => te σ H fun x H1 => ∃ (d : Addr) (kvs : List (Key × V)), x = .ref d ∧ H1 d = some (.dK kvs) ∧ ∀ (p : Addr) (as : List Addr), H1 p = none → as.length = kvs.length → Q (.ref p) (upd H1 p (.tup (as.map V.ref)))
section
variable {X : Cx} {e : Expr} {te : TE} {p apos cpos pos : Pos}
theorem pe_tupItems (hc : X.calm = true) (he : PE X e te) (hg : Gl X "tuple") (hm : X.mg "tuple" = none) (hv : bootBuiltins "tuple" = some (.type "tuple")) (hbase : attributeBase e "items" X.env (eval e X.env) = eval e X.env := by rfl) (hline : (apos.endLine == cpos.line) = true := by rfl)
    (hs : starEach [.Call (.Attribute e "items" apos) [] [] cpos] X.env = (false, eval (.Call (.Attribute e "items" apos) [] [] cpos) X.env) :: starEach [] X.env := by rfl) :
    PE X (.Call (.Name "tuple" p) [.Call (.Attribute e "items" apos) [] [] cpos] [] pos) (tTupItems te) := by
  refine ⟨fun pins s σ H Q I hq => ?_⟩
  refine wpAny_Call_Name_kw (ld_blt I hg hm hv ?_)
  refine PyProof.Rows.callWith_type1 ?_ hs rfl
  rw [hs]
  show wpAny _ _ (spliced ((false, eval (.Call (.Attribute e "items" apos) [] [] cpos) X.env) :: backTo pos (starEach [] X.env))) _ _ s
  refine Calls.spliced_cons ?_
  refine wpAny_Call_method (T := "dict") (id := "dict.items") hbase rfl hline F.plainAttrs_dict F.slot_dict_items F.type_dict_items (thn (he.run pins s σ H _ I hq) fun u s1 ⟨x, H1, I1, rx, d, kvs, ex, hd, q⟩ => ?_)
  subst ex
  obtain rfl : u = Value.ref d := rx
  obtain ⟨hz, hs0, vs, kv, hdo⟩ := I1.hok d _ hd
  obtain ⟨ep, hat⟩ := hdo.dictAt
  obtain ⟨es, hr, hsz, _⟩ := hat.raw
  have lk : kvs.length = vs.length := Paired.length kv
  have I2 : Inv X pins σ H1 { s1 with heap := s1.heap.push { cls := .type "dict_items", data := .fields #[.ref d] } } := I1.kept (t' := s1.toks) fun b ob q => Heap.get?_push_of_some _ q
  refine ⟨hdo.typeIs, hdo.mapOf.noDict, ?_⟩
  show wpAny _ _ (callWith cpos (.builtin "dict.items") [.ref d] [] []) _ X.xe s1
  refine method_meetsIn F.slot_dict_items F.entry_dict_items rfl (PySem.evalArgs_none ⟨rfl, hdo.typeIs, F.args_dict_items_1 _, _, meets_dict_items (mixKind X.prog X.w) d hs0, ⟨vs, hdo⟩, ?_⟩)
  refine Calls.spliced_nil ?_
  refine call_tuple_items (es := es) (ep := ep) (I1.ok.hd hc) ⟨_, Heap.get?_push_size _ rfl, rfl, rfl⟩ (hr.at fun o e => Heap.get?_push_of_some _ e) (by omega) fun h' tk as hk hl => ?_
  have I3 : Inv X pins σ H1 { s1 with heap := h', toks := tk } := I2.kept hk
  have I4 : Inv X pins σ (upd H1 h'.objs.size (.tup (as.map V.ref))) { s1 with heap := h'.push { cls := .type "tuple", data := .seq (as.map Value.ref).toArray }, toks := tk } :=
    I3.laid (t' := tk) (fun b o e => Heap.get?_push_of_some _ e) (Nat.le_refl _) (show ObjOk X.prog X.w _ _ _ (.tup (as.map V.ref)) from ⟨by rw [List.length_map]; omega, as.map Value.ref, LiI.vals_refs as, IsTup.new _ _⟩)
  exact ⟨.ref h'.objs.size, _, I4, rfl, q _ as (I3.hok.fresh (Nat.le_refl _)) (by omega)⟩
end
end G
/-! The end of a law row for a law whose defs make lambdas: tables of code objects are tracked, and nothing guarded runs. -/
namespace G
open PySem PySem.Spec PyProof.Rows L2 LamX
/-- the tables of the defs that make lambdas: a code object and its table -/
abbrev Tbls := List (Addr × Addr)
/-- what the law's heap starts with -/
def startH (ts : Tbls) (a : Addr) (o : Option HO) : Hp := fun b => if b = a then (match o with | some u => some u | none => if b ∈ ts.map (·.2) then some (.tbl #[]) else none) else if b ∈ ts.map (·.2) then some (.tbl #[]) else none
theorem end_gT {P : Program} {w : World} {K : PySem.W.Frag} {mg mb : Str → Option Value} {k : Nat} {fa a : Addr} {ts : Tbls} {fd : FuncData} {x : Str} {sp : Sp} {s₁ : Shared} {vs : List Value} {ns : List Int}
    (kin : K.In s₁.heap) (nsM : s₁.heap.Ns mainGlobals mg) (nsB : s₁.heap.Ns builtinsNs mb) (plainB : ∀ x : Str, x ≠ "__name__" → mb x = bootBuiltins x) (nolim : s₁.heap.NoLimit) (gens : s₁.gens = #[])
    (tabs : ∀ p ∈ ts, s₁.heap.get? p.2 = some { cls := .none, data := .fields #[] }) (freeT : ∀ p ∈ ts, K.lookup p.2 = none) (codes : ∀ p ∈ ts, PySem.W.CodeHd s₁.heap p.1 p.2)
    (modB : ∃ (bm : Addr) (ob : Obj), mg "__builtins__" = some (.ref bm) ∧ bm ≠ builtinsNs ∧ s₁.heap.get? bm = some ob ∧ ob.cls = .type "module" ∧ ob.dict = some builtinsNs ∧ ob.data = .plain)
    (at' : s₁.heap.get? a = some { cls := .type "list", data := .seq vs.toArray }) (areI : IntsAre vs ns) (short : ns.length ≤ sizeLine) (room : Room k callerA)
    (F : ∀ base : Heap, K.In base → base.Ns mainGlobals mg → (∀ p ∈ ts, TabB base mg p.1 p.2) → FnG P w K mg base CX0 k fa fd [x] sp) (bind : ∀ (s : Shared) (u : Value), BindsTo s fd ⟨[u], []⟩ [(x, u)])
    (prom : ∀ H : Hp, (∀ p ∈ ts, H p.2 = some (.tbl #[])) → SqL K H a (ns.map V.int) → sp [.ref a] H (fun v _ => v = .bl true) fun _ _ _ => False) :
    codeAny (model P w) callerA (.call (.ref fa) ⟨[.ref a], []⟩) (fun r s' => r = .ok (.ret (.bool true)) ∧ OldK s₁.heap s'.heap ∧ s'.os = s₁.os ∧ AllBare s'.gens) s₁ := by
  have hv := vals_ints areI
  have hlen := areI.length
  have tabAt : ∀ {b : Addr}, b ∈ ts.map (·.2) → s₁.heap.get? b = some { cls := .none, data := .fields #[] } := fun {b} h => by
    obtain ⟨p, hp, rfl⟩ := List.mem_map.mp h
    exact tabs p hp
  have tabM : ∀ p ∈ ts, p.2 ∈ ts.map (·.2) := fun p hp => List.mem_map.mpr ⟨p, hp, rfl⟩
  have noScript : a ∉ ts.map (·.2) := fun h => by
    have e := tabAt h
    rw [at'] at e
    cases congrArg Obj.data (Option.some.inj e)
  have go : ∀ H : Hp, (∀ p ∈ ts, H p.2 = some (.tbl #[])) → (∀ b u, H b = some u → b ∈ ts.map (·.2) ∨ (b = a ∧ ∃ o xs, u = .frz o (.lst xs))) → SqL K H a (ns.map V.int) → HOk P w H s₁.heap → (H a ≠ none → K.lookup a = none) →
      codeAny (model P w) callerA (.call (.ref fa) ⟨[.ref a], []⟩) (fun r s' => r = .ok (.ret (.bool true)) ∧ OldK s₁.heap s'.heap ∧ s'.os = s₁.os ∧ AllBare s'.gens) s₁ := by
    intro H tabH onlyH sq hok notK
    have away : ∀ {b : Addr} {o : Obj}, s₁.heap.get? b = some o → (∀ vs n, o.data ≠ .seq vs n) → o.data ≠ .fields #[] → H b = none := fun {b o} e h1 h2 => by
      match hb : H b with
      | none => rfl
      | some u =>
        rcases onlyH b u hb with q | ⟨q, _⟩
        · have e2 := tabAt q
          rw [e2] at e
          cases e
          exact absurd rfl h2
        · subst q
          rw [at'] at e
          cases e
          exact absurd rfl (h1 _ _)
    have dictFree : ∀ {b : Addr} {o : Obj} {es : Array DictEntry} {ep : Nat}, s₁.heap.get? b = some o → o.data = .dict es ep → H b = none := fun e d => away e (fun _ _ z => by rw [d] at z; cases z) fun z => by rw [d] at z; cases z
    have nsT : ∀ {b : Addr} {m : Str → Option Value}, s₁.heap.Ns b m → (hidT s₁.heap H).Ns b m := by
      rintro b m ⟨o, es, ep, e, d, rest⟩
      exact ⟨o, es, ep, hidT_get e (dictFree e d), d, rest⟩
    have kinT : K.In (hidT s₁.heap H) := by
      intro b o e
      refine hidT_get (kin b o e) ?_
      match hb : H b with
      | none => rfl
      | some u =>
        rcases onlyH b u hb with q | ⟨q, _⟩
        · obtain ⟨p, hp, rfl⟩ := List.mem_map.mp q
          rw [freeT p hp] at e
          cases e
        · subst q
          rw [notK (by rw [hb]; exact fun z => by cases z)] at e
          cases e
    have modT : Mod K mg (hidT s₁.heap H) := by
      refine ⟨kinT, nsT nsM, ⟨mb, nsT nsB, plainB⟩, ?_⟩
      obtain ⟨mc, l1, l2⟩ := nolim
      exact ⟨mc, nsT l1, l2⟩
    have tabB : ∀ p ∈ ts, TabB (hidT s₁.heap H) mg p.1 p.2 := by
      intro p hp
      have e2 := tabs p hp
      refine ⟨?_, ?_, ?_⟩
      · obtain ⟨o, us, file, tf, flags, tg, inF, text, tt, e1, r1, r2, r3, rest⟩ := codes p hp
        refine ⟨o, us, file, tf, flags, tg, inF, text, tt, hidT_get e1 (away e1 (fun vs n z => ?_) fun z => ?_), r1, r2, r3, rest⟩
        · rw [r2] at z
          cases z
        · rw [r2] at z
          injection z with z
          rw [z] at r3
          simp at r3
      · obtain ⟨bm, ob, b1, b2, b3, b4, b5, b6⟩ := modB
        refine ⟨bm, ob, b1, b2, fun q => ?_, fun q => ?_, hidT_get b3 (away b3 (fun vs n z => ?_) fun z => ?_), b4, b5, b6⟩
        · obtain ⟨o, es, ep, e, hd, _⟩ := nsM
          rw [q, e] at b3
          cases b3
          rw [hd] at b6
          cases b6
        · rw [q, e2] at b3
          cases b3
          cases b6
        · rw [b6] at z
          cases z
        · rw [b6] at z
          cases z
      · intro q
        obtain ⟨o, es, ep, e, hd, _⟩ := nsM
        rw [q, e2] at e
        cases e
        cases hd
    have start0 : Env0 P w K mg (hidT s₁.heap H) callerA [] s₁ H :=
      ⟨rfl, modT, fun _ _ e => of_hidT e, Nat.le_of_eq (hidT_size _ _), trivial, fun _ z => (List.not_mem_nil z).elim, hok, .of_eq gens⟩
    have ran := (F _ kinT (nsT nsM) tabB).go (args := ⟨[.ref a], []⟩) (us := [.ref a]) (vs := [.ref a]) rfl room start0 (bind s₁ (.ref a)) (.cons rfl .nil) (prom H tabH sq)
    refine codeAny_mono ran ?_
    intro r s' h
    match r, h with
    | .ok .next, z => exact False.elim z
    | .ok .brk, z => exact False.elim z
    | .ok .cont, z => exact False.elim z
    | .error _, z => exact False.elim z
    | .ok (.ret u), ⟨v, H', os, bare, un, hok', rel, val⟩ =>
      have val' : v = .bl true := val
      subst val'
      have eu : u = Value.bool true := rel
      subst eu
      have kept : ∀ b o, b ∉ ts.map (·.2) → s₁.heap.get? b = some o → s'.heap.get? b = some o := by
        intro b o nb e
        match hb : H b with
        | none => exact un.keep b o e hb (fun z => (List.not_mem_nil z).elim) (fun z => (List.not_mem_nil z).elim)
        | some _ =>
          rcases onlyH b _ hb with z | ⟨_, ob, xs, rfl⟩
          · exact absurd z nb
          · have old := (hok b _ hb).1
            have new := (hok' b _ (un.frzs b ob _ hb)).1
            rw [e] at old
            cases old
            exact new
      have more : ∀ p ∈ ts, ∃ l : Array Value, s'.heap.get? p.2 = some { cls := .none, data := .fields l } := fun p hp => by
        obtain ⟨l, z⟩ := un.tbls p.2 #[] (tabH p hp)
        exact ⟨_, hok' p.2 _ z⟩
      refine ⟨rfl, ⟨fun b o e => ?_, fun b o e => ?_⟩, os, bare⟩
      · by_cases hb : b ∈ ts.map (·.2)
        · obtain ⟨p, hp, rfl⟩ := List.mem_map.mp hb
          obtain ⟨l, hl⟩ := more p hp
          have e1 := tabs p hp
          rw [e1] at e
          cases e
          exact .inr (.inl ⟨((codes p hp).tab e1).isCodeTable, rfl, #[], l, rfl, by rw [Array.empty_append]; exact hl⟩)
        · exact .inl (kept b o hb e)
      · by_cases hb : b ∈ ts.map (·.2)
        · obtain ⟨p, hp, rfl⟩ := List.mem_map.mp hb
          obtain ⟨l, hl⟩ := more p hp
          exact ⟨_, hl⟩
        · exact ⟨o, kept b o hb e⟩
  match hk : K.lookup a with
  | some o =>
    have e := kin a o hk
    rw [at'] at e
    cases e
    refine go (startH ts a none) (fun p hp => ?_) (fun b u z => ?_) (Or.inr ⟨_, vs.toArray, _, hk, rfl, rfl, rfl, ?_, by simpa using hv⟩) (fun b u z => ?_) fun z => absurd ?_ z
    · unfold startH
      split <;> exact if_pos (tabM p hp)
    · refine Or.inl ?_
      by_cases hb : b ∈ ts.map (·.2)
      · exact hb
      · unfold startH at z
        rw [if_neg hb] at z
        split at z <;> cases z
    · rw [List.size_toArray, hlen]
      exact short
    · by_cases hb : b ∈ ts.map (·.2)
      · unfold startH at z
        rw [if_pos hb] at z
        have z' : u = .tbl #[] := by split at z <;> exact (Option.some.inj z).symm
        subst z'
        exact tabAt hb
      · unfold startH at z
        rw [if_neg hb] at z
        split at z <;> cases z
    · unfold startH
      rw [if_pos rfl]
      exact if_neg noScript
  | none =>
    have here : startH ts a (some (.frz { cls := .type "list", data := .seq vs.toArray } (.lst (ns.map V.int)))) a = some (.frz { cls := .type "list", data := .seq vs.toArray } (.lst (ns.map V.int))) := if_pos rfl
    refine go (startH ts a (some (.frz { cls := .type "list", data := .seq vs.toArray } (.lst (ns.map V.int))))) (fun p hp => ?_) (fun b u z => ?_) (Or.inl (Or.inr ⟨_, here⟩)) (fun b u z => ?_) fun _ => hk
    · unfold startH
      rw [if_neg (fun (q : p.2 = a) => noScript (by rw [← q]; exact tabM p hp))]
      exact if_pos (tabM p hp)
    · by_cases hb : b = a
      · subst hb
        rw [here] at z
        exact Or.inr ⟨rfl, _, _, (Option.some.inj z).symm⟩
      · unfold startH at z
        rw [if_neg hb] at z
        by_cases h2 : b ∈ ts.map (·.2)
        · exact Or.inl h2
        · rw [if_neg h2] at z
          cases z
    · by_cases hb : b = a
      · subst hb
        rw [here] at z
        cases z
        exact ⟨at', by rw [List.length_map]; exact short, vs, _, hv, at'⟩
      · unfold startH at z
        rw [if_neg hb] at z
        by_cases h2 : b ∈ ts.map (·.2)
        · rw [if_pos h2] at z
          cases z
          exact tabAt h2
        · rw [if_neg h2] at z
          cases z
/-- what is known of the law at the head's heap: its tables, its promise -/
structure LawT (P : Program) (w : World) (K : PySem.W.Frag) (k n : Nat) (x : Str) (mg : Str → Option Value) (fa : Addr) (h : Heap) : Prop where
  ex : ∃ (fd : FuncData) (ts : Tbls) (sp : Sp), (∀ p ∈ ts, h.get? p.2 = some { cls := .none, data := .fields #[] }) ∧ (∀ p ∈ ts, K.lookup p.2 = none) ∧ (∀ p ∈ ts, PySem.W.CodeHd h p.1 p.2) ∧ (∀ (s : Shared) (u : Value), BindsTo s fd ⟨[u], []⟩ [(x, u)]) ∧
    (∀ (H : Hp) (a : Addr) (ns : List Int), ns.length ≤ n → (∀ p ∈ ts, H p.2 = some (.tbl #[])) → SqL K H a (ns.map V.int) → sp [.ref a] H (fun v _ => v = .bl true) fun _ _ _ => False) ∧
    ∀ base : Heap, K.In base → base.Ns mainGlobals mg → (∀ p ∈ ts, TabB base mg p.1 p.2) → FnG P w K mg base CX0 k fa fd [x] sp
theorem walk_gT {l : PySem.W.OpenLaw} {n k : Nat} {q : Program} {loose : List Str} {XP : (Str → Option Value) → Heap → Prop} {YP : World → Heap → Prop} {d : DefRec} {K : Params → PySem.W.Frag} {x : Str}
    (many : l.most = some n) (fits : n ≤ sizeLine) (plain : d.params.defaults = []) (room : Room k callerA) (hY : ∀ (w : World) (h : Heap), YP w h → (K w.params).In h)
    (F : ∀ (w : World) (mg : Str → Option Value) (fa : Addr) (h : Heap), YP w h → (K w.params).In h → h.Ns mainGlobals mg → mg d.name = some (.ref fa) → LawT l.prog w (K w.params) k n x mg fa h) :
    PySem.W.WalkO q loose XP YP l.row.toRowW d [] (fun f vs => PySem.call f vs) := by
  refine Att.attach_call many plain ?_
  intro w s₀ s₁ mg mb fa o pm cd doc a vs ns G Y ho hd hcd hmg hobj hints hlen hgens
  have kin := hY w _ Y
  obtain ⟨fd, ts, sp, tabs, freeT, codes, bind, prom, hF⟩ := (F w mg fa _ Y kin G.T.g hmg).ex
  exact end_gT kin G.T.g G.T.b G.T.builtins G.T.nolimit hgens tabs freeT codes G.T.bmain hobj hints (Nat.le_trans hlen fits) room hF bind fun H hH sq => prom H a ns hlen hH sq
end G
/-! A lambda handed to a def of the law that calls it within a try with several except clauses; what it raises is wished for at the slots as they stand. -/
namespace G
open PySem PySem.Spec PyProof.Rows L2 LamX
section
variable {X : Cx} {pins : List (Addr × Obj)} {σ : L2.St} {H HZ : Hp} {s s1 : Shared}
theorem act_at {CXg : CXT} {Eg : XK} {Ng : List Str} {qg : Str} {sg : Scope} {g f c' : Addr} {cdg pm ctv : Value} {params : Arguments} {body : Expr} {scope : Scope} {k i : Nat} {a : Str} {pn : List (Addr × Obj)} {xe : Value → Shared → Prop} {W : WX} {E : XK} {tb : TE} {p1 p2 : Pos}
    (I : Inv X pins σ H s) (L : LamS X.env.scope scope) (hf : s.heap.get? f = some (PySem.W.kla_obj "<lambda>" (X.env.qual ++ "<lambda>") params body scope (cloFrom X.env.cells scope.names []) pm c' ctv)) (hfn : H f = none) (hfr : f ∉ frs X.stack)
    (hbind : bindArgs (PySem.W.kla_fn "<lambda>" (X.env.qual ++ "<lambda>") params body scope (cloFrom X.env.cells scope.names []) pm (.ref c') ctv) ⟨[], []⟩ = pure [])
    (tk : Takes ((cxOf CXg X.prog X.w X.K X.mg X.base Ng qg sg g cdg X.A X.stack s H Eg).tr pn xe) W) (hr : Room (k + 1) (X.A.deeper (envOfC qg sg s.heap.objs.size g cdg)))
    (hbody : ∀ (A : Around) (outer : List Env) (s : Shared) (H : Hp), Room k (A.deeper (lamEnv X scope s.heap.objs.size f c')) → PE (lamCx X A outer s H E scope f c') body tb)
    (hN : Ng[i]? = some a) (hv : Vis sg a) (hd : (a == ("__debug__" : Str)) = false := by decide) (hcd : (a == ("__classdict__" : Str)) = false := by decide) :
    PE ((cxOf CXg X.prog X.w X.K X.mg X.base Ng qg sg g cdg X.A X.stack s H Eg).tr pn xe) (.Call (.Name a p1) [] [] p2)
      (fun σZ HZ Q => (∀ cls d H', E cls d H' → W cls d σZ H') ∧ σZ[i]? = some (some (.ref f)) ∧ HZ c' = some (CodeO c' (X.env.qual ++ "<lambda>")) ∧ tb σ HZ Q) := by
  refine ⟨fun pinsZ sZ σZ HZ Q IZ h => ?_⟩
  obtain ⟨hW, hs, hc, ht⟩ := h
  refine wpAny_Call_Name_kw (thn ((pe_var (pos := p1) (i := i) hN hv hd hcd).run pinsZ sZ σZ HZ (fun v H1 => v = .ref f ∧ H1 = HZ) IZ ⟨.ref f, hs, rfl, rfl⟩) fun u s1 ⟨v, H1, I1, r1, q1⟩ => ?_)
  obtain ⟨ev, eH⟩ := q1
  subst ev
  rw [eH] at I1
  obtain rfl : u = Value.ref f := r1
  have of1 : s1.heap.get? f = some (PySem.W.kla_obj "<lambda>" (X.env.qual ++ "<lambda>") params body scope (cloFrom X.env.cells scope.names []) pm c' ctv) := I1.base.keep f _ hf hfn hfr (fun z => nomatch (show f ∈ ([] : List Addr) from z))
  refine PySem.W.callWith_F0 ⟨_, _, _, _, of1⟩ ?_
  have un : Un (frs X.stack) [] H HZ s.heap s1.heap := I1.base
  obtain ⟨⟨oc, vs, t, hoc, hdc, hvc⟩, _, _⟩ := I1.hok c' _ hc
  have rc : codeAny (model X.prog X.w) (X.A.deeper (envOfC qg sg s.heap.objs.size g cdg)) (.call (.ref f) ⟨[], []⟩) (CR (L2.CX X.prog X.w) (envOfC qg sg s.heap.objs.size g cdg :: X.stack) X.prog X.w HZ s1 Q E) s1 := by
    refine PySem.W.kla_callFunE hr.depth of1 rfl L.co L.gen rfl ⟨c', oc, vs, t, rfl, hoc, hdc, hvc⟩ ?_
    rw [hbind]
    refine wpAny_pure (wpAny_newFunctionEnv (fun y hy => (L.own y hy).2) (fun y hy => absurd hy (by simp)) (fun h₁ hns hsb => ⟨I1.nolimit.fresh _ hsb, ?_⟩) L.kind)
    show codeAny _ _ (.expr body (lamEnv X scope s1.heap.objs.size f c')) _ _
    have kp : ∀ b o, s1.heap.get? b = some o → h₁.get? b = some o := fun b o e => hsb.extBut b o (Nat.ne_of_lt (Heap.lt_size e)) (Heap.get?_push_of_some _ e)
    have J : Inv (lamCx X (X.A.deeper (envOfC qg sg s.heap.objs.size g cdg)) (envOfC qg sg s.heap.objs.size g cdg :: X.stack) s1 HZ E scope f c') [] σ HZ { s1 with heap := h₁, toks := s1.toks + ([] : List (Str × Value)).length } :=
      lam_start2 I L I1.env0 hr.hd un hns kp
    refine PySem.W.kla_codeExpr (wpAny_mono ((hbody _ _ s1 HZ (hr.deeper _)).run [] _ _ HZ Q J ht) (fun v s' hq => ?_) fun e s' hq => hq)
    obtain ⟨w', H', J', rv, q⟩ := hq
    exact ⟨w', H', J'.os, J'.bare, J'.base, J'.hok, rv, q⟩
  have hx : PassesAt (L2.CX X.prog X.w) ((cxOf CXg X.prog X.w X.K X.mg X.base Ng qg sg g cdg X.A X.stack s H Eg).tr pn xe) σZ (WE W σZ) := passAt tk σZ
  refine wpAny_call (codeAny_mono rc fun r s' hq => ?_)
  cases r with
  | error e =>
    refine hx pinsZ HZ s1 e s' I1 ?_
    obtain ⟨a, B, H', cls, d, q1, q2, q3, q4, q5, q6, q7, q8⟩ := (show L2.CX X.prog X.w _ HZ s1 E e s' from hq)
    exact ⟨a, B, H', cls, d, q1, q2, q3, q4, q5, q6, q7, hW _ _ _ q8⟩
  | ok fl =>
    cases fl with
    | ret u => exact I1.after hq
    | next => exact False.elim hq
    | brk => exact False.elim hq
    | cont => exact False.elim hq
/-- the def that calls what it got -/
def Gives (X : Cx) (Ng : List Str) (x : Str) (sg : Scope) (g : Addr) (cdg : Value) (bg : List Stmt) (a : Str) (q : Str) (TT : (XK → Hp → VK → Prop) → Hp → VK → Prop) : Prop :=
  ∀ (f c' : Addr) (s : Shared) (H : Hp) (Q : VK) (tl : XK → Hp → VK → Prop),
    (∀ (W : WX) (pn : List (Addr × Obj)) (xe : Value → Shared → Prop) (E : XK) (p1 p2 : Pos), Takes ((cxOf C8.CX0 X.prog X.w X.K X.mg X.base Ng x sg g cdg X.A X.stack s H C8.E0).tr pn xe) W →
      PE ((cxOf C8.CX0 X.prog X.w X.K X.mg X.base Ng x sg g cdg X.A X.stack s H C8.E0).tr pn xe) (.Call (.Name a p1) [] [] p2) (fun σZ HZ Q => (∀ cls d H', E cls d H' → W cls d σZ H') ∧ σZ[0]? = some (some (.ref f)) ∧ HZ c' = some (CodeO c' q) ∧ tl E HZ Q)) →
    H c' = some (CodeO c' q) → TT tl H Q →
    ∃ t, PSs (cxOf C8.CX0 X.prog X.w X.K X.mg X.base Ng x sg g cdg X.A X.stack s H C8.E0).nox bg t ∧ t { nx := fun _ H' => Q .non H', rt := Q } (L2.start Ng [.ref f]) H
/-- x(lambda: body) -/
theorem pe_lamcall2 {T : List (Addr × Str)} {TT : (XK → Hp → VK → Prop) → Hp → VK → Prop} {x a : Str} {st : Stmt} {g c P : Addr} {fd : FuncData} {k : Nat} {Ng : List Str}
    {params : Arguments} {body : Expr} {scope : Scope} {t : XK → TE} {p lpos pos : Pos} (F : Fun X.K x x st g fd) (hm : X.mg x = some (.ref g)) (hb : L2.Binds X.K fd [a] []) (Sg : FnScope Ng [a] (defScope st)) (hva : Vis (defScope st) a)
    (hG : ∀ cdv, Gives X Ng x (defScope st) g cdv (defBody st) a (X.env.qual ++ "<lambda>") TT)
    (TB : TabB X.base X.mg c P) (hcode : X.env.code = .ref c) (hmT : (P, X.env.qual ++ "<lambda>") ∈ T) (hu : ∀ p ∈ T, p.1 = P → p.2 = X.env.qual ++ "<lambda>") (hr : Room (k + 2) X.A) (L : LamS X.env.scope scope) (hdef : defaultsOf params X.env = ([], []))
    (hbind : ∀ (q : Str) (cl : List (Str × Addr)) (pm cv ctv : Value), bindArgs (PySem.W.kla_fn "<lambda>" q params body scope cl pm cv ctv) ⟨[], []⟩ = pure [])
    (hbody : ∀ (A : Around) (outer : List Env) (s : Shared) (H : Hp) (E : XK) (f c' : Addr), Room k (A.deeper (lamEnv X scope s.heap.objs.size f c')) → PE (lamCx X A outer s H E scope f c') body (t E))
    (hNg : Ng[0]? = some a := by rfl) (hg : Gl X x := by rfl) (hdb : (x == ("__debug__" : Str)) = false := by decide) (hd : (a == ("__debug__" : Str)) = false := by decide) (hcd : (a == ("__classdict__" : Str)) = false := by decide) :
    PE X (.Call (.Name x p) [.Lambda params body scope lpos] [] pos) (tLam T TT t) := by
  obtain ⟨oc, od, kV, doc, pm, an, cdv, ct, osl, rfl, lk, hcg⟩ := F.ex
  refine ⟨fun pins s σ H Q I h => ?_⟩
  obtain ⟨hT, h⟩ := h
  refine wpAny_Call_Name_kw (ld_glob I hg hm ?_ hdb)
  refine PySem.W.callWith_K (h₀ := X.base) I.ok.mod.kin F.kp ?_ (by rfl) (by rfl)
  show wpAny _ _ (spliced ((false, eval (.Lambda params body scope lpos) X.env) :: backTo pos (starEach [] X.env))) _ _ s
  refine Calls.spliced_cons (lam_make2 I TB hcode hmT hu hT hdef (L.has I.ok) fun f c' pm' ctv H1 s' I1 eN T1 hf hfn hfr hco => ?_)
  refine Calls.spliced_nil ⟨I1.kIn, ?_⟩
  have rc : codeAny (model X.prog X.w) X.A (.call (.ref g) ⟨[.ref f], []⟩) (CR C8.CX0 X.stack X.prog X.w H1 s' Q C8.E0) s' := by
    refine run_ofS (N := Ng) (ps := [a]) (us := [.ref f]) (vs := [.ref f]) lk hcg Sg hr I1.env0 (hb s' [.ref f] I1.kIn rfl) (.cons rfl .nil) rfl fun hr' => ?_
    obtain ⟨t', ht', hq'⟩ := hG cdv f c' s' H1 Q (fun E H' Q' => t E σ H' Q') (fun W pn xe E p1 p2 tk => act_at (i := 0) I1 L hf hfn hfr (hbind _ _ _ _ _) tk hr' (fun A outer s H hr2 => hbody A outer s H E f c' hr2) hNg hva hd hcd) hco (h H1 eN T1)
    exact ⟨t', ht'.nox, hq'⟩
  refine wpAny_call (codeAny_mono rc fun r s2 hq => ?_)
  cases r with
  | error e => exact (show False from hq).elim
  | ok fl =>
    cases fl with
    | ret u => exact I1.after hq
    | next => exact False.elim hq
    | brk => exact False.elim hq
    | cont => exact False.elim hq
end
/-- what is wished of the errors of the lambda, clause by clause: the word of each -/
def WordsE (K : PySem.W.Frag) (Q : VK) : List (Addr × Str) → XK
  | [] => fun _ _ _ => False
  | (C, z) :: r => fun cls d H' => ∃ b, PySem.W.exmOne K cls (.ref C) = some b ∧ (b = true → Q (.str z) H') ∧ (b = false → WordsE K Q r cls d H')
/-- word = z0; try: call() / except C1: word = z1 / ..; return word -/
def TTword (K : PySem.W.Frag) (z0 : Str) (cs : List (Addr × Str)) : (XK → Hp → VK → Prop) → Hp → VK → Prop := fun tl H Q => tl (WordsE K Q cs) H fun _ H' => Q (.str z0) H'
/-- a def whose code object is known -/
theorem okC {P : Program} {w : World} {K : PySem.W.Frag} {mg : Str → Option Value} {base : Heap} {x qual : Str} {st : Stmt} {f c : Addr} {fd : FuncData} {N ps : List Str} {k : Nat} {sp : Sp} (F : Fun K x qual st f fd) (hc : fd.code = .ref c) (S : FnScope N ps (defScope st)) (len : ∀ vs H Q E, sp vs H Q E → vs.length = ps.length)
    (hbody : ∀ (A : Around) (outer : List Env) (s : Shared) (H : Hp) (vs : List V) (Q : VK) (E : XK), Room k (A.deeper (envOfC qual (defScope st) s.heap.objs.size f (.ref c))) → sp vs H Q E →
      ∃ t, PSs (cxOf CX0 P w K mg base N qual (defScope st) f (.ref c) A outer s H E).nox (defBody st) t ∧ t { nx := fun _ H' => Q .non H', rt := Q } (L2.start N vs) H) : FnOk P w K mg base CX0 (k + 1) f fd ps sp := by
  obtain ⟨oc, od, kV, doc, pm, an, cdv, ct, osl, rfl, lk, hcd⟩ := F.ex
  obtain rfl : cdv = .ref c := hc
  refine fn_of lk hcd S len fun A outer s H vs Q E hr hsp => ?_
  obtain ⟨t, h, q⟩ := hbody A outer s H vs Q E hr hsp
  exact ⟨t, h.nox, q⟩
theorem Book1.ext {C : Addr} {H H' : Hp} {b : Addr} {kvs : List (Key × V)} (B : Book1 C H b kvs) (s : ExtN H H') : Book1 C H' b kvs := by
  obtain ⟨ys, L, M, dx, d, tp, ta, od, h1, h2, A⟩ := B.ex
  exact ⟨B.av, B.nd, ys, L, M, dx, d, tp, ta, od, h1, h2, s _ _ A.ob (fun _ e => by cases e), s _ _ A.dc (fun _ e => by cases e), s _ _ A.pi (fun _ e => by cases e), s _ _ A.al (fun _ e => by cases e), A.lo, A.de⟩
/-- a call whose wishes are weakened; what it raises is wished for at the slots as they stand -/
def tAct (f c' : Addr) (q : Str) (tl : XK → Hp → VK → Prop) (W : WX) : TE := fun σ H Q => ∃ (E : XK) (Q' : VK), (∀ cls d H', E cls d H' → W cls d σ H') ∧ (∀ v H', Q' v H' → Q v H') ∧ σ[0]? = some (some (.ref f)) ∧ H c' = some (CodeO c' q) ∧ tl E H Q'
theorem pe_actW {X : Cx} {e : Expr} {f c' : Addr} {q : Str} {tl : XK → Hp → VK → Prop} {W : WX} (h : ∀ E : XK, PE X e (fun σZ HZ Q => (∀ cls d H', E cls d H' → W cls d σZ H') ∧ σZ[0]? = some (some (.ref f)) ∧ HZ c' = some (CodeO c' q) ∧ tl E HZ Q)) : PE X e (tAct f c' q tl W) := by
  refine ⟨fun pins s σ H Q I hh => ?_⟩
  obtain ⟨E, Q', h1, h2, h3, h4, h5⟩ := hh
  exact thn ((h E).run pins s σ H Q' I ⟨h1, h3, h4, h5⟩) fun u s1 ⟨x, H1, I1, r, qq⟩ => ⟨x, H1, I1, r, h2 _ _ qq⟩
/-- except A: word = z / except B: .. -/
inductive Clauses (X : Cx) (sg : Scope) : List ExceptHandler → List (Addr × Str) → Prop
  | nil : Clauses X sg [] []
  | cons {n z : Str} {C : Addr} {j : Nat} {p p' q1 q2 q3 : Pos} {hds : List ExceptHandler} {cs : List (Addr × Str)} (g : sg.names.lookup n = some .globalImplicit) (m : X.mg n = some (.ref C)) (d : (n == ("__debug__" : Str)) = false) (r : Clauses X sg hds cs) :
      Clauses X sg (.ExceptHandler (some (.Name n p)) none [.Assign [.Name "word" q1] (.Constant (.str z) j q2) q3] p' :: hds) ((C, z) :: cs)
def clauseL (cs : List (Addr × Str)) : List (Value × (Addr → Value → Option Addr → TS)) := cs.map fun p => (.ref p.1, fun _ _ _ => tAsg (tC (.str p.2)) (gName 1))
theorem words_many {K : PySem.W.Frag} {Q : VK} {Wout : WX} {D : Ends} {σ : L2.St} {cls : Value} {d : Option Addr} {H' : Hp} (hD : ∀ z H', Q (.str z) H' → D.nx (σ.set 1 (some (.str z))) H') : ∀ cs : List (Addr × Str), WordsE K Q cs cls d H' → wMany K Wout D (clauseL cs) cls d σ H'
  | [], h => h.elim
  | (C, z) :: r, h => by
    obtain ⟨b, hb, h1, h2⟩ := h
    exact ⟨b, hb, fun e a ha => hD z H' (h1 e), fun e => words_many hD r (h2 e)⟩
/-- word = z0; try: call() / except A: word = z1 / ..; return word -/
theorem gives_words {X : Cx} {x z0 q : Str} {sg : Scope} {g : Addr} {cdv : Value} {j0 : Nat} {p1 p2 p3 p4 p5 p6 q8 q9 q10 : Pos} {h₀ : ExceptHandler} {hds : List ExceptHandler} {cs : List (Addr × Str)} (hw : sg.names.lookup ("word" : Str) = some .local) (ha : sg.names.lookup ("call" : Str) = some .local) (hk : Clauses X sg (h₀ :: hds) cs) :
    Gives X ["call", "word"] x sg g cdv [.Assign [.Name "word" p1] (.Constant (.str z0) j0 p2) p3, .Try [.Expr (.Call (.Name "call" p4) [] [] p5) p6] (h₀ :: hds) [] [] q8, .Return (some (.Name "word" q9)) q10] "call" q (TTword X.K z0 cs) := by
  intro f c' s H Q tl act hc h
  have nd : (["call", "word"] : List Str).Nodup := by decide +kernel
  have hds' : ∀ {hs : List ExceptHandler} {l : List (Addr × Str)}, Clauses X sg hs l → HdsOk (cxOf C8.CX0 X.prog X.w X.K X.mg X.base ["call", "word"] x sg g cdv X.A X.stack s H C8.E0).nox hs (clauseL l) := by
    intro hs l hk
    induction hk with
    | nil => exact .nil
    | cons g m d r ih => exact .cons ⟨g, d, .inl m⟩ (fun a oe cls d pn _ _ => pss_one (ps_set (i := 1) nd rfl (Or.inl hw) pe_str)) ih
  refine ⟨_, pss_cons (ps_set (i := 1) nd rfl (Or.inl hw) pe_str) (pss_cons (ps_try_many (X := (cxOf C8.CX0 X.prog X.w X.K X.mg X.base ["call", "word"] x sg g cdv X.A X.stack s H C8.E0).nox) (tb := fun W => tDrop (tAct f c' q tl W)) (Wout := fun _ _ _ _ => False) rfl rfl takes_none5 (fun W pn xe tk _ => pss_one (ps_expr (pe_actW fun E => act W pn xe E p4 p5 tk))) (hds' hk)) (pss_one (ps_ret (pe_var (i := 1) rfl (Or.inl hw))))), ?_⟩
  refine ⟨WordsE X.K Q cs, fun _ H' => Q (.str z0) H', (fun cls d H' hE => by
    refine words_many ?_ cs hE
    exact fun z H' hz => ⟨_, rfl, hz⟩), fun v H' hv => ⟨_, rfl, hv⟩, rfl, hc, h⟩
/-! ### a def that calls the lambda that it gets, as its callers use it -/
structure HasL (K : PySem.W.Frag) (mg : Str → Option Value) (x a : Str) (TT : (XK → Hp → VK → Prop) → Hp → VK → Prop) : Prop where
  ex : ∃ (g : Addr) (fd : FuncData) (st : Stmt) (Ng : List Str), Fun K x x st g fd ∧ mg x = some (.ref g) ∧ L2.Binds K fd [a] [] ∧ FnScope Ng [a] (defScope st) ∧ Vis (defScope st) a ∧ Ng[0]? = some a ∧
    ∀ X : Cx, X.K = K → X.mg = mg → ∀ (cdv : Value) (q : Str), Gives X Ng x (defScope st) g cdv (defBody st) a q TT
theorem pe_lam {X : Cx} {T : List (Addr × Str)} {TT : (XK → Hp → VK → Prop) → Hp → VK → Prop} {x a : Str} {c P : Addr} {k : Nat} {params : Arguments} {body : Expr} {scope : Scope} {t : XK → TE} {p lpos pos : Pos} (F : HasL X.K X.mg x a TT)
    (TB : TabB X.base X.mg c P) (hcode : X.env.code = .ref c) (hmT : (P, X.env.qual ++ "<lambda>") ∈ T) (hu : ∀ p ∈ T, p.1 = P → p.2 = X.env.qual ++ "<lambda>") (hr : Room (k + 2) X.A) (L : LamS X.env.scope scope) (hdef : defaultsOf params X.env = ([], []))
    (hbind : ∀ (q : Str) (cl : List (Str × Addr)) (pm cv ctv : Value), bindArgs (PySem.W.kla_fn "<lambda>" q params body scope cl pm cv ctv) ⟨[], []⟩ = pure [])
    (hbody : ∀ (A : Around) (outer : List Env) (s : Shared) (H : Hp) (E : XK) (f c' : Addr), Room k (A.deeper (lamEnv X scope s.heap.objs.size f c')) → PE (lamCx X A outer s H E scope f c') body (t E))
    (hg : Gl X x := by rfl) (hdb : (x == ("__debug__" : Str)) = false := by decide) (hd : (a == ("__debug__" : Str)) = false := by decide) (hcd : (a == ("__classdict__" : Str)) = false := by decide) :
    PE X (.Call (.Name x p) [.Lambda params body scope lpos] [] pos) (tLam T TT t) := by
  obtain ⟨g, fd, st, Ng, F, hm, hb, sc, hv, hN, G⟩ := F.ex
  exact pe_lamcall2 F hm hb sc hv (fun cdv => G X rfl rfl cdv _) TB hcode hmT hu hr L hdef hbind hbody hN hg hdb hd hcd
/-- a call of a def that may raise -/
theorem pe_hasX {X : Cx} {W : WX} {k : Nat} {x : Str} {ps : List Str} {sp : Sp} {E : XK} {p pos : Pos} {e : Expr} {es : List Expr} {t : TA} (F : HasO X.prog X.w X.K X.mg X.base (L2.CX X.prog X.w) k x ps sp) (hr : Room k X.A) (tk : Takes X W) (hW : ∀ cls d σ H, E cls d H → W cls d σ H) (ha : PA X (e :: es) t) (hl : Gl X x := by rfl)
    (hdb : (x == ("__debug__" : Str)) = false := by decide) (he : starEach (e :: es) X.env = (false, eval e X.env) :: starEach es X.env := by rfl) (hpl : (backTo pos (starEach es X.env)).any (·.1) = false := by rfl) :
    PE X (.Call (.Name x p) (e :: es) [] pos) (tCall sp [] E t) := pe_hasO F hr (passes_call tk hW) ha hl hdb he hpl
/-- the law's promise, with its lambdas' tables -/
def spLawT (T : List (Addr × Str)) (K : PySem.W.Frag) : Sp := fun vs H Q _ => ∃ (a : Addr) (ns : List Int), vs = [.ref a] ∧ Tabs T H ∧ SqL K H a (ns.map V.int) ∧ ns.length ≤ 63 ∧ ∀ H', Q (.bl true) H'
theorem Tabs.kp {T : List (Addr × Str)} {H H' : Hp} {l : Addr} {n : Nat} (t : Tabs T H) (D : Dice H l n) (k : Kp l H H') : Tabs T H' := fun p hp => by
  obtain ⟨ps, h1, h2, h3⟩ := t p hp
  obtain ⟨d0, d1, d2, hl, _⟩ := D
  refine ⟨ps, k _ _ h1 (fun e => by rw [e, hl] at h1; cases h1), h2, fun pos cv hc => ?_⟩
  obtain ⟨c, e1, e2⟩ := h3 pos cv hc
  exact ⟨c, e1, k _ _ e2 fun e => by rw [e, hl] at e2; cases e2⟩
theorem Tabs.same {T : List (Addr × Str)} {H H' : Hp} (t : Tabs T H) (s : Same H H') : Tabs T H' := t.ext fun b o e => s b o e
/-- what was there ahead of the dice stays -/
theorem Kp.seqN {K : PySem.W.Frag} {l a : Addr} {H H' : Hp} {xs : List V} (k : Kp l H H') (hl : H l = none) (h : SqL K H a xs) : SqL K H' a xs := by
  rcases h with (h | ⟨o, h⟩) | h
  · exact Or.inl (Or.inl (k _ _ h (ne_of_none h hl)))
  · exact Or.inl (Or.inr ⟨o, k _ _ h (ne_of_none h hl)⟩)
  · exact Or.inr h
theorem ExtN.lst {H H' : Hp} {a : Addr} {xs : List V} (s : ExtN H H') (h : H a = some (.lst xs)) : H' a = some (.lst xs) := s _ _ h fun _ e => by cases e
theorem ExtN.same {H H' : Hp} (s : Same H H') : ExtN H H' := .of fun b o e => s b o e
/-- two lists of the same texts -/
theorem eq_lstrs {K : PySem.W.Frag} {H : Hp} {a p : Addr} {zs : List Str} {Q : VK} (h : SqL K H a (zs.map V.str)) (hp : SqL K H p (zs.map V.str)) (hl : ∀ z ∈ zs, ∀ c ∈ cs z, lett c = true) (q : Q (.bl true) H) : rEqD K (.ref a) (.ref p) H Q := by
  refine ⟨.list (zs.map PyData.str), .list (zs.map PyData.str), .lst h (dpAll_strs zs), .lst hp (dpAll_strs zs), shaped_lstrs hl, shaped_lstrs hl, ?_⟩
  rw [SeqAt.eqv_refl _ (SeqAt.canLay_of_shaped (shaped_lstrs hl))]
  exact q
/-! ### a row of words told by lambdas about a book, a value that is no book and one that is no text -/
theorem Tabs.upd {T : List (Addr × Str)} {H : Hp} {a : Addr} {xs : List V} {o : HO} (t : Tabs T H) (h : H a = some (.lst xs)) : Tabs T (L2.upd H a o) := fun p hp => by
  obtain ⟨ps, h1, h2, h3⟩ := t p hp
  refine ⟨ps, by rw [upd_ne (fun e => by rw [e, h] at h1; cases h1)]; exact h1, h2, fun pos cv hc => ?_⟩
  obtain ⟨c, e1, e2⟩ := h3 pos cv hc
  exact ⟨c, e1, by rw [upd_ne (fun e => by rw [e, h] at e2; cases e2)]; exact e2⟩
structure Told (C : Addr) (T : List (Addr × Str)) (H : Hp) (tl x : Addr) (kvs : List (Key × V)) (wr bad : V) (zs : List Str) : Prop where
  tb : Tabs T H
  bk : Book1 C H x kvs
  vw : Val H wr
  vb : Val H bad
  nw : wr ≠ .ref tl
  nb : bad ≠ .ref tl
  at' : H tl = some (.lst (zs.map V.str))
theorem Told.push {C : Addr} {T : List (Addr × Str)} {H H1 H2 : Hp} {tl x : Addr} {kvs : List (Key × V)} {wr bad : V} {zs : List Str} (h : Told C T H tl x kvs wr bad zs) (e : ExtN H H1) (t : Tabs T H1) (s : Same H1 H2) (w : Str) :
    Told C T (upd H2 tl (.lst (zs.map V.str ++ [.str w]))) tl x kvs wr bad (zs ++ [w]) := by
  have a2 := s _ _ (ExtN.lst e h.at')
  exact ⟨Tabs.upd (Tabs.same t s) a2, ((h.bk.ext e).same s).updL a2, ((h.vw.mono e).same s).kp h.nw Kp.upd, ((h.vb.mono e).same s).kp h.nb Kp.upd, h.nw, h.nb, by rw [upd_same, List.map_append]; rfl⟩
theorem Val.ne {H : Hp} {x : V} {a : Addr} (o : Val H x) (h : H a = none) : x ≠ .ref a := fun e => by
  subst e
  rcases o with o | ⟨z, e, _⟩
  · cases o with
    | lst q => rw [h] at q; cases q
    | tup q => rw [h] at q; cases q
    | dK q => rw [h] at q; cases q
  · cases e
end G
/-! A try whose clauses name the error; isinstance of the caught error; list.count of flat things. -/
namespace G
open PySem PySem.Spec PyProof.Rows L2 LamX
/-- the name of a clause is gone behind its suite -/
def unName (D : Ends) (i : Nat) : Ends := { nx := fun σ H => D.nx (σ.set i none) H, rt := D.rt, bk := fun σ H => D.bk (σ.set i none) H, ct := fun σ H => D.ct (σ.set i none) H }
/-- one clause as its user sees it: the class, the name's slot, the suite -/
structure AsC where
  c : Value
  i : Nat
  ts : Addr → Value → Option Addr → TS
/-- what the clauses wish of an error, one after the other -/
def wAsM (K : PySem.W.Frag) (Wout : WX) (D : Ends) : List AsC → WX
  | [] => Wout
  | q :: r => fun cls d σ H => ∃ b, PySem.W.exmOne K cls q.c = some b ∧ (b = true → ∀ a, H a = none → q.ts a cls d (unName D q.i) (σ.set q.i (some (.ref a))) H) ∧ (b = false → wAsM K Wout D r cls d σ H)
/-- the clauses; the rest that nothing reaches need not be read -/
inductive AsOk (X : Cx) (Wout : WX) : List ExceptHandler → List AsC → Prop
  | none : AsOk X Wout [] []
  | rest {hs : List ExceptHandler} (no : ∀ c d σ H, ¬ Wout c d σ H) : AsOk X Wout hs []
  | clause {x n : Str} {c : Value} {i : Nat} {ts : Addr → Value → Option Addr → TS} {st : Stmt} {su : List Stmt} {p p' : Pos} {hs : List ExceptHandler} {l : List AsC} (hi : X.N[i]? = some n) (hl : X.env.kindOf n = some .local) (hc : Names X x c)
      (su_ok : ∀ (a : Addr) (oe : Obj) (cls : Value) (d : Option Addr) (pn : List (Addr × Obj)), Zc cls d oe → (∃ vs, oe.data = .fields vs) → PSs (X.suite a ((a, oe) :: pn)) (st :: su) (ts a cls d)) (r : AsOk X Wout hs l) :
      AsOk X Wout (.ExceptHandler (some (.Name x p)) (some n) (st :: su) p' :: hs) (⟨c, i, ts⟩ :: l)
section
variable {X : Cx} {body : List Stmt} {h₀ : ExceptHandler} {hs : List ExceptHandler} {l : List AsC} {pos : Pos} {tb : WX → TS} {Wout : WX}
theorem ps_try_asM (hst : X.stack = X.env :: X.outer) (hf : X.env.frame = some X.env.locals) (hN : X.N.Nodup) (tk : Takes X Wout)
    (hb : ∀ (W : WX) (pn : List (Addr × Obj)) (xe : Value → Shared → Prop), Takes (X.tr pn xe) W → PassesOwn (model X.prog X.w) X.A X.env xe → PSs (X.tr pn xe) body (tb W))
    (hh : AsOk X Wout (h₀ :: hs) l) : PS X (.Try body (h₀ :: hs) [] [] pos) (fun D σ H => tb (wAsM X.K Wout D l) D σ H) := by
  refine ⟨fun pins s σ H D I h => ?_⟩
  have ok := I.ok
  have fr0 : X.A.frames = some (X.env :: X.outer) := by rw [ok.frames, hst]
  refine wpAny_Try_except ?_
  have bodyRun := (hb (wAsM X.K Wout D l) (X.pn ++ pins) (fun e s₁ => wpAny (model X.prog X.w) X.A (noteFrame e X.env) (fun _ s₂ => wpAny (model X.prog X.w) X.A (setFlight e none) (fun _ s₃ =>
    wpAny (model X.prog X.w) X.A (handleBy e X.env (h₀ :: hs)) (SP X pins D) X.xe s₃) X.xe s₂) X.xe s₁) (fun u s' xx => ?_) PassesOwn.looking).run [] s σ H D (I.toTry _) h
  · refine wpAny_mono bodyRun (fun f s1 hsp => ?_) (fun e s1 he => he)
    cases f with
    | next => obtain ⟨σ', H', J', q⟩ := hsp; exact wpAny_execs_nil ⟨σ', H', J'.ofTry ok, q⟩
    | brk => obtain ⟨σ', H', J', q⟩ := hsp; exact ⟨σ', H', J'.ofTry ok, q⟩
    | cont => obtain ⟨σ', H', J', q⟩ := hsp; exact ⟨σ', H', J'.ofTry ok, q⟩
    | ret u => obtain ⟨v, σ', H', J', r, q⟩ := hsp; exact ⟨v, σ', H', J'.ofTry ok, r, q⟩
  -- the error has come
  obtain ⟨a, B, sI, pins', σ', H', cls, d, rfl, J', nb, up, sky, na, os, ag, w⟩ := xx
  have J : Inv X pins σ' H' sI := J'.ofTry ok
  have sky' : Sky B (X.env :: X.outer) a (Zc cls d) X.env.locals s'.heap := by rw [← hst]; exact sky
  show wpAny (model X.prog X.w) X.A (noteFrame (.ref a) X.env) _ _ _
  refine Sky.land Zc.steady fr0 hf sky' fun h3 fl3 up3 => ?_
  have J3 : Inv X pins σ' H' { s' with heap := h3 } := J.landed nb fl3.1 (up.trans up3) os ag
  obtain ⟨oe3, vs3, he3, hz3, hd3⟩ := fl3.there
  have nfr : a ∉ frs (X.env :: X.outer) := fun hm => by
    obtain ⟨_, o', e', hnf⟩ := fl3.2.2.1.mem hm
    rw [he3] at e'
    cases e'
    exact hnf _ hd3
  have nL : a ≠ X.env.locals := fun z => nfr (List.mem_filterMap.mpr ⟨X.env, List.mem_cons_self, by rw [hf, z]⟩)
  have nF : a ∉ X.fs := fun hm => by
    obtain ⟨e, he, q⟩ := List.mem_filterMap.mp hm
    exact nfr (List.mem_filterMap.mpr ⟨e, List.mem_cons_of_mem _ he, q⟩)
  have S3 := J3.suite he3 hd3 na nL nF
  have pass : Wout cls d σ' H' → wpAny (model X.prog X.w) X.A (handleBy (.ref a) X.env []) (SP X pins D) X.xe { s' with heap := h3 } := fun w => by
    refine wpAny_handleBy_nil ?_
    obtain ⟨k1, k2, k3, oe, vs, T, oT, ts', he, hz, hd, h1, hr⟩ := id fl3
    unfold PySem.passOn
    refine wpAny_bind (wpAny_field he hd h1 ?_)
    rw [if_neg (show ¬ ((Value.ref T == Value.none) = true) from by simp)]
    have fin : wpAny (model X.prog X.w) X.A (setFlight (.ref a) X.env.frame) (fun _ s4 => wpAny (model X.prog X.w) X.A (throw (.ref a) : Sem Flow) (SP X pins D) X.xe s4) X.xe { s' with heap := h3 } := by
      rw [hf]
      refine HandSPX.setFlight_upZ fl3 fun h4 hh4 up4 => wpAny_throw (tk _ _ ?_)
      exact ⟨a, B, sI, pins, σ', H', cls, d, rfl, J, nb, (up.trans up3).trans up4, .inr (.inr (by rw [hst]; exact hh4)), na, os, ag, w⟩
    first
      | exact wpAny_bind (wpAny_pure (wpAny_bind fin))
      | exact wpAny_bind fin
  have go : ∀ {hs' : List ExceptHandler} {l' : List AsC}, AsOk X Wout hs' l' → wAsM X.K Wout D l' cls d σ' H' → wpAny (model X.prog X.w) X.A (handleBy (.ref a) X.env hs') (SP X pins D) X.xe { s' with heap := h3 } := by
    intro hs' l' hk
    induction hk with
    | none => exact pass
    | rest no => exact fun w => (no _ _ _ _ w).elim
    | @clause x n c i ts st su p p' hs2 l2 hi hl hc su_ok r ih =>
      rintro ⟨b, hb1, hyes, hno⟩
      have LT : PySem.W.Looks (model X.prog X.w) h3 (typeOf (.ref a)) cls := fun A Q E s k q => wpAny_typeOf_ref (k _ _ he3) (by rw [hz3.1]; exact q)
      have LM := PySem.W.exm_one (M := model X.prog X.w) J3.kIn LT hb1
      have look : ∀ {Q E : Value → Shared → Prop}, Q c { s' with heap := h3 } → wpAny (model X.prog X.w) (X.A.mark (some (.ref a))) (eval (.Name x p) X.env) Q E { s' with heap := h3 } := fun {Q E} z => by
        obtain ⟨hg, hdbg, hm | ⟨hm, hv, hnn⟩⟩ := hc
        · exact ld_glob (X := X.suite a ((a, oe3) :: (X.pn ++ pins))) S3 hg hm z hdbg
        · exact ld_blt (X := X.suite a ((a, oe3) :: (X.pn ++ pins))) S3 hg hm hv z hnn hdbg
      refine wpAny_handleBy_cons (codeAny_handlers_test (look (LM.here ?_))) (by intro q; cases q)
      cases b with
      | false => exact ih (hno rfl)
      | true =>
        refine codeAny_handlers_suite_as ?_
        refine HandSPX.lands_againZ fl3 fun h4 fl4 up4 => ?_
        have J4 : Inv X pins σ' H' { s' with heap := h4 } := J.landed nb fl4.1 ((up.trans up3).trans up4) os ag
        obtain ⟨oe4, vs4, he4, hz4, hd4⟩ := fl4.there
        have S4 := J4.suite he4 hd4 na nL nF
        refine store_ok (X := X.suite a ((a, oe4) :: (X.pn ++ pins))) (v := .ref a) S4 hN hi (show Loc X.env.scope n from .inl hl) rfl (fun s5 S5 => ?_) (.inr hl)
        refine wpAny_mono ((su_ok a oe4 cls d (X.pn ++ pins) hz4 ⟨_, hd4⟩).run [] s5 _ H' _ S5 (hyes rfl a na)) (fun f s6 hsp => ?_) (fun _ _ z => False.elim z)
        have out : ∀ {σ6 : L2.St} {H6 : Hp} {Q : Shared → Prop}, Inv (X.suite a ((a, oe4) :: (X.pn ++ pins))) [] σ6 H6 s6 → (∀ s7, Inv X pins (σ6.set i none) H6 s7 → Q s7) →
            wpAny (model X.prog X.w) X.A (do bindName X.env n .none; unbindBehindTheSuite X.env n p') (fun _ s7 => Q s7) X.xe s6 := fun {σ6 H6 Q} S6 hq => gone_ok (S6.unsuite ok) hN hi hl hq
        cases f with
        | next => obtain ⟨σ6, H6, S6, q6⟩ := hsp; exact out S6 fun s7 J7 => ⟨_, _, J7, q6⟩
        | brk => obtain ⟨σ6, H6, S6, q6⟩ := hsp; exact out S6 fun s7 J7 => ⟨_, _, J7, q6⟩
        | cont => obtain ⟨σ6, H6, S6, q6⟩ := hsp; exact out S6 fun s7 J7 => ⟨_, _, J7, q6⟩
        | ret u => obtain ⟨v6, σ6, H6, S6, r6, q6⟩ := hsp; exact out S6 fun s7 J7 => ⟨_, _, _, J7, r6, q6⟩
  exact go hh w
end
/-! ### isinstance of the caught error -/
def rIsEE (K : PySem.W.Frag) (cls : Value) (d : Option Addr) (a : Addr) : List V → Hp → VK → Prop := fun xs H Q => ∃ D, cls = .ref D ∧ d = none ∧ ExcC K D ∧ rIsE K D a xs H Q
theorem call_isEE {X : Cx} {a : Addr} {cls : Value} {d : Option Addr} {oe : Obj} {pn : List (Addr × Obj)} (hz : Zc cls d oe) (hf : ∃ vs, oe.data = .fields vs) : CallR (X.suite a ((a, oe) :: pn)) (.builtin "isinstance") (rIsEE X.K cls d a) := by
  intro pins s σ H xs us Q I r h
  obtain ⟨D, rfl, rfl, ex, h⟩ := h
  exact call_isE ex hz hf pins s σ H xs us Q I r h
/-- an own class about another -/
theorem kit_ref {K : PySem.W.Frag} {C : Addr} {cls : Value} {b : Bool} (hdct : PySem.W.hasDictIn K C = true) (ht : PySem.W.typeIn K (.ref C) = some (.type "type")) (h4 : PySem.W.subIn K cls (.ref C) = some b) (hb : cls = .ref C → b = true) : PySem.W.kitOne K cls (.ref C) = some b := by
  obtain ⟨cd, hc, _⟩ := PySem.W.any_some hdct
  unfold PySem.W.kitOne
  by_cases e : (cls == Value.ref C) = true
  · rw [if_pos e, hb (beq_iff_eq.mp e)]
  · rw [if_neg e]
    show (if ((PySem.W.clsIn K C).isSome && PySem.W.typeIn K (.ref C) == some (.type "type")) = true then PySem.W.subIn K cls (.ref C) else none) = some b
    rw [if_pos (by rw [hc, ht]; rfl)]
    exact h4
theorem kit_type {K : PySem.W.Frag} {D : Addr} {t : String} {b : Bool} (hm : PySem.W.kitMeta t = true) (h4 : PySem.W.subIn K (.ref D) (.type t) = some b) : PySem.W.kitOne K (.ref D) (.type t) = some b := by
  unfold PySem.W.kitOne
  rw [if_neg (by simp)]
  show (if PySem.W.kitMeta t = true then PySem.W.subIn K (.ref D) (.type t) else none) = some b
  rw [if_pos hm]
  exact h4
/-! ### list.count of flat things -/
theorem count_eqU {x : V} : ∀ {xs : List V} {us : List Value}, Vals xs us → xs.all flatV = true → us.countP (eqU x) = xs.countP fun y => eqV y x
  | _, _, .nil, _ => rfl
  | _, _, .cons r t, f => by
    rw [List.all_cons, Bool.and_eq_true] at f
    rw [List.countP_cons, List.countP_cons, eqU_of r f.1, count_eqU t f.2]
def rCountF (K : PySem.W.Frag) : V → List V → Hp → VK → Prop := fun x xs H Q => ∃ (p : Addr) (ys : List V) (y : V), x = .ref p ∧ xs = [y] ∧ SqL K H p ys ∧ flatV y = true ∧ ys.all flatV = true ∧ Q (.int ((ys.countP fun z => eqV z y : Nat) : Int)) H
theorem mt_countF {X : Cx} : MtR X "list.count" (rCountF X.K) := by
  intro pins s σ H x xs v us Q I rx rxs h
  obtain ⟨p, ys, y, rfl, rfl, hs, fy, fys, q⟩ := h
  cases rx
  cases rxs with
  | cons ry rt =>
    rename_i uy ut
    cases rt
    obtain ⟨its, rv, ⟨⟨cls, dd, data, sl⟩, n, ho, hc, hdn, hd⟩, hlen⟩ := I.list hs
    simp only at hc hd
    subst hc hd
    refine call_meets PySem.F.slot_list_count ⟨_, ho, rfl⟩ PySem.F.entry_list_count (PySem.F.args_list_count_2 _ _)
      (SeqAt.list_countAt p its.toArray n dd sl uy (eqU y)) ⟨ho, fun u' hu' => mem_eqAt ry fy rv fys u' (by simpa using hu'), ?_⟩
    refine ⟨.int ((ys.countP fun z => eqV z y : Nat) : Int), H, I.tok _, ⟨s.toks, ?_⟩, q⟩
    show Value.int ((its.toArray.toList.countP (eqU y) : Nat) : Int) s.toks = _
    rw [show its.toArray.toList.countP (eqU y) = its.countP (eqU y) by simp, count_eqU rv fys]
theorem mt_countK {X : Cx} (K : PySem.W.Frag) (e : X.K = K := by rfl) : MtR X "list.count" (rCountF K) := by
  subst e
  exact mt_countF
theorem mt_indexK {X : Cx} (K : PySem.W.Frag) (e : X.K = K := by rfl) : MtR X "list.index" (L2.rIndex K) := by
  subst e
  exact L2.mt_index
/-! ### the word of what a call raised -/
structure ErrK (K : PySem.W.Frag) (CE CB CT CO D : Addr) (w : Str) : Prop where
  ex : ExcC K D
  ce : PySem.W.exmOne K (.ref D) (.ref CE) = some true
  ve : PySem.W.kitOne K (.ref D) (.type "ValueError") = some true
  is : ∃ b t o, PySem.W.kitOne K (.ref D) (.ref CB) = some b ∧ PySem.W.kitOne K (.ref D) (.ref CT) = some t ∧ PySem.W.kitOne K (.ref D) (.ref CO) = some o ∧ ((b, t, o, w) = (true, false, false, ("book" : Str)) ∨ (b, t, o, w) = (false, true, false, ("text" : Str)) ∨ (b, t, o, w) = (false, false, true, ("operation" : Str)))
def TTmet (K : PySem.W.Frag) (CE CB CT CO : Addr) : (XK → Hp → VK → Prop) → Hp → VK → Prop := fun tl H Q => tl (fun cls d H' => ∃ D w, cls = .ref D ∧ d = none ∧ ErrK K CE CB CT CO D w ∧ ∀ H'', Same H' H'' → Q (.str w) H'') H fun _ H' => Q (.str "fine") H'
end G
/-! Books asked for in pairs: what is none raises, and so do books of other alphabets. -/
namespace G
open PySem PySem.Spec PyProof.Rows L2 LamX
theorem eqvA_strs : ∀ zs ws : List Str, PyData.eqvAll (zs.map PyData.str) (ws.map PyData.str) = decide (zs = ws)
  | [], [] => by simp [PyData.eqvAll]
  | [], _ :: _ => by simp [PyData.eqvAll]
  | _ :: _, [] => by simp [PyData.eqvAll]
  | a :: r, b :: t => by
    rw [List.map_cons, List.map_cons, eqv_all_cons', eqvA_strs r t]
    by_cases h : a = b
    · subst h
      simp [PyData.eqv]
    · simp [PyData.eqv, h]
where eqv_all_cons' {x y : PyData} {xs ys : List PyData} : PyData.eqvAll (x :: xs) (y :: ys) = (PyData.eqv x y && PyData.eqvAll xs ys) := by rw [PyData.eqvAll]
theorem eqvT_strs (zs ws : List Str) : PyData.eqv (.tuple (zs.map PyData.str)) (.tuple (ws.map PyData.str)) = decide (zs = ws) := by
  rw [← eqvA_strs]
  simp [PyData.eqv]
theorem eqvL_strs (zs ws : List Str) : PyData.eqv (.list (zs.map PyData.str)) (.list (ws.map PyData.str)) = decide (zs = ws) := by
  rw [← eqvA_strs]
  simp [PyData.eqv]
/-! ### cuts without the piece itself -/
theorem cut_rem {F : Tf} (G : Good F) {z : Str} (hz : 1 < (cs z).length) {c : List Str} : IsCut (remF F z) (cs z) c ↔ IsCut F (cs z) c ∧ 1 < c.length := by
  constructor
  · rintro ⟨h1, h2⟩
    have h3 : ∀ y ∈ c, y ≠ z ∧ ∃ p, F y = some p := fun y hy => by
      obtain ⟨p, hp⟩ := h1 y hy
      unfold remF at hp
      split at hp
      · cases hp
      · exact ⟨by assumption, p, hp⟩
    refine ⟨⟨fun y hy => (h3 y hy).2, h2⟩, ?_⟩
    match c, h2, h3 with
    | [], h2, _ =>
      have h := congrArg List.length h2
      rw [List.map_nil, List.flatten_nil, List.length_nil] at h
      omega
    | [y], h2, h3 =>
      have e : y = z := str_ext (by simpa using h2)
      exact absurd e (h3 y List.mem_cons_self).1
    | _ :: _ :: _, _, _ => simp
  · rintro ⟨⟨h1, h2⟩, h3⟩
    refine ⟨fun y hy => ?_, h2⟩
    obtain ⟨p, hp⟩ := h1 y hy
    refine ⟨p, ?_⟩
    unfold remF
    rw [if_neg ?_]
    · exact hp
    · rintro rfl
      -- the piece alone is as long as all
      have pos : ∀ x ∈ c, 1 ≤ (cs x).length := fun x hx => by
        obtain ⟨q, hq⟩ := h1 x hx
        exact (G.len x q hq).1
      obtain ⟨a, b, rfl⟩ := List.append_of_mem hy
      have hl := congrArg List.length h2
      rw [List.map_append, List.map_cons, List.flatten_append, List.flatten_cons, List.length_append, List.length_append] at hl
      have za : ∀ {m : List Str}, (∀ x ∈ m, 1 ≤ (cs x).length) → ((m.map cs).flatten).length = 0 → m = [] := fun {m} hm h0 => by
        cases m with
        | nil => rfl
        | cons x r =>
          have := hm x List.mem_cons_self
          rw [List.map_cons, List.flatten_cons, List.length_append] at h0
          omega
      have ea := za (m := a) (fun x hx => pos x (List.mem_append_left _ hx)) (by omega)
      have eb := za (m := b) (fun x hx => pos x (List.mem_append_right _ (List.mem_cons_of_mem _ hx))) (by omega)
      subst ea eb
      simp at h3
theorem cuts_rem {F : Tf} (G : Good F) {z : Str} (hz : 1 < (cs z).length) {H : Hp} {ws : List (Addr × List Str)} (C : CutsAt H F (cs z) ws) : CutsAt H (remF F z) (cs z) (ws.filter fun w => decide (1 < w.2.length)) where
  at_ := fun w hw => C.at_ w (List.mem_filter.mp hw).1
  all := fun c => by
    rw [cut_rem G hz, ← C.all]
    constructor
    · rintro ⟨w, hw, rfl⟩
      obtain ⟨h1, h2⟩ := List.mem_filter.mp hw
      exact ⟨⟨w, h1, rfl⟩, of_decide_eq_true h2⟩
    · rintro ⟨⟨w, hw, rfl⟩, h⟩
      exact ⟨w, List.mem_filter.mpr ⟨hw, decide_eq_true h⟩, rfl⟩
  len := Nat.le_trans (List.length_filter_le _ _) C.len
theorem sum_rem {F : Tf} (G : Good F) {z : Str} (hz : 1 < (cs z).length) {c : List Str} (h : IsCut (remF F z) (cs z) c) : sumOf (remF F z) c = sumOf F c := by
  unfold sumOf
  refine congrArg List.sum (List.map_congr_left fun y hy => ?_)
  obtain ⟨p, hp⟩ := h.1 y hy
  have : F y = some p := by
    unfold remF at hp
    split at hp
    · cases hp
    · exact hp
  rw [hp, this]
theorem cut_one {F : Tf} (G : Good F) {z : Str} (hz : (cs z).length = 1) {c : List Str} (h : IsCut F (cs z) c) : c.length ≤ 1 := by
  obtain ⟨h1, h2⟩ := h
  match c, h1, h2 with
  | [], _, _ => simp
  | [_], _, _ => simp
  | a :: b :: r, h1, h2 =>
    obtain ⟨p, hp⟩ := h1 a List.mem_cons_self
    obtain ⟨q, hq⟩ := h1 b (List.mem_cons_of_mem _ List.mem_cons_self)
    have la := (G.len a p hp).1
    have lb := (G.len b q hq).1
    have hl := congrArg List.length h2
    rw [List.map_cons, List.map_cons, List.flatten_cons, List.flatten_cons, List.length_append, List.length_append] at hl
    omega
/-- isinstance(x, Book), either answer -/
theorem call_mayC {X : Cx} {C : Addr} (c : C8.InsC X.K C) (n : NoC X.K C) : CallR X (.builtin "isinstance") (fun xs H Q => (∃ a dx fs, xs = [.ref a, .ref C] ∧ H a = some (.ins C dx fs) ∧ Q (.bl true) H) ∨ ∃ x, xs = [x, .ref C] ∧ Val H x ∧ Q (.bl false) H) := by
  intro pins s σ H xs us Q I r h
  rcases h with h | h
  · exact C8.call_isC c pins s σ H xs us Q I r h
  · exact call_notC n pins s σ H xs us Q I r h
/-- a book, or a value of a known kind -/
def spMayBook (C CB : Addr) : Sp := fun vs H Q E => ∃ x, vs = [x] ∧ ((∃ b kvs, x = .ref b ∧ Book1 C H b kvs ∧ Q .non H) ∨ (Val H x ∧ E (.ref CB) none H))
/-- two values that cannot be compared -/
def BadC (C CB CO : Addr) (H : Hp) (x y : V) (E : XK) : Prop := (Val H x ∧ E (.ref CB) none H) ∨ ∃ b k1, x = .ref b ∧ Book1 C H b k1 ∧ ((Val H y ∧ E (.ref CB) none H) ∨
  ∃ b2 k2, y = .ref b2 ∧ Book1 C H b2 k2 ∧ (∃ c, ¬ ((tfD k1 (ch c)).isSome = true ↔ (tfD k2 (ch c)).isSome = true)) ∧ E (.ref CO) none H)
def spBadC (C CB CO : Addr) : Sp := fun vs H _ E => ∃ x y, vs = [x, y] ∧ BadC C CB CO H x y E
def spAlph (C : Addr) : Sp := fun vs H Q _ => ∃ b kvs, vs = [.ref b] ∧ Book1 C H b kvs ∧ ∀ t (zs : List Str), H t = some (.tup (zs.map V.str)) → Q (.ref t) H
theorem dpA_ints {K : PySem.W.Frag} {H : Hp} : ∀ ds : List Int, DpAll K H (ds.map V.int) (ds.map PyData.int)
  | [] => .nil
  | d :: r => .cons (.int d) (dpA_ints r)
theorem rNe_nilI {K : PySem.W.Frag} {H : Hp} {a p : Addr} {ds : List Int} {Q : VK} (h : SqL K H a (ds.map V.int)) (hp : H p = some (.lst [])) (q : Q (.bl (!ds.isEmpty)) H) : rNeD K (.ref a) (.ref p) H Q := by
  refine ⟨.list (ds.map PyData.int), .list [], .lst h (dpA_ints ds), .lst (SqL.of hp) .nil, shaped_ints ds, shaped_ints [], ?_⟩
  have e : PyData.eqv (.list (ds.map PyData.int)) (.list []) = ds.isEmpty := by cases ds <;> simp [PyData.eqv, PyData.eqvAll]
  rw [e]
  exact q
/-- the pieces of the second that are dearer by the first -/
def spLDear : Sp := fun vs H Q _ => ∃ (d1 d2 : Addr) (k1 k2 : List (Key × V)), vs = [.ref d1, .ref d2] ∧ H d1 = some (.dK k1) ∧ H d2 = some (.dK k2) ∧ Tar k1 ∧ arePrices k2 = true ∧ (k2.map (·.1)).Nodup ∧ (∀ z p, tfD k2 z = some p → Over (tfD k1) (cs z)) ∧
  ∀ p (zs : List Str) H', H p = none → H' p = some (.lst (zs.map V.str)) → (∀ z, z ∈ zs ↔ ∃ q, tfD k2 z = some q ∧ q < lp (tfD k1) (cs z)) → (zs.Pairwise (fun y z => cs y ≤ cs z) ∧ zs.Nodup) → Same H H' → Q (.ref p) H'
def spLNeed : Sp := fun vs H Q _ => ∃ (d : Addr) (kvs : List (Key × V)), vs = [.ref d] ∧ H d = some (.dK kvs) ∧ arePrices kvs = true ∧ (kvs.map (·.1)).Nodup ∧
  ∀ p (zs : List Str) H', H p = none → H' p = some (.lst (zs.map V.str)) → (∀ z, z ∈ zs ↔ Needless (tfD kvs) z) → (zs.Pairwise (fun y z => cs y ≤ cs z) ∧ zs.Nodup) → Same H H' → Q (.ref p) H'
/-- a word over the signs -/
def WordOk (sg : List Nat) (w : Str) : Prop := (1 ≤ (cs w).length ∧ (cs w).length ≤ 5) ∧ ∀ c ∈ cs w, c ∈ sg
def spTwo (K : PySem.W.Frag) : Sp := fun vs H Q _ => ∃ (l sa : Addr) (sg : List Nat) (n : Nat), vs = [.ref l, .ref sa] ∧ sa ≠ l ∧ H sa = some (.lst (sg.map chV)) ∧ 1 ≤ sg.length ∧ sg.length ≤ 4 ∧ (∀ c ∈ sg, lett c = true) ∧ Dice H l (n + 160) ∧
  ∀ (p d1 d2 : Addr) (k1 k2 : List (Key × V)) H', H p = none → H d1 = none → H d2 = none → p ≠ l → d1 ≠ l → d2 ≠ l → H' p = some (.lst [.ref d1, .ref d2]) → H' d1 = some (.dK k1) → H' d2 = some (.dK k2) →
    (arePrices k1 = true ∧ (k1.map (·.1)).Nodup ∧ ∀ c, (∃ q, tfD k1 (ch c) = some q) ↔ c ∈ sg) → (arePrices k2 = true ∧ (k2.map (·.1)).Nodup ∧ ∀ c, (∃ q, tfD k2 (ch c) = some q) ↔ c ∈ sg) → Kp l H H' → Dice H' l n → Q (.ref p) H'
/-- all but the tables of lambdas and one thing stays -/
def KpN (l : Addr) (H H' : Hp) : Prop := ∀ a u, H a = some u → (∀ ps, u ≠ .tbl ps) → a ≠ l → H' a = some u
theorem KpN.refl (l : Addr) (H : Hp) : KpN l H H := fun _ _ e _ _ => e
theorem KpN.trans {l : Addr} {H H1 H2 : Hp} (a : KpN l H H1) (b : KpN l H1 H2) : KpN l H H2 := fun x u e h n => b x u (a x u e h n) h n
theorem Kp.n {l : Addr} {H H' : Hp} (k : Kp l H H') : KpN l H H' := fun a u e _ n => k a u e n
theorem ExtN.n {l : Addr} {H H' : Hp} (k : ExtN H H') : KpN l H H' := fun a u e h _ => k a u e h
theorem KpN.updl {l : Addr} {H H1 : Hp} {o : HO} (k : KpN l H H1) : KpN l H (upd H1 l o) := fun a u e t n => by
  rw [upd_ne n]
  exact k a u e t n
theorem KpN.mut {l p : Addr} {H H1 : Hp} {o : HO} (k : KpN l H H1) (h : H p = none) : KpN l H (upd H1 p o) := fun a u e t n => by
  rw [upd_ne (fun q => by rw [q, h] at e; cases e)]
  exact k a u e t n
def spErrs (C : Addr) (T : List (Addr × Str)) : Sp := fun vs H Q _ => ∃ (l sa b : Addr) (sg : List Nat) (kvs : List (Key × V)) (n : Nat), vs = [.ref l, .ref sa, .ref b] ∧ Tabs T H ∧ sa ≠ l ∧ H sa = some (.lst (sg.map chV)) ∧ 1 ≤ sg.length ∧ sg.length ≤ 4 ∧ (∀ c ∈ sg, lett c = true) ∧
  Book1 C H b kvs ∧ (∀ c, (∃ q, tfD kvs (ch c) = some q) ↔ c ∈ sg) ∧ Dice H l (n + 40) ∧ ∀ H', KpN l H H' → Tabs T H' → Dice H' l n → Q (.bl true) H'
theorem chs_map (sg : List Nat) : sg.map chV = (sg.map ch).map V.str := by
  rw [List.map_map]
  rfl
theorem inV_ch {c : Nat} {sg : List Nat} : inV (V.str { cps := #[c] }) (sg.map chV) = decide (c ∈ sg) := by
  have inj : ∀ {a b : Nat}, ch a = ch b → a = b := fun {a b} h => by
    have h2 := congrArg cs h
    simpa [cs] using h2
  rw [chs_map]
  refine Eq.trans (inV_str (z := ch c)) (decide_eq_decide.mpr ⟨fun h => ?_, fun h => List.mem_map.mpr ⟨c, h, rfl⟩⟩)
  obtain ⟨d, hd, e⟩ := List.mem_map.mp h
  rw [← inj e]
  exact hd
theorem free_ex {sg : List Nat} (h : sg.length ≤ 4) : (cs (Str.ofString "abcdefghijklmnopqrstuvwxyz")).filter (fun c => !decide (c ∈ sg)) ≠ [] := fun e => by
  have all : ∀ c ∈ cs (Str.ofString "abcdefghijklmnopqrstuvwxyz"), c ∈ sg := fun c hc => by
    have h1 := List.filter_eq_nil_iff.mp e c hc
    cases h2 : decide (c ∈ sg) with
    | true => exact of_decide_eq_true h2
    | false =>
      rw [h2] at h1
      exact absurd rfl h1
  have h2 := nd_sub_len (l2 := sg) (show (cs (Str.ofString "abcdefghijklmnopqrstuvwxyz")).Nodup by decide +kernel) all
  have h3 : (cs (Str.ofString "abcdefghijklmnopqrstuvwxyz")).length = 26 := by decide +kernel
  omega
/-- two ways of one program go on alike -/
theorem merge3 {P : Hp → Addr → Prop} {C : Hp → Addr → List Nat → Prop} {R : Prop} (a : (∀ G oa ol, C G oa ol → P G oa) → R) (b : ∀ G oa ol, C G oa ol → P G oa) : R := a b
theorem cutV_from {xs : List V} {i : Nat} (h : i ≤ xs.length) : cutV xs (some (i : Int)) none = xs.drop i := by
  unfold cutV
  rw [show HT.sIx xs.length 0 (some (i : Int)) = i by rw [sIx_pos (by omega), Int.toNat_natCast]; omega]
  exact List.take_of_length_le (by rw [List.length_drop]; exact Nat.le_refl _)
theorem cutV_to1 {xs : List V} {i : Nat} (h : i ≤ xs.length) : cutV xs none (some (i : Int)) = xs.take i := by
  unfold cutV
  rw [show HT.sIx xs.length xs.length (some (i : Int)) = i by rw [sIx_pos (by omega), Int.toNat_natCast]; omega]
  rfl
theorem iteF {A B : Prop} (h : B) : (if (false : Bool) = true then A else B) := by
  rw [if_neg Bool.false_ne_true]
  exact h
theorem Dice.ext {H H' : Hp} {l : Addr} {n : Nat} (d : Dice H l n) (e : ExtN H H') : Dice H' l n := by
  obtain ⟨x, y, z, h, r⟩ := d
  exact ⟨x, y, z, e _ _ h (fun _ q => by cases q), r⟩
/-- a row of words in the making, two books, a value that is none -/
structure TX (C : Addr) (T : List (Addr × Str)) (E F : Hp) (l tl b ob : Addr) (kvs kk : List (Key × V)) (odd : V) (n : Nat) (H : Hp) (zs : List Str) : Prop where
  tb : Tabs T H
  b1 : Book1 C H b kvs
  b2 : Book1 C H ob kk
  vo : Val H odd
  no : odd ≠ .ref tl
  at' : H tl = some (.lst (zs.map V.str))
  dl : Dice H l n
  nl : tl ≠ l
  kn : KpN l E H
  et : E tl = none
  tp : KpN tl F H
theorem TX.push {C : Addr} {T : List (Addr × Str)} {E F : Hp} {l tl b ob : Addr} {kvs kk : List (Key × V)} {odd : V} {n : Nat} {H H1 H2 : Hp} {zs : List Str} (h : TX C T E F l tl b ob kvs kk odd n H zs) (e : ExtN H H1) (t : Tabs T H1) (s : Same H1 H2) (w : Str) :
    TX C T E F l tl b ob kvs kk odd n (upd H2 tl (.lst (zs.map V.str ++ [.str w]))) (zs ++ [w]) := by
  have a2 := s _ _ (ExtN.lst e h.at')
  exact ⟨Tabs.upd (Tabs.same t s) a2, ((h.b1.ext e).same s).updL a2, ((h.b2.ext e).same s).updL a2, ((h.vo.mono e).same s).kp h.no Kp.upd, h.no, by rw [upd_same, List.map_append]; rfl, ((h.dl.ext e).same s).upd h.nl, h.nl, ((h.kn.trans (ExtN.n e)).trans (Kp.n (.of s))).mut h.et, h.et, ((h.tp.trans (ExtN.n e)).trans (Kp.n (.of s))).updl⟩
theorem TX.base {C : Addr} {T : List (Addr × Str)} {E F : Hp} {l tl b ob : Addr} {kvs kk : List (Key × V)} {odd : V} {n : Nat} {H H2 : Hp} {zs : List Str} (h : TX C T E F l tl b ob kvs kk odd n H zs) (s : Same H H2) :
    TX C T E H2 l tl b ob kvs kk odd n H2 zs :=
  ⟨Tabs.same h.tb s, h.b1.same s, h.b2.same s, h.vo.same s, h.no, s _ _ h.at', h.dl.same s, h.nl, h.kn.trans (Kp.n (.of s)), h.et, KpN.refl _ _⟩
theorem ne_lstrs {K : PySem.W.Frag} {H : Hp} {a p : Addr} {zs : List Str} {Q : VK} (h : SqL K H a (zs.map V.str)) (hp : SqL K H p (zs.map V.str)) (hl : ∀ z ∈ zs, ∀ c ∈ cs z, lett c = true) (q : Q (.bl false) H) : rNeD K (.ref a) (.ref p) H Q := by
  refine ⟨.list (zs.map PyData.str), .list (zs.map PyData.str), .lst h (dpAll_strs zs), .lst hp (dpAll_strs zs), shaped_lstrs hl, shaped_lstrs hl, ?_⟩
  rw [SeqAt.eqv_refl _ (SeqAt.canLay_of_shaped (shaped_lstrs hl))]
  exact q
def spRightT (T : List (Addr × Str)) (c : Nat) : Sp := fun vs H Q _ => ∃ (l : Addr) (n : Nat), vs = [.ref l] ∧ Tabs T H ∧ Dice H l (n + c) ∧ ∀ H', KpN l H H' → Tabs T H' → Dice H' l n → Q (.bl true) H'
end G
/-! What two rows of k07 print, and the first dearer piece. -/
namespace G
open PySem PySem.Spec PyProof.Rows L2 LamX
theorem lett_bd {c : Nat} (h : lett c = true) : c < 16 ^ 8 := by
  have h2 : (decide (97 ≤ c) && decide (c ≤ 122)) = true := h
  rw [Bool.and_eq_true] at h2
  have := of_decide_eq_true h2.2
  omega
/-- the head of a row of words, or none -/
def hdV : List Str → V | [] => .non | z :: _ => .str z
def hdD : List Str → PyData | [] => .none | z :: _ => .str z
theorem hd_dp {K : PySem.W.Frag} {H : Hp} (zs : List Str) : Dp K H (hdV zs) (hdD zs) := by
  cases zs with
  | nil => exact .non
  | cons z r => exact .str z
theorem hd_shw {zs : List Str} (h : ∀ z ∈ zs, z.length ≤ 5 ∧ ∀ c ∈ cs z, lett c = true) : Shw (hdD zs) 0 1000 := by
  cases zs with
  | nil => exact shw_non6
  | cons z r => exact shw_word (h z List.mem_cons_self).1 fun c hc => lett_bd ((h z List.mem_cons_self).2 c hc)
theorem repr_five {K : PySem.W.Frag} {H : Hp} {a : Addr} {x y : V} {d e : PyData} {b1 b2 b3 : Bool} {Q : VK} (h : H a = some (.lst [x, y, .bl b1, .bl b2, .bl b3])) (hx : Dp K H x d) (hy : Dp K H y e) (sd : Shw d 0 1000) (se : Shw e 0 1000)
    (q : Q (.str (PyData.list [d, e, .bool b1, .bool b2, .bool b3]).shown) H) : rRepr K [.ref a] H Q := by
  have S : Shw (PyData.list [d, e, .bool b1, .bool b2, .bool b3]) 1 _ := shw_list (k := 0) (n := 1000) fun f hf => by
    simp only [List.mem_cons, List.not_mem_nil, or_false] at hf
    rcases hf with rfl | rfl | rfl | rfl | rfl
    · exact sd
    · exact se
    · exact (shw_bool b1).le (Nat.le_refl _) (by omega)
    · exact (shw_bool b2).le (Nat.le_refl _) (by omega)
    · exact (shw_bool b3).le (Nat.le_refl _) (by omega)
  exact ⟨_, _, rfl, .lst (SqL.of h) (.cons hx (.cons hy (.cons (.bl b1) (.cons (.bl b2) (.cons (.bl b3) .nil))))), S.s, S.h, Nat.le_trans S.dp (by omega), Nat.le_trans S.len (fits_sz (by show _ ≤ 100000; simp)), q⟩
theorem repr_strsT {K : PySem.W.Frag} {H : Hp} {a : Addr} {zs : List Str} {Q : VK} (h : H a = some (.tup (zs.map V.str))) (hl : zs.length ≤ 12) (hz : ∀ z ∈ zs, z.length ≤ 5 ∧ ∀ c ∈ cs z, lett c = true) (q : Q (.str (PyData.tuple (zs.map PyData.str)).shown) H) : rRepr K [.ref a] H Q := by
  have S : Shw (PyData.tuple (zs.map PyData.str)) 1 _ := shw_tuple (k := 0) (n := 1000) fun f hf => by
    obtain ⟨z, hm, rfl⟩ := List.mem_map.mp hf
    exact shw_word (hz z hm).1 fun c hc => lett_bd ((hz z hm).2 c hc)
  refine ⟨_, _, rfl, .tup (SqT.of h) (dpAll_strs zs), S.s, S.h, Nat.le_trans S.dp (by omega), Nat.le_trans S.len (fits_sz ?_), q⟩
  rw [List.length_map]
  have : zs.length * (1000 + 2) ≤ 12 * 1002 := Nat.mul_le_mul hl (Nat.le_refl _)
  omega
theorem shw_dpairs {ks : List (Str × Int)} (hl : ks.length ≤ 12) (h : ∀ e ∈ ks, e.1.length ≤ 5 ∧ (∀ c ∈ cs e.1, lett c = true) ∧ 0 ≤ e.2 ∧ e.2 ≤ 99) : Shw (dPairs ks) 2 50000 := by
  have S : Shw (dPairs ks) 2 _ := shw_list (k := 1) (n := 3850) fun f hf => by
    obtain ⟨e, he, rfl⟩ := List.mem_map.mp hf
    obtain ⟨h1, h2, h3, h4⟩ := h e he
    have T := shw_tuple (ds := [PyData.str e.1, .int e.2]) (k := 0) (n := 1921) fun g hg => by
      simp only [List.mem_cons, List.not_mem_nil, or_false] at hg
      rcases hg with rfl | rfl
      · exact (shw_word h1 fun c hc => lett_bd (h2 c hc)).le (Nat.le_refl _) (by omega)
      · refine shw_int ?_
        have : e.2.natAbs.log2 ≤ e.2.natAbs := Nat.log2_le_self _
        omega
    exact T.le (Nat.le_refl _) (by show 2 * 1923 + 4 ≤ 3850; omega)
  refine S.le (Nat.le_refl _) ?_
  rw [List.length_map]
  have : ks.length * (3850 + 2) ≤ 12 * 3852 := Nat.mul_le_mul hl (Nat.le_refl _)
  omega
theorem repr_pairsL {K : PySem.W.Frag} {H : Hp} {a : Addr} {vs : List V} {ks : List (Str × Int)} {Q : VK} (h : H a = some (.lst vs)) (dp : DpAll K H vs (ks.map fun e => PyData.tuple [.str e.1, .int e.2])) (hl : ks.length ≤ 12)
    (hk : ∀ e ∈ ks, e.1.length ≤ 5 ∧ (∀ c ∈ cs e.1, lett c = true) ∧ 0 ≤ e.2 ∧ e.2 ≤ 99) (q : Q (.str (dPairs ks).shown) H) : rRepr K [.ref a] H Q := by
  have S := shw_dpairs hl hk
  exact ⟨_, _, rfl, .lst (SqL.of h) dp, S.s, S.h, Nat.le_trans S.dp (by omega), Nat.le_trans S.len (fits_sz (by omega)), q⟩
/-- what dearer_piece tells is the first of the dearer ones -/
theorem dear_head {F1 F2 : Tf} {r : V} {zs : List Str} (d : DearR F1 F2 r) (m : ∀ z, z ∈ zs ↔ ∃ q, F2 z = some q ∧ q < lp F1 (cs z)) (so : zs.Pairwise (fun y z => cs y ≤ cs z)) : r = hdV zs := by
  rcases d with ⟨rfl, no⟩ | ⟨z, p, rfl, hp, lt, low⟩
  · cases zs with
    | nil => rfl
    | cons y t =>
      obtain ⟨q, hq, h⟩ := (m y).mp List.mem_cons_self
      have := no y q hq
      omega
  · have hz := (m z).mpr ⟨p, hp, lt⟩
    cases zs with
    | nil => exact absurd hz List.not_mem_nil
    | cons y t =>
      obtain ⟨q, hq, h⟩ := (m y).mp List.mem_cons_self
      have le : cs y ≤ cs z := by
        rcases List.mem_cons.mp hz with e | e
        · rw [e]
          exact List.le_refl _
        · exact (List.pairwise_cons.mp so).1 z e
      show V.str z = V.str y
      refine congrArg V.str (str_ext ?_)
      rcases List.le_iff_lt_or_eq.mp le with h2 | h2
      · have := low y q hq h2
        omega
      · exact h2.symm
theorem dear_nil {F1 F2 : Tf} {zs : List Str} (m : ∀ z, z ∈ zs ↔ ∃ q, F2 z = some q ∧ q < lp F1 (cs z)) : zs.isEmpty = true ↔ NoDear F1 F2 := by
  rw [List.isEmpty_iff]
  constructor
  · intro e z p hp
    have h : ¬ p < lp F1 (cs z) := fun h => by
      have := (m z).mpr ⟨p, hp, h⟩
      rw [e] at this
      exact List.not_mem_nil this
    omega
  · intro no
    cases zs with
    | nil => rfl
    | cons y t =>
      obtain ⟨q, hq, h⟩ := (m y).mp List.mem_cons_self
      have := no y q hq
      omega
theorem rEq_nilS {K : PySem.W.Frag} {H : Hp} {a p : Addr} {zs : List Str} {Q : VK} (h : SqL K H a (zs.map V.str)) (hp : H p = some (.lst [])) (hl : ∀ z ∈ zs, ∀ c ∈ cs z, lett c = true) (q : Q (.bl zs.isEmpty) H) : rEqD K (.ref a) (.ref p) H Q := by
  refine ⟨.list (zs.map PyData.str), .list [], .lst h (dpAll_strs zs), .lst (SqL.of hp) .nil, shaped_lstrs hl, by decide, ?_⟩
  rw [eqv_nil]
  exact q
theorem hd_at {zs : List Str} : (zs.map V.str ++ [V.non])[0]? = some (hdV zs) := by cases zs <;> rfl
theorem same_words {xs ys : List Str} (h : ∀ z, z ∈ xs ↔ z ∈ ys) (px : xs.Pairwise fun a b => cs a ≤ cs b) (nx : xs.Nodup) (py : ys.Pairwise fun a b => cs a ≤ cs b) (ny : ys.Nodup) : xs = ys :=
  so_eq px py ((List.perm_ext_iff_of_nodup nx ny).mpr h)
theorem rEq_nilV {K : PySem.W.Frag} {H : Hp} {a p : Addr} {zs : List Str} {v : Bool} {Q : VK} (h : SqL K H a (zs.map V.str)) (hp : H p = some (.lst [])) (hl : ∀ z ∈ zs, ∀ c ∈ cs z, lett c = true) (e : zs.isEmpty = v) (q : Q (.bl v) H) : rEqD K (.ref a) (.ref p) H Q :=
  rEq_nilS h hp hl (by rw [e]; exact q)
theorem mergeV {P : Hp → Bool → Prop} {C : Hp → Bool → Prop} {R : Prop} (a : (∀ G v, C G v → P G v) → R) (b : ∀ G v, C G v → P G v) : R := a b
theorem Book1.kpn {C : Addr} {H H' : Hp} {b l : Addr} {n : Nat} {kvs : List (Key × V)} (B : Book1 C H b kvs) (D : Dice H l n) (k : KpN l H H') : Book1 C H' b kvs := by
  obtain ⟨ys, L, M, dx, d, tp, ta, od, h1, h2, A⟩ := B.ex
  have ne : ∀ {a : Addr} {o : HO}, H a = some o → (∀ xs, o ≠ .lst xs) → a ≠ l := fun h hn e => by
    obtain ⟨_, _, _, h2, _⟩ := D
    rw [e, h2] at h
    exact hn _ (Option.some.inj h).symm
  exact ⟨B.av, B.nd, ys, L, M, dx, d, tp, ta, od, h1, h2, k _ _ A.ob (fun _ e => by cases e) (ne A.ob fun _ e => by cases e), k _ _ A.dc (fun _ e => by cases e) (ne A.dc fun _ e => by cases e), k _ _ A.pi (fun _ e => by cases e) (ne A.pi fun _ e => by cases e), k _ _ A.al (fun _ e => by cases e) (ne A.al fun _ e => by cases e), A.lo, A.de⟩
end G
/-! The two written books of k07. -/
namespace G
open PySem PySem.Spec PyProof.Rows L2 LamX
theorem two_low {F : Tf} (G : Good F) {x y : Nat} (o : Over F [x, y]) (h : ∀ z p, F z = some p → cs z = [x, y] → 2 ≤ p) : 2 ≤ lp F [x, y] := by
  obtain ⟨c, ⟨h1, h2⟩, e⟩ := lp_cut G o
  rw [← e]
  have pos : ∀ q ∈ c, 1 ≤ q.2 := fun q hq => (G.pos q.1 q.2 (h1 q hq)).1
  match c, h1, h2, pos with
  | [], _, h2, _ => cases h2
  | [q], h1, h2, _ =>
    have e1 : cs q.1 = [x, y] := by simpa using h2
    have := h q.1 q.2 (h1 q List.mem_cons_self) e1
    show 2 ≤ fee [q]
    unfold fee
    simp
    omega
  | q :: r :: t, h1, h2, pos =>
    have p1 := pos q List.mem_cons_self
    have p2 := pos r (List.mem_cons_of_mem _ List.mem_cons_self)
    have p3 : 0 ≤ (t.map (·.2)).sum := by
      have : ∀ m : Ps, (∀ q ∈ m, 1 ≤ q.2) → 0 ≤ (m.map (·.2)).sum := by
        intro m hm
        induction m with
        | nil => simp
        | cons a s ih =>
          have h1 := hm a List.mem_cons_self
          have h2 := ih fun q hq => hm q (List.mem_cons_of_mem _ hq)
          rw [List.map_cons, List.sum_cons]
          omega
      exact this t fun q hq => pos q (List.mem_cons_of_mem _ (List.mem_cons_of_mem _ hq))
    show 2 ≤ fee (q :: r :: t)
    unfold fee
    rw [List.map_cons, List.map_cons, List.sum_cons, List.sum_cons]
    omega
abbrev sA : Str := Str.ofString "a"
abbrev sB : Str := Str.ofString "b"
abbrev sAB : Str := Str.ofString "ab"
abbrev sABAB : Str := Str.ofString "abab"
abbrev sBA : Str := Str.ofString "ba"
def bkK : List (Key × V) := [(Sum.inr sA, .int 1), (Sum.inr sB, .int 1), (Sum.inr sAB, .int 2), (Sum.inr sABAB, .int 4), (Sum.inr sBA, .int 1)]
def drK : List (Key × V) := [(Sum.inr sA, .int 1), (Sum.inr sB, .int 1), (Sum.inr sAB, .int 1), (Sum.inr sABAB, .int 3), (Sum.inr sBA, .int 99)]
theorem bk_av : arePrices bkK = true := by decide +kernel
theorem dr_av : arePrices drK = true := by decide +kernel
theorem bk_nd : (bkK.map (·.1)).Nodup := by decide +kernel
theorem dr_nd : (drK.map (·.1)).Nodup := by decide +kernel
theorem keys5 {kvs : List (Key × V)} (e : keyStrs kvs = [sA, sB, sAB, sABAB, sBA]) (al : (kvs.all fun kv => isPiece (kV kv.1) && isPrice kv.2) = true) {z : Str} {p : Int} (h : tfD kvs z = some p) : z = sA ∨ z = sB ∨ z = sAB ∨ z = sABAB ∨ z = sBA := by
  have := (tf_key al).mpr ⟨p, h⟩
  rw [e] at this
  simpa using this
theorem bk_keys : keyStrs bkK = [sA, sB, sAB, sABAB, sBA] := by decide +kernel
theorem dr_keys : keyStrs drK = [sA, sB, sAB, sABAB, sBA] := by decide +kernel
theorem bkA : tfD bkK sA = some 1 := tf_some.mpr (by decide +kernel)
theorem bkB : tfD bkK sB = some 1 := tf_some.mpr (by decide +kernel)
theorem bkAB : tfD bkK sAB = some 2 := tf_some.mpr (by decide +kernel)
theorem bkABAB : tfD bkK sABAB = some 4 := tf_some.mpr (by decide +kernel)
theorem bkBA : tfD bkK sBA = some 1 := tf_some.mpr (by decide +kernel)
theorem drA : tfD drK sA = some 1 := tf_some.mpr (by decide +kernel)
theorem drB : tfD drK sB = some 1 := tf_some.mpr (by decide +kernel)
theorem drAB : tfD drK sAB = some 1 := tf_some.mpr (by decide +kernel)
theorem drABAB : tfD drK sABAB = some 3 := tf_some.mpr (by decide +kernel)
theorem drBA : tfD drK sBA = some 99 := tf_some.mpr (by decide +kernel)
theorem bk_al : (bkK.all fun kv => isPiece (kV kv.1) && isPrice kv.2) = true := (ap_parts bk_av).2.1
theorem dr_al : (drK.all fun kv => isPiece (kV kv.1) && isPrice kv.2) = true := (ap_parts dr_av).2.1
theorem bk_good : Good (tfD bkK) := (tar_of bk_av bk_nd).good
theorem dr_good : Good (tfD drK) := (tar_of dr_av dr_nd).good
theorem cAB : cs sAB = [97, 98] := by decide +kernel
theorem cBA : cs sBA = [98, 97] := by decide +kernel
theorem cA : cs sA = [97] := by decide +kernel
theorem cB : cs sB = [98] := by decide +kernel
theorem cABAB : cs sABAB = [97, 98, 97, 98] := by decide +kernel
theorem ovX {F : Tf} (ha : ∃ p, F sA = some p) (hb : ∃ p, F sB = some p) {l : List Nat} (h : ∀ c ∈ l, c = 97 ∨ c = 98) : Over F l := fun c hc => by
  rcases h c hc with rfl | rfl
  · exact ha
  · exact hb
theorem rem_ne {F : Tf} {z y : Str} {p : Int} (n : y ≠ z) (h : F y = some p) : remF F z y = some p := by
  unfold remF
  rw [if_neg n]
  exact h
theorem abl : ∀ c ∈ [97, 98], c = 97 ∨ c = 98 := by decide
theorem bal : ∀ c ∈ [98, 97], c = 97 ∨ c = 98 := by decide
theorem cut2 {F : Tf} {x y : Str} {p q : Int} (hx : F x = some p) (hy : F y = some q) {l : List Nat} (e : cs x ++ cs y = l) : Cut F l [(x, p), (y, q)] :=
  ⟨fun r hr => by
    simp only [List.mem_cons, List.not_mem_nil, or_false] at hr
    rcases hr with rfl | rfl
    · exact hx
    · exact hy, by rw [← e]; simp⟩
theorem le2 {F : Tf} (G : Good F) {x y : Str} {p q : Int} (hx : F x = some p) (hy : F y = some q) {l : List Nat} (e : cs x ++ cs y = l) (o : Over F l) : lp F l ≤ p + q := by
  have h := lp_le G (cut2 hx hy e) o
  have e2 : fee [(x, p), (y, q)] = p + q := by
    unfold fee
    simp
  omega

theorem nAB : 1 < (cs sAB).length := by decide +kernel
theorem nBA : 1 < (cs sBA).length := by decide +kernel
theorem nABAB : 1 < (cs sABAB).length := by decide +kernel
theorem ov_all {F : Tf} (ha : ∃ p, F sA = some p) (hb : ∃ p, F sB = some p) : Over F (cs sAB) ∧ Over F (cs sBA) ∧ Over F (cs sABAB) :=
  ⟨ovX ha hb (by decide +kernel), ovX ha hb (by decide +kernel), ovX ha hb (by decide +kernel)⟩
theorem aAB : sA ≠ sAB := by decide +kernel
theorem bAB : sB ≠ sAB := by decide +kernel
theorem aBA : sA ≠ sBA := by decide +kernel
theorem bBA : sB ≠ sBA := by decide +kernel
theorem abABAB : sAB ≠ sABAB := by decide +kernel
theorem ab_ab : cs sA ++ cs sB = cs sAB := by decide +kernel
theorem ba_ba : cs sB ++ cs sA = cs sBA := by decide +kernel
theorem abab_ : cs sAB ++ cs sAB = cs sABAB := by decide +kernel
theorem low_BA {F : Tf} (G : Good F) (o : Over F (cs sBA)) (h : ∀ p, F sBA = some p → 2 ≤ p) : 2 ≤ lp F (cs sBA) := by
  rw [cBA] at o ⊢
  exact two_low G o fun z p hp e => by
    have : z = sBA := str_ext (by rw [e, cBA])
    subst this
    exact h p hp
theorem low_AB {F : Tf} (G : Good F) (o : Over F (cs sAB)) (h : ∀ p, F sAB = some p → 2 ≤ p) : 2 ≤ lp F (cs sAB) := by
  rw [cAB] at o ⊢
  exact two_low G o fun z p hp e => by
    have : z = sAB := str_ext (by rw [e, cAB])
    subst this
    exact h p hp
theorem remz {F : Tf} {z : Str} {p : Int} (h : remF F z z = some p) : False := by
  unfold remF at h
  rw [if_pos rfl] at h
  cases h
theorem bk_need (z : Str) : z ∈ [sAB, sABAB] ↔ Needless (tfD bkK) z := by
  constructor
  · intro h
    simp only [List.mem_cons, List.not_mem_nil, or_false] at h
    rcases h with rfl | rfl
    · have h := le2 (rem_good bk_good nAB) (rem_ne aAB bkA) (rem_ne bAB bkB) ab_ab (rem_over nAB (ov_all ⟨_, bkA⟩ ⟨_, bkB⟩).1)
      exact ⟨2, bkAB, nAB, h⟩
    · have h := le2 (rem_good bk_good nABAB) (rem_ne abABAB bkAB) (rem_ne abABAB bkAB) abab_ (rem_over nABAB (ov_all ⟨_, bkA⟩ ⟨_, bkB⟩).2.2)
      exact ⟨4, bkABAB, nABAB, h⟩
  · rintro ⟨p, hp, h1, h2⟩
    rcases keys5 bk_keys bk_al hp with rfl | rfl | rfl | rfl | rfl
    · exact absurd h1 (by decide +kernel)
    · exact absurd h1 (by decide +kernel)
    · exact List.mem_cons_self
    · exact List.mem_cons_of_mem _ List.mem_cons_self
    · have h3 := low_BA (rem_good bk_good nBA) (rem_over nBA (ov_all ⟨_, bkA⟩ ⟨_, bkB⟩).2.1) fun q hq => (remz hq).elim
      rw [bkBA] at hp
      cases hp
      omega
theorem dr_need (z : Str) : z ∈ [sABAB, sBA] ↔ Needless (tfD drK) z := by
  constructor
  · intro h
    simp only [List.mem_cons, List.not_mem_nil, or_false] at h
    rcases h with rfl | rfl
    · have h := le2 (rem_good dr_good nABAB) (rem_ne abABAB drAB) (rem_ne abABAB drAB) abab_ (rem_over nABAB (ov_all ⟨_, drA⟩ ⟨_, drB⟩).2.2)
      exact ⟨3, drABAB, nABAB, by omega⟩
    · have h := le2 (rem_good dr_good nBA) (rem_ne bBA drB) (rem_ne aBA drA) ba_ba (rem_over nBA (ov_all ⟨_, drA⟩ ⟨_, drB⟩).2.1)
      exact ⟨99, drBA, nBA, by omega⟩
  · rintro ⟨p, hp, h1, h2⟩
    rcases keys5 dr_keys dr_al hp with rfl | rfl | rfl | rfl | rfl
    · exact absurd h1 (by decide +kernel)
    · exact absurd h1 (by decide +kernel)
    · have h3 := low_AB (rem_good dr_good nAB) (rem_over nAB (ov_all ⟨_, drA⟩ ⟨_, drB⟩).1) fun q hq => (remz hq).elim
      rw [drAB] at hp
      cases hp
      omega
    · exact List.mem_cons_self
    · exact List.mem_cons_of_mem _ List.mem_cons_self
theorem bk_dear {r : V} (d : DearR (tfD bkK) (tfD drK) r) : r = .str sAB := by
  have lo : 2 ≤ lp (tfD bkK) (cs sAB) := low_AB bk_good (ov_all ⟨_, bkA⟩ ⟨_, bkB⟩).1 fun p hp => by rw [bkAB] at hp; cases hp; decide
  rcases d with ⟨_, no⟩ | ⟨z, p, rfl, hp, lt, low⟩
  · have := no sAB 1 drAB
    omega
  · rcases keys5 dr_keys dr_al hp with rfl | rfl | rfl | rfl | rfl
    · have := lp_piece bk_good bkA
      rw [drA] at hp
      cases hp
      omega
    · have := lp_piece bk_good bkB
      rw [drB] at hp
      cases hp
      omega
    · rfl
    · have := low sAB 1 drAB (by decide +kernel)
      omega
    · have := low sAB 1 drAB (by decide +kernel)
      omega
theorem dr_dear {r : V} (d : DearR (tfD drK) (tfD bkK) r) : r = .str sBA := by
  have lo : 2 ≤ lp (tfD drK) (cs sBA) := low_BA dr_good (ov_all ⟨_, drA⟩ ⟨_, drB⟩).2.1 fun p hp => by rw [drBA] at hp; cases hp; decide
  rcases d with ⟨_, no⟩ | ⟨z, p, rfl, hp, lt, low⟩
  · have := no sBA 1 bkBA
    omega
  · rcases keys5 bk_keys bk_al hp with rfl | rfl | rfl | rfl | rfl
    · have := lp_piece dr_good drA
      rw [bkA] at hp
      cases hp
      omega
    · have := lp_piece dr_good drB
      rw [bkB] at hp
      cases hp
      omega
    · have := lp_piece dr_good drAB
      rw [bkAB] at hp
      cases hp
      omega
    · have := le2 dr_good drAB drAB abab_ (ov_all ⟨_, drA⟩ ⟨_, drB⟩).2.2
      rw [bkABAB] at hp
      cases hp
      omega
    · rfl
theorem co_same : SameSigns (tfD bkK) (tfD drK) := fun c => by
  have one : ∀ {kvs : List (Key × V)}, keyStrs kvs = [sA, sB, sAB, sABAB, sBA] → (kvs.all fun kv => isPiece (kV kv.1) && isPrice kv.2) = true → ((∃ p, tfD kvs (ch c) = some p) ↔ ch c ∈ [sA, sB, sAB, sABAB, sBA]) := fun e al => by
    rw [← tf_key al, e]
  exact (one bk_keys bk_al).trans (one dr_keys dr_al).symm
theorem dr_least {kvs' : List (Key × V)} (h : ∀ z q, tfD kvs' z = some q ↔ tfD drK z = some q ∧ ¬ Needless (tfD drK) z) (z : Str) : (∃ q, tfD kvs' z = some q) ↔ z ∈ [sA, sAB, sB] := by
  constructor
  · rintro ⟨q, hq⟩
    obtain ⟨h1, h2⟩ := (h z q).mp hq
    rw [← dr_need] at h2
    rcases keys5 dr_keys dr_al h1 with rfl | rfl | rfl | rfl | rfl
    · exact List.mem_cons_self
    · simp
    · simp
    · simp at h2
    · simp at h2
  · intro hz
    simp only [List.mem_cons, List.not_mem_nil, or_false] at hz
    rcases hz with rfl | rfl | rfl
    · exact ⟨1, (h _ _).mpr ⟨drA, fun q => absurd ((dr_need _).mpr q) (by decide +kernel)⟩⟩
    · exact ⟨1, (h _ _).mpr ⟨drAB, fun q => absurd ((dr_need _).mpr q) (by decide +kernel)⟩⟩
    · exact ⟨1, (h _ _).mpr ⟨drB, fun q => absurd ((dr_need _).mpr q) (by decide +kernel)⟩⟩
theorem KpN.ext {l : Addr} {H H' : Hp} (k : KpN l H H') (h : H l = none) : ExtN H H' := fun a u e t => k a u e t fun q => by rw [q, h] at e; cases e
theorem ExtN.seq {K : PySem.W.Frag} {a : Addr} {H H' : Hp} {xs : List V} (k : ExtN H H') (h : SqL K H a xs) : SqL K H' a xs := by
  rcases h with (h | ⟨o, h⟩) | h
  · exact Or.inl (Or.inl (k _ _ h fun _ e => by cases e))
  · exact Or.inl (Or.inr ⟨o, k _ _ h fun _ e => by cases e⟩)
  · exact Or.inr h
end G
namespace K07
open PySem PySem.Spec PyProof.Rows L2 G LamX
open L2 (St)

def top (i : Nat) : Stmt := PySem.Challenge.pw_cutbehind_k07_dearer_and_needless_pieces.main.body.getD i (.Pass ⟨0, 0, 0, 0⟩)
abbrev s_is_integer : Stmt := top 3
abbrev s_is_word : Stmt := top 5
abbrev s_is_piece : Stmt := top 6
abbrev s_is_integer_within : Stmt := top 4
abbrev s_is_price : Stmt := top 19
abbrev s_are_prices : Stmt := top 20
abbrev s_Book___init__ : Stmt := inClass (top 26) 0
abbrev s_Book_prices : Stmt := inClass (top 26) 2
abbrev s_Book_pieces : Stmt := inClass (top 26) 3
abbrev s_Book_alphabet : Stmt := inClass (top 26) 4
abbrev s_least_price : Stmt := top 28
abbrev s_require_book : Stmt := top 23
abbrev s_require_comparable : Stmt := top 29
abbrev s_dearer_in : Stmt := top 30
abbrev s_is_nowhere_dearer : Stmt := top 32
abbrev s_dearer_piece : Stmt := top 33
abbrev s_are_as_cheap : Stmt := top 34
abbrev s_needless_in : Stmt := top 31
abbrev s_needless : Stmt := top 35
abbrev s_least_book : Stmt := top 36
abbrev s__law_dice : Stmt := top 38
abbrev s__law_roll : Stmt := top 39
abbrev s__law_pick : Stmt := top 40
abbrev s__law_some : Stmt := top 41
abbrev s__law_cuts : Stmt := top 43
abbrev s__law_met : Stmt := top 42
abbrev s__law_cost : Stmt := top 45
abbrev s__law_dearer : Stmt := top 46
abbrev s__law_needless : Stmt := top 47
abbrev s__law_two : Stmt := top 44
abbrev s__law_errors_right : Stmt := top 48
abbrev s__law_right : Stmt := top 49
abbrev s_law : Stmt := top 50
structure Txt (K : PySem.W.Frag) (mg : Str → Option Value) (C CE CB CT CO : Addr) : Prop where
  cl : Cls K C
  ic : C8.InsC K C
  n_own_prices : NoAttr K C "own_prices"
  n_own_pieces : NoAttr K C "own_pieces"
  n_own_alphabet : NoAttr K C "own_alphabet"
  n_own_longest : NoAttr K C "own_longest"
  n_own_dearest : NoAttr K C "own_dearest"
  gC : mg "Book" = some (.ref C)
  nc : NoC K C
  e_CutError : ErrC K mg "CutError" CE
  e_InvalidBook : ErrC K mg "InvalidBook" CB
  e_InvalidText : ErrC K mg "InvalidText" CT
  e_InvalidOperation : ErrC K mg "InvalidOperation" CO
  k_InvalidBook : ErrK K CE CB CT CO CB "book"
  k_InvalidOperation : ErrK K CE CB CT CO CO "operation"
  b_ValueError : mg "ValueError" = none
  b_abs : mg "abs" = none
  b_all : mg "all" = none
  b_bool : mg "bool" = none
  b_dict : mg "dict" = none
  b_int : mg "int" = none
  b_isinstance : mg "isinstance" = none
  b_len : mg "len" = none
  b_list : mg "list" = none
  b_max : mg "max" = none
  b_min : mg "min" = none
  b_range : mg "range" = none
  b_repr : mg "repr" = none
  b_sorted : mg "sorted" = none
  b_str : mg "str" = none
  b_sum : mg "sum" = none
  b_tuple : mg "tuple" = none
  g_MAX_ALPHABET : ∃ t, mg "MAX_ALPHABET" = some (.int 4 t)
  g_MAX_PIECES : ∃ t, mg "MAX_PIECES" = some (.int 12 t)
  g_MAX_PRICE : ∃ t, mg "MAX_PRICE" = some (.int 99 t)
  g_PIECE_SIGNS : ∃ t, mg "PIECE_SIGNS" = some (.int 5 t)

section
variable {P : Program} {w : World} {K : PySem.W.Frag} {mg : Str → Option Value} {base : Heap} {C CE CB CT CO PT : Addr}
theorem sc_is_integer : FnScope ["value"] ["value"] (defScope s_is_integer) := ⟨rfl, rfl, rfl, by decide +kernel, rfl, by decide +kernel, by decide +kernel⟩
theorem ok_is_integer {f : Addr} {fd : FuncData} (F : Fun K "is_integer" "is_integer" s_is_integer f fd) (T : Txt K mg C CE CB CT CO) : FnOk P w K mg base CX0 1 f fd ["value"] (spIsI K isInteger) := by
  refine F.ok sc_is_integer (fun vs H Q E h => ?_) (fun cdv A outer s H vs Q E hr h => ?_)
  · obtain ⟨x, rfl, _⟩ := h
    rfl
  · have hu := hu_of hr
    obtain ⟨x, rfl, ty, k⟩ := h
    obtain ⟨t, ht, hs, hi, hb⟩ := id ty
    have k0 := k H (Same.refl H)
    refine ⟨_, (pss_cons (ps_if (PW.pt (pw_or (pt_val (pe_callB (g_isi K) (by rfl) T.b_isinstance (by decide +kernel) (pa_cons (pv 0) (pa_cons (pe_bltn (v := .ty "bool") rfl T.b_bool (by decide +kernel) rfl) pa_nil)))) (pw_or1 (pt_not (pt_val (pe_callB (g_isi K) (by rfl) T.b_isinstance (by decide +kernel) (pa_cons (pv 0) (pa_cons (pe_bltn (v := .ty "int") rfl T.b_int (by decide +kernel) rfl) pa_nil)))))))) (pss_one (ps_ret pe_bl)) pss_nil)
      (pss_one (ps_ret (pe_cmpR op_lt (pe_callB call_abs (by rfl) T.b_abs (by decide +kernel) (pa_cons (pv 0) pa_nil)) (pe_op op_powW pe_int pe_int) (nomark _))))), ?_⟩
    cases x with
    | bl b =>
      refine ⟨_, rfl, _, _, _, _, _, rfl, .ty _, ht, hb, _, rfl, ?_⟩
      exact k0
    | int i =>
      refine ⟨_, rfl, _, _, _, _, _, rfl, .ty _, ht, hb, _, rfl, ?_⟩
      refine ⟨_, rfl, _, _, _, _, _, rfl, .ty _, ht, hi, _, rfl, ?_⟩
      refine ⟨_, rfl, _, rfl, _, _, rfl, rfl, ⟨by decide, by decide +kernel⟩, _, _, rfl, rfl, ?_⟩
      have e : decide ((if i < 0 then -i else i) < (10 : Int) ^ (60 : Int).toNat) = isInteger (.int i) := abs_lt i
      rw [← e] at k0
      exact k0
    | _ =>
      refine ⟨_, rfl, _, _, _, _, _, rfl, .ty _, ht, hb, _, rfl, ?_⟩
      refine ⟨_, rfl, _, _, _, _, _, rfl, .ty _, ht, hi, _, rfl, ?_⟩
      exact k0
theorem sc_is_word : FnScope ["value", "letter"] ["value"] (defScope s_is_word) := ⟨rfl, rfl, rfl, by decide +kernel, rfl, by decide +kernel, by decide +kernel⟩
theorem ok_is_word {f : Addr} {fd : FuncData} (F : Fun K "is_word" "is_word" s_is_word f fd) (T : Txt K mg C CE CB CT CO) : FnOk P w K mg base CX0 1 f fd ["value"] (spIs K isWord) := by
  refine F.ok sc_is_word (fun vs H Q E h => ?_) (fun cdv A outer s H vs Q E hr h => ?_)
  · obtain ⟨x, rfl, _⟩ := h
    rfl
  · have hu := hu_of hr
    obtain ⟨x, rfl, ty, sz, k⟩ := h
    obtain ⟨t, ht, hs, hi, hb⟩ := id ty
    have k0 := k H (Same.refl H)
    refine ⟨_, (pss_one (ps_ret (pe_and (pe_callB (g_isi K) (by rfl) T.b_isinstance (by decide +kernel) (pa_cons (pv 0) (pa_cons (pe_bltn (v := .ty "str") rfl T.b_str (by decide +kernel) rfl) pa_nil))) (pe_and (pe_cmpR op_ne (pv 0) pe_str (nomark _)) (pe_one (pe_callB (g_all K rfl) (by rfl) T.b_all (by decide +kernel) (pa_cons (pe_lc (own := [("letter", 1)]) rfl sc_is_word.nd (pi_str (pv 0)) (blkOk_by (own := [("letter", 1)]) (N := ["value", "letter"]) (sc := defScope s_is_word) (by decide +kernel)) (fun _ _ _ _ _ => (pg_name (i := 1) sc_is_word.nd rfl (Or.inl rfl))) (fun _ _ _ _ _ => pts_nil) (fun _ _ _ _ _ => (pe_chain op_le_str op_le_str pe_str (pv 1) pe_str))) pa_nil))))))), ?_⟩
    cases x with
    | str z =>
      have sz' : z.length ≤ sizeLine := fits_sz sz
      refine ⟨_, rfl, _, _, _, _, _, rfl, .ty _, ht, hs, _, rfl, ?_⟩
      refine ⟨_, rfl, rfl, _, rfl, ?_⟩
      rw [v_str_ne]
      refine itB (fun e1 => ?_) (fun e1 => ?_)
      · refine ⟨_, rfl, _, rfl, fun D hD => ?_⟩
        refine lcp_str (fun c => .bl (lett c)) sz' (fun c acc N hc hN => ?_) ?_
        · refine ⟨_, rfl, _, _, rfl, rfl, _, rfl, ?_⟩
          show if (!decide (([c] : List Nat) < [97])) = true then _ else _
          rw [(lett_eq c).1]
          refine itB (fun e2 => ?_) (fun e2 => ?_)
          · refine ⟨_, _, rfl, rfl, ?_⟩
            show N (.bl (!decide (([122] : List Nat) < [c]))) _
            rw [(lett_eq c).2, ← lett_of e2]
            exact hN
          · rw [lett_no e2] at hN
            exact hN
        · refine ⟨_, (cs z).map lett, rfl, SqL.of (by rw [upd_same, List.map_map]; rfl), ?_⟩
          have e4 : ((cs z).map lett).all id = isWord (.str z) := by
            show _ = (!(cs z).isEmpty && (cs z).all lett)
            rw [e1, List.all_map]
            rfl
          rw [e4]
          exact k _ (same_new hD)
      · have e4 : isWord (.str z) = false := by
          show (!(cs z).isEmpty && (cs z).all lett) = false
          rw [e1]
          rfl
        rw [e4] at k0
        exact k0
    | _ =>
      refine ⟨_, rfl, _, _, _, _, _, rfl, .ty _, ht, hs, _, rfl, ?_⟩
      exact k0
theorem sc_is_piece : FnScope ["value"] ["value"] (defScope s_is_piece) := ⟨rfl, rfl, rfl, by decide +kernel, rfl, by decide +kernel, by decide +kernel⟩
theorem ok_is_piece {f : Addr} {fd : FuncData} (F : Fun K "is_piece" "is_piece" s_is_piece f fd) (T : Txt K mg C CE CB CT CO) (c_is_word : HasO P w K mg base CX0 1 "is_word" ["value"] (spIs K isWord)) : FnOk P w K mg base CX0 2 f fd ["value"] (spIs K isPiece) := by
  refine F.ok sc_is_piece (fun vs H Q E h => ?_) (fun cdv A outer s H vs Q E hr h => ?_)
  · obtain ⟨x, rfl, _⟩ := h
    rfl
  · have hu := hu_of hr
    obtain ⟨x, rfl, ty, sz, k⟩ := h
    obtain ⟨t, ht, hs, hi, hb⟩ := id ty
    have k0 := k H (Same.refl H)
    refine ⟨_, (pss_one (ps_ret (pe_and (pe_callB (g_isi K) (by rfl) T.b_isinstance (by decide +kernel) (pa_cons (pv 0) (pa_cons (pe_bltn (v := .ty "str") rfl T.b_str (by decide +kernel) rfl) pa_nil))) (pe_and (pe_chain op_le op_le pe_int (pe_callB call_len_str (by rfl) T.b_len (by decide +kernel) (pa_cons (pv 0) pa_nil)) (pe_glob (v := .int 5) rfl T.g_PIECE_SIGNS.choose_spec ⟨_, rfl⟩)) (pe_one (pe_hasO c_is_word (hr.mono (by decide)) pass0 (pa_cons (pv 0) pa_nil))))))), ?_⟩
    cases x with
    | str z =>
      have sz' : z.length ≤ sizeLine := fits_sz sz
      refine ⟨_, rfl, _, _, _, _, _, rfl, .ty _, ht, hs, _, rfl, ?_⟩
      refine ⟨_, rfl, _, rfl, sz', _, _, rfl, rfl, _, rfl, ?_⟩
      refine itB (fun e1 => ?_) (fun e1 => ?_)
      · have e1' := of_decide_eq_true e1
        refine ⟨_, _, rfl, rfl, _, rfl, ?_⟩
        refine itB (fun e2 => ?_) (fun e2 => ?_)
        · have e2' := of_decide_eq_true e2
          refine ⟨_, rfl, _, rfl, ty, sz, fun H' s' => ?_⟩
          have e5 : isWord (.str z) = isPiece (.str z) := by
            show (!(cs z).isEmpty && (cs z).all lett) = (decide (1 ≤ (cs z).length) && decide ((cs z).length ≤ 5) && (cs z).all lett)
            rw [cs_len, decide_eq_true (by omega), decide_eq_true (by omega)]
            have : (cs z).isEmpty = false := by
              cases hz : cs z with
              | nil =>
                have := cs_len z
                rw [hz] at this
                simp at this
                omega
              | cons a l => rfl
            rw [this]
            rfl
          rw [e5]
          exact k _ s'
        · have e2' := of_decide_eq_false e2
          have e4 : isPiece (.str z) = false := by
            show (decide (1 ≤ (cs z).length) && decide ((cs z).length ≤ 5) && (cs z).all lett) = false
            rw [cs_len, decide_eq_false (by omega : ¬ z.length ≤ 5), Bool.and_false]
            rfl
          rw [e4] at k0
          exact k0
      · have e1' := of_decide_eq_false e1
        have e4 : isPiece (.str z) = false := by
          show (decide (1 ≤ (cs z).length) && decide ((cs z).length ≤ 5) && (cs z).all lett) = false
          rw [cs_len, decide_eq_false (by omega : ¬ 1 ≤ z.length)]
          rfl
        rw [e4] at k0
        exact ⟨_, rfl, k0⟩
    | _ =>
      refine ⟨_, rfl, _, _, _, _, _, rfl, .ty _, ht, hs, _, rfl, ?_⟩
      exact k0
theorem sc_is_integer_within : FnScope ["value", "least", "most"] ["value", "least", "most"] (defScope s_is_integer_within) := ⟨rfl, rfl, rfl, by decide +kernel, rfl, by decide +kernel, by decide +kernel⟩
theorem ok_is_integer_within {f : Addr} {fd : FuncData} (F : Fun K "is_integer_within" "is_integer_within" s_is_integer_within f fd) (T : Txt K mg C CE CB CT CO) (c_is_integer : HasO P w K mg base CX0 1 "is_integer" ["value"] (spIsI K isInteger)) : FnOk P w K mg base CX0 2 f fd ["value", "least", "most"] (spWithin K) := by
  refine F.ok sc_is_integer_within (fun vs H Q E h => ?_) (fun cdv A outer s H vs Q E hr h => ?_)
  · obtain ⟨x, a, b, rfl, _⟩ := h
    rfl
  · have hu := hu_of hr
    obtain ⟨x, a, b, rfl, ty, k⟩ := h
    refine ⟨_, (pss_one (ps_ret (pe_and (pe_hasO c_is_integer (hr.mono (by decide)) pass0 (pa_cons (pv 0) pa_nil)) (pe_one (pe_chain op_le op_le (pv 1) (pv 0) (pv 2)))))), ?_⟩
    refine ⟨_, rfl, _, rfl, ty, fun H1 s1 => ⟨_, rfl, ?_⟩⟩
    have k1 := k H1 s1
    cases x with
    | int i =>
      refine itB (fun e => ?_) (fun e => ?_)
      · have e' : decide (i.natAbs < 10 ^ 60) = true := e
        have e2 : inRange (.int i) a b = (decide (a ≤ i) && decide (i ≤ b)) := by
          show (decide (i.natAbs < 10 ^ 60) && (decide (a ≤ i) && decide (i ≤ b))) = _
          rw [e']
          rfl
        rw [e2] at k1
        exact chain_le (a := a) (b := i) (c := b) (fun N hN => ⟨_, rfl, hN⟩) (fun N hN => ⟨_, rfl, hN⟩) (fun N hN => ⟨_, rfl, hN⟩) k1
      · have e' : decide (i.natAbs < 10 ^ 60) = false := e
        have e2 : inRange (.int i) a b = false := by
          show (decide (i.natAbs < 10 ^ 60) && (decide (a ≤ i) && decide (i ≤ b))) = _
          rw [e']
          rfl
        rw [e2] at k1
        exact k1
    | _ => exact k1
theorem sc_is_price : FnScope ["value"] ["value"] (defScope s_is_price) := ⟨rfl, rfl, rfl, by decide +kernel, rfl, by decide +kernel, by decide +kernel⟩
theorem ok_is_price {f : Addr} {fd : FuncData} (F : Fun K "is_price" "is_price" s_is_price f fd) (T : Txt K mg C CE CB CT CO) (c_is_integer_within : HasO P w K mg base CX0 2 "is_integer_within" ["value", "least", "most"] (spWithin K)) : FnOk P w K mg base CX0 3 f fd ["value"] (spIsI K isPrice) := by
  refine F.ok sc_is_price (fun vs H Q E h => ?_) (fun cdv A outer s H vs Q E hr h => ?_)
  · obtain ⟨x, rfl, _⟩ := h
    rfl
  · have hu := hu_of hr
    obtain ⟨x, rfl, ty, k⟩ := h
    refine ⟨_, (pss_one (ps_ret (pe_hasO c_is_integer_within (hr.mono (by decide)) pass0 (pa_cons (pv 0) (pa_cons pe_int (pa_cons (pe_glob (v := .int 99) rfl T.g_MAX_PRICE.choose_spec ⟨_, rfl⟩) pa_nil)))))), ?_⟩
    exact ⟨_, rfl, x, 1, 99, rfl, ty, k⟩
theorem sc_are_prices : FnScope ["value", "piece", "sign", "price"] ["value"] (defScope s_are_prices) := ⟨rfl, rfl, rfl, by decide +kernel, rfl, by decide +kernel, by decide +kernel⟩
theorem ok_are_prices {f : Addr} {fd : FuncData} (F : Fun K "are_prices" "are_prices" s_are_prices f fd) (T : Txt K mg C CE CB CT CO) (c_is_piece : HasO P w K mg base CX0 2 "is_piece" ["value"] (spIs K isPiece)) (c_is_price : HasO P w K mg base CX0 3 "is_price" ["value"] (spIsI K isPrice)) : FnOk P w K mg base CX0 4 f fd ["value"] (spArePrices K) := by
  refine F.ok sc_are_prices (fun vs H Q E h => ?_) (fun cdv A outer s H vs Q E hr h => ?_)
  · obtain ⟨x, rfl, _⟩ := h
    rfl
  · have hu := hu_of hr
    obtain ⟨x, rfl, hx⟩ := h
    refine ⟨_, (pss_cons (ps_if (PW.pt (pw_or (pt_not (pt_val (pe_callB (g_isi K) (by rfl) T.b_isinstance (by decide +kernel) (pa_cons (pv 0) (pa_cons (pe_bltn (v := .ty "dict") rfl T.b_dict (by decide +kernel) rfl) pa_nil))))) (pw_or1 (pt_not (pt_chain op_le op_le pe_int (pe_callB call_lenF (by rfl) T.b_len (by decide +kernel) (pa_cons (pv 0) pa_nil)) (pe_glob (v := .int 12) rfl T.g_MAX_PIECES.choose_spec ⟨_, rfl⟩)))))) (pss_one (ps_ret pe_bl)) pss_nil)
      (pss_cons (ps_if (pt_not (pt_val (pe_callB (g_all K rfl) (by rfl) T.b_all (by decide +kernel) (pa_cons (pe_lock (by exact (pe_lc (own := [("piece", 1), ("price", 3)]) rfl sc_are_prices.nd (pi_items (pv 0)) (blkOk_by (own := [("piece", 1), ("price", 3)]) (N := ["value", "piece", "sign", "price"]) (sc := defScope s_are_prices) (by decide +kernel)) (fun _ _ _ _ _ => (g_tup K (n := 2) rfl (pgs_cons (pg_name (i := 1) sc_are_prices.nd rfl (Or.inl rfl)) (pgs_cons (pg_name (i := 3) sc_are_prices.nd rfl (Or.inl rfl)) pgs_nil)))) (fun _ _ _ _ _ => pts_nil) (fun _ _ _ _ _ => (pe_and (pe_hasO c_is_piece (hr.mono (by decide)) pass0 (pa_cons (pv 1) pa_nil)) (pe_one (pe_hasO c_is_price (hr.mono (by decide)) pass0 (pa_cons (pv 3) pa_nil)))))))) pa_nil)))) (pss_one (ps_ret pe_bl)) pss_nil)
      (pss_cons (ps_if (pt_cmpR op_gt (pe_callB (g_len_seq K) (by rfl) T.b_len (by decide +kernel) (pa_cons (pe_lock (by exact (pe_lc (own := [("piece", 1)]) rfl sc_are_prices.nd (pi_keys (pv 0)) (blkOk_by (own := [("piece", 1)]) (N := ["value", "piece", "sign", "price"]) (sc := defScope s_are_prices) (by decide +kernel)) (fun _ _ _ _ _ => (pg_name (i := 1) sc_are_prices.nd rfl (Or.inl rfl))) (fun _ _ _ _ _ => (pts_one (pt_cmpR op_eq (pe_callB call_len_str (by rfl) T.b_len (by decide +kernel) (pa_cons (pv 1) pa_nil)) pe_int (nomark _)))) (fun _ _ _ _ _ => (pv 1))))) pa_nil)) (pe_glob (v := .int 4) rfl T.g_MAX_ALPHABET.choose_spec ⟨_, rfl⟩) (nomark _)) (pss_one (ps_ret pe_bl)) pss_nil)
      (pss_one (ps_ret (pe_callB (g_all K rfl) (by rfl) T.b_all (by decide +kernel) (pa_cons (pe_lock (by exact (pe_lc2 (own := [("piece", 1), ("sign", 2)]) (vs1 := [2]) rfl sc_are_prices.nd (pi_keys (pv 0)) (blkOk_by (own := [("piece", 1), ("sign", 2)]) (N := ["value", "piece", "sign", "price"]) (sc := defScope s_are_prices) (by decide +kernel)) (by decide) (fun _ _ _ _ _ => (pg_name (i := 1) sc_are_prices.nd rfl (Or.inl rfl))) (fun _ _ _ _ _ => pts_nil) (fun _ _ _ _ _ => (pi_str (pv 1))) (fun _ _ _ _ _ => (pg_name (i := 2) sc_are_prices.nd rfl (Or.inl rfl))) (fun _ _ _ _ _ => pts_nil) (fun _ _ _ _ _ => (pe_cmp (pc_din hu (pv 2) (pv 0))))))) pa_nil))))))), ?_⟩
    rcases hx with ⟨t, ht, hdict, k⟩ | ⟨a, kvs, rfl, ha, hn, ok, k⟩
    · refine ⟨_, rfl, _, _, _, _, _, rfl, .ty _, ht, hdict, _, rfl, ?_⟩
      exact k H (Same.refl H)
    refine ⟨_, rfl, _, _, _, _, _, rfl, .ty _, .base (.dK ha), kit_ty (show kitB "dict" "dict" = some true by decide +kernel), _, rfl, ?_⟩
    refine ⟨_, rfl, _, _, rfl, .inl ha, _, _, rfl, rfl, _, rfl, ?_⟩
    have k0 := k H (Same.refl H)
    have fz : ∀ od, (upd H a (.frz od (.dK kvs))) a = some (.frz od (.dK kvs)) := fun od => upd_same
    unfold arePrices at k k0
    -- 1 <= len(value) <= MAX_PIECES
    cases e1 : decide (1 ≤ (kvs.length : Int)) with
    | false =>
      rw [e1] at k0
      exact ⟨_, rfl, k0⟩
    | true =>
    rw [e1] at k k0
    refine ⟨_, _, rfl, rfl, _, rfl, ?_⟩
    cases e2 : decide ((kvs.length : Int) ≤ 12) with
    | false =>
      rw [e2] at k0
      exact k0
    | true =>
    rw [e2] at k k0
    -- the pieces and the prices
    refine ⟨a, _, ha, trivial, fun od => ?_⟩
    refine ⟨_, rfl, a, od, kvs, rfl, upd_same, fun D hD => ?_⟩
    have nDa := lock_ne hD
    refine lcs kvs walk_kv (fun kv => some (.bl (isPiece (kV kv.1) && isPrice kv.2))) hD (by omega) (fun H' s => s _ _ (fz od)) ?_ ?_
    · rintro i kv x H2 H3 hi s ⟨T, k', v', e, rfl, hT, rfl⟩ N M hN hM
      have ekv : kv = (k', v') := Option.some.inj (hi.symm.trans e)
      subst ekv
      obtain ⟨sz, tyv⟩ := ok _ (List.mem_of_getElem? hi)
      have sH : ∀ {H'}, Same H2 H' → Same (upd H a (.frz od (.dK kvs))) H' := fun z => s.trans z
      refine ⟨T, _, rfl, SqT.of upd_same, rfl, _, _, rfl, _, _, rfl, rfl, rfl, ?_⟩
      have sT : Same H2 (upd H2 T (.tup [kV k', v'])) := same_new hT
      refine ⟨_, rfl, _, rfl, tyd_key _, sz, fun H4 s4 => ⟨_, rfl, ?_⟩⟩
      refine itB (fun p1 => ?_) (fun p1 => ?_)
      · refine ⟨_, rfl, _, rfl, tyv _ (((Sim.lock ha).then s).then (sT.trans s4)), fun H5 s5 => ?_⟩
        refine hN _ _ ?_ (sT.trans (s4.trans s5))
        show some (V.bl (isPiece (kV k') && isPrice v')) = _
        rw [p1]
        rfl
      · refine hN _ _ ?_ (sT.trans s4)
        show some (V.bl (isPiece (kV k') && isPrice v')) = _
        rw [p1]
        rfl
    rintro H2 s2 e2'
    have S2 : Same H (upd H2 a (.dK kvs)) := unlock ha s2
    refine ⟨s2 _ _ (fz od), _, kvs.map (fun kv => isPiece (kV kv.1) && isPrice kv.2), rfl, SqL.of (by rw [upd_ne nDa, e2', List.map_map, List.filterMap_eq_map']; rfl), _, rfl, ?_⟩
    have k2 := k _ S2
    have a2 : (upd H2 a (.dK kvs)) a = some (.dK kvs) := upd_same
    generalize upd H2 a (.dK kvs) = H3 at S2 k2 a2 ⊢
    have e3' : ((kvs.map fun kv => isPiece (kV kv.1) && isPrice kv.2).all id) = (kvs.all fun kv => isPiece (kV kv.1) && isPrice kv.2) := by
      rw [List.all_map]
      rfl
    rw [e3']
    clear e3' e2' s2 H2 hD nDa k0 fz od D
    cases e3 : (kvs.all fun kv => isPiece (kV kv.1) && isPrice kv.2) with
    | false =>
      rw [e3] at k2
      exact k2
    | true =>
    rw [e3] at k k2
    have hk := keys_of e3
    have hp := keyStrs_piece e3
    have ln : (keyStrs kvs).length = kvs.length := by
      have h := congrArg List.length hk
      rw [List.length_map, List.length_map] at h
      exact h.symm
    -- how many single signs
    refine ⟨a, _, a2, trivial, fun od => ?_⟩
    refine ⟨_, rfl, a, od, rfl, .inl ⟨kvs, upd_same, fun D hD => ?_⟩⟩
    have nDa := lock_ne hD
    refine lcs kvs walk_keys (fun kv => match kv.1 with | .inr z => if decide ((cs z).length = 1) = true then some (.str z) else none | .inl _ => none) hD (by omega) (fun H' s => s _ _ upd_same) ?_ ?_
    · rintro i kv x H4 H5 hi s ⟨rfl, k', v', e, rfl⟩ N M hN hM
      have ekv : kv = (k', v') := Option.some.inj (hi.symm.trans e)
      subst ekv
      obtain ⟨z, hz⟩ : ∃ z, k' = Sum.inr z := by
        have h1 := congrArg (fun l => l[i]?) hk
        simp only [List.getElem?_map, hi] at h1
        cases h2 : (keyStrs kvs)[i]? with
        | none => rw [h2] at h1; cases h1
        | some z => rw [h2] at h1; exact ⟨z, Option.some.inj h1⟩
      subst hz
      have zs := (ok _ (List.mem_of_getElem? hi)).1
      refine ⟨rfl, _, rfl, _, rfl, fits_sz zs, rfl, _, rfl, ?_⟩
      rw [v_len_eq1]
      refine itB (fun q1 => ?_) (fun q1 => ?_)
      · refine ⟨_, rfl, hN _ _ ?_ (Same.refl _)⟩
        show (if decide ((cs z).length = 1) = true then some (V.str z) else none) = _
        rw [if_pos q1]
        rfl
      · refine hM _ ?_ (Same.refl _)
        show (if decide ((cs z).length = 1) = true then some (V.str z) else none) = _
        rw [if_neg (by rw [q1]; exact Bool.false_ne_true)]
    rintro H4 s4 e4
    have e5 : (kvs.filterMap fun kv => match kv.1 with | .inr z => if decide ((cs z).length = 1) = true then some (V.str z) else none | .inl _ => none) = ((keyStrs kvs).filter fun z => decide ((cs z).length = 1)).map V.str := singles kvs
    rw [e5] at e4
    have S4 : Same H (upd H4 a (.dK kvs)) := S2.trans (unlock a2 s4)
    refine ⟨s4 _ _ upd_same, _, _, rfl, .inl (SqL.of (by rw [upd_ne nDa]; exact e4)), _, _, rfl, rfl, _, rfl, ?_⟩
    have k4 := k _ S4
    have a4 : (upd H4 a (.dK kvs)) a = some (.dK kvs) := upd_same
    generalize upd H4 a (.dK kvs) = H5 at S4 k4 a4 ⊢
    clear e4 e5 s4 H4 hD nDa od D S2 k2 a2 H3
    rw [List.length_map]
    cases e6 : decide (((keyStrs kvs).filter fun z => decide ((cs z).length = 1)).length ≤ 4) with
    | false =>
      rw [e6] at k4
      refine itT (decide_eq_true (by have := of_decide_eq_false e6; omega)) ?_
      exact k4
    | true =>
    rw [e6] at k k4
    refine itF (decide_eq_false (by have := of_decide_eq_true e6; omega)) ?_
    -- each sign of each piece
    have fl := flat_len (zs := keyStrs kvs) fun z hz => (hp z hz).2.1
    refine ⟨a, _, a4, trivial, fun od => ?_⟩
    refine ⟨_, rfl, a, od, rfl, .inl ⟨kvs, upd_same, fun D hD => ?_⟩⟩
    have nDa := lock_ne hD
    refine lc2_ks (zs := keyStrs kvs) hk (fun c => .bl (valV kvs (Sum.inr (ch c))).isSome) upd_same hD (by omega) (fun _ => rfl) (fun _ _ => rfl) (fun _ => rfl) ?_ ?_
    · intro z hz c hc H6 s6 N hN
      exact ⟨_, rfl, _, rfl, a, _, rfl, Or.inl ⟨kvs, Sum.inr (ch c), Or.inr ⟨od, s6 _ _ upd_same⟩, rfl, rfl⟩, hN _ (Same.refl _)⟩
    rintro H6 s6 e7
    refine ⟨s6 _ _ upd_same, _, ((keyStrs kvs).map cs).flatten.map (fun c => (valV kvs (Sum.inr (ch c))).isSome), rfl, SqL.of (by rw [upd_ne nDa, e7, List.map_map]; rfl), ?_⟩
    rw [List.all_map]
    exact k _ (S4.trans (unlock a4 s6))
theorem sc_Book___init__ : FnScope ["self", "prices", "piece"] ["self", "prices"] (defScope s_Book___init__) := ⟨rfl, rfl, rfl, by decide +kernel, rfl, by decide +kernel, by decide +kernel⟩
theorem ok_Book___init__ {f : Addr} {fd : FuncData} (F : Fun K "__init__" "Book.__init__" s_Book___init__ f fd) (T : Txt K mg C CE CB CT CO) (c_are_prices : HasO P w K mg base CX0 4 "are_prices" ["value"] (spArePrices K)) : FnOk P w K mg base CX0 5 f fd ["self", "prices"] (spBook C K) := by
  refine F.ok sc_Book___init__ (fun vs H Q E h => ?_) (fun cdv A outer s H vs Q E hr h => ?_)
  · obtain ⟨b, dx, a, kvs, rfl, _⟩ := h
    rfl
  · have hu := hu_of hr
    obtain ⟨b, dx, a, kvs, rfl, hb, ha, ok, av, nd, k⟩ := h
    refine ⟨_, (pss_frz (pss_cons (ps_if (pt_not (pt_val (pe_hasO c_are_prices (hr.mono (by decide)) pass0 (pa_cons (pv 1) pa_nil)))) (pss_one ps_never) pss_nil)
      (pss_cons (ps_fld (pv 0) (pe_dc (own := [("piece", 2)]) rfl sc_Book___init__.nd (g_list K (pe_callB (g_sortedS K) (by rfl) T.b_sorted (by decide +kernel) (pa_cons (pe_callTy (call_listD rfl) (by rfl) T.b_list (by decide +kernel) (pa_cons (pv 1) pa_nil)) pa_nil))) (blkOk_by (own := [("piece", 2)]) (N := ["self", "prices", "piece"]) (sc := defScope s_Book___init__) (by decide +kernel)) (fun _ _ _ _ _ => (pg_name (i := 2) sc_Book___init__.nd rfl (Or.inl rfl))) (fun _ _ _ _ _ => pts_nil) (fun _ _ _ _ _ => (pv 2)) (fun _ _ _ _ _ => (pe_dget hu (pv 1) (pv 2) (fun _ _ => rfl)))) rfl)
      (pss_cons (ps_fld (pv 0) (pe_callTy (g_tuple_of K) (by rfl) T.b_tuple (by decide +kernel) (pa_cons (pe_callTy (call_listD rfl) (by rfl) T.b_list (by decide +kernel) (pa_cons (g_fld K (pv 0)) pa_nil)) pa_nil)) rfl)
      (pss_cons (ps_fld (pv 0) (pe_callTy (g_tuple_of K) (by rfl) T.b_tuple (by decide +kernel) (pa_cons (pe_lc (own := [("piece", 2)]) rfl sc_Book___init__.nd (g_tuple K (g_fld K (pv 0))) (blkOk_by (own := [("piece", 2)]) (N := ["self", "prices", "piece"]) (sc := defScope s_Book___init__) (by decide +kernel)) (fun _ _ _ _ _ => (pg_name (i := 2) sc_Book___init__.nd rfl (Or.inl rfl))) (fun _ _ _ _ _ => (pts_one (pt_cmpR op_eq (pe_callB call_len_str (by rfl) T.b_len (by decide +kernel) (pa_cons (pv 2) pa_nil)) pe_int (nomark _)))) (fun _ _ _ _ _ => (pv 2))) pa_nil)) rfl)
      (pss_cons (ps_fld (pv 0) (pe_callB (g_max K rfl) (by rfl) T.b_max (by decide +kernel) (pa_cons (pe_lc (own := [("piece", 2)]) rfl sc_Book___init__.nd (g_tuple K (g_fld K (pv 0))) (blkOk_by (own := [("piece", 2)]) (N := ["self", "prices", "piece"]) (sc := defScope s_Book___init__) (by decide +kernel)) (fun _ _ _ _ _ => (pg_name (i := 2) sc_Book___init__.nd rfl (Or.inl rfl))) (fun _ _ _ _ _ => pts_nil) (fun _ _ _ _ _ => (pe_callB call_len_str (by rfl) T.b_len (by decide +kernel) (pa_cons (pv 2) pa_nil)))) pa_nil)) rfl)
      (pss_one (ps_fld (pv 0) (pe_callB (g_max K rfl) (by rfl) T.b_max (by decide +kernel) (pa_cons (pe_callTy (call_listVw rfl) (by rfl) T.b_list (by decide +kernel) (pa_cons (g_bm0 K PySem.F.plainAttrs_dict PySem.F.slot_dict_values PySem.F.type_dict_values mt_values (g_fld K (pv 0))) pa_nil)) pa_nil)) rfl)))))))), ?_⟩
    obtain ⟨⟨n1, n2⟩, al, f4, fs⟩ := ap_parts av
    have nb : b ≠ a := fun e => by
      rw [e, ha] at hb
      cases hb
    refine ⟨_, rfl, _, rfl, .inr ⟨a, kvs, rfl, ha, by omega, ok, fun H1 s1 => ⟨_, congrArg V.bl av, ?_⟩⟩⟩
    have hk := keys_of al
    have hkV : (kvs.map fun kv => kV kv.1) = (keyStrs kvs).map V.str := by
      have h := congrArg (List.map kV) hk
      rw [List.map_map, List.map_map] at h
      exact h
    have ln : (keyStrs kvs).length = kvs.length := by
      have h := congrArg List.length hk
      rw [List.length_map, List.length_map] at h
      exact h.symm
    -- the prices
    refine ⟨_, rfl, a, kvs, rfl, .inl (s1 _ _ ha), fun p hp => ?_⟩
    refine ⟨p, keyStrs kvs, rfl, SqL.of (by rw [upd_same, hkV]), by omega, fun ys p2 pm so hp2 => ?_⟩
    refine ⟨p2, rfl, ⟨_, SqL.of upd_same⟩, fun D hD => ?_⟩
    have ly : ys.length = kvs.length := by rw [pm.length_eq, ln]
    have ndk : (keyStrs kvs).Nodup := by
      rw [hk] at nd
      exact nd_of_map nd
    have ndy : ys.Nodup := pm.nodup_iff.mpr ndk
    have s2 : Same H (upd (upd H1 p (.lst (kvs.map fun kv => kV kv.1))) p2 (.lst (ys.map V.str))) := (s1.trans (same_new hp)).trans (same_new hp2)
    have l2 : (upd (upd H1 p (.lst (kvs.map fun kv => kV kv.1))) p2 (.lst (ys.map V.str))) p2 = some (.lst (ys.map V.str)) := upd_same
    generalize (upd (upd H1 p (.lst (kvs.map fun kv => kV kv.1))) p2 (.lst (ys.map V.str))) = H2 at s2 l2 hD ⊢
    have nDb : D ≠ b := (ne_of_none (s2 _ _ hb) hD).symm
    have hDn := not_there s2 hD
    refine dcs ys (walk_listF (K := K) V.str ys) (fun z => (Sum.inr z, .int (priceIn kvs z))) (nd_map (f := fun z : Str => (Sum.inr z : Key)) (fun _ _ h => Sum.inr.inj h) ndy) hD (by omega) (fun H' s => SqL.of (s _ _ l2)) ?_ ?_
    · rintro i z x H3 H4 hi s3 ⟨rfl, z', ez, rfl⟩ N M hN
      have e1 : z = z' := Option.some.inj (hi.symm.trans ez)
      subst e1
      exact ⟨wipe_set, _, rfl, _, rfl, _, rfl, a, _, rfl, .inl ⟨kvs, Sum.inr z, .inl (s3 _ _ (s2 _ _ ha)), rfl, (price_of_key al (pm.mem_iff.mp (List.mem_of_getElem? hi))).1.symm⟩, hN _ (Same.refl _)⟩
    rintro H3 s3 e3
    have e3' : H3 D = some (.dK (kvOf (psOf kvs ys))) := by
      rw [e3]
      unfold kvOf psOf
      rw [List.map_map]
      rfl
    have b3 := s3 _ _ (s2 _ _ hb)
    have hps : (psOf kvs ys).map (fun p => V.str p.1) = ys.map V.str := by
      unfold psOf
      rw [List.map_map]
      rfl
    refine ⟨_, rfl, b, C, dx, [], rfl, b3, T.cl, T.n_own_prices, by decide, ?_⟩
    have k3 : Kp b H (upd H3 b (.ins C dx (putF "own_prices" (.ref D) []))) := (Kp.of (s2.trans s3)).trans Kp.upd
    have d3 : upd H3 b (.ins C dx (putF "own_prices" (.ref D) [])) D = some (.dK (kvOf (psOf kvs ys))) := by
      rw [upd_ne nDb]
      exact e3'
    have o3 : upd H3 b (.ins C dx (putF "own_prices" (.ref D) [])) b = some (.ins C dx [(("own_prices" : Str), .ref D)]) := upd_same
    generalize upd H3 b (.ins C dx (putF "own_prices" (.ref D) [])) = H4 at k3 d3 o3 ⊢
    clear e3 e3' b3 s3 s2 l2 hD
    -- the pieces
    refine ⟨_, rfl, b, C, dx, _, _, rfl, o3, T.cl, T.n_own_prices, lk_at, D, _, rfl, .inl d3, fun p3 hp3 => ?_⟩
    refine ⟨p3, _, rfl, .inl ⟨SqL.of upd_same, fun tp htp => ?_⟩⟩
    rw [kv_keys, hps] at htp ⊢
    have npb : p3 ≠ b := (ne_of_none o3 hp3).symm
    have ntb : tp ≠ b := (ne_of_none ((same_new hp3) _ _ o3) htp).symm
    have o4' := (same_new hp3 (o := .lst (ys.map V.str))).trans (same_new htp (o := .tup (ys.map V.str)))
    refine ⟨_, rfl, b, C, dx, _, rfl, o4' _ _ o3, T.cl, T.n_own_pieces, by simp, ?_⟩
    rw [pf2]
    have k4 := (k3.trans (.of o4')).trans (Kp.upd (o := .ins C dx [(("own_prices" : Str), .ref D), ("own_pieces", .ref tp)]))
    have d4 : (upd (upd (upd H4 p3 (.lst (ys.map V.str))) tp (.tup (ys.map V.str))) b (.ins C dx [(("own_prices" : Str), .ref D), ("own_pieces", .ref tp)])) D = some (.dK (kvOf (psOf kvs ys))) := by
      rw [upd_ne nDb]
      exact o4' _ _ d3
    have t4 : (upd (upd (upd H4 p3 (.lst (ys.map V.str))) tp (.tup (ys.map V.str))) b (.ins C dx [(("own_prices" : Str), .ref D), ("own_pieces", .ref tp)])) tp = some (.tup (ys.map V.str)) := by
      rw [upd_ne ntb]
      exact upd_same
    have o4 : (upd (upd (upd H4 p3 (.lst (ys.map V.str))) tp (.tup (ys.map V.str))) b (.ins C dx [(("own_prices" : Str), .ref D), ("own_pieces", .ref tp)])) b = some (.ins C dx [(("own_prices" : Str), .ref D), ("own_pieces", .ref tp)]) := upd_same
    generalize (upd (upd (upd H4 p3 (.lst (ys.map V.str))) tp (.tup (ys.map V.str))) b (.ins C dx [(("own_prices" : Str), .ref D), ("own_pieces", .ref tp)])) = H5 at k4 d4 t4 o4 ⊢
    clear o4' htp hp3 npb k3 d3 o3
    -- the alphabet
    refine ⟨_, rfl, b, C, dx, _, _, rfl, o4, T.cl, T.n_own_pieces, (lk_by (by decide +kernel)).trans lk_at, tp, rfl, ⟨_, SqT.of t4⟩, fun L hL => ?_⟩
    have nLb : L ≠ b := (ne_of_none o4 hL).symm
    refine lcs ys (walk_tupF (K := K) V.str ys) (fun z => if decide ((cs z).length = 1) = true then some (V.str z) else none) hL (by omega) (fun H' s => SqT.of (s _ _ t4)) ?_ ?_
    · rintro i z x H6 H7 hi s6 ⟨rfl, z', ez, rfl⟩ N M hN hM
      have e1 : z = z' := Option.some.inj (hi.symm.trans ez)
      subst e1
      have hz := (keyStrs_piece al z (pm.mem_iff.mp (List.mem_of_getElem? hi))).2.1
      refine ⟨wipe_set, _, rfl, _, rfl, fits_sz (by rw [← cs_len]; omega), rfl, _, rfl, ?_⟩
      rw [v_len_eq1]
      refine itB (fun q1 => ?_) (fun q1 => ?_)
      · exact ⟨_, rfl, hN _ _ (if_pos q1) (Same.refl _)⟩
      · exact hM _ (if_neg (by rw [q1]; exact Bool.false_ne_true)) (Same.refl _)
    rintro H6 s6 e6
    rw [sgn_fm kvs ys] at e6
    refine ⟨L, _, rfl, .inl ⟨SqL.of e6, fun ta hta => ?_⟩⟩
    have nab : ta ≠ b := (ne_of_none (s6 _ _ o4) hta).symm
    have o6 := s6.trans (same_new hta (o := .tup ((sgn (psOf kvs ys)).map V.str)))
    refine ⟨_, rfl, b, C, dx, _, rfl, o6 _ _ o4, T.cl, T.n_own_alphabet, by simp, ?_⟩
    rw [pf3]
    have k6 := (k4.trans (.of o6)).trans (Kp.upd (o := .ins C dx [(("own_prices" : Str), .ref D), ("own_pieces", .ref tp), ("own_alphabet", .ref ta)]))
    have d6 : (upd (upd H6 ta (.tup ((sgn (psOf kvs ys)).map V.str))) b (.ins C dx [(("own_prices" : Str), .ref D), ("own_pieces", .ref tp), ("own_alphabet", .ref ta)])) D = some (.dK (kvOf (psOf kvs ys))) := by
      rw [upd_ne nDb]
      exact o6 _ _ d4
    have t6 : (upd (upd H6 ta (.tup ((sgn (psOf kvs ys)).map V.str))) b (.ins C dx [(("own_prices" : Str), .ref D), ("own_pieces", .ref tp), ("own_alphabet", .ref ta)])) tp = some (.tup (ys.map V.str)) := by
      rw [upd_ne ntb]
      exact o6 _ _ t4
    have a6 : (upd (upd H6 ta (.tup ((sgn (psOf kvs ys)).map V.str))) b (.ins C dx [(("own_prices" : Str), .ref D), ("own_pieces", .ref tp), ("own_alphabet", .ref ta)])) ta = some (.tup ((sgn (psOf kvs ys)).map V.str)) := by
      rw [upd_ne nab]
      exact upd_same
    have o6' : (upd (upd H6 ta (.tup ((sgn (psOf kvs ys)).map V.str))) b (.ins C dx [(("own_prices" : Str), .ref D), ("own_pieces", .ref tp), ("own_alphabet", .ref ta)])) b = some (.ins C dx [(("own_prices" : Str), .ref D), ("own_pieces", .ref tp), ("own_alphabet", .ref ta)]) := upd_same
    generalize (upd (upd H6 ta (.tup ((sgn (psOf kvs ys)).map V.str))) b (.ins C dx [(("own_prices" : Str), .ref D), ("own_pieces", .ref tp), ("own_alphabet", .ref ta)])) = H7 at k6 d6 t6 a6 o6' ⊢
    clear o6 e6 s6 hta hL k4 d4 t4 o4
    -- the longest
    refine ⟨_, rfl, b, C, dx, _, _, rfl, o6', T.cl, T.n_own_pieces, (lk_by (by decide +kernel)).trans lk_at, tp, rfl, ⟨_, SqT.of t6⟩, fun L hL => ?_⟩
    refine lcs ys (walk_tupF (K := K) V.str ys) (fun z => some (V.int (z.length : Int))) hL (by omega) (fun H' s => SqT.of (s _ _ t6)) ?_ ?_
    · rintro i z x H8 H9 hi s8 ⟨rfl, z', ez, rfl⟩ N M hN hM
      have e1 : z = z' := Option.some.inj (hi.symm.trans ez)
      subst e1
      have hz := (keyStrs_piece al z (pm.mem_iff.mp (List.mem_of_getElem? hi))).2.1
      exact ⟨wipe_set, _, rfl, _, rfl, fits_sz (by rw [← cs_len]; omega), hN _ _ rfl (Same.refl _)⟩
    rintro H8 s8 e8
    have ll : (ys.filterMap fun z => some (V.int (z.length : Int))) = (lens (psOf kvs ys)).map V.int := by
      rw [fm_some]
      unfold lens psOf
      rw [List.map_map, List.map_map]
      rfl
    rw [ll] at e8
    refine ⟨L, _, rfl, SqL.of e8, by unfold lens psOf; rw [List.length_map, List.length_map]; omega, fun lo lo1 lo2 => ?_⟩
    refine ⟨_, rfl, b, C, dx, _, rfl, s8 _ _ o6', T.cl, T.n_own_longest, by simp, ?_⟩
    rw [pf4]
    have k8 := (k6.trans (.of s8)).trans (Kp.upd (o := .ins C dx [(("own_prices" : Str), .ref D), ("own_pieces", .ref tp), ("own_alphabet", .ref ta), ("own_longest", .int lo)]))
    have d8 : (upd H8 b (.ins C dx [(("own_prices" : Str), .ref D), ("own_pieces", .ref tp), ("own_alphabet", .ref ta), ("own_longest", .int lo)])) D = some (.dK (kvOf (psOf kvs ys))) := by
      rw [upd_ne nDb]
      exact s8 _ _ d6
    have t8 : (upd H8 b (.ins C dx [(("own_prices" : Str), .ref D), ("own_pieces", .ref tp), ("own_alphabet", .ref ta), ("own_longest", .int lo)])) tp = some (.tup (ys.map V.str)) := by
      rw [upd_ne ntb]
      exact s8 _ _ t6
    have a8 : (upd H8 b (.ins C dx [(("own_prices" : Str), .ref D), ("own_pieces", .ref tp), ("own_alphabet", .ref ta), ("own_longest", .int lo)])) ta = some (.tup ((sgn (psOf kvs ys)).map V.str)) := by
      rw [upd_ne nab]
      exact s8 _ _ a6
    have o8 : (upd H8 b (.ins C dx [(("own_prices" : Str), .ref D), ("own_pieces", .ref tp), ("own_alphabet", .ref ta), ("own_longest", .int lo)])) b = some (.ins C dx [(("own_prices" : Str), .ref D), ("own_pieces", .ref tp), ("own_alphabet", .ref ta), ("own_longest", .int lo)]) := upd_same
    generalize (upd H8 b (.ins C dx [(("own_prices" : Str), .ref D), ("own_pieces", .ref tp), ("own_alphabet", .ref ta), ("own_longest", .int lo)])) = H9 at k8 d8 t8 a8 o8 ⊢
    clear s8 e8 hL k6 d6 t6 a6 o6'
    have ntD : tp ≠ D := fun e => by
      rw [e, d8] at t8
      cases t8
    have naD : ta ≠ D := fun e => by
      rw [e, d8] at a8
      cases a8
    -- the dearest
    refine ⟨_, rfl, b, C, dx, _, _, rfl, o8, T.cl, T.n_own_prices, lk_at, .inr (.inr (.inl ⟨rfl, .inl ⟨_, d8⟩⟩)), D, _, rfl, rfl, .inl d8, fun r hr => ?_⟩
    refine ⟨r, D, _, rfl, upd_same, .inl (same_new hr _ _ d8), fun q hq => ?_⟩
    rw [kv_vals] at *
    refine ⟨q, _, rfl, SqL.of upd_same, by unfold fees psOf; rw [List.length_map, List.length_map]; omega, fun de de1 de2 => ?_⟩
    have s9 := (same_new hr (o := vwV D r)).trans (same_new hq (o := .lst ((fees (psOf kvs ys)).map V.int)))
    refine ⟨_, rfl, b, C, dx, _, rfl, s9 _ _ o8, T.cl, T.n_own_dearest, by simp, ?_⟩
    rw [pf5]
    have k9 := (k8.trans (.of s9)).trans (Kp.upd (o := .ins C dx (bookF D tp ta lo de)))
    refine ⟨D, _, (upd_ne nDb).trans (s9 _ _ d8), trivial, fun od => ?_⟩
    refine k _ ys lo de D tp ta od pm so ⟨?_, upd_same, ?_, ?_, ⟨lo1, lo2⟩, ⟨de1, de2⟩⟩ ?_
    · exact (upd_ne nDb.symm).trans upd_same
    · rw [upd_ne ntD, upd_ne ntb, hps]
      exact s9 _ _ t8
    · rw [upd_ne naD, upd_ne nab]
      exact s9 _ _ a8
    · intro c o e n
      rw [upd_ne (ne_of_none e hDn)]
      exact k9 _ _ e n
theorem sc_Book_prices : FnScope ["self", "piece"] ["self"] (defScope s_Book_prices) := ⟨rfl, rfl, rfl, by decide +kernel, rfl, by decide +kernel, by decide +kernel⟩
theorem ok_Book_prices {f : Addr} {fd : FuncData} (F : Fun K "prices" "Book.prices" s_Book_prices f fd) (T : Txt K mg C CE CB CT CO) : FnOk P w K mg base CX0 1 f fd ["self"] (spPrices C) := by
  refine F.ok sc_Book_prices (fun vs H Q E h => ?_) (fun cdv A outer s H vs Q E hr h => ?_)
  · obtain ⟨b, kvs, rfl, _⟩ := h
    rfl
  · have hu := hu_of hr
    obtain ⟨b, kvs, rfl, B, k⟩ := h
    refine ⟨_, (pss_one (ps_ret (pe_dc (own := [("piece", 1)]) rfl sc_Book_prices.nd (g_tuple K (g_fld K (pv 0))) (blkOk_by (own := [("piece", 1)]) (N := ["self", "piece"]) (sc := defScope s_Book_prices) (by decide +kernel)) (fun _ _ _ _ _ => (pg_name (i := 1) sc_Book_prices.nd rfl (Or.inl rfl))) (fun _ _ _ _ _ => pts_nil) (fun _ _ _ _ _ => (pv 1)) (fun _ _ _ _ _ => (pe_dget hu (g_fld K (pv 0)) (pv 1) (fun _ _ => rfl)))))), ?_⟩
    obtain ⟨av, nd, ys, L, M, dx, d, tp, ta, od, pm, so, A⟩ := id B
    obtain ⟨_, al, _, _⟩ := ap_parts av
    
    have ly : ys.length ≤ 12 := by
      obtain ⟨⟨_, n2⟩, _⟩ := ap_parts av
      have h := congrArg List.length (keys_of al)
      rw [List.length_map, List.length_map] at h
      rw [pm.length_eq]
      omega
    have ndy : ys.Nodup := pm.nodup_iff.mpr (keys_nd al nd)
    have pi : H tp = some (.tup (ys.map V.str)) := by
      rw [A.pi]
      unfold psOf
      rw [List.map_map]
      rfl
    refine ⟨_, rfl, b, C, dx, _, _, rfl, A.ob, T.cl, T.n_own_pieces, bf_pieces, tp, rfl, ⟨_, SqT.of pi⟩, fun D hD => ?_⟩
    refine dcs ys (walk_tupF (K := K) V.str ys) (fun z => (Sum.inr z, .int (priceIn kvs z))) (nd_map (f := fun z : Str => (Sum.inr z : Key)) (fun _ _ h => Sum.inr.inj h) ndy) hD (by omega) (fun H' s => SqT.of (s _ _ pi)) ?_ ?_
    · rintro i z x H3 H4 hi s3 ⟨rfl, z', ez, rfl⟩ N M hN
      have e1 : z = z' := Option.some.inj (hi.symm.trans ez)
      subst e1
      have hv : valV (kvOf (psOf kvs ys)) (Sum.inr z) = some (.int (priceIn kvs z)) := by
        rw [kvOf_ps, val_fun, if_pos (List.mem_of_getElem? hi)]
      exact ⟨wipe_set, _, rfl, _, rfl, b, C, dx, _, _, rfl, s3 _ _ A.ob, T.cl, T.n_own_prices, bf_prices, _, rfl, d, _, rfl, .inl ⟨_, Sum.inr z, .inr ⟨od, s3 _ _ A.dc⟩, rfl, hv.symm⟩, hN _ (Same.refl _)⟩
    rintro H3 s3 e3
    exact k D ys H3 hD pm so (by rw [e3, kvOf_ps]) s3
theorem sc_Book_pieces : FnScope ["self"] ["self"] (defScope s_Book_pieces) := ⟨rfl, rfl, rfl, by decide +kernel, rfl, by decide +kernel, by decide +kernel⟩
theorem ok_Book_pieces {f : Addr} {fd : FuncData} (F : Fun K "pieces" "Book.pieces" s_Book_pieces f fd) (T : Txt K mg C CE CB CT CO) : FnOk P w K mg base CX0 1 f fd ["self"] (spPieces C) := by
  refine F.ok sc_Book_pieces (fun vs H Q E h => ?_) (fun cdv A outer s H vs Q E hr h => ?_)
  · obtain ⟨b, kvs, rfl, _⟩ := h
    rfl
  · have hu := hu_of hr
    obtain ⟨b, kvs, rfl, B, k⟩ := h
    refine ⟨_, (pss_one (ps_ret (g_fld K (pv 0)))), ?_⟩
    obtain ⟨av, nd, ys, Lo, Mo, dx, d, tp, ta, od, pm, so, A⟩ := id B
    
    have pi : H tp = some (.tup (ys.map V.str)) := by
      rw [A.pi]
      unfold psOf
      rw [List.map_map]
      rfl
    exact ⟨_, rfl, b, C, dx, _, _, rfl, A.ob, T.cl, T.n_own_pieces, bf_pieces, k tp ys pm so pi⟩
theorem sc_Book_alphabet : FnScope ["self"] ["self"] (defScope s_Book_alphabet) := ⟨rfl, rfl, rfl, by decide +kernel, rfl, by decide +kernel, by decide +kernel⟩
theorem ok_Book_alphabet {f : Addr} {fd : FuncData} (F : Fun K "alphabet" "Book.alphabet" s_Book_alphabet f fd) (T : Txt K mg C CE CB CT CO) : FnOk P w K mg base CX0 1 f fd ["self"] (spAlph C) := by
  refine F.ok sc_Book_alphabet (fun vs H Q E h => ?_) (fun cdv A outer s H vs Q E hr h => ?_)
  · obtain ⟨b, kvs, rfl, _⟩ := h
    rfl
  · have hu := hu_of hr
    obtain ⟨b, kvs, rfl, B, k⟩ := h
    refine ⟨_, (pss_one (ps_ret (g_fld K (pv 0)))), ?_⟩
    obtain ⟨av, nd, ys, Lo, Mo, dx, d, tp, ta, od, pm, so, A⟩ := id B
    
    exact ⟨_, rfl, b, C, dx, _, _, rfl, A.ob, T.cl, T.n_own_alphabet, bf_alphabet, k ta _ A.al⟩
theorem sc_least_price : FnScope ["prices", "text", "found", "end", "start", "piece"] ["prices", "text"] (defScope s_least_price) := ⟨rfl, rfl, rfl, by decide +kernel, rfl, by decide +kernel, by decide +kernel⟩
theorem ok_least_price {f : Addr} {fd : FuncData} (F : Fun K "least_price" "least_price" s_least_price f fd) (T : Txt K mg C CE CB CT CO) : FnOk P w K mg base CX0 4 f fd ["prices", "text"] (spLeastPrice) := by
  refine F.ok sc_least_price (fun vs H Q E h => ?_) (fun cdv A outer s H vs Q E hr h => ?_)
  · obtain ⟨d, od, kvs, z, rfl, _⟩ := h
    rfl
  · have hu := hu_of hr
    obtain ⟨d, od, kvs, z, rfl, hd, tar, ov, hz, k⟩ := h
    refine ⟨_, (pss_cons (ps_set (i := 2) sc_least_price.nd rfl (Or.inr rfl) (pe_lst (pa_cons pe_int pa_nil)))
      (pss_cons (ps_for PassesOwn.never rfl (pi_range2 (by rfl) T.b_range (pa_cons pe_int (pa_cons (pe_op op_add (pe_callB call_len_str (by rfl) T.b_len (by decide +kernel) (pa_cons (pv 1) pa_nil)) pe_int) pa_nil))) (pg_name (i := 3) sc_least_price.nd rfl (Or.inr rfl)) (pss_cons (ps_set (i := 4) sc_least_price.nd rfl (Or.inr rfl) (pe_slice sl_str (pv 1) po_none (po_some (pv 3))))
      (pss_one (ps_expr (g_bm K PySem.F.plainAttrs_list PySem.F.slot_list_append PySem.F.type_list_append mt_append (pv 2) (pa_cons (pe_callB (g_min K rfl) (by rfl) T.b_min (by decide +kernel) (pa_cons (pe_lc (own := [("piece", 5)]) rfl sc_least_price.nd (pi_keys (pv 0)) (blkOk_by (own := [("piece", 5)]) (N := ["prices", "text", "found", "end", "start", "piece"]) (sc := defScope s_least_price) (by decide +kernel)) (fun _ _ _ _ _ => (pg_name (i := 5) sc_least_price.nd rfl (Or.inl rfl))) (fun _ _ _ _ _ => (pts_one (pt_val (pe_m1 PySem.F.slot_str_endswith PySem.F.type_str_endswith mt_endswith (pv 4) (pv 5))))) (fun _ _ _ _ _ => (pe_op op_add (pe_ix (g_ix_list K) (pv 2) (pe_op op_sub (pv 3) (pe_callB call_len_str (by rfl) T.b_len (by decide +kernel) (pa_cons (pv 5) pa_nil))) (fun _ _ => rfl)) (pe_dget hu (pv 0) (pv 5) (fun _ _ => rfl))))) pa_nil)) pa_nil))))))
      (pss_one (ps_ret (pe_ix (g_ix_list K) (pv 2) (pe_un un_neg pe_int) (fun _ _ => rfl)))))), ?_⟩
    have good := tar.good
    have lz := cs_len z
    refine ⟨(by show 1 ≤ sizeLine; decide), fun fo hfo => ?_⟩
    have nfd : d ≠ fo := ne_of_none hd hfo
    refine ⟨_, rfl, z, rfl, fits_sz (by omega), _, _, rfl, rfl, 1, _, rfl, ⟨by omega, by omega, by omega, by omega⟩, for_range (lo := 1) (Pv := fun i σ H' => ∃ u v w, σ = [some (.ref d), some (.str z), some (.ref fo), u, v, w] ∧ Same H H' ∧ H' fo = some (.lst (rowV (tfD kvs) (cs z) (i + 1))))
      ⟨_, _, _, rfl, same_new hfo, by rw [upd_same, rowV_one good]⟩ ?_ ?_⟩
    · rintro i σ H1 hi ⟨u, v, w, rfl, s1, f1⟩
      have hi' : i < z.length := by omega
      have d1 := s1 _ _ hd
      have e1 : (1 : Int) + (i : Int) = ((i + 1 : Nat) : Int) := by omega
      rw [e1]
      refine ⟨_, rfl, _, rfl, _, rfl, _, rfl, fits_sz (by omega), ?_⟩
      have hst : cs (cutS z none (some ((i + 1 : Nat) : Int))) = (cs z).take (i + 1) := cs_cutTo (by omega)
      have lst : (cutS z none (some ((i + 1 : Nat) : Int))).length = i + 1 := by
        rw [← cs_len, hst, List.length_take]
        omega
      dsimp only [gName]
      generalize cutS z none (some ((i + 1 : Nat) : Int)) = st at hst lst ⊢
      refine ⟨_, rfl, .inl ⟨rfl, _, SqL.of f1⟩, _, rfl, d, od, rfl, .inl ⟨kvs, d1, fun D hD => ?_⟩⟩
      refine lcs kvs walk_keys (fun kv => (candG (tfD kvs) (cs z) (i + 1) st kv).map V.int) hD (by have := tar.len; omega) (fun H' s => s _ _ d1) ?_ ?_
      · rintro j kv x H2 H3 hj s2 ⟨rfl, k', v', ek, rfl⟩ N M hN hM
        have ekv : kv = (k', v') := Option.some.inj (hj.symm.trans ek)
        subst ekv
        obtain ⟨y, p, ey, hp⟩ := tar.mem _ (List.mem_of_getElem? hj)
        cases ey
        have ly := good.len y p hp
        rw [cs_len] at ly
        refine ⟨wipe_set, _, rfl, ⟨_, rfl⟩, _, rfl, _, _, rfl, rfl, _, rfl, ?_⟩
        refine itB (fun q => ?_) (fun q => ?_)
        · obtain ⟨a, ha⟩ := ends_iff.mp q
          have la := congrArg List.length ha
          rw [List.length_append, cs_len, cs_len, lst] at la
          refine ⟨_, rfl, _, rfl, _, rfl, _, rfl, fits_sz (by omega), _, _, rfl, rfl, fo, _, _, _, rfl, rfl, SqL.of (s2 _ _ f1), at_of (j := i + 1 - y.length) (by omega) (rowV_at (by omega)), _, rfl, _, rfl, d, _, rfl, .inl ⟨kvs, Sum.inr y, .inr ⟨od, s2 _ _ d1⟩, rfl, (tf_some.mp hp).symm⟩, _, _, rfl, rfl, hN _ _ ?_ (Same.refl _)⟩
          show (if Txt.endswith st y = true then some (lp (tfD kvs) ((cs z).take (i + 1 - y.length)) + p) else none).map V.int = _
          rw [if_pos q]
          rfl
        · refine hM _ ?_ (Same.refl _)
          show (if Txt.endswith st y = true then some (lp (tfD kvs) ((cs z).take (i + 1 - y.length)) + p) else none).map V.int = _
          rw [if_neg (by rw [q]; exact Bool.false_ne_true)]
          rfl
      rintro H2 s2 e2
      rw [fm_int] at e2
      obtain ⟨pos, least⟩ := cand_min tar ov hst (by omega) (by omega)
      refine ⟨D, _, rfl, SqL.of e2, pos, fun m hm hl => ?_⟩
      have em := least m hm hl
      subst em
      refine ⟨fo, _, _, rfl, rfl, s2 _ _ f1, by rw [rowV_len]; exact small1000' (by omega), ?_⟩
      refine ⟨_, _, _, rfl, same_mut (s1.trans s2) hfo, ?_⟩
      rw [upd_same, rowV_succ (n := i + 1)]
    · rintro σ H1 ⟨u, v, w, rfl, s1, f1⟩
      have e1 : ((z.length : Int) + 1 - 1).toNat = z.length := by omega
      rw [e1] at f1
      refine ⟨_, rfl, _, rfl, fo, _, _, _, rfl, rfl, SqL.of f1, by rw [rowV_succ]; exact atI_last, ?_⟩
      have e2 : (cs z).take z.length = cs z := List.take_of_length_le (by omega)
      rw [e2]
      exact k _ s1
theorem sc_require_book : FnScope ["value"] ["value"] (defScope s_require_book) := ⟨rfl, rfl, rfl, by decide +kernel, rfl, by decide +kernel, by decide +kernel⟩
theorem ok_require_book {f : Addr} {fd : FuncData} (F : Fun K "require_book" "require_book" s_require_book f fd) (T : Txt K mg C CE CB CT CO) : FnOk P w K mg base CX0 1 f fd ["value"] (spReqBook C) := by
  refine F.ok sc_require_book (fun vs H Q E h => ?_) (fun cdv A outer s H vs Q E hr h => ?_)
  · obtain ⟨b, dx, fs, rfl, _⟩ := h
    rfl
  · have hu := hu_of hr
    obtain ⟨b, dx, fs, rfl, hb, k⟩ := h
    refine ⟨_, (pss_one (ps_if (pt_not (pt_val (pe_callB (C8.call_isC T.ic) (by rfl) T.b_isinstance (by decide +kernel) (pa_cons (pv 0) (pa_cons (pe_glob (v := .ref C) rfl T.gC rfl) pa_nil))))) (pss_one ps_never) pss_nil)), ?_⟩
    exact ⟨_, rfl, b, dx, fs, rfl, hb, true, rfl, k⟩
theorem sc_require_comparable : FnScope ["book", "other"] ["book", "other"] (defScope s_require_comparable) := ⟨rfl, rfl, rfl, by decide +kernel, rfl, by decide +kernel, by decide +kernel⟩
theorem ok_require_comparable {f : Addr} {fd : FuncData} (F : Fun K "require_comparable" "require_comparable" s_require_comparable f fd) (T : Txt K mg C CE CB CT CO) (c_require_book : HasO P w K mg base CX0 1 "require_book" ["value"] (spReqBook C)) : FnOk P w K mg base CX0 2 f fd ["book", "other"] (spReqCmp C) := by
  refine F.ok sc_require_comparable (fun vs H Q E h => ?_) (fun cdv A outer s H vs Q E hr h => ?_)
  · obtain ⟨k1, k2, ⟨b1, b2, rfl, _⟩, _⟩ := h
    rfl
  · have hu := hu_of hr
    obtain ⟨k1, k2, ⟨b1, b2, rfl, B1, B2, ss⟩, k⟩ := h
    obtain ⟨av1, nd1, ys1, L1, M1, dx1, d1, tp1, ta1, od1, pm1, so1, A1⟩ := id B1
    obtain ⟨av2, nd2, ys2, L2', M2, dx2, d2, tp2, ta2, od2, pm2, so2, A2⟩ := id B2
    obtain ⟨_, al1, _, _⟩ := ap_parts av1
    obtain ⟨_, al2, _, _⟩ := ap_parts av2
    refine ⟨_, (pss_cons (ps_expr (pe_hasO c_require_book (hr.mono (by decide)) pass0 (pa_cons (pv 0) pa_nil)))
      (pss_cons (ps_expr (pe_hasO c_require_book (hr.mono (by decide)) pass0 (pa_cons (pv 1) pa_nil)))
      (pss_one (ps_if (pt_cmpR (g_neD K hr.units) (g_fld K (pv 0)) (g_fld K (pv 1)) (nomark _)) (pss_one ps_never) pss_nil)))), ?_⟩
    have hsg := sgn_eq al1 al2 nd1 nd2 pm1 pm2 so1 so2 ss
    have hl : ∀ z ∈ sgn (psOf k2 ys2), ∀ c ∈ cs z, lett c = true := fun z hz => by
      rw [sgn_ps] at hz
      exact (keyStrs_piece al2 z (pm2.mem_iff.mp (List.mem_filter.mp hz).1)).2.2
    refine ⟨_, rfl, b1, dx1, _, rfl, A1.ob, ?_⟩
    refine ⟨_, rfl, b2, dx2, _, rfl, A2.ob, ?_⟩
    refine ⟨_, rfl, b1, C, dx1, _, _, rfl, A1.ob, T.cl, T.n_own_alphabet, bf_alphabet, _, rfl, b2, C, dx2, _, _, rfl, A2.ob, T.cl, T.n_own_alphabet, bf_alphabet, .tuple ((sgn (psOf k1 ys1)).map PyData.str), .tuple ((sgn (psOf k2 ys2)).map PyData.str), .tup (SqT.of A1.al) (dpAll_strs _), .tup (SqT.of A2.al) (dpAll_strs _), by rw [hsg]; exact shaped_strs hl, shaped_strs hl, ?_⟩
    refine ⟨false, congrArg V.bl (by rw [hsg, eqv_strs hl]; rfl), ?_⟩
    exact k _ (Same.refl _)
theorem sc_dearer_in : FnScope ["book", "other", "piece", "price"] ["book", "other"] (defScope s_dearer_in) := ⟨rfl, rfl, rfl, by decide +kernel, rfl, by decide +kernel, by decide +kernel⟩
theorem ok_dearer_in {f : Addr} {fd : FuncData} (F : Fun K "dearer_in" "dearer_in" s_dearer_in f fd) (T : Txt K mg C CE CB CT CO) (c_least_price : HasO P w K mg base CX0 4 "least_price" ["prices", "text"] (spLeastPrice)) : FnOk P w K mg base CX0 5 f fd ["book", "other"] (spDearer C) := by
  refine F.ok sc_dearer_in (fun vs H Q E h => ?_) (fun cdv A outer s H vs Q E hr h => ?_)
  · obtain ⟨k1, k2, ⟨b1, b2, rfl, _⟩, _⟩ := h
    rfl
  · have hu := hu_of hr
    obtain ⟨k1, k2, ⟨b1, b2, rfl, B1, B2, ss⟩, k⟩ := h
    obtain ⟨av1, nd1, ys1, L1, M1, dx1, d1, tp1, ta1, od1, pm1, so1, A1⟩ := id B1
    obtain ⟨av2, nd2, ys2, L2', M2, dx2, d2, tp2, ta2, od2, pm2, so2, A2⟩ := id B2
    obtain ⟨_, al1, _, _⟩ := ap_parts av1
    obtain ⟨_, al2, _, _⟩ := ap_parts av2
    refine ⟨_, (pss_cons (ps_for PassesOwn.never rfl (pi_items (g_fld K (pv 1))) (g_tup K (n := 2) rfl (pgs_cons (pg_name (i := 2) sc_dearer_in.nd rfl (Or.inl rfl)) (pgs_cons (pg_name (i := 3) sc_dearer_in.nd rfl (Or.inl rfl)) pgs_nil))) (pss_one (ps_if (pt_cmpR op_gt (pe_hasO c_least_price (hr.mono (by decide)) pass0 (pa_cons (g_fld K (pv 0)) (pa_cons (pv 2) pa_nil))) (pv 3) (nomark _)) (pss_one (ps_ret (pv 2))) pss_nil)))
      (pss_one (ps_ret pe_non))), ?_⟩
    have tar1 := tar_book av1 pm1
    have e1 := tf_psOf al1 pm1
    have tar2 := tar_of av2 nd2
    refine ⟨_, rfl, b2, C, dx2, _, _, rfl, A2.ob, T.cl, T.n_own_prices, bf_prices, d2, od2, kvOf (psOf k2 ys2), rfl, A2.dc, for_it walk_items (Pv := fun i σ H' => ∃ u v, σ = [some (.ref b1), some (.ref b2), u, v] ∧ Same H H' ∧ ∀ j z, j < i → ys2[j]? = some z → lp (tfD k1) (cs z) ≤ priceIn k2 z)
      ⟨_, _, rfl, Same.refl _, fun _ _ h => absurd h (Nat.not_lt_zero _)⟩ (fun i σ H' hi q => by obtain ⟨u, v, _, s, _⟩ := q; exact s _ _ A2.dc) ?_ ?_⟩
    · rintro i x σ H1 H2 hi ⟨u, v, rfl, s1, low⟩ ⟨Tt, xk, xv, rfl, hT, rfl, ek, ev⟩
      dsimp only at ek ev
      rw [kvOf_ps, List.getElem?_map] at ek ev
      obtain ⟨z, hz⟩ : ∃ z, ys2[i]? = some z := by
        cases e : ys2[i]? with
        | none =>
          rw [e] at ek
          cases ek
        | some z => exact ⟨z, rfl⟩
      rw [hz] at ek ev
      cases ek
      cases ev
      have hzk := pm2.mem_iff.mp (List.mem_of_getElem? hz)
      have hp : tfD k2 z = some (priceIn k2 z) := tf_some.mpr (price_of_key al2 hzk).1
      have ov : Over (tfD k1) (cs z) := fun c hc => (ss c).mpr (tar2.good.cov z _ hp c hc)
      have s2 : Same H (upd H1 Tt (.tup [kV (Sum.inr z), V.int (priceIn k2 z)])) := s1.trans (same_new hT)
      refine ⟨Tt, _, rfl, SqT.of upd_same, rfl, _, _, rfl, _, _, rfl, rfl, ?_⟩
      refine ⟨_, rfl, b1, C, dx1, _, _, rfl, s2 _ _ A1.ob, T.cl, T.n_own_prices, bf_prices, _, rfl, d1, od1, _, z, rfl, s2 _ _ A1.dc, tar1, by rw [e1]; exact ov, by have := (tar2.good.len z _ hp).2; rw [cs_len] at this; omega, fun H3 s3 => ?_⟩
      rw [e1]
      refine ⟨_, rfl, _, _, rfl, rfl, _, rfl, ?_⟩
      refine itB (fun q => ?_) (fun q => ?_)
      · refine ⟨_, rfl, k _ _ (s2.trans s3) (Or.inr ⟨z, _, rfl, hp, by have := of_decide_eq_true q; omega, fun z' p' hp' hlt => ?_⟩)⟩
        obtain ⟨j, hj⟩ := List.getElem?_of_mem (pm2.mem_iff.mpr ((tf_key al2).mpr ⟨p', hp'⟩))
        have ep : p' = priceIn k2 z' := by
          have h1 := (price_of_key al2 ((tf_key al2).mpr ⟨p', hp'⟩)).1
          rw [tf_some.mp hp'] at h1
          exact V.int.inj (Option.some.inj h1)
        rw [ep]
        refine low j z' ?_ hj
        rcases Nat.lt_trichotomy j i with h | h | h
        · exact h
        · subst h
          rw [hz] at hj
          cases hj
          exact absurd hlt (List.lt_irrefl _)
        · obtain ⟨l1, g1⟩ := List.getElem?_eq_some_iff.mp hz
          obtain ⟨l2, g2⟩ := List.getElem?_eq_some_iff.mp hj
          have h5 := List.pairwise_iff_getElem.mp (so_pw so2) i j l1 l2 h
          rw [g1, g2] at h5
          exact absurd hlt (List.not_lt.mpr h5)
      · refine ⟨_, _, rfl, s2.trans s3, fun j z' hj hz' => ?_⟩
        rcases Nat.lt_or_ge j i with h | h
        · exact low j z' h hz'
        · have ej : j = i := by omega
          subst ej
          rw [hz] at hz'
          cases hz'
          have := of_decide_eq_false q
          omega
    · rintro σ H1 ⟨u, v, rfl, s1, low⟩
      refine k _ _ s1 (Or.inl ⟨rfl, fun z p hp => ?_⟩)
      have hk := (tf_key al2).mpr ⟨p, hp⟩
      obtain ⟨j, hj⟩ := List.getElem?_of_mem (pm2.mem_iff.mpr hk)
      have h1 := (price_of_key al2 hk).1
      rw [tf_some.mp hp] at h1
      rw [V.int.inj (Option.some.inj h1)]
      refine low j z ?_ hj
      have := (List.getElem?_eq_some_iff.mp hj).1
      rw [kvOf_ps, List.length_map]
      exact this
theorem sc_is_nowhere_dearer : FnScope ["book", "other"] ["book", "other"] (defScope s_is_nowhere_dearer) := ⟨rfl, rfl, rfl, by decide +kernel, rfl, by decide +kernel, by decide +kernel⟩
theorem ok_is_nowhere_dearer {f : Addr} {fd : FuncData} (F : Fun K "is_nowhere_dearer" "is_nowhere_dearer" s_is_nowhere_dearer f fd) (T : Txt K mg C CE CB CT CO) (c_require_comparable : HasO P w K mg base CX0 2 "require_comparable" ["book", "other"] (spReqCmp C)) (c_dearer_in : HasO P w K mg base CX0 5 "dearer_in" ["book", "other"] (spDearer C)) : FnOk P w K mg base CX0 6 f fd ["book", "other"] (spNowhere C) := by
  refine F.ok sc_is_nowhere_dearer (fun vs H Q E h => ?_) (fun cdv A outer s H vs Q E hr h => ?_)
  · obtain ⟨k1, k2, ⟨b1, b2, rfl, _⟩, _⟩ := h
    rfl
  · have hu := hu_of hr
    obtain ⟨k1, k2, ⟨b1, b2, rfl, B1, B2, ss⟩, k⟩ := h
    refine ⟨_, (pss_cons (ps_expr (pe_hasO c_require_comparable (hr.mono (by decide)) pass0 (pa_cons (pv 0) (pa_cons (pv 1) pa_nil))))
      (pss_one (ps_ret (pe_cmpR op_isN (pe_hasO c_dearer_in (hr.mono (by decide)) pass0 (pa_cons (pv 0) (pa_cons (pv 1) pa_nil))) pe_non (nomark _))))), ?_⟩
    refine ⟨_, rfl, _, rfl, k1, k2, ⟨b1, b2, rfl, B1, B2, ss⟩, fun H1 s1 => ?_⟩
    refine ⟨_, rfl, _, rfl, k1, k2, ⟨b1, b2, rfl, B1.same s1, B2.same s1, ss⟩, fun r H2 s2 dr => ?_⟩
    exact ⟨rfl, k _ _ (s1.trans s2) (dear_non dr)⟩
theorem sc_dearer_piece : FnScope ["book", "other"] ["book", "other"] (defScope s_dearer_piece) := ⟨rfl, rfl, rfl, by decide +kernel, rfl, by decide +kernel, by decide +kernel⟩
theorem ok_dearer_piece {f : Addr} {fd : FuncData} (F : Fun K "dearer_piece" "dearer_piece" s_dearer_piece f fd) (T : Txt K mg C CE CB CT CO) (c_require_comparable : HasO P w K mg base CX0 2 "require_comparable" ["book", "other"] (spReqCmp C)) (c_dearer_in : HasO P w K mg base CX0 5 "dearer_in" ["book", "other"] (spDearer C)) : FnOk P w K mg base CX0 6 f fd ["book", "other"] (spDearer C) := by
  refine F.ok sc_dearer_piece (fun vs H Q E h => ?_) (fun cdv A outer s H vs Q E hr h => ?_)
  · obtain ⟨k1, k2, ⟨b1, b2, rfl, _⟩, _⟩ := h
    rfl
  · have hu := hu_of hr
    obtain ⟨k1, k2, ⟨b1, b2, rfl, B1, B2, ss⟩, k⟩ := h
    refine ⟨_, (pss_cons (ps_expr (pe_hasO c_require_comparable (hr.mono (by decide)) pass0 (pa_cons (pv 0) (pa_cons (pv 1) pa_nil))))
      (pss_one (ps_ret (pe_hasO c_dearer_in (hr.mono (by decide)) pass0 (pa_cons (pv 0) (pa_cons (pv 1) pa_nil)))))), ?_⟩
    refine ⟨_, rfl, _, rfl, k1, k2, ⟨b1, b2, rfl, B1, B2, ss⟩, fun H1 s1 => ?_⟩
    refine ⟨_, rfl, _, rfl, k1, k2, ⟨b1, b2, rfl, B1.same s1, B2.same s1, ss⟩, fun r H2 s2 dr => ?_⟩
    exact k _ _ (s1.trans s2) dr
theorem sc_are_as_cheap : FnScope ["book", "other"] ["book", "other"] (defScope s_are_as_cheap) := ⟨rfl, rfl, rfl, by decide +kernel, rfl, by decide +kernel, by decide +kernel⟩
theorem ok_are_as_cheap {f : Addr} {fd : FuncData} (F : Fun K "are_as_cheap" "are_as_cheap" s_are_as_cheap f fd) (T : Txt K mg C CE CB CT CO) (c_require_comparable : HasO P w K mg base CX0 2 "require_comparable" ["book", "other"] (spReqCmp C)) (c_dearer_in : HasO P w K mg base CX0 5 "dearer_in" ["book", "other"] (spDearer C)) : FnOk P w K mg base CX0 6 f fd ["book", "other"] (spAsCheap C) := by
  refine F.ok sc_are_as_cheap (fun vs H Q E h => ?_) (fun cdv A outer s H vs Q E hr h => ?_)
  · obtain ⟨k1, k2, ⟨b1, b2, rfl, _⟩, _⟩ := h
    rfl
  · have hu := hu_of hr
    obtain ⟨k1, k2, ⟨b1, b2, rfl, B1, B2, ss⟩, k⟩ := h
    refine ⟨_, (pss_cons (ps_expr (pe_hasO c_require_comparable (hr.mono (by decide)) pass0 (pa_cons (pv 0) (pa_cons (pv 1) pa_nil))))
      (pss_one (ps_ret (pe_and (pe_cmpR op_isN (pe_hasO c_dearer_in (hr.mono (by decide)) pass0 (pa_cons (pv 0) (pa_cons (pv 1) pa_nil))) pe_non (nomark _)) (pe_one (pe_cmpR op_isN (pe_hasO c_dearer_in (hr.mono (by decide)) pass0 (pa_cons (pv 1) (pa_cons (pv 0) pa_nil))) pe_non (nomark _))))))), ?_⟩
    refine ⟨_, rfl, _, rfl, k1, k2, ⟨b1, b2, rfl, B1, B2, ss⟩, fun H1 s1 => ?_⟩
    refine ⟨_, rfl, _, rfl, k1, k2, ⟨b1, b2, rfl, B1.same s1, B2.same s1, ss⟩, fun r H2 s2 dr => ?_⟩
    refine ⟨rfl, _, rfl, ?_⟩
    have n1 := dear_non dr
    refine itB (fun q => ?_) (fun q => ?_)
    · refine ⟨_, rfl, _, rfl, k2, k1, ⟨b2, b1, rfl, (B2.same s1).same s2, (B1.same s1).same s2, ss.symm⟩, fun r' H3 s3 dr' => ?_⟩
      refine ⟨rfl, k _ _ (s1.trans (s2.trans s3)) ?_⟩
      rw [dear_non dr']
      exact ⟨fun h => ⟨n1.mp q, h⟩, fun h => h.2⟩
    · refine k _ _ (s1.trans s2) ?_
      have no : ¬ NoDear (tfD k1) (tfD k2) := fun h => absurd ((n1.mpr h).symm.trans q) (by decide)
      exact ⟨fun h => absurd h (by decide), fun h => absurd h.1 no⟩
theorem sc_needless_in : FnScope ["book", "found", "piece", "price", "others", "one"] ["book"] (defScope s_needless_in) := ⟨rfl, rfl, rfl, by decide +kernel, rfl, by decide +kernel, by decide +kernel⟩
theorem ok_needless_in {f : Addr} {fd : FuncData} (F : Fun K "needless_in" "needless_in" s_needless_in f fd) (T : Txt K mg C CE CB CT CO) (c_least_price : HasO P w K mg base CX0 4 "least_price" ["prices", "text"] (spLeastPrice)) : FnOk P w K mg base CX0 5 f fd ["book"] (spNeedIn C) := by
  refine F.ok sc_needless_in (fun vs H Q E h => ?_) (fun cdv A outer s H vs Q E hr h => ?_)
  · obtain ⟨b, kvs, rfl, _⟩ := h
    rfl
  · have hu := hu_of hr
    obtain ⟨b, kvs, rfl, B, k⟩ := h
    refine ⟨_, (pss_cons (ps_set (i := 1) sc_needless_in.nd rfl (Or.inl rfl) (pe_lst pa_nil))
      (pss_cons (ps_for PassesOwn.never rfl (pi_items (g_fld K (pv 0))) (g_tup K (n := 2) rfl (pgs_cons (pg_name (i := 2) sc_needless_in.nd rfl (Or.inr rfl)) (pgs_cons (pg_name (i := 3) sc_needless_in.nd rfl (Or.inl rfl)) pgs_nil))) (pss_cons (ps_setDc (i := 4) (own := [("one", 5)]) rfl sc_needless_in.nd rfl rfl (sw_trueD rfl rfl rfl (by decide +kernel)) (g_tuple K (g_fld K (pv 0))) (blkOk_by (own := [("one", 5)]) (N := ["book", "found", "piece", "price", "others", "one"]) (sc := defScope s_needless_in) (by decide +kernel)) (fun _ _ _ _ _ => (pg_name (i := 5) sc_needless_in.nd rfl (Or.inl rfl))) (fun _ _ _ _ _ => (pts_one (pt_cmpR op_ne (pv 5) (pv 2) (nomark _)))) (fun _ _ _ _ _ => (pv 5)) (fun _ _ _ _ _ => (pe_dget hu (g_fld K (pv 0)) (pv 5) (fun _ _ => rfl))))
      (pss_one (ps_if (PW.pt (pw_and (pt_cmpR op_gt (pe_callB call_len_str (by rfl) T.b_len (by decide +kernel) (pa_cons (pv 2) pa_nil)) pe_int (nomark _)) (pw_and1 (pt_cmpR op_le (pe_lock (by exact (pe_hasO c_least_price (hr.mono (by decide)) pass0 (pa_cons (pv 4) (pa_cons (pv 2) pa_nil))))) (pv 3) (nomark _))))) (pss_one (ps_expr (g_bm K PySem.F.plainAttrs_list PySem.F.slot_list_append PySem.F.type_list_append mt_append (pv 1) (pa_cons (pv 2) pa_nil)))) pss_nil))))
      (pss_one (ps_ret (pv 1))))), ?_⟩
    obtain ⟨av, nd, ys, L, M, dx, d, tp, ta, od, pm, so, A⟩ := id B
    obtain ⟨_, al, _, _⟩ := ap_parts av
    have tar := tar_of av nd
    have ly : ys.length ≤ 12 := by
      obtain ⟨⟨_, n2⟩, _⟩ := ap_parts av
      have h := congrArg List.length (keys_of al)
      rw [List.length_map, List.length_map] at h
      rw [pm.length_eq]
      omega
    have ndy : ys.Nodup := pm.nodup_iff.mpr (keys_nd al nd)
    have pi : H tp = some (.tup (ys.map V.str)) := by
      rw [A.pi]
      unfold psOf
      rw [List.map_map]
      rfl
    
    refine ⟨by show 0 ≤ sizeLine; decide, fun fo hfo => ?_⟩
    refine ⟨_, rfl, b, C, dx, _, _, rfl, same_new hfo _ _ A.ob, T.cl, T.n_own_prices, bf_prices, d, od, kvOf (psOf kvs ys), rfl, same_new hfo _ _ A.dc, for_it walk_items (Pv := fun i σ H' => ∃ u v w y, σ = [some (.ref b), some (.ref fo), u, v, w, y] ∧ Same H H' ∧ H' fo = some (.lst (((ys.take i).filter (needB kvs)).map V.str)))
      ⟨_, _, _, _, rfl, same_new hfo, upd_same⟩ (fun i σ H' hi q => by obtain ⟨_, _, _, _, _, s, _⟩ := q; exact s _ _ A.dc) ?_ ?_⟩
    · rintro i x σ H1 H2 hi ⟨u, v, w, y, rfl, s1, f1⟩ ⟨Tt, xk, xv, rfl, hT, rfl, ek, ev⟩
      dsimp only at ek ev
      rw [kvOf_ps, List.getElem?_map] at ek ev
      obtain ⟨z, hz⟩ : ∃ z, ys[i]? = some z := by
        cases e : ys[i]? with
        | none =>
          rw [e] at ek
          cases ek
        | some z => exact ⟨z, rfl⟩
      rw [hz] at ek ev
      cases ek
      cases ev
      have hzk := pm.mem_iff.mp (List.mem_of_getElem? hz)
      have hp : tfD kvs z = some (priceIn kvs z) := tf_some.mpr (price_of_key al hzk).1
      have lz := cs_len z
      have lz5 := tar.good.len z _ hp
      have s2 : Same H (upd H1 Tt (.tup [kV (Sum.inr z), V.int (priceIn kvs z)])) := s1.trans (same_new hT)
      have f2 := same_new hT (o := .tup [kV (Sum.inr z), V.int (priceIn kvs z)]) _ _ f1
      refine ⟨Tt, _, rfl, SqT.of upd_same, rfl, _, _, rfl, _, _, rfl, rfl, ?_⟩
      generalize (upd H1 Tt (.tup [kV (Sum.inr z), V.int (priceIn kvs z)])) = H2 at s2 f2 ⊢
      refine ⟨_, rfl, b, C, dx, _, _, rfl, s2 _ _ A.ob, T.cl, T.n_own_pieces, bf_pieces, tp, rfl, ⟨_, SqT.of (s2 _ _ pi)⟩, fun D hD => ?_⟩
      refine dcsF ys (walk_tupF (K := K) V.str ys) (fun y => !decide (y = z)) (fun y => (Sum.inr y, .int (priceIn kvs y))) (nd_map (f := fun z : Str => (Sum.inr z : Key)) (fun _ _ h => Sum.inr.inj h) ndy) hD (by omega) (fun H' s => SqT.of (s _ _ (s2 _ _ pi))) ?_ ?_
      · rintro j y' x H3 H4 hj s3 ⟨rfl, z', ez, rfl⟩ N M hN hM
        have e1 : y' = z' := Option.some.inj (hj.symm.trans ez)
        subst e1
        have hv : valV (kvOf (psOf kvs ys)) (Sum.inr y') = some (.int (priceIn kvs y')) := by
          rw [kvOf_ps, val_fun, if_pos (List.mem_of_getElem? hj)]
        refine ⟨wipe_set, _, rfl, _, rfl, rfl, _, rfl, ?_⟩
        refine itB (fun q => ?_) (fun q => ?_)
        · exact ⟨_, rfl, _, rfl, b, C, dx, _, _, rfl, (s2.trans s3) _ _ A.ob, T.cl, T.n_own_prices, bf_prices, _, rfl, d, _, rfl, .inl ⟨_, Sum.inr y', .inr ⟨od, (s2.trans s3) _ _ A.dc⟩, rfl, hv.symm⟩, hN _ (ne_key q) (Same.refl _)⟩
        · exact hM _ (ne_key q) (Same.refl _)
      rintro H3 s3 d3
      have f3 := s3 _ _ f2
      have s23 := s2.trans s3
      have e1 : ys.take (i + 1) = ys.take i ++ [z] := by
        rw [List.take_add_one, hz]
        rfl
      have d3' : H3 D = some (.dK (others kvs ys z)) := d3
      have go : ∀ H', Same H3 H' → needB kvs z = false → Same H H' ∧ H' fo = some (.lst (((ys.take (i + 1)).filter (needB kvs)).map V.str)) := fun H' s' nb => by
        refine ⟨s23.trans s', ?_⟩
        have e2 : [z].filter (needB kvs) = [] := by simp [nb]
        rw [e1, List.filter_append, e2, List.append_nil]
        exact s' _ _ f3
      refine ⟨_, rfl, z, rfl, fits_sz (by omega), _, _, rfl, rfl, _, rfl, ?_⟩
      refine itB (fun q1 => ?_) (fun q1 => ?_)
      · have hz1 : 1 < (cs z).length := by
          have := of_decide_eq_true q1
          omega
        have tarO := tar_others av pm ndy (by omega) hz1
        have eF := tf_others (z := z) al pm
        have ov : Over (tfD (others kvs ys z)) (cs z) := by
          rw [eF]
          exact rem_over hz1 (tar.good.cov z _ hp)
        refine ⟨D, _, d3', trivial, fun od3 => ?_⟩
        refine ⟨_, rfl, _, rfl, D, od3, others kvs ys z, z, rfl, upd_same, tarO, ov, by omega, fun H4 s4 => ⟨s4 _ _ upd_same, ?_⟩⟩
        rw [eF]
        have s5 : Same H3 (upd H4 D (.dK (others kvs ys z))) := unlock d3' s4
        refine ⟨_, rfl, _, _, rfl, rfl, _, rfl, ?_⟩
        refine itB (fun q2 => ?_) (fun q2 => ?_)
        · have nb : needB kvs z = true := by
            unfold needB
            rw [decide_eq_true hz1, q2]
            rfl
          refine ⟨_, rfl, .inl ⟨rfl, _, SqL.of (s5 _ _ f3)⟩, _, rfl, fo, _, _, rfl, rfl, s5 _ _ f3, ?_, ?_⟩
          · have h1 := List.length_filter_le (needB kvs) (ys.take i)
            rw [List.length_take] at h1
            rw [List.length_map]
            exact small1000' (by omega)
          · refine ⟨_, _, _, _, rfl, same_mut (s23.trans s5) hfo, ?_⟩
            have e2 : [z].filter (needB kvs) = [z] := by simp [nb]
            rw [upd_same, e1, List.filter_append, e2, List.map_append]
            rfl
        · have nb : needB kvs z = false := by
            unfold needB
            rw [q2, Bool.and_false]
          exact ⟨_, _, _, _, rfl, go _ s5 nb⟩
      · have nb : needB kvs z = false := by
          unfold needB
          have h1 := of_decide_eq_false q1
          rw [decide_eq_false (by omega : ¬ 1 < (cs z).length), Bool.false_and]
        exact ⟨_, _, _, _, rfl, go _ (Same.refl _) nb⟩
    · rintro σ H1 ⟨u, v, w, y, rfl, s1, f1⟩
      have el : (kvOf (psOf kvs ys)).length = ys.length := by rw [kvOf_ps, List.length_map]
      rw [el, List.take_length] at f1
      refine ⟨_, rfl, k fo (ys.filter (needB kvs)) H1 hfo f1 (fun z => ?_) ⟨(so_pw so).filter _, (pm.nodup_iff.mpr (keys_nd' B.nd al)).filter _⟩ s1⟩
      rw [List.mem_filter, pm.mem_iff]
      have pr : ∀ {p}, tfD kvs z = some p → p = priceIn kvs z := fun {p} h => by
        have h1 := (price_of_key al ((tf_key al).mpr ⟨p, h⟩)).1
        rw [tf_some.mp h] at h1
        exact V.int.inj (Option.some.inj h1)
      unfold needB Needless
      rw [Bool.and_eq_true, decide_eq_true_eq, decide_eq_true_eq, tf_key al]
      constructor
      · rintro ⟨⟨p, hp⟩, h1, h2⟩
        exact ⟨p, hp, h1, by rw [pr hp]; exact h2⟩
      · rintro ⟨p, hp, h1, h2⟩
        exact ⟨⟨p, hp⟩, h1, by rw [← pr hp]; exact h2⟩
theorem sc_needless : FnScope ["book"] ["book"] (defScope s_needless) := ⟨rfl, rfl, rfl, by decide +kernel, rfl, by decide +kernel, by decide +kernel⟩
theorem ok_needless {f : Addr} {fd : FuncData} (F : Fun K "needless" "needless" s_needless f fd) (T : Txt K mg C CE CB CT CO) (c_require_book : HasO P w K mg base CX0 1 "require_book" ["value"] (spReqBook C)) (c_needless_in : HasO P w K mg base CX0 5 "needless_in" ["book"] (spNeedIn C)) : FnOk P w K mg base CX0 6 f fd ["book"] (spNeed C) := by
  refine F.ok sc_needless (fun vs H Q E h => ?_) (fun cdv A outer s H vs Q E hr h => ?_)
  · obtain ⟨b, kvs, rfl, _⟩ := h
    rfl
  · have hu := hu_of hr
    obtain ⟨b, kvs, rfl, B, k⟩ := h
    refine ⟨_, (pss_cons (ps_expr (pe_hasO c_require_book (hr.mono (by decide)) pass0 (pa_cons (pv 0) pa_nil)))
      (pss_one (ps_ret (pe_callTy (g_tuple_of K) (by rfl) T.b_tuple (by decide +kernel) (pa_cons (pe_hasO c_needless_in (hr.mono (by decide)) pass0 (pa_cons (pv 0) pa_nil)) pa_nil))))), ?_⟩
    obtain ⟨av, nd, ys, L, M, dx, d, tp, ta, od, pm, so, A⟩ := id B
    obtain ⟨_, al, _, _⟩ := ap_parts av
    have tar := tar_of av nd
    have ly : ys.length ≤ 12 := by
      obtain ⟨⟨_, n2⟩, _⟩ := ap_parts av
      have h := congrArg List.length (keys_of al)
      rw [List.length_map, List.length_map] at h
      rw [pm.length_eq]
      omega
    have ndy : ys.Nodup := pm.nodup_iff.mpr (keys_nd al nd)
    have pi : H tp = some (.tup (ys.map V.str)) := by
      rw [A.pi]
      unfold psOf
      rw [List.map_map]
      rfl
    
    refine ⟨_, rfl, b, dx, _, rfl, A.ob, ?_⟩
    exact ⟨_, rfl, b, kvs, rfl, B, fun p zs H1 hp e1 hz hs s1 => ⟨p, _, rfl, .inl ⟨SqL.of e1, fun t ht => k t zs _ (s1.free ht) upd_same hz hs (s1.trans (same_new ht))⟩⟩⟩
theorem sc_least_book : FnScope ["book", "left_out", "piece", "price"] ["book"] (defScope s_least_book) := ⟨rfl, rfl, rfl, by decide +kernel, rfl, by decide +kernel, by decide +kernel⟩
theorem ok_least_book {f : Addr} {fd : FuncData} (F : Fun K "least_book" "least_book" s_least_book f fd) (T : Txt K mg C CE CB CT CO) (c_Book : C8.Mak P w K mg base 5 "Book" C (spBook C K) []) (c_require_book : HasO P w K mg base CX0 1 "require_book" ["value"] (spReqBook C)) (c_needless_in : HasO P w K mg base CX0 5 "needless_in" ["book"] (spNeedIn C)) : FnOk P w K mg base CX0 7 f fd ["book"] (spLeast C) := by
  refine F.ok sc_least_book (fun vs H Q E h => ?_) (fun cdv A outer s H vs Q E hr h => ?_)
  · obtain ⟨b, kvs, rfl, _⟩ := h
    rfl
  · have hu := hu_of hr
    obtain ⟨b, kvs, rfl, B, k⟩ := h
    refine ⟨_, (pss_cons (ps_expr (pe_hasO c_require_book (hr.mono (by decide)) pass0 (pa_cons (pv 0) pa_nil)))
      (pss_cons (ps_set (i := 1) sc_least_book.nd rfl (Or.inr rfl) (pe_hasO c_needless_in (hr.mono (by decide)) pass0 (pa_cons (pv 0) pa_nil)))
      (pss_one (ps_ret (C8.pe_mk c_Book hr (by decide) (by rfl) (pa_cons (pe_dc (own := [("piece", 2), ("price", 3)]) rfl sc_least_book.nd (pi_items (g_fld K (pv 0))) (blkOk_by (own := [("piece", 2), ("price", 3)]) (N := ["book", "left_out", "piece", "price"]) (sc := defScope s_least_book) (by decide +kernel)) (fun _ _ _ _ _ => (g_tup K (n := 2) rfl (pgs_cons (pg_name (i := 2) sc_least_book.nd rfl (Or.inl rfl)) (pgs_cons (pg_name (i := 3) sc_least_book.nd rfl (Or.inl rfl)) pgs_nil)))) (fun _ _ _ _ _ => (pts_one (pt_cmpR (g_notIn_seq K) (pv 2) (pv 1) (by rfl)))) (fun _ _ _ _ _ => (pv 2)) (fun _ _ _ _ _ => (pv 3))) pa_nil)))))), ?_⟩
    obtain ⟨av, nd, ys, L, M, dx, d, tp, ta, od, pm, so, A⟩ := id B
    obtain ⟨_, al, _, _⟩ := ap_parts av
    have tar := tar_of av nd
    have ly : ys.length ≤ 12 := by
      obtain ⟨⟨_, n2⟩, _⟩ := ap_parts av
      have h := congrArg List.length (keys_of al)
      rw [List.length_map, List.length_map] at h
      rw [pm.length_eq]
      omega
    have ndy : ys.Nodup := pm.nodup_iff.mpr (keys_nd al nd)
    have pi : H tp = some (.tup (ys.map V.str)) := by
      rw [A.pi]
      unfold psOf
      rw [List.map_map]
      rfl
    
    refine ⟨_, rfl, b, dx, _, rfl, A.ob, ?_⟩
    refine ⟨_, rfl, b, kvs, rfl, B, fun p zs H1 hp e1 hz hs s1 => ?_⟩
    have A1 := A.same s1
    refine ⟨_, rfl, b, C, dx, _, _, rfl, A1.ob, T.cl, T.n_own_prices, bf_prices, d, od, kvOf (psOf kvs ys), rfl, A1.dc, fun D hD => ?_⟩
    refine dcsF (kvOf (psOf kvs ys)) walk_items (fun kv => match kv.1 with | .inr y => !decide (y ∈ zs) | .inl _ => false) id (by
        rw [kvOf_ps, List.map_map]
        exact List.pairwise_map.mpr (List.Pairwise.imp (R := fun a b : Str => a ≠ b) (fun h e => h (Sum.inr.inj e)) ndy)) hD (by rw [kvOf_ps, List.length_map]; omega) (fun H' s => s _ _ A1.dc) ?_ ?_
    · rintro i a x H2 H3 hi s2 ⟨Tt, xk, xv, rfl, hT, rfl, ek, ev⟩ N M hN hM
      dsimp only at ek ev
      rw [hi] at ek ev
      cases ek
      cases ev
      obtain ⟨y, hy, rfl⟩ : ∃ y, y ∈ ys ∧ a = (Sum.inr y, V.int (priceIn kvs y)) := by
        have m := List.mem_of_getElem? hi
        rw [kvOf_ps] at m
        obtain ⟨y, hy, e⟩ := List.mem_map.mp m
        exact ⟨y, hy, e.symm⟩
      have sT := same_new hT (o := .tup [kV (Sum.inr y), V.int (priceIn kvs y)])
      refine ⟨Tt, _, rfl, SqT.of upd_same, rfl, _, _, rfl, _, _, rfl, rfl, rfl, _, rfl, _, rfl, p, _, rfl, .inl (SqL.of (sT _ _ (s2 _ _ e1))), rfl, flat_strs _, ?_⟩
      refine ⟨!decide (y ∈ zs), congrArg V.bl (by rw [← inV_str]; rfl), ?_⟩
      refine itB (fun q => ?_) (fun q => ?_)
      · exact ⟨_, rfl, _, rfl, hN _ q sT⟩
      · exact hM _ q sT
    · intro H2 s2 d2
      have e2 : (((kvOf (psOf kvs ys)).filter fun kv => match kv.1 with | .inr y => !decide (y ∈ zs) | .inl _ => false).map id) = partK kvs ys fun y => !decide (y ∈ zs) := by
        rw [List.map_id, kvOf_ps, List.filter_map]
        rfl
      rw [e2] at d2
      obtain ⟨av', nd'⟩ := part_book (q := fun y => !decide (y ∈ zs)) av nd pm fun c _ => by
        rw [decide_eq_false fun m => need_sign ((hz _).mp m)]
        rfl
      intro b' dx' hb' hdx' hne
      refine made_book hb' hdx' d2 av' nd' fun H3 s3 B3 => ⟨rfl, ?_⟩
      refine k b' _ H3 B3 (fun z q => ?_) ((s1.trans s2).trans s3)
      rw [tf_part al pm]
      by_cases m : z ∈ zs
      · rw [decide_eq_true m, if_neg (by decide)]
        constructor
        · intro h
          cases h
        · intro h
          exact absurd ((hz z).mp m) h.2
      · rw [decide_eq_false m, if_pos (by decide)]
        constructor
        · intro h
          exact ⟨h, fun n => m ((hz z).mpr n)⟩
        · intro h
          exact h.1
theorem sc__law_dice : FnScope ["script", "spot", "cell", "whole"] ["script", "spot"] (defScope s__law_dice) := ⟨rfl, rfl, rfl, by decide +kernel, rfl, by decide +kernel, by decide +kernel⟩
theorem ok__law_dice {f : Addr} {fd : FuncData} (F : Fun K "_law_dice" "_law_dice" s__law_dice f fd) (T : Txt K mg C CE CB CT CO) : FnOk P w K mg base CX0 1 f fd ["script", "spot"] (spDice K) := by
  refine F.ok sc__law_dice (fun vs H Q E h => ?_) (fun cdv A outer s H vs Q E hr h => ?_)
  · obtain ⟨a, ns, s, rfl, _⟩ := h
    rfl
  · have hu := hu_of hr
    obtain ⟨a, ns, s, rfl, hS, hn, hs0, hs1, k⟩ := h
    refine ⟨_, (pss_cons (ps_set (i := 2) sc__law_dice.nd rfl (Or.inl rfl) (pe_ifExp (pt_cmpR op_lt (pv 1) (pe_callB (g_len_seq K) (by rfl) T.b_len (by decide +kernel) (pa_cons (pv 0) pa_nil)) (nomark _)) (pe_ix (g_ix_list K) (pv 0) (pv 1) (fun _ _ => rfl)) (pe_op op_add (pe_op op_mulW pe_int (pv 1)) pe_int)))
      (pss_cons (ps_set (i := 3) sc__law_dice.nd rfl (Or.inl rfl) (pe_op op_mod (pe_callTy call_int1 (by rfl) T.b_int (by decide +kernel) (pa_cons (pe_callB call_abs (by rfl) T.b_abs (by decide +kernel) (pa_cons (pv 2) pa_nil)) pa_nil)) (pe_op op_powW (pe_op op_powW pe_int pe_int) pe_int)))
      (pss_one (ps_ret (pe_lst (pa_cons (pe_ifExp (pt_cmpR op_ge (pv 3) (pe_op op_powW pe_int pe_int) (nomark _)) (pv 3) pe_int) (pa_cons (pe_op op_add (pe_op op_add (pe_op op_add (pe_op op_mulW pe_int (pv 3)) (pe_callTy call_int1 (by rfl) T.b_int (by decide +kernel) (pa_cons (pe_cmpR op_lt (pv 2) pe_int (nomark _)) pa_nil))) (pe_op op_mulW pe_int (pv 1))) pe_int) (pa_cons pe_int pa_nil)))))))), ?_⟩
    refine tif_int (c := decide (s < ((ns.map V.int).length : Int))) (fun _ => True) (fun N hN => ?_) (fun e N hN => ?_) (fun e N hN => ?_) (fun cell _ => ?_)
    · exact ⟨_, rfl, _, rfl, _, _, rfl, .inl hS, _, _, rfl, rfl, _, rfl, hN⟩
    · have e1 : s.toNat < ns.length := by
        have := of_decide_eq_true e
        rw [List.length_map] at this
        omega
      refine ⟨_, rfl, _, rfl, _, _, _, _, rfl, rfl, hS, at_of (j := s.toNat) (by omega) (by rw [List.getElem?_map, List.getElem?_eq_getElem e1]; rfl), ?_⟩
      exact hN _ trivial
    · refine ⟨_, rfl, _, _, rfl, rfl, wide_mul (a := 8) (b := 8) (by decide) (by omega) (by decide) (by decide) (by decide), _, _, rfl, rfl, ?_⟩
      exact hN _ trivial
    · -- whole
      refine ⟨_, rfl, _, rfl, .inl ⟨_, rfl, _, _, rfl, rfl, ⟨by decide, by decide +kernel⟩, _, _, rfl, rfl, ⟨by decide, by decide +kernel⟩, _, _, rfl, rfl, (show (0 : Int) < ((10 : Int) ^ (57 : Int).toNat) ^ (11 : Int).toNat by decide +kernel), ?_⟩⟩
      have wb := big_mod (x := if cell < 0 then -cell else cell) (m := ((10 : Int) ^ (57 : Int).toNat) ^ (11 : Int).toNat) (by decide +kernel) (by decide +kernel)
      dsimp only [gName, tRet, tLst, tCons]
      generalize (if cell < 0 then -cell else cell) % ((10 : Int) ^ (57 : Int).toNat) ^ (11 : Int).toNat = whole at wb ⊢
      obtain ⟨w0, w1⟩ := wb
      refine tif_int (c := decide ((10 : Int) ^ (18 : Int).toNat ≤ whole)) Big (fun N hN => ?_) (fun e N hN => ?_) (fun e N hN => ?_) (fun d0 b0 => ?_)
      · exact ⟨_, rfl, _, _, rfl, rfl, ⟨by decide, by decide +kernel⟩, _, _, rfl, rfl, _, rfl, hN⟩
      · exact ⟨_, rfl, hN _ (big_of w0 w1)⟩
      · exact hN _ big_zero
      refine ⟨_, rfl, _, _, rfl, rfl, wide_mul (a := 2) (b := 2420) (by decide) w1 (by decide) (by decide) (by decide), _, rfl, _, _, rfl, rfl, .inr ⟨_, rfl, _, _, rfl, rfl, ?_⟩⟩
      refine ⟨_, rfl, _, _, rfl, rfl, wide_mul (a := 20) (b := 8) (by decide) (by omega) (by decide) (by decide) (by decide), _, _, rfl, rfl, _, _, rfl, rfl, ?_⟩
      refine ⟨(by show 3 ≤ sizeLine; decide), fun p hp => ?_⟩
      refine k p _ hp (same_new hp) ⟨_, _, _, upd_same, b0, big_seed w0 w1 ?_ ⟨hs0, by omega⟩, Int.le_refl _, by omega⟩
      by_cases hc : cell < 0
      · rw [decide_eq_true hc]; exact ⟨by decide, by decide⟩
      · rw [decide_eq_false hc]; exact ⟨by decide, by decide⟩
theorem sc__law_roll : FnScope ["dice", "upto", "found", "one", "two"] ["dice", "upto"] (defScope s__law_roll) := ⟨rfl, rfl, rfl, by decide +kernel, rfl, by decide +kernel, by decide +kernel⟩
theorem ok__law_roll {f : Addr} {fd : FuncData} (F : Fun K "_law_roll" "_law_roll" s__law_roll f fd) (T : Txt K mg C CE CB CT CO) : FnOk P w K mg base CX0 1 f fd ["dice", "upto"] (spRoll) := by
  refine F.ok sc__law_roll (fun vs H Q E h => ?_) (fun cdv A outer s H vs Q E hr h => ?_)
  · obtain ⟨l, u, n, rfl, _⟩ := h
    rfl
  · have hu := hu_of hr
    obtain ⟨l, u, n, rfl, hu0, hu1, ⟨d0, d1, d2, hD, b0, b1, p2, q2⟩, k⟩ := h
    refine ⟨_, (pss_cons (ps_if (pt_cmpR op_gt (pe_ix (g_ix_list K) (pv 0) pe_int (fun _ _ => rfl)) pe_int (nomark _)) (pss_cons (ps_set (i := 2) sc__law_roll.nd rfl (Or.inl rfl) (pe_op op_mod (pe_callTy call_int1 (by rfl) T.b_int (by decide +kernel) (pa_cons (pe_ix (g_ix_list K) (pv 0) pe_int (fun _ _ => rfl)) pa_nil)) (pv 1)))
      (pss_cons (ps_asg (pe_op op_fdivW (pe_ix (g_ix_list K) (pv 0) pe_int (fun _ _ => rfl)) (pv 1)) (pg_sub (pv 0) pe_int set_list))
      (pss_one (ps_ret (pv 2))))) pss_nil)
      (pss_cons (ps_asg (pe_op op_add (pe_ix (g_ix_list K) (pv 0) pe_int (fun _ _ => rfl)) pe_int) (pg_sub (pv 0) pe_int set_list))
      (pss_cons (ps_set (i := 3) sc__law_roll.nd rfl (Or.inl rfl) (pe_op op_mod (pe_callTy call_int1 (by rfl) T.b_int (by decide +kernel) (pa_cons (pe_op op_add (pe_op op_mulW (pe_ix (g_ix_list K) (pv 0) pe_int (fun _ _ => rfl)) pe_int) (pe_op op_mulW (pe_ix (g_ix_list K) (pv 0) pe_int (fun _ _ => rfl)) pe_int)) pa_nil)) pe_int))
      (pss_cons (ps_set (i := 4) sc__law_roll.nd rfl (Or.inl rfl) (pe_op op_mod (pe_callTy call_int1 (by rfl) T.b_int (by decide +kernel) (pa_cons (pe_op op_add (pe_op op_mulW (pv 3) (pv 3)) (pe_op op_mulW (pe_ix (g_ix_list K) (pv 0) pe_int (fun _ _ => rfl)) pe_int)) pa_nil)) pe_int))
      (pss_one (ps_ret (pe_op op_mod (pe_callTy call_int1 (by rfl) T.b_int (by decide +kernel) (pa_cons (pe_op op_fdivW (pe_op op_mod (pe_callTy call_int1 (by rfl) T.b_int (by decide +kernel) (pa_cons (pe_op op_add (pe_op op_mulW (pv 4) (pv 4)) (pv 3)) pa_nil)) pe_int) pe_int) pa_nil)) (pv 1)))))))), ?_⟩
    refine ⟨_, rfl, _, _, _, _, rfl, rfl, SqL.of hD, rfl, _, _, rfl, rfl, _, rfl, ?_⟩
    have u0 : 0 < u := by omega
    refine itB (fun e => ?_) (fun e => ?_)
    · refine ⟨_, rfl, _, _, _, _, rfl, rfl, SqL.of hD, rfl, .inl ⟨_, rfl, _, rfl, _, _, rfl, rfl, u0, ?_⟩⟩
      refine ⟨_, rfl, _, _, _, _, rfl, rfl, SqL.of hD, rfl, _, rfl, _, _, rfl, rfl, wide_div (b := 64) u0 (by omega) (by decide) (by decide), ?_⟩
      refine ⟨_, rfl, _, _, _, _, rfl, rfl, hD, rfl, ?_⟩
      refine ⟨_, rfl, ?_⟩
      exact k _ _ (Int.emod_nonneg _ (by omega)) (Int.emod_lt_of_pos _ u0) Kp.upd ⟨_, _, _, upd_same, big_div b0 hu0, b1, p2, by omega⟩
    · refine ⟨_, rfl, _, _, _, _, rfl, rfl, SqL.of hD, rfl, _, _, rfl, rfl, _, rfl, _, _, _, _, rfl, rfl, hD, rfl, ?_⟩
      have hD2 : upd H l (.lst [.int d0, .int d1, .int (d2 + 1)]) l = some (.lst [.int d0, .int d1, .int (d2 + 1)]) := upd_same
      refine ⟨_, rfl, _, _, _, _, rfl, rfl, SqL.of hD2, rfl, _, _, rfl, rfl, wide_mul (a := 2500) (b := 40) b1.2 (by decide) (by decide) (by decide) (by decide), ?_⟩
      refine ⟨_, rfl, _, _, _, _, rfl, rfl, SqL.of hD2, rfl, _, _, rfl, rfl, wide_mul (a := 64) (b := 40) (by omega) (by decide) (by decide) (by decide) (by decide), _, _, rfl, rfl, .inl ⟨_, rfl, _, _, rfl, rfl, (show (0 : Int) < 2305843009213693951 by decide), ?_⟩⟩
      have o1 := Int.emod_nonneg (d1 * 25214903917 + (d2 + 1) * 40692) (by decide : (2305843009213693951 : Int) ≠ 0)
      have o2 := Int.emod_lt_of_pos (d1 * 25214903917 + (d2 + 1) * 40692) (by decide : (0 : Int) < 2305843009213693951)
      dsimp only
      generalize (d1 * 25214903917 + (d2 + 1) * 40692) % 2305843009213693951 = one' at o1 o2 ⊢
      refine ⟨_, rfl, _, rfl, _, _, rfl, rfl, wide_mul (a := 64) (b := 64) (by omega) (by omega) (by decide) (by decide) (by decide), ?_⟩
      refine ⟨_, rfl, _, _, _, _, rfl, rfl, SqL.of hD2, rfl, _, _, rfl, rfl, wide_mul (a := 64) (b := 40) (by omega) (by decide) (by decide) (by decide) (by decide), _, _, rfl, rfl, .inl ⟨_, rfl, _, _, rfl, rfl, (show (0 : Int) < 1152921504606846883 by decide), ?_⟩⟩
      have t1 := Int.emod_nonneg (one' * one' + (d2 + 1) * 69621) (by decide : (1152921504606846883 : Int) ≠ 0)
      have t2 := Int.emod_lt_of_pos (one' * one' + (d2 + 1) * 69621) (by decide : (0 : Int) < 1152921504606846883)
      dsimp only
      generalize (one' * one' + (d2 + 1) * 69621) % 1152921504606846883 = two' at t1 t2 ⊢
      refine ⟨_, rfl, _, rfl, _, _, rfl, rfl, wide_mul (a := 64) (b := 64) (by omega) (by omega) (by decide) (by decide) (by decide), _, rfl, _, _, rfl, rfl, .inl ⟨_, rfl, ?_⟩⟩
      refine ⟨_, _, rfl, rfl, (show (0 : Int) < 4398046511093 by decide), _, _, rfl, rfl, wide_div (b := 64) (by decide) (by decide) (by decide) (by decide), .inl ⟨_, rfl, _, rfl, _, _, rfl, rfl, u0, ?_⟩⟩
      exact k _ _ (Int.emod_nonneg _ (by omega)) (Int.emod_lt_of_pos _ u0) Kp.upd ⟨_, _, _, hD2, b0, b1, by omega, by omega⟩
theorem sc__law_pick : FnScope ["dice", "items"] ["dice", "items"] (defScope s__law_pick) := ⟨rfl, rfl, rfl, by decide +kernel, rfl, by decide +kernel, by decide +kernel⟩
theorem ok__law_pick {f : Addr} {fd : FuncData} (F : Fun K "_law_pick" "_law_pick" s__law_pick f fd) (T : Txt K mg C CE CB CT CO) (c__law_roll : HasO P w K mg base CX0 1 "_law_roll" ["dice", "upto"] (spRoll)) : FnOk P w K mg base CX0 2 f fd ["dice", "items"] (spPick K) := by
  refine F.ok sc__law_pick (fun vs H Q E h => ?_) (fun cdv A outer s H vs Q E hr h => ?_)
  · obtain ⟨l, x, ys, n, rfl, _⟩ := h
    rfl
  · have hu := hu_of hr
    obtain ⟨l, x, ys, n, rfl, S, ne, hl, D, k⟩ := h
    have hpos : 0 < ys.length := List.length_pos_iff.mpr ne
    refine ⟨_, (pss_one (ps_ret (pe_ix (g_ix_seq K) (pv 1) (pe_hasO c__law_roll (hr.mono (by decide)) pass0 (pa_cons (pv 0) (pa_cons (pe_callB (g_len K) (by rfl) T.b_len (by decide +kernel) (pa_cons (pv 1) pa_nil)) pa_nil))) (fun _ _ => rfl)))), ?_⟩
    have hlen : LenV K x H ys.length := by
      cases S with
      | lst _ h => exact .inl ⟨_, h, rfl⟩
      | tup _ h => exact .inr ⟨_, h, rfl⟩
      | str h e => exact ⟨fits_sz (by omega), by rw [e, signsV_len]⟩
    refine ⟨_, rfl, _, rfl, _, rfl, _, _, rfl, hlen, l, _, n, rfl, by omega, by omega, D, fun r H' r0 r1 kp D' => ?_⟩
    have hr1 : r.toNat < ys.length := by omega
    have hat : ys[r.toNat]? = some ys[r.toNat] := List.getElem?_eq_getElem hr1
    have hmem : ys[r.toNat] ∈ ys := List.getElem_mem hr1
    cases S with
    | lst n h => exact .inl ⟨_, _, _, _, rfl, rfl, kp.seq n h, at_of (j := r.toNat) (by omega) hat, k _ _ hmem kp D'⟩
    | tup n h => exact .inr (.inl ⟨_, _, _, _, rfl, rfl, kp.tup n h, at_of (j := r.toNat) (by omega) hat, k _ _ hmem kp D'⟩)
    | @str z _ h e =>
      subst e
      have hc : ∃ c, (cs z)[r.toNat]? = some c := ⟨_, List.getElem?_eq_getElem (by rw [cs_len, ← signsV_len]; exact hr1)⟩
      obtain ⟨c, hc⟩ := hc
      have e2 : atI (cs z) r = some c := by
        have : r = ((r.toNat : Nat) : Int) := by omega
        rw [this]
        exact atI_nat hc
      refine .inr (.inr ⟨_, _, _, rfl, rfl, fits_sz (by omega), e2, ?_⟩)
      refine k _ _ ?_ kp D'
      unfold signsV
      exact List.mem_map.mpr ⟨c, List.mem_of_getElem? hc, rfl⟩
theorem sc__law_some : FnScope ["dice", "items", "many", "left", "found", "turn"] ["dice", "items", "many"] (defScope s__law_some) := ⟨rfl, rfl, rfl, by decide +kernel, rfl, by decide +kernel, by decide +kernel⟩
theorem ok__law_some {f : Addr} {fd : FuncData} (F : Fun K "_law_some" "_law_some" s__law_some f fd) (T : Txt K mg C CE CB CT CO) (c__law_roll : HasO P w K mg base CX0 1 "_law_roll" ["dice", "upto"] (spRoll)) : FnOk P w K mg base CX0 2 f fd ["dice", "items", "many"] (spSome K) := by
  refine F.ok sc__law_some (fun vs H Q E h => ?_) (fun cdv A outer s H vs Q E hr h => ?_)
  · obtain ⟨l, x, ys, m, n, rfl, _⟩ := h
    rfl
  · have hu := hu_of hr
    obtain ⟨l, x, ys, m, n, rfl, S, hl, hm, D, k⟩ := h
    refine ⟨_, (pss_cons (ps_par (i := 3) (j := 4) (by rfl) sc__law_some.nd rfl rfl (by decide) rfl rfl (pa_cons (pe_callTy (g_list_any K rfl) (by rfl) T.b_list (by decide +kernel) (pa_cons (pv 1) pa_nil)) (pa_cons (pe_lst pa_nil) pa_nil)) (by rfl))
      (pss_cons (ps_for PassesOwn.never rfl (pi_range1 (by rfl) T.b_range (pa_cons (pe_callB (call_min2 rfl) (by rfl) T.b_min (by decide +kernel) (pa_cons (pv 2) (pa_cons (pe_callB (g_len_seq K) (by rfl) T.b_len (by decide +kernel) (pa_cons (pv 3) pa_nil)) pa_nil))) pa_nil)) (pg_name (i := 5) sc__law_some.nd rfl (Or.inl rfl)) (pss_one (ps_expr (g_bm K PySem.F.plainAttrs_list PySem.F.slot_list_append PySem.F.type_list_append mt_append (pv 4) (pa_cons (g_bm K PySem.F.plainAttrs_list PySem.F.slot_list_pop PySem.F.type_list_pop mt_popAt (pv 3) (pa_cons (pe_hasO c__law_roll (hr.mono (by decide)) pass0 (pa_cons (pv 0) (pa_cons (pe_callB (g_len_seq K) (by rfl) T.b_len (by decide +kernel) (pa_cons (pv 3) pa_nil)) pa_nil))) pa_nil)) pa_nil)))))
      (pss_one (ps_ret (pv 4))))), ?_⟩
    have hL : ∀ (Q : VK), (∀ p, H p = none → Q (.ref p) (upd H p (.lst ys))) → rListAny K [x] H Q := by
      intro Q q
      cases S with
      | lst _ h => exact .inr ⟨_, _, rfl, .inl h, q⟩
      | tup _ h => exact .inr ⟨_, _, rfl, .inr h, q⟩
      | str h e =>
        subst e
        exact .inl ⟨_, rfl, fits_sz (by omega), q⟩
    refine ⟨_, rfl, hL _ fun lf hlf => ?_⟩
    refine ⟨by show 0 ≤ sizeLine; decide, fun fo hfo => ?_⟩
    have nlf : lf ≠ l := D.ne hlf
    have nfo : fo ≠ l := (D.new hlf).ne hfo
    have nff : lf ≠ fo := ne_of_none upd_same hfo
    have hfo0 : H fo = none := (same_new hlf).free hfo
    refine ⟨_, _, rfl, ?_⟩
    have hlen : (if (ys.length : Int) < (m : Int) then (ys.length : Int) else (m : Int)) = ((min m ys.length : Nat) : Int) := by split <;> omega
    refine ⟨_, rfl, _, rfl, lf, _, rfl, .inl (SqL.of (by rw [upd_ne nff]; exact upd_same)), _, _, rfl, _, congrArg (fun i => [V.int i]) hlen, by omega, by omega, ?_⟩
    rw [Int.toNat_natCast]
    refine for_range (lo := 0) (n := min m ys.length) (fun i σ H' => ∃ t zs rest, σ = [some (.ref l), some x, some (.int (m : Int)), some (.ref lf), some (.ref fo), t] ∧ (zs ++ rest).Perm ys ∧ zs.length = i ∧ H' lf = some (.lst rest) ∧ H' fo = some (.lst zs) ∧ Kp l H H' ∧ Dice H' l (n + (m - i)))
      ⟨_, [], ys, rfl, List.Perm.refl _, rfl, by rw [upd_ne nff]; exact upd_same, upd_same, ((Kp.refl _ _).new hlf).new hfo, (D.new hlf).new hfo⟩ ?_ ?_
    · rintro i σ H1 hi ⟨t, zs, rest, rfl, pm, zl, e1, e2, kp, D1⟩
      have lrest : rest.length + i = ys.length := by
        have := pm.length_eq
        rw [List.length_append, zl] at this
        omega
      refine ⟨_, rfl, .inl ⟨rfl, _, SqL.of e2⟩, _, rfl, .inl ⟨rfl, _, SqL.of e1⟩, _, rfl, _, rfl, lf, _, rfl, .inl (SqL.of e1), l, _, n + (m - (i + 1)), rfl, by omega, by omega, D1.le (by omega), fun r H2 r0 r1 kp2 D2 => ?_⟩
      obtain ⟨y, hy⟩ : ∃ y, rest[r.toNat]? = some y := ⟨_, List.getElem?_eq_getElem (by omega)⟩
      have e1' := kp2 _ _ e1 nlf
      have e2' := kp2 _ _ e2 nfo
      refine ⟨lf, rest, r, r.toNat, y, rfl, rfl, e1', by omega, by omega, ix_pos r0 (by omega), hy, ?_⟩
      refine ⟨fo, zs, y, rfl, rfl, by rw [upd_ne nff.symm]; exact e2', small1000' (by omega), ?_⟩
      refine ⟨_, zs ++ [y], rest.eraseIdx r.toNat, rfl, ?_, ?_, ?_, upd_same, ?_, ?_⟩
      · have h := erase_perm hy
        rw [List.append_assoc]
        exact (h.append_left zs).trans pm
      · rw [List.length_append, zl]
        rfl
      · rw [upd_ne nff]
        exact upd_same
      · exact ((kp.trans kp2).mut hlf).mut hfo0
      · exact (D2.upd nlf).upd nfo
    · rintro σ H1 ⟨t, zs, rest, rfl, pm, zl, e1, e2, kp, D1⟩
      exact ⟨_, rfl, k fo zs rest H1 hfo0 pm zl e2 kp (D1.le (by omega))⟩
theorem sc__law_cuts : FnScope ["prices", "text", "found", "stop", "here", "start", "piece", "way"] ["prices", "text"] (defScope s__law_cuts) := ⟨rfl, rfl, rfl, by decide +kernel, rfl, by decide +kernel, by decide +kernel⟩
theorem ok__law_cuts {f : Addr} {fd : FuncData} (F : Fun K "_law_cuts" "_law_cuts" s__law_cuts f fd) (T : Txt K mg C CE CB CT CO) : FnOk P w K mg base CX0 1 f fd ["prices", "text"] (spCuts) := by
  refine F.ok sc__law_cuts (fun vs H Q E h => ?_) (fun cdv A outer s H vs Q E hr h => ?_)
  · obtain ⟨d, kvs, z, rfl, _⟩ := h
    rfl
  · have hu := hu_of hr
    obtain ⟨d, kvs, z, rfl, hd, tar, hz, k⟩ := h
    refine ⟨_, (pss_cons (ps_set (i := 2) sc__law_cuts.nd rfl (Or.inl rfl) (pe_lst (pa_cons (pe_lst (pa_cons (pe_tup pa_nil) pa_nil)) pa_nil)))
      (pss_cons (ps_for PassesOwn.never rfl (pi_range2 (by rfl) T.b_range (pa_cons pe_int (pa_cons (pe_op op_add (pe_callB call_len_str (by rfl) T.b_len (by decide +kernel) (pa_cons (pv 1) pa_nil)) pe_int) pa_nil))) (pg_name (i := 3) sc__law_cuts.nd rfl (Or.inl rfl)) (pss_cons (ps_set (i := 4) sc__law_cuts.nd rfl (Or.inl rfl) (pe_lst pa_nil))
      (pss_cons (ps_for PassesOwn.never rfl (pi_range2 (by rfl) T.b_range (pa_cons (pe_callB (call_max2 rfl) (by rfl) T.b_max (by decide +kernel) (pa_cons pe_int (pa_cons (pe_op op_sub (pv 3) pe_int) pa_nil))) (pa_cons (pv 3) pa_nil))) (pg_name (i := 5) sc__law_cuts.nd rfl (Or.inl rfl)) (pss_cons (ps_set (i := 6) sc__law_cuts.nd rfl (Or.inr rfl) (pe_slice sl_str (pv 1) (po_some (pv 5)) (po_some (pv 3))))
      (pss_one (ps_expr (g_bm K PySem.F.plainAttrs_list PySem.F.slot_list_extend PySem.F.type_list_extend mt_extend (pv 4) (pa_cons (pe_lc (own := [("way", 7)]) rfl sc__law_cuts.nd (g_list K (pe_ix (g_ix_list K) (pv 2) (pv 5) (fun _ _ => rfl))) (blkOk_by (own := [("way", 7)]) (N := ["prices", "text", "found", "stop", "here", "start", "piece", "way"]) (sc := defScope s__law_cuts) (by decide +kernel)) (fun _ _ _ _ _ => (pg_name (i := 7) sc__law_cuts.nd rfl (Or.inl rfl))) (fun _ _ _ _ _ => (pts_one (pt_cmp (pc_din hu (pv 6) (pv 0))))) (fun _ _ _ _ _ => (pe_op (g_catA K) (pv 7) (pe_tup (pa_cons (pv 6) pa_nil))))) pa_nil))))))
      (pss_one (ps_expr (g_bm K PySem.F.plainAttrs_list PySem.F.slot_list_append PySem.F.type_list_append mt_append (pv 2) (pa_cons (pv 4) pa_nil)))))))
      (pss_one (ps_ret (pe_ix (g_ix_list K) (pv 2) (pe_un un_neg pe_int) (fun _ _ => rfl)))))), ?_⟩
    have good := tar.good
    have lz := cs_len z
    refine ⟨by show 0 ≤ sizeLine; decide, fun t0 ht0 => ⟨by show 1 ≤ sizeLine; decide, fun a0 ha0 => ⟨by show 1 ≤ sizeLine; decide, fun fo hfo => ?_⟩⟩⟩
    have s0 : Same H (upd (upd (upd H t0 (.tup [])) a0 (.lst [.ref t0])) fo (.lst [.ref a0])) := ((same_new ht0).trans (same_new ha0)).trans (same_new hfo)
    have f0 : (upd (upd (upd H t0 (.tup [])) a0 (.lst [.ref t0])) fo (.lst [.ref a0])) fo = some (.lst [.ref a0]) := upd_same
    have b0 : (upd (upd (upd H t0 (.tup [])) a0 (.lst [.ref t0])) fo (.lst [.ref a0])) a0 = some (.lst [.ref t0]) := same_new hfo _ _ upd_same
    have c0 : (upd (upd (upd H t0 (.tup [])) a0 (.lst [.ref t0])) fo (.lst [.ref a0])) t0 = some (.tup []) := same_new hfo _ _ (same_new ha0 _ _ upd_same)
    have n0 : a0 ≠ fo := ne_of_none upd_same hfo
    have hfo0 : H fo = none := ((same_new ht0).trans (same_new ha0)).free hfo
    generalize (upd (upd (upd H t0 (.tup [])) a0 (.lst [.ref t0])) fo (.lst [.ref a0])) = H0 at s0 f0 b0 c0 ⊢
    refine ⟨_, rfl, z, rfl, fits_sz (by omega), _, _, rfl, rfl, 1, _, rfl, ⟨by omega, by omega, by omega, by omega⟩, for_range (lo := 1) (Pv := fun i σ H' => ∃ x3 x4 x5 x6, σ = [some (.ref d), some (.str z), some (.ref fo), x3, x4, x5, x6, none] ∧ Same H H' ∧
      ∃ tbl : List (Addr × List (Addr × List Str)), tbl.length = i + 1 ∧ H' fo = some (.lst (tbl.map fun p => V.ref p.1)) ∧ ∀ (j : Nat) (p : Addr × List (Addr × List Str)), tbl[j]? = some p → H' p.1 = some (.lst (p.2.map fun w => V.ref w.1)) ∧ p.1 ≠ fo ∧ CutsAt H' (tfD kvs) ((cs z).take j) p.2)
      ⟨_, _, _, _, rfl, s0, [(a0, [(t0, [])])], rfl, f0, fun j p hp => ?_⟩ ?_ ?_⟩
    · cases j with
      | succ j => simp at hp
      | zero =>
        cases hp
        refine ⟨b0, n0, fun w hw => ?_, fun c => ?_, Nat.le_refl _⟩
        · rw [List.mem_singleton.mp hw]
          exact c0
        · rw [List.take_zero, cut_nil good]
          constructor
          · rintro ⟨w, hw, rfl⟩
            rw [List.mem_singleton.mp hw]
          · rintro rfl
            exact ⟨_, List.mem_cons_self, rfl⟩
    · rintro i σ H1 hi ⟨x3, x4, x5, x6, rfl, s1, tbl, tl, f1, tb⟩
      have hi' : i < z.length := by omega
      have e1 : (1 : Int) + (i : Int) = ((i + 1 : Nat) : Int) := by omega
      rw [e1]
      refine ⟨by show 0 ≤ sizeLine; decide, fun hr hhr => ?_⟩
      have hr0 : H hr = none := s1.free hhr
      have nhf : fo ≠ hr := ne_of_none f1 hhr
      have em : (if ((i + 1 : Nat) : Int) - 5 > 0 then ((i + 1 : Nat) : Int) - 5 else 0) = 0 := if_neg (by omega)
      refine ⟨_, rfl, _, _, rfl, rfl, _, _, rfl, ?_⟩
      rw [em]
      refine ⟨_, rfl, 0, _, rfl, ⟨by omega, by omega, by omega, by omega⟩, for_range (lo := 0) (Pv := fun s σ H' => ∃ y5 y6, σ = [some (.ref d), some (.str z), some (.ref fo), some (.int ((i + 1 : Nat) : Int)), some (.ref hr), y5, y6, none] ∧ Same H1 H' ∧
        ∃ whs : List (Addr × List Str), H' hr = some (.lst (whs.map fun w => V.ref w.1)) ∧ (∀ w ∈ whs, H' w.1 = some (.tup (w.2.map V.str))) ∧ (∀ c, (∃ w ∈ whs, w.2 = c) ↔ CutTo (tfD kvs) ((cs z).take (i + 1)) s c) ∧ whs.length + 1 ≤ 2 ^ s)
        ⟨_, _, rfl, same_new hhr, [], upd_same, fun _ h => (List.not_mem_nil h).elim, fun c => ⟨fun ⟨_, h, _⟩ => (List.not_mem_nil h).elim, fun h => absurd h cut_zero⟩, Nat.le_refl _⟩ ?_ ?_⟩
      · rintro s σ H3 hs ⟨y5, y6, rfl, s3, whs, h3, w3, c3, l3⟩
        have hs' : s < i + 1 := by omega
        have es : (0 : Int) + (s : Int) = ((s : Nat) : Int) := by omega
        rw [es]
        have hpc : cs (cutS z (some ((s : Nat) : Int)) (some ((i + 1 : Nat) : Int))) = ((cs z).take (i + 1)).drop s := cs_cutAB (by omega) (by omega)
        refine ⟨_, rfl, _, rfl, _, rfl, _, rfl, _, rfl, z, rfl, fits_sz (by omega), ?_⟩
        have f3 := s3 _ _ f1
        obtain ⟨p, hp⟩ : ∃ p, tbl[s]? = some p := ⟨_, List.getElem?_eq_getElem (by omega)⟩
        obtain ⟨g1, g2, g3⟩ := tb _ _ hp
        refine ⟨_, rfl, .inl ⟨rfl, _, SqL.of h3⟩, ?_⟩
        refine ⟨_, rfl, _, rfl, fo, _, _, .ref p.1, rfl, rfl, SqL.of f3, at_of (j := s) rfl (by rw [List.getElem?_map, hp]; rfl), p.1, rfl, ⟨_, SqL.of (s3 _ _ g1)⟩, fun D hD => ?_⟩
        generalize cutS z (some ((s : Nat) : Int)) (some ((i + 1 : Nat) : Int)) = pc at hpc ⊢
        have dd := (s1.trans s3) _ _ hd
        refine lc_it (walk_listF (K := K) (fun w : Addr × List Str => V.ref w.1) p.2) (fun m H' => ∃ vs : List (Addr × List Str), H' D = some (.lst (vs.map fun w => V.ref w.1)) ∧ (∀ w ∈ vs, H' w.1 = some (.tup (w.2.map V.str))) ∧ vs.map (·.2) = (if (valV kvs (Sum.inr pc)).isSome = true then (p.2.take m).map (fun w => w.2 ++ [pc]) else []) ∧ Same H3 H')
          ⟨[], upd_same, fun _ h => (List.not_mem_nil h).elim, by simp, same_new hD⟩ (fun m H' _ q => by obtain ⟨_, _, _, _, q⟩ := q; exact SqL.of (q _ _ (s3 _ _ g1))) ?_ ?_
        · rintro m x H4 H5 hm ⟨vs, v1, v2, v3, s4⟩ ⟨rfl, w, hw, rfl⟩
          refine ⟨wipe_set, _, rfl, _, rfl, d, _, rfl, .inl ⟨kvs, Sum.inr pc, .inl (s4 _ _ dd), rfl, rfl⟩, _, rfl, ?_⟩
          refine itB (fun q => ?_) (fun q => ?_)
          · have wt : H5 w.1 = some (.tup (w.2.map V.str)) := s4 _ _ (s3 _ _ (g3.at_ w (List.mem_of_getElem? hw)))
            have vl : vs.length ≤ 32 := by
              have h1 := congrArg List.length v3
              rw [if_pos q, List.length_map, List.length_map, List.length_take] at h1
              have h2 := g3.len
              rw [List.length_take] at h2
              have h3 : 2 ^ min s (cs z).length ≤ 2 ^ 5 := Nat.pow_le_pow_right (by decide) (by omega)
              omega
            have fin : ∀ (r : Addr) (H' : Hp), H' r = some (.tup ((w.2 ++ [pc]).map V.str)) → Same H5 H' → ∃ acc, H' D = some (.lst acc) ∧ acc.length < sizeLine ∧ ∃ vs : List (Addr × List Str), upd H' D (.lst (acc ++ [V.ref r])) D = some (.lst (vs.map fun w => V.ref w.1)) ∧ (∀ w ∈ vs, upd H' D (.lst (acc ++ [V.ref r])) w.1 = some (.tup (w.2.map V.str))) ∧
                vs.map (·.2) = (if (valV kvs (Sum.inr pc)).isSome = true then (p.2.take (m + 1)).map (fun w => w.2 ++ [pc]) else []) ∧ Same H3 (upd H' D (.lst (acc ++ [V.ref r]))) := fun r H' hr' s' => by
              refine ⟨_, s' _ _ v1, by rw [List.length_map]; exact small1000' (by omega), vs ++ [(r, w.2 ++ [pc])], by rw [upd_same, List.map_append]; rfl, fun w' hw' => ?_, ?_, same_mut (s4.trans s') hD⟩
              · have at' : H' w'.1 = some (.tup (w'.2.map V.str)) := by
                  rcases List.mem_append.mp hw' with h | h
                  · exact s' _ _ (v2 w' h)
                  · rw [List.mem_singleton.mp h]
                    exact hr'
                have n : w'.1 ≠ D := fun e => by
                  rw [e, s' _ _ v1] at at'
                  cases at'
                rw [upd_ne n]
                exact at'
              · rw [List.map_append, v3, if_pos q, if_pos q, List.take_add_one, hw, List.map_append]
                rfl
            refine ⟨_, rfl, _, rfl, by show 1 ≤ sizeLine; decide, fun u hu => ?_⟩
            have su := same_new hu (o := .tup [V.str pc])
            have wlen : w.2.length ≤ 1000 := by
              obtain ⟨h1, h2⟩ := (g3.all w.2).mp ⟨w, List.mem_of_getElem? hw, rfl⟩
              have h3 := congrArg List.length h2
              rw [List.length_flatten, List.map_map, List.length_take] at h3
              have h4 : ∀ l : List Str, (∀ y ∈ l, ∃ p, tfD kvs y = some p) → l.length ≤ (l.map (List.length ∘ cs)).sum := fun l hl => by
                induction l with
                | nil => exact Nat.le_refl _
                | cons y r ih =>
                  obtain ⟨p', hp'⟩ := hl y List.mem_cons_self
                  have := (good.len y p' hp').1
                  have := ih fun x hx => hl x (List.mem_cons_of_mem _ hx)
                  rw [List.map_cons, List.sum_cons, List.length_cons]
                  show _ ≤ (cs y).length + _
                  omega
              have := h4 w.2 h1
              omega
            refine ⟨w.1, u, w.2.map V.str, [V.str pc], rfl, rfl, SqT.of (su _ _ wt), SqT.of upd_same, by rw [List.length_map]; exact fits_sz (by show w.2.length + 1 ≤ 100000; omega), fun e => ?_, fun _ e => (by cases e), fun _ _ r hr' => ?_⟩
            · have e' : w.2 = [] := List.map_eq_nil_iff.mp e
              exact fin u _ (by rw [upd_same, e']; rfl) su
            · exact fin r _ (by rw [upd_same, List.map_append]; rfl) (su.trans (same_new hr'))
          · exact ⟨vs, v1, v2, by rw [v3, q, if_neg Bool.false_ne_true, if_neg Bool.false_ne_true], s4⟩
        rintro H4 ⟨vs, v1, v2, v3, s4⟩
        rw [List.take_length] at v3
        have pl : p.2.length ≤ 2 ^ s := by
          have h2 := g3.len
          rw [List.length_take] at h2
          rwa [show min s (cs z).length = s by omega] at h2
        have vl : vs.length ≤ 2 ^ s := by
          have h1 := congrArg List.length v3
          rw [List.length_map] at h1
          split at h1
          · rw [List.length_map] at h1
            omega
          · rw [h1]
            exact Nat.zero_le _
        have p2 : 2 ^ (s + 1) = 2 * 2 ^ s := by rw [Nat.pow_succ, Nat.mul_comm]
        have p5 : 2 ^ s ≤ 2 ^ 5 := Nat.pow_le_pow_right (by decide) (by omega)
        refine ⟨hr, D, _, _, rfl, rfl, s4 _ _ h3, v1, by rw [List.length_map, List.length_map]; exact fits_sz (by omega), ?_⟩
        refine ⟨_, _, rfl, same_mut (s3.trans s4) hhr, whs ++ vs, by rw [upd_same, List.map_append], fun w hw => ?_, fun c => ?_, by rw [List.length_append]; omega⟩
        · have at' : H4 w.1 = some (.tup (w.2.map V.str)) := by
            rcases List.mem_append.mp hw with h | h
            · exact s4 _ _ (w3 w h)
            · exact v2 w h
          have n : w.1 ≠ hr := fun e => by
            rw [e, s4 _ _ h3] at at'
            cases at'
          rw [upd_ne n]
          exact at'
        · rw [cut_succ, ← c3 c]
          have tt : ((cs z).take (i + 1)).take s = (cs z).take s := by rw [List.take_take, show min s (i + 1) = s by omega]
          rw [tt]
          have right : (∃ w ∈ vs, w.2 = c) ↔ ∃ y, (∃ q, tfD kvs y = some q) ∧ cs y = ((cs z).take (i + 1)).drop s ∧ ∃ e, IsCut (tfD kvs) ((cs z).take s) e ∧ c = e ++ [y] := by
            have m1 : (∃ w ∈ vs, w.2 = c) ↔ c ∈ vs.map (·.2) := List.mem_map.symm
            rw [m1, v3]
            constructor
            · intro h
              split at h
              · rename_i q
                obtain ⟨w, hw, rfl⟩ := List.mem_map.mp h
                obtain ⟨v, hv⟩ := Option.isSome_iff_exists.mp q
                obtain ⟨y, q', e, hq'⟩ := tar.mem _ (valV_mem hv)
                cases e
                exact ⟨pc, ⟨q', hq'⟩, hpc, w.2, (g3.all _).mp ⟨w, hw, rfl⟩, rfl⟩
              · exact (List.not_mem_nil h).elim
            · rintro ⟨y, ⟨q, hq⟩, e1', e, he, rfl⟩
              have ey : y = pc := str_ext (by rw [e1', hpc])
              subst ey
              rw [if_pos (by rw [tf_some.mp hq]; rfl)]
              obtain ⟨w, hw, rfl⟩ := (g3.all e).mpr he
              exact List.mem_map.mpr ⟨w, hw, rfl⟩
          rw [← right]
          constructor
          · rintro ⟨w, hw, rfl⟩
            rcases List.mem_append.mp hw with h | h
            · exact Or.inl ⟨w, h, rfl⟩
            · exact Or.inr ⟨w, h, rfl⟩
          · rintro (⟨w, hw, rfl⟩ | ⟨w, hw, rfl⟩)
            · exact ⟨w, List.mem_append_left _ hw, rfl⟩
            · exact ⟨w, List.mem_append_right _ hw, rfl⟩
      · rintro σ H3 ⟨y5, y6, rfl, s3, whs, h3, w3, c3, l3⟩
        have en : (((i + 1 : Nat) : Int) - 0).toNat = i + 1 := by omega
        rw [en] at c3 l3
        have f3 := s3 _ _ f1
        have lt : ((cs z).take (i + 1)).length = i + 1 := by
          rw [List.length_take]
          omega
        have C3 : CutsAt H3 (tfD kvs) ((cs z).take (i + 1)) whs := ⟨w3, fun c => by
          have h := cut_to good (l := (cs z).take (i + 1)) (c := c) (fun e => by
            rw [e] at lt
            cases lt)
          rw [lt] at h
          rw [c3 c, h], by rw [lt]; omega⟩
        refine ⟨_, rfl, .inl ⟨rfl, _, SqL.of f3⟩, _, rfl, fo, _, _, rfl, rfl, f3, by rw [List.length_map]; exact small1000' (by omega), ?_⟩
        refine ⟨_, _, _, _, rfl, same_mut (s1.trans s3) hfo0, tbl ++ [(hr, whs)], by rw [List.length_append, tl]; rfl, by rw [upd_same, List.map_append]; rfl, fun j p hp => ?_⟩
        have all : H3 p.1 = some (.lst (p.2.map fun w => V.ref w.1)) ∧ p.1 ≠ fo ∧ CutsAt H3 (tfD kvs) ((cs z).take j) p.2 := by
          rcases Nat.lt_or_ge j tbl.length with h | h
          · rw [List.getElem?_append_left h] at hp
            obtain ⟨g1, g2, g3⟩ := tb j p hp
            exact ⟨s3 _ _ g1, g2, g3.same s3⟩
          · rw [List.getElem?_append_right h] at hp
            have e0 : j - tbl.length = 0 := by
              rcases Nat.eq_zero_or_pos (j - tbl.length) with h0 | h0
              · exact h0
              · rw [List.getElem?_eq_none (by simp; omega)] at hp
                cases hp
            rw [e0] at hp
            cases hp
            have ej : j = i + 1 := by omega
            subst ej
            exact ⟨h3, nhf.symm, C3⟩
        obtain ⟨a1, a2, a3⟩ := all
        exact ⟨by rw [upd_ne a2]; exact a1, a2, a3.updL f3⟩
    · rintro σ H1 ⟨x3, x4, x5, x6, rfl, s1, tbl, tl, f1, tb⟩
      have e1 : ((z.length : Int) + 1 - 1).toNat = z.length := by omega
      rw [e1] at tl
      obtain ⟨p, hp⟩ : ∃ p, tbl[z.length]? = some p := ⟨_, List.getElem?_eq_getElem (by omega)⟩
      obtain ⟨g1, g2, g3⟩ := tb _ _ hp
      have full : (cs z).take z.length = cs z := List.take_of_length_le (by omega)
      rw [full] at g3
      have last : atI (tbl.map fun p => V.ref p.1) (-1) = some (.ref p.1) := by
        have h := atI_neg (xs := tbl.map fun p => V.ref p.1) (j := 0) (by rw [List.length_map]; omega)
        rw [List.length_map, tl] at h
        rw [show (-(1 : Int)) = -((0 : Nat) : Int) - 1 from rfl, h]
        show (tbl.map fun p => V.ref p.1)[z.length + 1 - 1 - 0]? = _
        rw [List.getElem?_map, show z.length + 1 - 1 - 0 = z.length from rfl, hp]
        rfl
      refine ⟨_, rfl, _, rfl, fo, _, _, .ref p.1, rfl, rfl, SqL.of f1, last, ?_⟩
      exact k p.1 p.2 H1 g1 g3 s1
theorem ok_require_book__may {f : Addr} {fd : FuncData} (F : Fun K "require_book" "require_book" s_require_book f fd) (T : Txt K mg C CE CB CT CO) : FnOk P w K mg base (L2.CX P w) 1 f fd ["value"] (spMayBook C CB) := by
  refine F.okX sc_require_book (fun vs H Q E h => ?_) (fun cdv A outer s H vs Q E hr h => ?_)
  · obtain ⟨x, rfl, _⟩ := h
    rfl
  · have hu := hu_of hr
    obtain ⟨x, rfl, h⟩ := h
    refine ⟨_, (pss_one (ps_if (pt_not (pt_val (pe_callB (call_mayC T.ic T.nc) (by rfl) T.b_isinstance (by decide +kernel) (pa_cons (pv 0) (pa_cons (pe_glob (v := .ref C) rfl T.gC rfl) pa_nil))))) (pss_one (ps_err T.e_InvalidBook rfl (takes_of rfl rfl rfl rfl))) pss_nil)), ?_⟩
    rcases h with ⟨b, kvs, rfl, B, k⟩ | ⟨hx, k⟩
    · obtain ⟨_, _, _, _, _, _, _, _, _, _, _, _, A⟩ := id B
      exact ⟨_, rfl, .inl ⟨b, _, _, rfl, A.ob, true, rfl, k⟩⟩
    · exact ⟨_, rfl, .inr ⟨x, rfl, hx, false, rfl, k⟩⟩
theorem ok_require_comparable__bad {f : Addr} {fd : FuncData} (F : Fun K "require_comparable" "require_comparable" s_require_comparable f fd) (T : Txt K mg C CE CB CT CO) (c_require_book__may : HasO P w K mg base (L2.CX P w) 1 "require_book" ["value"] (spMayBook C CB)) : FnOk P w K mg base (L2.CX P w) 2 f fd ["book", "other"] (spBadC C CB CO) := by
  refine F.okX sc_require_comparable (fun vs H Q E h => ?_) (fun cdv A outer s H vs Q E hr h => ?_)
  · obtain ⟨x, y, rfl, _⟩ := h
    rfl
  · have hu := hu_of hr
    obtain ⟨x, y, rfl, h⟩ := h
    refine ⟨_, (pss_cons (ps_expr (pe_hasX c_require_book__may (hr.mono (by decide)) (takes_of rfl rfl rfl rfl) (fun _ _ _ _ h => h) (pa_cons (pv 0) pa_nil)))
      (pss_cons (ps_expr (pe_hasX c_require_book__may (hr.mono (by decide)) (takes_of rfl rfl rfl rfl) (fun _ _ _ _ h => h) (pa_cons (pv 1) pa_nil)))
      (pss_one (ps_if (pt_cmpR (g_neD K hr.units) (g_fld K (pv 0)) (g_fld K (pv 1)) (nomark _)) (pss_one (ps_err T.e_InvalidOperation rfl (takes_of rfl rfl rfl rfl))) pss_nil)))), ?_⟩
    rcases h with ⟨hx, k⟩ | ⟨b, k1, rfl, B1, h⟩
    · exact ⟨_, rfl, x, rfl, .inr ⟨hx, k⟩⟩
    refine ⟨_, rfl, _, rfl, .inl ⟨b, k1, rfl, B1, ?_⟩⟩
    rcases h with ⟨hy, k⟩ | ⟨b2, k2, rfl, B2, ⟨c, nc⟩, k⟩
    · exact ⟨_, rfl, y, rfl, .inr ⟨hy, k⟩⟩
    refine ⟨_, rfl, _, rfl, .inl ⟨b2, k2, rfl, B2, ?_⟩⟩
    obtain ⟨av1, nd1, ys1, L1, M1, dx1, d1, tp1, ta1, od1, pm1, so1, A1⟩ := id B1
    obtain ⟨av2, nd2, ys2, L2', M2, dx2, d2, tp2, ta2, od2, pm2, so2, A2⟩ := id B2
    obtain ⟨_, al1, _, _⟩ := ap_parts av1
    obtain ⟨_, al2, _, _⟩ := ap_parts av2
    have hl : ∀ {kvs : List (Key × V)} {ys : List Str}, (kvs.all fun kv => isPiece (kV kv.1) && isPrice kv.2) = true → ys.Perm (keyStrs kvs) → ∀ z ∈ sgn (psOf kvs ys), ∀ c ∈ cs z, lett c = true := fun {kvs ys} al pm z hz => by
      rw [sgn_ps] at hz
      exact (keyStrs_piece al z (pm.mem_iff.mp (List.mem_filter.mp hz).1)).2.2
    refine ⟨_, rfl, b, C, dx1, _, _, rfl, A1.ob, T.cl, T.n_own_alphabet, bf_alphabet, _, rfl, b2, C, dx2, _, _, rfl, A2.ob, T.cl, T.n_own_alphabet, bf_alphabet, .tuple ((sgn (psOf k1 ys1)).map PyData.str), .tuple ((sgn (psOf k2 ys2)).map PyData.str), .tup (SqT.of A1.al) (dpAll_strs _), .tup (SqT.of A2.al) (dpAll_strs _), shaped_strs (hl al1 pm1), shaped_strs (hl al2 pm2), ?_⟩
    have ne : sgn (psOf k1 ys1) ≠ sgn (psOf k2 ys2) := fun e => nc (by
      rw [Option.isSome_iff_exists, Option.isSome_iff_exists, ← sgn_mem al1 pm1, ← sgn_mem al2 pm2, e])
    refine ⟨true, congrArg V.bl (by rw [eqvT_strs, decide_eq_false ne]; rfl), k⟩
theorem ok_is_nowhere_dearer__bad {f : Addr} {fd : FuncData} (F : Fun K "is_nowhere_dearer" "is_nowhere_dearer" s_is_nowhere_dearer f fd) (T : Txt K mg C CE CB CT CO) (c_require_comparable__bad : HasO P w K mg base (L2.CX P w) 2 "require_comparable" ["book", "other"] (spBadC C CB CO)) : FnOk P w K mg base (L2.CX P w) 3 f fd ["book", "other"] (spBadC C CB CO) := by
  refine F.okX sc_is_nowhere_dearer (fun vs H Q E h => ?_) (fun cdv A outer s H vs Q E hr h => ?_)
  · obtain ⟨x, y, rfl, _⟩ := h
    rfl
  · have hu := hu_of hr
    obtain ⟨x, y, rfl, h⟩ := h
    refine ⟨_, (pss_cons (ps_expr (pe_hasX c_require_comparable__bad (hr.mono (by decide)) (takes_of rfl rfl rfl rfl) (fun _ _ _ _ h => h) (pa_cons (pv 0) (pa_cons (pv 1) pa_nil))))
      pss_any), ?_⟩
    exact ⟨_, rfl, _, rfl, x, y, rfl, h⟩
theorem ok_dearer_piece__bad {f : Addr} {fd : FuncData} (F : Fun K "dearer_piece" "dearer_piece" s_dearer_piece f fd) (T : Txt K mg C CE CB CT CO) (c_require_comparable__bad : HasO P w K mg base (L2.CX P w) 2 "require_comparable" ["book", "other"] (spBadC C CB CO)) : FnOk P w K mg base (L2.CX P w) 3 f fd ["book", "other"] (spBadC C CB CO) := by
  refine F.okX sc_dearer_piece (fun vs H Q E h => ?_) (fun cdv A outer s H vs Q E hr h => ?_)
  · obtain ⟨x, y, rfl, _⟩ := h
    rfl
  · have hu := hu_of hr
    obtain ⟨x, y, rfl, h⟩ := h
    refine ⟨_, (pss_cons (ps_expr (pe_hasX c_require_comparable__bad (hr.mono (by decide)) (takes_of rfl rfl rfl rfl) (fun _ _ _ _ h => h) (pa_cons (pv 0) (pa_cons (pv 1) pa_nil))))
      pss_any), ?_⟩
    exact ⟨_, rfl, _, rfl, x, y, rfl, h⟩
theorem ok_are_as_cheap__bad {f : Addr} {fd : FuncData} (F : Fun K "are_as_cheap" "are_as_cheap" s_are_as_cheap f fd) (T : Txt K mg C CE CB CT CO) (c_require_comparable__bad : HasO P w K mg base (L2.CX P w) 2 "require_comparable" ["book", "other"] (spBadC C CB CO)) : FnOk P w K mg base (L2.CX P w) 3 f fd ["book", "other"] (spBadC C CB CO) := by
  refine F.okX sc_are_as_cheap (fun vs H Q E h => ?_) (fun cdv A outer s H vs Q E hr h => ?_)
  · obtain ⟨x, y, rfl, _⟩ := h
    rfl
  · have hu := hu_of hr
    obtain ⟨x, y, rfl, h⟩ := h
    refine ⟨_, (pss_cons (ps_expr (pe_hasX c_require_comparable__bad (hr.mono (by decide)) (takes_of rfl rfl rfl rfl) (fun _ _ _ _ h => h) (pa_cons (pv 0) (pa_cons (pv 1) pa_nil))))
      pss_any), ?_⟩
    exact ⟨_, rfl, _, rfl, x, y, rfl, h⟩
theorem ok_needless__bad {f : Addr} {fd : FuncData} (F : Fun K "needless" "needless" s_needless f fd) (T : Txt K mg C CE CB CT CO) (c_require_book__may : HasO P w K mg base (L2.CX P w) 1 "require_book" ["value"] (spMayBook C CB)) : FnOk P w K mg base (L2.CX P w) 2 f fd ["book"] (spBadBook CB) := by
  refine F.okX sc_needless (fun vs H Q E h => ?_) (fun cdv A outer s H vs Q E hr h => ?_)
  · obtain ⟨x, rfl, _⟩ := h
    rfl
  · have hu := hu_of hr
    obtain ⟨x, rfl, hx, k⟩ := h
    refine ⟨_, (pss_cons (ps_expr (pe_hasX c_require_book__may (hr.mono (by decide)) (takes_of rfl rfl rfl rfl) (fun _ _ _ _ h => h) (pa_cons (pv 0) pa_nil)))
      pss_any), ?_⟩
    exact ⟨_, rfl, x, rfl, .inr ⟨hx, k⟩⟩
theorem ok_least_book__bad {f : Addr} {fd : FuncData} (F : Fun K "least_book" "least_book" s_least_book f fd) (T : Txt K mg C CE CB CT CO) (c_Book : C8.Mak P w K mg base 5 "Book" C (spBook C K) []) (c_require_book__may : HasO P w K mg base (L2.CX P w) 1 "require_book" ["value"] (spMayBook C CB)) : FnOk P w K mg base (L2.CX P w) 2 f fd ["book"] (spBadBook CB) := by
  refine F.okX sc_least_book (fun vs H Q E h => ?_) (fun cdv A outer s H vs Q E hr h => ?_)
  · obtain ⟨x, rfl, _⟩ := h
    rfl
  · have hu := hu_of hr
    obtain ⟨x, rfl, hx, k⟩ := h
    refine ⟨_, (pss_cons (ps_expr (pe_hasX c_require_book__may (hr.mono (by decide)) (takes_of rfl rfl rfl rfl) (fun _ _ _ _ h => h) (pa_cons (pv 0) pa_nil)))
      pss_any), ?_⟩
    exact ⟨_, rfl, x, rfl, .inr ⟨hx, k⟩⟩
theorem sc__law_met : FnScope ["call", "e", "told", "words"] ["call"] (defScope s__law_met) := ⟨rfl, rfl, rfl, by decide +kernel, rfl, by decide +kernel, by decide +kernel⟩
theorem ok__law_met {f : Addr} {fd : FuncData} (F : Fun K "_law_met" "_law_met" s__law_met f fd) (T : Txt K mg C CE CB CT CO) (hm : mg "_law_met" = some (.ref f)) (hb : L2.Binds K fd ["call"] []) : HasL K mg "_law_met" "call" (TTmet K CE CB CT CO) :=
  ⟨f, fd, s__law_met, _, F, hm, hb, sc__law_met, .inl rfl, rfl, fun X eK em cdv q => by
    subst eK
    subst em
    intro f1 c1 s1 H Q tl act hc h
    refine ⟨_, (pss_cons (ps_try_asM (X := (cxOf C8.CX0 X.prog X.w X.K X.mg X.base ["call", "e", "told", "words"] "_law_met" (defScope s__law_met) f cdv X.A X.stack s1 H C8.E0).nox) (tb := fun W => tDrop (tAct f1 c1 q tl W)) (Wout := fun _ _ _ _ => False) rfl rfl sc__law_met.nd takes_none5 (fun W pn_ xe_ tk _ => (pss_one (ps_expr (pe_actW fun E => act W pn_ xe_ E _ _ tk)))) (.clause (c := .ref CE) (i := 1) rfl rfl ⟨rfl, by decide, .inl T.e_CutError.g⟩ (fun a_ oe_ cls_ d_ pn_ hz_ hf_ => (pss_cons (ps_set (i := 2) sc__law_met.nd rfl (Or.inl rfl) (pe_lst (pa_cons (pe_callB (call_isEE hz_ hf_) (by rfl) T.b_isinstance (by decide +kernel) (pa_cons (pv 1) (pa_cons (pe_glob (v := .ref CB) rfl T.e_InvalidBook.g rfl) pa_nil))) (pa_cons (pe_callB (call_isEE hz_ hf_) (by rfl) T.b_isinstance (by decide +kernel) (pa_cons (pv 1) (pa_cons (pe_glob (v := .ref CT) rfl T.e_InvalidText.g rfl) pa_nil))) (pa_cons (pe_callB (call_isEE hz_ hf_) (by rfl) T.b_isinstance (by decide +kernel) (pa_cons (pv 1) (pa_cons (pe_glob (v := .ref CO) rfl T.e_InvalidOperation.g rfl) pa_nil))) pa_nil)))))
      (pss_cons (ps_set (i := 3) sc__law_met.nd rfl (Or.inl rfl) (pe_lst (pa_cons pe_str (pa_cons pe_str (pa_cons pe_str pa_nil)))))
      (pss_one (ps_ret (pe_ifExp (PW.pt (pw_and (pt_cmpR op_eq (g_bm X.K PySem.F.plainAttrs_list PySem.F.slot_list_count PySem.F.type_list_count (mt_countK X.K) (pv 2) (pa_cons pe_bl pa_nil)) pe_int (nomark _)) (pw_and1 (pt_val (pe_callB (call_isEE hz_ hf_) (by rfl) T.b_isinstance (by decide +kernel) (pa_cons (pv 1) (pa_cons (pe_bltn (v := .ty "ValueError") rfl T.b_ValueError (by decide +kernel) rfl) pa_nil))))))) (pe_ix (g_ix_list X.K) (pv 3) (g_bm X.K PySem.F.plainAttrs_list PySem.F.slot_list_index PySem.F.type_list_index (mt_indexK X.K) (pv 2) (pa_cons pe_bl pa_nil)) (fun _ _ => rfl)) pe_str)))))) (.rest fun _ _ _ _ h => h)))
      (pss_one (ps_ret pe_str))), ?_⟩
    refine ⟨_, fun _ H' => Q (.str (Str.ofString "fine")) H', ?_, fun v H' hv => hv, rfl, hc, h⟩
    rintro cls d H' ⟨D, w, rfl, rfl, ek, kk⟩
    obtain ⟨b, t, o, hb, ht, ho, hw⟩ := ek.is
    refine ⟨true, ek.ce, fun _ a ha => ?_, fun e => nomatch e⟩
    refine ⟨_, rfl, D, rfl, rfl, ek.ex, _, _, b, rfl, (fun u r => r), hb, _, rfl, D, rfl, rfl, ek.ex, _, _, t, rfl, (fun u r => r), ht, _, rfl, D, rfl, rfl, ek.ex, _, _, o, rfl, (fun u r => r), ho, by show 3 ≤ sizeLine; decide, fun p1 h1 => ?_⟩
    generalize hG_ : upd H' p1 _ = G1
    have g1 : Same H' G1 := by rw [← hG_]; exact same_new h1
    have f1' := (congrFun hG_ p1).symm.trans upd_same
    clear hG_
    refine ⟨by show 3 ≤ sizeLine; decide, fun p2 h2 => ?_⟩
    generalize hG_ : upd G1 p2 _ = G2
    have g2 : Same G1 G2 := by rw [← hG_]; exact same_new h2
    have f2 := (congrFun hG_ p2).symm.trans upd_same
    clear hG_
    have g12 := g1.trans g2
    have f12 := g2 _ _ f1'
    rcases hw with hw | hw | hw
    · cases hw
      refine ⟨_, rfl, .inl ⟨rfl, _, SqL.of f12⟩, p1, _, _, rfl, rfl, SqL.of f12, rfl, rfl, ?_⟩
      refine ⟨rfl, true, rfl, _, rfl, D, rfl, rfl, ek.ex, _, _, true, rfl, (fun u r => r), ek.ve, ?_⟩
      refine ⟨_, rfl, _, rfl, _, rfl, .inl ⟨rfl, _, SqL.of f12⟩, p1, _, _, 0, _, rfl, rfl, SqL.of f12, rfl, rfl, rfl, rfl, ?_, p2, _, _, _, rfl, rfl, SqL.of f2, at_of (j := 0) rfl rfl, kk _ g12⟩
      · intro m z hm hz
        exact absurd hm (Nat.not_lt_zero _)
    · cases hw
      refine ⟨_, rfl, .inl ⟨rfl, _, SqL.of f12⟩, p1, _, _, rfl, rfl, SqL.of f12, rfl, rfl, ?_⟩
      refine ⟨rfl, true, rfl, _, rfl, D, rfl, rfl, ek.ex, _, _, true, rfl, (fun u r => r), ek.ve, ?_⟩
      refine ⟨_, rfl, _, rfl, _, rfl, .inl ⟨rfl, _, SqL.of f12⟩, p1, _, _, 1, _, rfl, rfl, SqL.of f12, rfl, rfl, rfl, rfl, ?_, p2, _, _, _, rfl, rfl, SqL.of f2, at_of (j := 1) rfl rfl, kk _ g12⟩
      · intro m z hm hz
        match m, hm with
        | 0, _ =>
          cases hz
          rfl
    · cases hw
      refine ⟨_, rfl, .inl ⟨rfl, _, SqL.of f12⟩, p1, _, _, rfl, rfl, SqL.of f12, rfl, rfl, ?_⟩
      refine ⟨rfl, true, rfl, _, rfl, D, rfl, rfl, ek.ex, _, _, true, rfl, (fun u r => r), ek.ve, ?_⟩
      refine ⟨_, rfl, _, rfl, _, rfl, .inl ⟨rfl, _, SqL.of f12⟩, p1, _, _, 2, _, rfl, rfl, SqL.of f12, rfl, rfl, rfl, rfl, ?_, p2, _, _, _, rfl, rfl, SqL.of f2, at_of (j := 2) rfl rfl, kk _ g12⟩
      · intro m z hm hz
        match m, hm with
        | 0, _ =>
          cases hz
          rfl
        | 1, _ =>
          cases hz
          rfl⟩
theorem sc__law_cost : FnScope ["prices", "way", "piece"] ["prices", "way"] (defScope s__law_cost) := ⟨rfl, rfl, rfl, by decide +kernel, rfl, by decide +kernel, by decide +kernel⟩
theorem ok__law_cost {f : Addr} {fd : FuncData} (F : Fun K "_law_cost" "_law_cost" s__law_cost f fd) (T : Txt K mg C CE CB CT CO) : FnOk P w K mg base CX0 1 f fd ["prices", "way"] (spSumOf) := by
  refine F.ok sc__law_cost (fun vs H Q E h => ?_) (fun cdv A outer s H vs Q E hr h => ?_)
  · obtain ⟨d, t, kvs, c, rfl, _⟩ := h
    rfl
  · have hu := hu_of hr
    obtain ⟨d, t, kvs, c, rfl, hd, tar, ht, hl, call, k⟩ := h
    refine ⟨_, (pss_one (ps_ret (pe_callB (g_sum K rfl) (by rfl) T.b_sum (by decide +kernel) (pa_cons (pe_lc (own := [("piece", 2)]) rfl sc__law_cost.nd (g_tuple K (pv 1)) (blkOk_by (own := [("piece", 2)]) (N := ["prices", "way", "piece"]) (sc := defScope s__law_cost) (by decide +kernel)) (fun _ _ _ _ _ => (pg_name (i := 2) sc__law_cost.nd rfl (Or.inl rfl))) (fun _ _ _ _ _ => pts_nil) (fun _ _ _ _ _ => (pe_dget hu (pv 0) (pv 2) (fun _ _ => rfl)))) pa_nil)))), ?_⟩
    refine ⟨_, rfl, t, rfl, ⟨_, SqT.of ht⟩, fun D hD => ?_⟩
    refine lcs c (walk_tupF (K := K) V.str c) (fun y => some (V.int ((tfD kvs y).getD 0))) hD (by omega) (fun H' s => SqT.of (s _ _ ht)) ?_ ?_
    · rintro j y x H1 H2 hj s1 ⟨rfl, y', ey, rfl⟩ N M hN hM
      have e1 : y = y' := Option.some.inj (hj.symm.trans ey)
      subst e1
      obtain ⟨p, hp⟩ := call y (List.mem_of_getElem? hj)
      exact ⟨wipe_set, _, rfl, _, rfl, d, _, rfl, .inl ⟨_, Sum.inr y, .inl (s1 _ _ hd), rfl, (tf_some.mp hp).symm⟩, hN _ _ (by rw [hp]; rfl) (Same.refl _)⟩
    intro H1 s1 e1
    rw [fm_some] at e1
    exact ⟨D, c.map fun y => (tfD kvs y).getD 0, rfl, SqL.of (by rw [e1, List.map_map]; rfl), k _ s1⟩
theorem sc__law_dearer : FnScope ["one", "two", "found", "piece", "least", "way"] ["one", "two"] (defScope s__law_dearer) := ⟨rfl, rfl, rfl, by decide +kernel, rfl, by decide +kernel, by decide +kernel⟩
theorem ok__law_dearer {f : Addr} {fd : FuncData} (F : Fun K "_law_dearer" "_law_dearer" s__law_dearer f fd) (T : Txt K mg C CE CB CT CO) (c__law_cuts : HasO P w K mg base CX0 1 "_law_cuts" ["prices", "text"] (spCuts)) (c__law_cost : HasO P w K mg base CX0 1 "_law_cost" ["prices", "way"] (spSumOf)) : FnOk P w K mg base CX0 2 f fd ["one", "two"] (spLDear) := by
  refine F.ok sc__law_dearer (fun vs H Q E h => ?_) (fun cdv A outer s H vs Q E hr h => ?_)
  · obtain ⟨d1, d2, k1, k2, rfl, _⟩ := h
    rfl
  · have hu := hu_of hr
    obtain ⟨d1, d2, k1, k2, rfl, h1, h2, T1, av, nd, ov, k⟩ := h
    refine ⟨_, (pss_cons (ps_set (i := 2) sc__law_dearer.nd rfl (Or.inl rfl) (pe_lst pa_nil))
      (pss_cons (ps_for PassesOwn.never rfl (g_list K (pe_callB (call_sortedD rfl) (by rfl) T.b_sorted (by decide +kernel) (pa_cons (pv 1) pa_nil))) (pg_name (i := 3) sc__law_dearer.nd rfl (Or.inl rfl)) (pss_cons (ps_set (i := 4) sc__law_dearer.nd rfl (Or.inl rfl) (pe_callB (g_min K rfl) (by rfl) T.b_min (by decide +kernel) (pa_cons (pe_lc (own := [("way", 5)]) rfl sc__law_dearer.nd (g_list K (pe_hasO c__law_cuts (hr.mono (by decide)) pass0 (pa_cons (pv 0) (pa_cons (pv 3) pa_nil)))) (blkOk_by (own := [("way", 5)]) (N := ["one", "two", "found", "piece", "least", "way"]) (sc := defScope s__law_dearer) (by decide +kernel)) (fun _ _ _ _ _ => (pg_name (i := 5) sc__law_dearer.nd rfl (Or.inl rfl))) (fun _ _ _ _ _ => pts_nil) (fun _ _ _ _ _ => (pe_hasO c__law_cost (hr.mono (by decide)) pass0 (pa_cons (pv 0) (pa_cons (pv 5) pa_nil))))) pa_nil)))
      (pss_one (ps_expr (g_bm K PySem.F.plainAttrs_list PySem.F.slot_list_extend PySem.F.type_list_extend mt_extend (pv 2) (pa_cons (pe_ifExp (pt_cmpR op_gt (pv 4) (pe_dget hu (pv 1) (pv 3) (fun _ _ => rfl)) (nomark _)) (pe_lst (pa_cons (pv 3) pa_nil)) (pe_lst pa_nil)) pa_nil))))))
      (pss_one (ps_ret (pv 2))))), ?_⟩
    refine ⟨by show 0 ≤ sizeLine; decide, fun fo hfo => ?_⟩
    have s0 := same_new hfo (o := .lst [])
    have f0 : (upd H fo (.lst [] : HO)) fo = some (.lst [] : HO) := upd_same
    generalize (upd H fo (.lst [] : HO)) = H0 at s0 f0 ⊢
    
    obtain ⟨⟨n1, n12⟩, al, _, _⟩ := ap_parts av
    have T2 := tar_of av nd
    have lk : (keyStrs k2).length ≤ 12 := by
      have h := congrArg List.length (keys_of al)
      rw [List.length_map, List.length_map] at h
      omega
    refine ⟨_, rfl, d2, k2, keyStrs k2, rfl, .inl (s0 _ _ h2), keys_of al, by omega, fun ys q pm sr hq => ?_⟩
    generalize hG_ : upd H0 q _ = H1
    have s1 : Same H0 H1 := by rw [← hG_]; exact same_new hq
    have f1 := (congrFun hG_ q).symm.trans upd_same
    clear hG_
    have nq : fo ≠ q := ne_of_none f0 hq
    have g1 := s1 _ _ f0
    have s01 := s0.trans s1
    obtain ⟨dz, hdz⟩ : ∃ dz : Str → Bool, ∀ z p, tfD k2 z = some p → dz z = decide (p < lp (tfD k1) (cs z)) := ⟨fun z => ((tfD k2 z).map fun p => decide (p < lp (tfD k1) (cs z))).getD false, fun z p h => by dsimp only; rw [h]; rfl⟩
    refine ⟨q, rfl, ⟨_, SqL.of f1⟩, for_list (K := K) (xs := ys.map V.str) (fun j σ H' => ∃ x3 x4, σ = [some (.ref d1), some (.ref d2), some (.ref fo), x3, x4, none] ∧ Same H H' ∧ H' q = some (.lst (ys.map V.str)) ∧ H' fo = some (.lst (((ys.take j).filter dz).map V.str))) ⟨_, _, rfl, s01, f1, g1⟩ (fun j σ H' _ q => by obtain ⟨_, _, _, _, q, _⟩ := q; exact SqL.of q) ?_ ?_⟩
    · rintro j x σ H2 hx ⟨x3, x4, rfl, s2, q2, g2⟩
      rw [List.getElem?_map] at hx
      obtain ⟨z, hz, rfl⟩ := Option.map_eq_some_iff.mp hx
      obtain ⟨p, hp⟩ := (tf_key al).mp (pm.mem_iff.mp (List.mem_of_getElem? hz))
      have oz := ov z p hp
      have z5 := (T2.good.len z p hp).2
      have lz := cs_len z
      refine ⟨_, rfl, _, rfl, d1, k1, z, rfl, s2 _ _ h1, T1, by omega, fun wp ws H3 e3 C3 s3 => ?_⟩
      have lws : ws.length ≤ 32 := Nat.le_trans C3.len (Nat.pow_le_pow_right (by decide) z5)
      have s23 := s2.trans s3
      refine ⟨wp, rfl, ⟨_, SqL.of e3⟩, fun D hD => ?_⟩
      refine lcs ws (walk_listF (K := K) (fun w : Addr × List Str => V.ref w.1) ws) (fun w => some (V.int (sumOf (tfD k1) w.2))) hD (by omega) (fun H' s => SqL.of (s _ _ e3)) ?_ ?_
      · rintro i y x H4 H5 hj s4 ⟨rfl, w, ew, rfl⟩ N M hN hM
        have e1 : y = w := Option.some.inj (hj.symm.trans ew)
        subst e1
        have hm := List.mem_of_getElem? hj
        have ic := (C3.all y.2).mp ⟨y, hm, rfl⟩
        exact ⟨wipe_set, _, rfl, _, rfl, d1, y.1, k1, y.2, rfl, s4 _ _ (s23 _ _ h1), T1, s4 _ _ (C3.at_ y hm), by have := isCut_len T1.good ic (by omega); omega, ic.1, fun H6 s6 => hN _ _ rfl s6⟩
      intro H4 s4 e4
      rw [fm_some] at e4
      obtain ⟨pos, mini⟩ := cuts_min T1.good oz C3
      refine ⟨D, ws.map (fun w => sumOf (tfD k1) w.2), rfl, SqL.of (by rw [e4, List.map_map]; rfl), pos, fun m hm hle => ?_⟩
      rw [mini m hm hle]
      have s24 := s3.trans s4
      have s04 := s2.trans s24
      have g4 := s24 _ _ g2
      have q4 := s24 _ _ q2
      have lfo : ((ys.take j).filter dz).length ≤ 12 := by
        refine Nat.le_trans (List.length_filter_le _ _) ?_
        have := pm.length_eq
        rw [List.length_take]
        omega
      have tk : (ys.take (j + 1)).filter dz = (ys.take j).filter dz ++ (if dz z = true then [z] else []) := by
        rw [List.take_add_one, hz, List.filter_append]
        refine congrArg _ ?_
        show [z].filter dz = _
        cases e : dz z <;> simp [e]
      refine ⟨_, rfl, .inl ⟨rfl, _, SqL.of g4⟩, _, rfl, _, rfl, _, rfl, d2, .int p, rfl, .inl ⟨k2, Sum.inr z, .inl (s04 _ _ h2), rfl, (tf_some.mp hp).symm⟩, _, _, rfl, rfl, ?_⟩
      have eqd : dz z = decide (lp (tfD k1) (cs z) > p) := hdz z p hp
      refine ⟨dz z, congrArg V.bl eqd.symm, itB (fun e => ?_) (fun e => ?_)⟩
      · rw [if_pos e] at tk
        refine ⟨_, rfl, by show 1 ≤ sizeLine; decide, fun pp hpp => ?_⟩
        generalize hG_ : upd H4 pp _ = H5
        have s5 : Same H4 H5 := by rw [← hG_]; exact same_new hpp
        have f5 := (congrFun hG_ pp).symm.trans upd_same
        clear hG_
        refine ⟨fo, pp, _, _, rfl, rfl, s5 _ _ g4, f5, by rw [List.length_map]; exact Nat.le_of_lt (small1000' (by show _ + 1 ≤ 100000; omega)), ?_⟩
        refine ⟨_, _, rfl, same_mut (s04.trans s5) hfo, by rw [upd_ne nq.symm]; exact s5 _ _ q4, ?_⟩
        rw [upd_same, tk, List.map_append]
        rfl
      · rw [if_neg (by rw [e]; exact Bool.false_ne_true), List.append_nil] at tk
        refine ⟨by show 0 ≤ sizeLine; decide, fun pp hpp => ?_⟩
        generalize hG_ : upd H4 pp _ = H5
        have s5 : Same H4 H5 := by rw [← hG_]; exact same_new hpp
        have f5 := (congrFun hG_ pp).symm.trans upd_same
        clear hG_
        refine ⟨fo, pp, _, _, rfl, rfl, s5 _ _ g4, f5, by rw [List.length_map]; exact Nat.le_of_lt (small1000' (by show _ + 0 ≤ 100000; omega)), ?_⟩
        refine ⟨_, _, rfl, same_mut (s04.trans s5) hfo, by rw [upd_ne nq.symm]; exact s5 _ _ q4, ?_⟩
        rw [upd_same, tk, List.append_nil]
    rintro σ H2 ⟨x3, x4, rfl, s2, q2, g2⟩
    rw [List.length_map, List.take_length] at g2
    refine ⟨_, rfl, k fo _ H2 hfo g2 (fun z => ?_) ⟨(so_pw sr).filter _, (pm.nodup_iff.mpr (keys_nd al nd)).filter _⟩ s2⟩
    rw [List.mem_filter, pm.mem_iff, tf_key al]
    constructor
    · rintro ⟨⟨p, hp⟩, h⟩
      rw [hdz z p hp] at h
      exact ⟨p, hp, of_decide_eq_true h⟩
    · rintro ⟨p, hp, h⟩
      exact ⟨⟨p, hp⟩, by rw [hdz z p hp]; exact decide_eq_true h⟩
theorem sc__law_needless : FnScope ["prices", "found", "piece", "costs", "way"] ["prices"] (defScope s__law_needless) := ⟨rfl, rfl, rfl, by decide +kernel, rfl, by decide +kernel, by decide +kernel⟩
theorem ok__law_needless {f : Addr} {fd : FuncData} (F : Fun K "_law_needless" "_law_needless" s__law_needless f fd) (T : Txt K mg C CE CB CT CO) (c__law_cuts : HasO P w K mg base CX0 1 "_law_cuts" ["prices", "text"] (spCuts)) (c__law_cost : HasO P w K mg base CX0 1 "_law_cost" ["prices", "way"] (spSumOf)) : FnOk P w K mg base CX0 2 f fd ["prices"] (spLNeed) := by
  refine F.ok sc__law_needless (fun vs H Q E h => ?_) (fun cdv A outer s H vs Q E hr h => ?_)
  · obtain ⟨d, kvs, rfl, _⟩ := h
    rfl
  · have hu := hu_of hr
    obtain ⟨d, kvs, rfl, hd, av, nd, k⟩ := h
    refine ⟨_, (pss_cons (ps_set (i := 1) sc__law_needless.nd rfl (Or.inl rfl) (pe_lst pa_nil))
      (pss_cons (ps_for PassesOwn.never rfl (g_list K (pe_callB (call_sortedD rfl) (by rfl) T.b_sorted (by decide +kernel) (pa_cons (pv 0) pa_nil))) (pg_name (i := 2) sc__law_needless.nd rfl (Or.inl rfl)) (pss_cons (ps_setLc (i := 3) (own := [("way", 4)]) rfl sc__law_needless.nd rfl rfl (sw_true rfl rfl rfl (by decide +kernel)) (g_list K (pe_hasO c__law_cuts (hr.mono (by decide)) pass0 (pa_cons (pv 0) (pa_cons (pv 2) pa_nil)))) (blkOk_by (own := [("way", 4)]) (N := ["prices", "found", "piece", "costs", "way"]) (sc := defScope s__law_needless) (by decide +kernel)) (fun _ _ _ _ _ => (pg_name (i := 4) sc__law_needless.nd rfl (Or.inl rfl))) (fun _ _ _ _ _ => (pts_one (pt_cmpR op_gt (pe_callB (g_len_seq K) (by rfl) T.b_len (by decide +kernel) (pa_cons (pv 4) pa_nil)) pe_int (nomark _)))) (fun _ _ _ _ _ => (pe_hasO c__law_cost (hr.mono (by decide)) pass0 (pa_cons (pv 0) (pa_cons (pv 4) pa_nil)))))
      (pss_one (ps_expr (g_bm K PySem.F.plainAttrs_list PySem.F.slot_list_extend PySem.F.type_list_extend mt_extend (pv 1) (pa_cons (pe_ifExp (PW.pt (pw_and (pt_cmpR (g_neD K hr.units) (pv 3) (pe_lst pa_nil) (nomark _)) (pw_and1 (pt_cmpR op_le (pe_callB (g_min K rfl) (by rfl) T.b_min (by decide +kernel) (pa_cons (pv 3) pa_nil)) (pe_dget hu (pv 0) (pv 2) (fun _ _ => rfl)) (nomark _))))) (pe_lst (pa_cons (pv 2) pa_nil)) (pe_lst pa_nil)) pa_nil))))))
      (pss_one (ps_ret (pv 1))))), ?_⟩
    refine ⟨by show 0 ≤ sizeLine; decide, fun fo hfo => ?_⟩
    have s0 := same_new hfo (o := .lst [])
    have f0 : (upd H fo (.lst [] : HO)) fo = some (.lst [] : HO) := upd_same
    generalize (upd H fo (.lst [] : HO)) = H0 at s0 f0 ⊢
    
    obtain ⟨⟨n1, n12⟩, al, _, _⟩ := ap_parts av
    have tar := tar_of av nd
    have good := tar.good
    have lk : (keyStrs kvs).length ≤ 12 := by
      have h := congrArg List.length (keys_of al)
      rw [List.length_map, List.length_map] at h
      omega
    refine ⟨_, rfl, d, kvs, keyStrs kvs, rfl, .inl (s0 _ _ hd), keys_of al, by omega, fun ys q pm sr hq => ?_⟩
    generalize hG_ : upd H0 q _ = H1
    have s1 : Same H0 H1 := by rw [← hG_]; exact same_new hq
    have f1 := (congrFun hG_ q).symm.trans upd_same
    clear hG_
    have nq : fo ≠ q := ne_of_none f0 hq
    have g1 := s1 _ _ f0
    have s01 := s0.trans s1
    obtain ⟨dz, hdz⟩ : ∃ dz : Str → Bool, ∀ z, dz z = true ↔ Needless (tfD kvs) z := ⟨fun z => @decide (Needless (tfD kvs) z) (Classical.propDecidable _), fun z => @decide_eq_true_iff _ (Classical.propDecidable _)⟩
    refine ⟨q, rfl, ⟨_, SqL.of f1⟩, for_list (K := K) (xs := ys.map V.str) (fun j σ H' => ∃ x3 x4, σ = [some (.ref d), some (.ref fo), x3, x4, none] ∧ Same H H' ∧ H' q = some (.lst (ys.map V.str)) ∧ H' fo = some (.lst (((ys.take j).filter dz).map V.str))) ⟨_, _, rfl, s01, f1, g1⟩ (fun j σ H' _ q => by obtain ⟨_, _, _, _, q, _⟩ := q; exact SqL.of q) ?_ ?_⟩
    · rintro j x σ H2 hx ⟨x3, x4, rfl, s2, q2, g2⟩
      rw [List.getElem?_map] at hx
      obtain ⟨z, hz, rfl⟩ := Option.map_eq_some_iff.mp hx
      obtain ⟨p, hp⟩ := (tf_key al).mp (pm.mem_iff.mp (List.mem_of_getElem? hz))
      have oz : Over (tfD kvs) (cs z) := fun c hc => good.cov z p hp c hc
      have z5 := (good.len z p hp).2
      have lz := cs_len z
      refine ⟨_, rfl, _, rfl, d, kvs, z, rfl, s2 _ _ hd, tar, by omega, fun wp ws H3 e3 C3 s3 => ?_⟩
      have lws : ws.length ≤ 32 := Nat.le_trans C3.len (Nat.pow_le_pow_right (by decide) z5)
      have s23 := s2.trans s3
      refine ⟨wp, rfl, ⟨_, SqL.of e3⟩, fun D hD => ?_⟩
      refine lcs ws (walk_listF (K := K) (fun w : Addr × List Str => V.ref w.1) ws) (fun w => if decide (1 < w.2.length) = true then some (V.int (sumOf (tfD kvs) w.2)) else none) hD (by omega) (fun H' s => SqL.of (s _ _ e3)) ?_ ?_
      · rintro i y x H4 H5 hj s4 ⟨rfl, w, ew, rfl⟩ N M hN hM
        have e1 : y = w := Option.some.inj (hj.symm.trans ew)
        subst e1
        have hm := List.mem_of_getElem? hj
        have ic := (C3.all y.2).mp ⟨y, hm, rfl⟩
        have lc := isCut_len good ic (by omega)
        refine ⟨wipe_set, _, rfl, _, _, rfl, .inr (SqT.of (s4 _ _ (C3.at_ y hm))), _, _, rfl, rfl, _, rfl, ?_⟩
        have el : decide ((1 : Int) < (((y.2.map V.str).length : Nat) : Int)) = decide (1 < y.2.length) := by rw [List.length_map]; exact decide_eq_decide.mpr (by omega)
        rw [el]
        refine itB (fun e => ?_) (fun e => ?_)
        · exact ⟨_, rfl, _, rfl, d, y.1, kvs, y.2, rfl, s4 _ _ (s23 _ _ hd), tar, s4 _ _ (C3.at_ y hm), by omega, ic.1, fun H6 s6 => hN _ _ (if_pos e) s6⟩
        · exact hM _ (if_neg (by rw [e]; exact Bool.false_ne_true)) (Same.refl _)
      intro H4 s4 e4
      have fmf : ∀ vs : List (Addr × List Str), vs.filterMap (fun w => if decide (1 < w.2.length) = true then some (V.int (sumOf (tfD kvs) w.2)) else none) = ((vs.filter fun w => decide (1 < w.2.length)).map fun w => sumOf (tfD kvs) w.2).map V.int := by
        intro vs
        induction vs with
        | nil => rfl
        | cons a r ih =>
          rw [List.filterMap_cons, List.filter_cons]
          cases e : decide (1 < a.2.length) with
          | true => simp only [if_true, ih, List.map_cons]
          | false => simp only [Bool.false_eq_true, if_false, ih]
      rw [fmf] at e4
      have s24 := s3.trans s4
      have s04 := s2.trans s24
      have g4 := s24 _ _ g2
      have q4 := s24 _ _ q2
      have lfo : ((ys.take j).filter dz).length ≤ 12 := by
        refine Nat.le_trans (List.length_filter_le _ _) ?_
        have := pm.length_eq
        rw [List.length_take]
        omega
      have tk : (ys.take (j + 1)).filter dz = (ys.take j).filter dz ++ (if dz z = true then [z] else []) := by
        rw [List.take_add_one, hz, List.filter_append]
        refine congrArg _ ?_
        show [z].filter dz = _
        cases e : dz z <;> simp [e]
      refine ⟨_, rfl, .inl ⟨rfl, _, SqL.of g4⟩, _, rfl, by show 0 ≤ sizeLine; decide, fun pn hpn => ?_⟩
      have s5 := same_new hpn (o := .lst [])
      have f5 : (upd H4 pn (.lst [] : HO)) pn = some (.lst [] : HO) := upd_same
      generalize (upd H4 pn (.lst [] : HO)) = H5 at s5 f5 ⊢
      refine rNe_nilI (SqL.of (s5 _ _ e4)) f5 ?_
      by_cases z1 : 1 < (cs z).length
      · have C' := cuts_rem good z1 C3
        obtain ⟨pos, mini⟩ := cuts_min (rem_good good z1) (rem_over z1 oz) C'
        have es : ((ws.filter fun w => decide (1 < w.2.length)).map fun w => sumOf (remF (tfD kvs) z) w.2) = (ws.filter fun w => decide (1 < w.2.length)).map fun w => sumOf (tfD kvs) w.2 := List.map_congr_left fun w hw => sum_rem good z1 ((C'.all w.2).mp ⟨w, hw, rfl⟩)
        rw [es] at pos mini
        clear es fmf
        generalize ((ws.filter fun w => decide (1 < w.2.length)).map fun w => sumOf (tfD kvs) w.2) = cl at pos mini e4 ⊢
        have ne : cl.isEmpty = false := by
          cases cl with
          | nil => exact absurd pos (Nat.lt_irrefl _)
          | cons a r => rfl
        rw [ne]
        refine ⟨true, rfl, ?_⟩
        refine ⟨_, rfl, D, cl, rfl, SqL.of (s5 _ _ e4), pos, fun m hm hle => ?_⟩
        rw [mini m hm hle]
        refine ⟨_, rfl, _, rfl, d, .int p, rfl, .inl ⟨kvs, Sum.inr z, .inl ((s04.trans s5) _ _ hd), rfl, (tf_some.mp hp).symm⟩, _, _, rfl, rfl, dz z, congrArg V.bl ?_, itB (fun e => ?_) (fun e => ?_)⟩
        · rw [Bool.eq_iff_iff, hdz, decide_eq_true_iff]
          exact ⟨fun h => ⟨p, hp, z1, h⟩, fun ⟨p', hp', _, h⟩ => by rw [hp] at hp'; cases hp'; exact h⟩
        · rw [if_pos e] at tk
          refine ⟨_, rfl, by show 1 ≤ sizeLine; decide, fun pp hpp => ?_⟩
          generalize hG_ : upd H5 pp _ = H6
          have s6 : Same H5 H6 := by rw [← hG_]; exact same_new hpp
          have f6 := (congrFun hG_ pp).symm.trans upd_same
          clear hG_
          refine ⟨fo, pp, _, _, rfl, rfl, s6 _ _ (s5 _ _ g4), f6, by rw [List.length_map]; exact Nat.le_of_lt (small1000' (by show _ + 1 ≤ 100000; omega)), ?_⟩
          refine ⟨_, _, rfl, same_mut ((s04.trans s5).trans s6) hfo, by rw [upd_ne nq.symm]; exact s6 _ _ (s5 _ _ q4), ?_⟩
          rw [upd_same, tk, List.map_append]
          rfl
        · rw [if_neg (by rw [e]; exact Bool.false_ne_true), List.append_nil] at tk
          refine ⟨by show 0 ≤ sizeLine; decide, fun pp hpp => ?_⟩
          generalize hG_ : upd H5 pp _ = H6
          have s6 : Same H5 H6 := by rw [← hG_]; exact same_new hpp
          have f6 := (congrFun hG_ pp).symm.trans upd_same
          clear hG_
          refine ⟨fo, pp, _, _, rfl, rfl, s6 _ _ (s5 _ _ g4), f6, by rw [List.length_map]; exact Nat.le_of_lt (small1000' (by show _ + 0 ≤ 100000; omega)), ?_⟩
          refine ⟨_, _, rfl, same_mut ((s04.trans s5).trans s6) hfo, by rw [upd_ne nq.symm]; exact s6 _ _ (s5 _ _ q4), ?_⟩
          rw [upd_same, tk, List.append_nil]
      · have z2 : (cs z).length = 1 := by
          have := (good.len z p hp).1
          omega
        have en : (ws.filter fun w => decide (1 < w.2.length)) = [] := List.filter_eq_nil_iff.mpr fun w hw => by
          have := cut_one good z2 ((C3.all w.2).mp ⟨w, hw, rfl⟩)
          exact fun h => by have := of_decide_eq_true h; omega
        rw [en]
        have e : dz z = false := by
          cases h : dz z with
          | false => rfl
          | true =>
            obtain ⟨_, _, h2, _⟩ := (hdz z).mp h
            exact absurd h2 z1
        refine ⟨false, rfl, ?_⟩
        dsimp only [Bool.false_eq_true, if_false]
        rw [if_neg (by rw [e]; exact Bool.false_ne_true), List.append_nil] at tk
        refine ⟨by show 0 ≤ sizeLine; decide, fun pp hpp => ?_⟩
        generalize hG_ : upd H5 pp _ = H6
        have s6 : Same H5 H6 := by rw [← hG_]; exact same_new hpp
        have f6 := (congrFun hG_ pp).symm.trans upd_same
        clear hG_
        refine ⟨fo, pp, _, _, rfl, rfl, s6 _ _ (s5 _ _ g4), f6, by rw [List.length_map]; exact Nat.le_of_lt (small1000' (by show _ + 0 ≤ 100000; omega)), ?_⟩
        refine ⟨_, _, rfl, same_mut ((s04.trans s5).trans s6) hfo, by rw [upd_ne nq.symm]; exact s6 _ _ (s5 _ _ q4), ?_⟩
        rw [upd_same, tk, List.append_nil]
    rintro σ H2 ⟨x3, x4, rfl, s2, q2, g2⟩
    rw [List.length_map, List.take_length] at g2
    refine ⟨_, rfl, k fo _ H2 hfo g2 (fun z => ?_) ⟨(so_pw sr).filter _, (pm.nodup_iff.mpr (keys_nd al nd)).filter _⟩ s2⟩
    rw [List.mem_filter, pm.mem_iff, tf_key al, hdz]
    constructor
    · exact fun h => h.2
    · rintro ⟨p, hp, h⟩
      exact ⟨⟨p, hp⟩, p, hp, h⟩
theorem sc__law_two : FnScope ["dice", "signs", "upto", "menu", "found", "turn", "some", "more", "at", "piece"] ["dice", "signs"] (defScope s__law_two) := ⟨rfl, rfl, rfl, by decide +kernel, rfl, by decide +kernel, by decide +kernel⟩
theorem ok__law_two {f : Addr} {fd : FuncData} (F : Fun K "_law_two" "_law_two" s__law_two f fd) (T : Txt K mg C CE CB CT CO) (c__law_pick : HasO P w K mg base CX0 2 "_law_pick" ["dice", "items"] (spPick K)) (c__law_roll : HasO P w K mg base CX0 1 "_law_roll" ["dice", "upto"] (spRoll)) (c__law_some : HasO P w K mg base CX0 2 "_law_some" ["dice", "items", "many"] (spSome K)) : FnOk P w K mg base CX0 4 f fd ["dice", "signs"] (spTwo K) := by
  refine F.ok sc__law_two (fun vs H Q E h => ?_) (fun cdv A outer s H vs Q E hr h => ?_)
  · obtain ⟨l, sa, sg, n, rfl, _⟩ := h
    rfl
  · have hu := hu_of hr
    obtain ⟨l, sa, sg, n, rfl, nsa, hs', n1, n4, hl, D, k⟩ := h
    refine ⟨_, (pss_cons (ps_asg (pe_tup (pa_cons (pe_hasO c__law_pick (hr.mono (by decide)) pass0 (pa_cons (pv 0) (pa_cons (pe_lst (pa_cons pe_int (pa_cons pe_int (pa_cons pe_int (pa_cons pe_int pa_nil))))) pa_nil))) (pa_cons (pe_lst pa_nil) (pa_cons (pe_lst pa_nil) pa_nil)))) (g_tup K (n := 3) rfl (pgs_cons (pg_name (i := 2) sc__law_two.nd rfl (Or.inr rfl)) (pgs_cons (pg_name (i := 3) sc__law_two.nd rfl (Or.inl rfl)) (pgs_cons (pg_name (i := 4) sc__law_two.nd rfl (Or.inl rfl)) pgs_nil)))))
      (pss_cons (ps_for PassesOwn.never rfl (pi_range1 (by rfl) T.b_range (pa_cons pe_int pa_nil)) (pg_name (i := 5) sc__law_two.nd rfl (Or.inl rfl)) (pss_one (ps_expr (g_bm K PySem.F.plainAttrs_list PySem.F.slot_list_append PySem.F.type_list_append mt_append (pv 3) (pa_cons (g_join K pe_str (pe_lc (own := [("at", 8)]) rfl sc__law_two.nd (pi_range1 (by rfl) T.b_range (pa_cons (pe_op op_add pe_int (pe_hasO c__law_roll (hr.mono (by decide)) pass0 (pa_cons (pv 0) (pa_cons pe_int pa_nil)))) pa_nil)) (blkOk_by (own := [("at", 8)]) (N := ["dice", "signs", "upto", "menu", "found", "turn", "some", "more", "at", "piece"]) (sc := defScope s__law_two) (by decide +kernel)) (fun _ _ _ _ _ => (pg_name (i := 8) sc__law_two.nd rfl (Or.inl rfl))) (fun _ _ _ _ _ => pts_nil) (fun _ _ _ _ _ => (pe_hasO c__law_pick (hr.mono (by decide)) pass0 (pa_cons (pv 0) (pa_cons (pv 1) pa_nil)))))) pa_nil)))))
      (pss_cons (ps_for PassesOwn.never rfl (pi_range1 (by rfl) T.b_range (pa_cons pe_int pa_nil)) (pg_name (i := 5) sc__law_two.nd rfl (Or.inl rfl)) (pss_cons (ps_set (i := 6) sc__law_two.nd rfl (Or.inl rfl) (pe_op op_cat (pv 1) (pe_hasO c__law_some (hr.mono (by decide)) pass0 (pa_cons (pv 0) (pa_cons (pv 3) (pa_cons (pe_hasO c__law_roll (hr.mono (by decide)) pass0 (pa_cons (pv 0) (pa_cons pe_int pa_nil))) pa_nil))))))
      (pss_cons (ps_for PassesOwn.never rfl (pi_range1 (by rfl) T.b_range (pa_cons (pe_hasO c__law_roll (hr.mono (by decide)) pass0 (pa_cons (pv 0) (pa_cons pe_int pa_nil))) pa_nil)) (pg_name (i := 7) sc__law_two.nd rfl (Or.inl rfl)) (pss_one (ps_expr (g_bm K PySem.F.plainAttrs_list PySem.F.slot_list_append PySem.F.type_list_append mt_append (pv 6) (pa_cons (g_join K pe_str (pe_lc (own := [("at", 8)]) rfl sc__law_two.nd (pi_range1 (by rfl) T.b_range (pa_cons (pe_op op_add pe_int (pe_hasO c__law_roll (hr.mono (by decide)) pass0 (pa_cons (pv 0) (pa_cons pe_int pa_nil)))) pa_nil)) (blkOk_by (own := [("at", 8)]) (N := ["dice", "signs", "upto", "menu", "found", "turn", "some", "more", "at", "piece"]) (sc := defScope s__law_two) (by decide +kernel)) (fun _ _ _ _ _ => (pg_name (i := 8) sc__law_two.nd rfl (Or.inl rfl))) (fun _ _ _ _ _ => pts_nil) (fun _ _ _ _ _ => (pe_hasO c__law_pick (hr.mono (by decide)) pass0 (pa_cons (pv 0) (pa_cons (pv 1) pa_nil)))))) pa_nil)))))
      (pss_one (ps_expr (g_bm K PySem.F.plainAttrs_list PySem.F.slot_list_append PySem.F.type_list_append mt_append (pv 4) (pa_cons (pe_callTy (g_dictP K rfl) (by rfl) T.b_dict (by decide +kernel) (pa_cons (pe_lc (own := [("piece", 9)]) rfl sc__law_two.nd (g_list K (pe_hasO c__law_some (hr.mono (by decide)) pass0 (pa_cons (pv 0) (pa_cons (pv 6) (pa_cons pe_int pa_nil))))) (blkOk_by (own := [("piece", 9)]) (N := ["dice", "signs", "upto", "menu", "found", "turn", "some", "more", "at", "piece"]) (sc := defScope s__law_two) (by decide +kernel)) (fun _ _ _ _ _ => (pg_name (i := 9) sc__law_two.nd rfl (Or.inl rfl))) (fun _ _ _ _ _ => pts_nil) (fun _ _ _ _ _ => (pe_tup (pa_cons (pv 9) (pa_cons (pe_op op_add pe_int (pe_hasO c__law_roll (hr.mono (by decide)) pass0 (pa_cons (pv 0) (pa_cons (pv 2) pa_nil)))) pa_nil))))) pa_nil)) pa_nil)))))))
      (pss_one (ps_ret (pv 4)))))), ?_⟩
    have hs := SqL.of (K := K) hs'
    have nsg : sg ≠ [] := fun e => by
      rw [e] at n1
      simp at n1
    refine ⟨_, rfl, by show 4 ≤ sizeLine; decide, fun up hup => ?_⟩
    generalize hG_ : upd H up _ = H1
    have s1 : Same H H1 := by rw [← hG_]; exact same_new hup
    have f1 := (congrFun hG_ up).symm.trans upd_same
    clear hG_
    refine ⟨l, .ref up, _, n + 150, rfl, .lst (D.ne hup) (SqL.of f1), by simp, by simp, (D.same s1).le (by omega), fun uv H2 hu' k2 D2 => ?_⟩
    obtain ⟨U, rfl, U1, U99⟩ : ∃ U : Int, uv = .int U ∧ 1 ≤ U ∧ U ≤ 99 := by
      simp only [List.mem_cons, List.not_mem_nil, or_false] at hu'
      rcases hu' with h | h | h | h
      · exact ⟨_, h, by decide, by decide⟩
      · exact ⟨_, h, by decide, by decide⟩
      · exact ⟨_, h, by decide, by decide⟩
      · exact ⟨_, h, by decide, by decide⟩
    refine ⟨by show 0 ≤ sizeLine; decide, fun me hme => ?_⟩
    have g1 := same_new hme (o := .lst [])
    have fm : (upd H2 me (.lst [] : HO)) me = some (.lst [] : HO) := upd_same
    generalize (upd H2 me (.lst [] : HO)) = G1 at g1 fm ⊢
    have D3 := D2.same g1
    refine ⟨by show 0 ≤ sizeLine; decide, fun fo hfo => ?_⟩
    have g2 := same_new hfo (o := .lst [])
    have ff : (upd G1 fo (.lst [] : HO)) fo = some (.lst [] : HO) := upd_same
    generalize (upd G1 fo (.lst [] : HO)) = G2 at g2 ff ⊢
    have nme : me ≠ l := D2.ne hme
    have nfo : fo ≠ l := D3.ne hfo
    have D4 := D3.same g2
    have k0 : Kp l H G2 := ((Kp.of s1).trans k2).trans (.of (g1.trans g2))
    have fm2 := g2 _ _ fm
    have nmf : me ≠ fo := ne_of_none fm hfo
    have me0 : H me = none := kp_free ((Kp.of s1).trans k2) nme hme
    have fo0 : H fo = none := kp_free (((Kp.of s1).trans k2).trans (.of g1)) nfo hfo
    refine ⟨by show 3 ≤ sizeLine; decide, fun tp htp => ?_⟩
    generalize hG_ : upd G2 tp _ = G3
    have g3 : Same G2 G3 := by rw [← hG_]; exact same_new htp
    have ft := (congrFun hG_ tp).symm.trans upd_same
    clear hG_
    have D5 := D4.same g3
    have k03 : Kp l H G3 := k0.trans (.of g3)
    have fm3 := g3 _ _ fm2
    have ff3 := g3 _ _ ff
    refine ⟨tp, _, rfl, SqT.of ft, rfl, _, _, rfl, _, _, rfl, _, _, rfl, rfl, ?_⟩
    refine ⟨6, rfl, by decide, by decide, for_range (lo := 0) (n := 6) (fun i σ H' => ∃ x5 ws, σ = [some (.ref l), some (.ref sa), some (.int U), some (.ref me), some (.ref fo), x5, none, none, none, none] ∧ ws.length = i ∧ (∀ w ∈ ws, WordOk sg w) ∧ H' me = some (.lst (ws.map V.str)) ∧ H' fo = some (.lst []) ∧ Kp l H H' ∧ Dice H' l (n + 110 + (36 - 6 * i))) ⟨_, [], rfl, rfl, fun _ h => (List.not_mem_nil h).elim, fm3, ff3, k03, D5.le (by omega)⟩ ?_ ?_⟩
    · rintro i σ A1 hi ⟨x5, ws, rfl, lw, okw, hm, hf, ka, Da⟩
      refine ⟨_, rfl, .inl ⟨rfl, _, SqL.of hm⟩, ?_⟩
      refine ⟨⟨_, rfl⟩, _, rfl, l, 4, n + 110 + (36 - 6 * (i + 1)) + 5, rfl, by decide, by decide, Da.le (by omega), fun r H2 r0 r1 k2 D2 => ⟨_, _, rfl, rfl, ?_⟩⟩
      have r4 : r < 4 := r1
      refine ⟨2 + r, rfl, by omega, by omega, fun J hJ => ?_⟩
      have nJ : J ≠ l := D2.ne hJ
      refine lc_range (fun j H' => ∃ zs : List Nat, zs.length = j ∧ (∀ c ∈ zs, c ∈ sg) ∧ H' J = some (.lst (zs.map chV)) ∧ Kp l H2 H' ∧ Dice H' l (n + 110 + (36 - 6 * (i + 1)) + (5 - j)) ∧ j ≤ 5)
        ⟨[], rfl, fun _ z => (List.not_mem_nil z).elim, upd_same, (Kp.refl _ _).new hJ, (D2.new hJ).le (by omega), by omega⟩ ?_ ?_
      · rintro j H3 hj ⟨zs, e1, e2, e3, k3, D3, j5⟩
        refine ⟨wipe_set, _, rfl, _, rfl, l, .ref sa, sg.map chV, n + 110 + (36 - 6 * (i + 1)) + (5 - (j + 1)), rfl, .lst nsa (((ka.trans k2).trans k3).seq nsa hs), by simpa using nsg, by rw [List.length_map]; omega, D3.le (by omega), fun y H4 hy k4 D4 => ?_⟩
        obtain ⟨c, hc, rfl⟩ := List.mem_map.mp hy
        refine ⟨_, k4 _ _ e3 nJ, by rw [List.length_map]; exact small1000' (by omega), zs ++ [c], by rw [List.length_append, e1]; rfl, fun d hd => ?_, by rw [upd_same, List.map_append]; rfl, (k3.trans k4).mut hJ, D4.upd nJ, by omega⟩
        rcases List.mem_append.mp hd with h | h
        · exact e2 d h
        · rw [List.mem_singleton.mp h]
          exact hc
      rintro H3 ⟨zs, e1, e2, e3, k3, D3, j5⟩
      refine ⟨_, J, zs.map ch, rfl, rfl, .inl (SqL.of (by rw [e3, List.map_map]; rfl)), ?_, ?_⟩
      · rw [sum_ch, List.length_map]
        show zs.length + zs.length * 0 ≤ _
        exact fits_sz (by omega)
      rw [join_ch]
      have wk : WordOk sg (sOf zs) := ⟨by rw [cs_sOf]; omega, by rw [cs_sOf]; exact e2⟩
      have D3 : Dice H3 l (n + 110 + (36 - 6 * (i + 1))) := D3.le (by omega)
      have k23 := k2.trans k3
      clear e3 e1 e2
      have hm3 := k23 _ _ hm nme
      refine ⟨me, _, _, rfl, rfl, hm3, by rw [List.length_map]; exact small1000' (by omega), ?_⟩
      refine ⟨_, ws ++ [sOf zs], rfl, by rw [List.length_append, lw]; rfl, fun w hw => ?_, by rw [upd_same, List.map_append]; rfl, by rw [upd_ne nmf.symm]; exact k23 _ _ hf nfo, (ka.trans k23).mut me0, D3.upd nme⟩
      rcases List.mem_append.mp hw with h | h
      · exact okw w h
      · rw [List.mem_singleton.mp h]
        exact wk
    rintro σ A1 ⟨x5, ws, rfl, lw, okw, hm, hf, ka, Da⟩
    have lws : ws.length ≤ 6 := by omega
    refine ⟨2, rfl, by decide, by decide, for_range (lo := 0) (n := 2) (fun i σ H' => ∃ x5 x6 x7 ds, σ = [some (.ref l), some (.ref sa), some (.int U), some (.ref me), some (.ref fo), x5, x6, x7, none, none] ∧ ds.length = i ∧ (∀ e ∈ ds, H' (e : Addr × List (Key × V)).1 = some (.dK e.2) ∧ e.1 ≠ l ∧ H e.1 = none ∧ arePrices e.2 = true ∧ (e.2.map (·.1)).Nodup ∧ ∀ c, (∃ q, tfD e.2 (ch c) = some q) ↔ c ∈ sg) ∧ H' me = some (.lst (ws.map V.str)) ∧ H' fo = some (.lst (ds.map fun e => V.ref e.1)) ∧ Kp l H H' ∧ Dice H' l (n + 54 * (2 - i))) ⟨_, _, _, [], rfl, rfl, fun _ h => (List.not_mem_nil h).elim, hm, hf, ka, Da.le (by omega)⟩ ?_ ?_⟩
    · rintro i σ B1 hi ⟨y5, x6, x7, ds, rfl, lds, okd, hm1, hf1, kb, Db⟩
      obtain ⟨M, hM⟩ : ∃ M, M = n + 54 * (2 - (i + 1)) := ⟨_, rfl⟩
      have Db : Dice B1 l (M + 54) := Db.le (by omega)
      have hsl : H sa = some (.lst (sg.map chV)) := hs'
      have sa1 := kb _ _ hsl nsa
      refine ⟨_, rfl, _, rfl, _, rfl, _, rfl, l, 5, M + 53, rfl, by decide, by decide, Db.le (by omega), fun r1 B2 ra rb k2' D2' => ?_⟩
      have r1' : r1 < 5 := rb
      refine ⟨l, .ref me, ws.map V.str, r1.toNat, M + 49, by rw [Int.toNat_of_nonneg ra]; rfl, .lst nme (SqL.of (k2' _ _ hm1 nme)), by rw [List.length_map]; omega, by omega, D2'.le (by omega), fun mo zs rest B3 hmo pm zl em k3' D3' => ?_⟩
      have kb3 := kb.trans (k2'.trans k3')
      obtain ⟨us, rfl, hus⟩ : ∃ us : List Str, zs = us.map V.str ∧ ∀ w ∈ us, WordOk sg w := lift_map fun v hv => by
        obtain ⟨w, hw, rfl⟩ := List.mem_map.mp (pm.mem_iff.mp (List.mem_append_left rest hv))
        exact ⟨w, rfl, okw w hw⟩
      have lus : us.length ≤ 4 := by
        rw [List.length_map] at zl
        omega
      refine ⟨sa, mo, _, _, rfl, rfl, (k2'.trans k3') _ _ sa1 nsa, em, by rw [List.length_map, List.length_map]; exact Nat.le_of_lt (small1000' (by omega)), fun so hso => ?_⟩
      generalize hG_ : upd B3 so _ = B4
      have s4 : Same B3 B4 := by rw [← hG_]; exact same_new hso
      have f4 := (congrFun hG_ so).symm.trans upd_same
      clear hG_
      have D4' := D3'.same s4
      have nso : so ≠ l := D3'.ne hso
      have so0 : H so = none := kp_free kb3 nso hso
      have kb4 := kb3.trans (.of s4)
      have k14 : Kp l B1 B4 := (k2'.trans k3').trans (.of s4)
      have nms : me ≠ so := ne_of_none ((k2'.trans k3') _ _ hm1 nme) hso
      have nfs : fo ≠ so := ne_of_none ((k2'.trans k3') _ _ hf1 nfo) hso
      have f4' : B4 so = some (.lst ((sg.map ch ++ us).map V.str)) := by
        rw [f4, List.map_append, List.map_map]
        rfl
      have okd4 : ∀ {G : Hp}, Kp l B4 G → (∀ e ∈ ds, G e.1 = some (.dK e.2)) := fun {G} kg e he => (k14.trans kg) _ _ (okd e he).1 (okd e he).2.1
      have nds : ∀ e ∈ ds, e.1 ≠ so := fun e he => ne_of_none ((k2'.trans k3') _ _ (okd e he).1 (okd e he).2.1) hso
      refine ⟨_, rfl, l, 5, M + 48, rfl, by decide, by decide, D4'.le (by omega), fun r2 B5 rc rd k5 D5' => ⟨r2, rfl, by omega, by omega, ?_⟩⟩
      have r2' : r2 < 5 := rd
      refine for_range (lo := 0) (n := r2.toNat) (fun j σ H' => ∃ x7 vs, σ = [some (.ref l), some (.ref sa), some (.int U), some (.ref me), some (.ref fo), some (.int (i : Int)), some (.ref so), x7, none, none] ∧ vs.length = us.length + j ∧ (∀ w ∈ vs, WordOk sg w) ∧ H' so = some (.lst ((sg.map ch ++ vs).map V.str)) ∧ H' me = some (.lst (ws.map V.str)) ∧ H' fo = some (.lst (ds.map fun e => V.ref e.1)) ∧ (∀ e ∈ ds, H' (e : Addr × List (Key × V)).1 = some (.dK e.2)) ∧ Kp l H H' ∧ Dice H' l (M + 24 + (24 - 6 * j)))
        ⟨x7, us, by rw [Int.zero_add]; rfl, rfl, hus, k5 _ _ f4' nso, (k14.trans k5) _ _ hm1 nme, (k14.trans k5) _ _ hf1 nfo, okd4 k5, kb4.trans k5, D5'.le (by omega)⟩ ?_ ?_
      · rintro t σ C1 ht ⟨x7', vs, rfl, lvs, okv, so1, hm2, hf2, od2, kc, Dc⟩
        refine ⟨_, rfl, .inl ⟨rfl, _, SqL.of so1⟩, ?_⟩
        refine ⟨⟨_, rfl⟩, _, rfl, l, 4, M + 24 + (24 - 6 * (t + 1)) + 5, rfl, by decide, by decide, Dc.le (by omega), fun r H2 r0 r1 k2 D2 => ⟨_, _, rfl, rfl, ?_⟩⟩
        have r4 : r < 4 := r1
        refine ⟨2 + r, rfl, by omega, by omega, fun J hJ => ?_⟩
        have nJ : J ≠ l := D2.ne hJ
        refine lc_range (fun j H' => ∃ zs : List Nat, zs.length = j ∧ (∀ c ∈ zs, c ∈ sg) ∧ H' J = some (.lst (zs.map chV)) ∧ Kp l H2 H' ∧ Dice H' l (M + 24 + (24 - 6 * (t + 1)) + (5 - j)) ∧ j ≤ 5)
          ⟨[], rfl, fun _ z => (List.not_mem_nil z).elim, upd_same, (Kp.refl _ _).new hJ, (D2.new hJ).le (by omega), by omega⟩ ?_ ?_
        · rintro j H3 hj ⟨zs, e1, e2, e3, k3, D3, j5⟩
          refine ⟨wipe_set, _, rfl, _, rfl, l, .ref sa, sg.map chV, M + 24 + (24 - 6 * (t + 1)) + (5 - (j + 1)), rfl, .lst nsa (((kc.trans k2).trans k3).seq nsa hs), by simpa using nsg, by rw [List.length_map]; omega, D3.le (by omega), fun y H4 hy k4 D4 => ?_⟩
          obtain ⟨c, hc, rfl⟩ := List.mem_map.mp hy
          refine ⟨_, k4 _ _ e3 nJ, by rw [List.length_map]; exact small1000' (by omega), zs ++ [c], by rw [List.length_append, e1]; rfl, fun d hd => ?_, by rw [upd_same, List.map_append]; rfl, (k3.trans k4).mut hJ, D4.upd nJ, by omega⟩
          rcases List.mem_append.mp hd with h | h
          · exact e2 d h
          · rw [List.mem_singleton.mp h]
            exact hc
        rintro H3 ⟨zs, e1, e2, e3, k3, D3, j5⟩
        refine ⟨_, J, zs.map ch, rfl, rfl, .inl (SqL.of (by rw [e3, List.map_map]; rfl)), ?_, ?_⟩
        · rw [sum_ch, List.length_map]
          show zs.length + zs.length * 0 ≤ _
          exact fits_sz (by omega)
        rw [join_ch]
        have wk : WordOk sg (sOf zs) := ⟨by rw [cs_sOf]; omega, by rw [cs_sOf]; exact e2⟩
        have D3 : Dice H3 l (M + 24 + (24 - 6 * (t + 1))) := D3.le (by omega)
        have k23 := k2.trans k3
        clear e3 e1 e2
        refine ⟨so, _, _, rfl, rfl, k23 _ _ so1 nso, by rw [List.length_map, List.length_append, List.length_map]; exact small1000' (by omega), ?_⟩
        refine ⟨_, vs ++ [sOf zs], rfl, by rw [List.length_append, lvs]; rfl, fun w hw => ?_, by rw [upd_same, List.map_append, List.map_append, List.map_append, List.append_assoc]; rfl, by rw [upd_ne nms]; exact k23 _ _ hm2 nme, by rw [upd_ne nfs]; exact k23 _ _ hf2 nfo, fun e he => by rw [upd_ne (nds e he)]; exact k23 _ _ (od2 e he) (okd e he).2.1, (kc.trans k23).mut so0, D3.upd nso⟩
        rcases List.mem_append.mp hw with h | h
        · exact okv w h
        · rw [List.mem_singleton.mp h]
          exact wk
      rintro σ C1 ⟨x7', vs, rfl, lvs, okv, so1, hm2, hf2, od2, kc, Dc⟩
      have Dc : Dice C1 l (M + 24) := Dc.le (by omega)
      have oks : ∀ w ∈ sg.map ch ++ vs, WordOk sg w := fun w hw => by
        rcases List.mem_append.mp hw with h | h
        · obtain ⟨c, hc, rfl⟩ := List.mem_map.mp h
          exact ⟨⟨by show 1 ≤ 1; omega, by show 1 ≤ 5; omega⟩, fun d hd => by
            have e : d = c := by simpa [cs] using hd
            rw [e]
            exact hc⟩
        · exact okv w h
      have lss : (sg.map ch ++ vs).length ≤ 12 := by
        rw [List.length_append, List.length_map]
        omega
      have css : ∀ c ∈ sg, ch c ∈ sg.map ch ++ vs := fun c hc => List.mem_append_left _ (List.mem_map.mpr ⟨c, hc, rfl⟩)
      generalize sg.map ch ++ vs = ss at so1 oks lss css
      refine ⟨_, rfl, .inl ⟨rfl, _, SqL.of hf2⟩, ?_⟩
      refine ⟨_, rfl, _, rfl, l, .ref so, ss.map V.str, 12, M + 12, rfl, .lst nso (SqL.of so1), by rw [List.length_map]; omega, by decide, Dc.le (by omega), fun xo zs rest C2 hxo pm2 zl2 ex kd Dd => ?_⟩
      have kcd := kc.trans kd
      have pl := pm2.length_eq
      rw [List.length_map] at zl2
      rw [List.length_append, List.length_map] at pl
      have er : rest = [] := List.length_eq_zero_iff.mp (by omega)
      subst er
      rw [List.append_nil] at pm2
      obtain ⟨xs, rfl, hxs⟩ : ∃ xs : List Str, zs = xs.map V.str ∧ ∀ w ∈ xs, w ∈ ss := lift_map fun v hv => by
        obtain ⟨w, hw, rfl⟩ := List.mem_map.mp (pm2.mem_iff.mp hv)
        exact ⟨w, rfl, hw⟩
      have cxs : ∀ c ∈ sg, ch c ∈ xs := fun c hc => by
        obtain ⟨w, hw, e⟩ := List.mem_map.mp (pm2.mem_iff.mpr (List.mem_map.mpr ⟨ch c, css c hc, rfl⟩))
        rw [← V.str.inj e]
        exact hw
      rw [List.length_map] at zl2
      have lxs : xs.length ≤ 12 := by omega
      have nxo : xo ≠ l := Dc.ne hxo
      refine ⟨xo, rfl, ⟨_, SqL.of ex⟩, fun D0 hD0 => ?_⟩
      have nD0 : D0 ≠ l := Dd.ne hD0
      refine lc_it (walk_listF (K := K) V.str xs) (fun t H' => ∃ prs : List (Addr × (Key × V)), prs.length = t ∧ H' D0 = some (.lst (prs.map fun p => V.ref p.1)) ∧ (∀ p ∈ prs, H' p.1 = some (.tup [kV p.2.1, p.2.2]) ∧ p.1 ≠ l ∧ p.1 ≠ D0) ∧ (∀ p ∈ prs, ∃ z q, p.2 = (Sum.inr z, V.int q) ∧ z ∈ ss ∧ 1 ≤ q ∧ q ≤ 99) ∧ prs.map (·.2.1) = (xs.take t).map Sum.inr ∧ Kp l C2 H' ∧ Dice H' l (M + (12 - t)))
        ⟨[], rfl, upd_same, fun _ h => (List.not_mem_nil h).elim, fun _ h => (List.not_mem_nil h).elim, rfl, (Kp.refl _ _).new hD0, (Dd.new hD0).le (by omega)⟩ (fun t H' _ q => by obtain ⟨_, _, _, _, _, _, q, _⟩ := q; exact SqL.of (q _ _ ex nxo)) ?_ ?_
      · rintro t x E1 E2 ht ⟨prs, lp', e1, p1, p2, m1, ke, De⟩ ⟨rfl, w, hw, rfl⟩
        have tl := (List.getElem?_eq_some_iff.mp hw).1
        refine ⟨wipe_set, _, rfl, _, rfl, _, rfl, l, U, M + (12 - (t + 1)), rfl, U1, by omega, De.le (by omega), fun r3 E3 re rf k6 D6 => ⟨_, _, rfl, rfl, ?_⟩⟩
        refine ⟨by show 2 ≤ sizeLine; decide, fun tq htq => ?_⟩
        have ntq : tq ≠ l := D6.ne htq
        have e3 := k6 _ _ e1 nD0
        have ntD : tq ≠ D0 := (ne_of_none e3 htq).symm
        refine ⟨_, same_new htq _ _ e3, by rw [List.length_map]; exact small1000' (by omega), prs ++ [(tq, (Sum.inr w, V.int (1 + r3)))], by rw [List.length_append, lp']; rfl, by rw [upd_same, List.map_append]; rfl, fun p hp => ?_, fun p hp => ?_, ?_, ((ke.trans k6).new htq).mut ?_, (D6.new htq).upd nD0⟩
        · rcases List.mem_append.mp hp with h | h
          · obtain ⟨a1, a2, a3⟩ := p1 p h
            exact ⟨by rw [upd_ne a3]; exact same_new htq _ _ (k6 _ _ a1 a2), a2, a3⟩
          · rw [List.mem_singleton.mp h]
            exact ⟨by rw [upd_ne ntD]; exact upd_same, ntq, ntD⟩
        · rcases List.mem_append.mp hp with h | h
          · exact p2 p h
          · rw [List.mem_singleton.mp h]
            exact ⟨w, 1 + r3, rfl, hxs w (List.mem_of_getElem? hw), by omega, by omega⟩
        · rw [List.map_append, m1, List.take_add_one, hw, List.map_append]
          rfl
        · exact hD0
      rintro E1 ⟨prs, lp', e1, p1, p2, m1, ke, De⟩
      rw [List.take_length] at m1
      refine ⟨D0, prs.map (·.1), prs.map (·.2), rfl, SqL.of (by rw [e1, List.map_map]; rfl), paired_of (F := fun (p : Addr) (kv : Key × V) => SqT K E1 p [kV kv.1, kv.2]) (ps := prs) (fun q hq => SqT.of (p1 q hq).1), fun pd hpd => ?_⟩
      obtain ⟨P1, P2⟩ := PrOk.merge (sg := sg) (more := prs.map (·.2)) (kvs := []) PrOk.nil fun kv hkv => by
        obtain ⟨p, hp, rfl⟩ := List.mem_map.mp hkv
        obtain ⟨z, q, e, hz, q1, q9⟩ := p2 p hp
        exact ⟨z, q, e, (oks z hz).1, (oks z hz).2, q1, q9⟩
      have has : ∀ c ∈ sg, (valV (mergeK [] (prs.map (·.2))) (Sum.inr (ch c))).isSome = true := fun c hc => merge_has (.inl (by
        rw [List.map_map]
        show Sum.inr (ch c) ∈ prs.map (·.2.1)
        rw [m1]
        exact List.mem_map.mpr ⟨_, cxs c hc, rfl⟩))
      rw [List.length_map, lp', List.length_nil] at P2
      obtain ⟨av, sgns⟩ := P1.right has hl n4 n1 (by omega)
      generalize mergeK [] (prs.map (·.2)) = kk at P1 P2 has av sgns ⊢
      generalize hG_ : upd E1 pd _ = E2
      have s2' : Same E1 E2 := by rw [← hG_]; exact same_new hpd
      have f2' := (congrFun hG_ pd).symm.trans upd_same
      clear hG_
      have kce := (kcd.trans ke).trans (.of s2')
      have npd : pd ≠ l := De.ne hpd
      have kC : Kp l C1 E2 := (kd.trans ke).trans (.of s2')
      have npf : pd ≠ fo := (ne_of_none ((kd.trans ke) _ _ hf2 nfo) hpd).symm
      have ndf : ∀ e ∈ ds, e.1 ≠ fo := fun e he q => by
        have h1 := od2 e he
        rw [q, hf2] at h1
        cases h1
      refine ⟨fo, _, _, rfl, rfl, kC _ _ hf2 nfo, by rw [List.length_map]; exact small1000' (by omega), ?_⟩
      refine ⟨_, _, _, ds ++ [(pd, kk)], rfl, by rw [List.length_append, lds]; rfl, fun e he => ?_, by rw [upd_ne nmf]; exact kC _ _ hm2 nme, by rw [upd_same, List.map_append]; rfl, kce.mut fo0, (De.same s2').upd nfo |>.le (by omega)⟩
      rcases List.mem_append.mp he with h | h
      · obtain ⟨a1, a2, a3, a4⟩ := okd e h
        exact ⟨by rw [upd_ne (ndf e h)]; exact kC _ _ (od2 e h) a2, a2, a3, a4⟩
      · rw [List.mem_singleton.mp h]
        exact ⟨by rw [upd_ne npf]; exact f2', npd, kp_free (kcd.trans ke) npd hpd, av, P1.nd, sgns⟩
    rintro σ B1 ⟨y5, x6, x7, ds, rfl, lds, okd, hm1, hf1, kb, Db⟩
    obtain ⟨e1, e2, rfl⟩ : ∃ e1 e2, ds = [e1, e2] := by
      match ds, lds with
      | [e1, e2], _ => exact ⟨e1, e2, rfl⟩
    obtain ⟨a1, a2, a3, a4⟩ := okd e1 List.mem_cons_self
    obtain ⟨b1, b2, b3, b4⟩ := okd e2 (List.mem_cons_of_mem _ List.mem_cons_self)
    exact ⟨_, rfl, k fo e1.1 e2.1 e1.2 e2.2 B1 fo0 a3 b3 nfo a2 b2 hf1 a1 b1 a4 b4 kb (Db.le (by omega))⟩
theorem sc__law_errors_right : FnScope ["dice", "signs", "book", "free", "others", "other", "told", "odd", "one", "two", "sign"] ["dice", "signs", "book"] (defScope s__law_errors_right) := ⟨rfl, rfl, rfl, by decide +kernel, rfl, by decide +kernel, by decide +kernel⟩
theorem ok__law_errors_right {f : Addr} {fd : FuncData} (F : Fun K "_law_errors_right" "_law_errors_right" s__law_errors_right f fd) (T : Txt K mg C CE CB CT CO) {c : Addr} (hc : fd.code = .ref c) (TB : LamX.TabB base mg c PT) (c_Book : C8.Mak P w K mg base 5 "Book" C (spBook C K) []) (c_Book_prices : HasP P w K mg base 1 C "prices" (spPrices C)) (c_Book_pieces : HasP P w K mg base 1 C "pieces" (spPieces C)) (c_Book_alphabet : HasP P w K mg base 1 C "alphabet" (spAlph C)) (c__law_pick : HasO P w K mg base CX0 2 "_law_pick" ["dice", "items"] (spPick K)) (c__law_roll : HasO P w K mg base CX0 1 "_law_roll" ["dice", "upto"] (spRoll)) (c__law_met : HasL K mg "_law_met" "call" (TTmet K CE CB CT CO)) (c_needless__bad : HasO P w K mg base (L2.CX P w) 2 "needless" ["book"] (spBadBook CB)) (c_least_book__bad : HasO P w K mg base (L2.CX P w) 2 "least_book" ["book"] (spBadBook CB)) (c_is_nowhere_dearer__bad : HasO P w K mg base (L2.CX P w) 3 "is_nowhere_dearer" ["book", "other"] (spBadC C CB CO)) (c_dearer_piece__bad : HasO P w K mg base (L2.CX P w) 3 "dearer_piece" ["book", "other"] (spBadC C CB CO)) (c_are_as_cheap__bad : HasO P w K mg base (L2.CX P w) 3 "are_as_cheap" ["book", "other"] (spBadC C CB CO)) : FnG P w K mg base CX0 8 f fd ["dice", "signs", "book"] (spErrs C [(PT, (("_law_errors_right.<locals>.<lambda>" : String) : Str))]) := by
  refine fn_gC F hc sc__law_errors_right (fun vs H Q E h => ?_) (fun A outer s H vs Q E hg hr h => ?_)
  · obtain ⟨l, sa, b, sg, kvs, n, rfl, _⟩ := h
    rfl
  · have hu := hu_of hr
    have hT : ∀ p ∈ [(PT, (("_law_errors_right.<locals>.<lambda>" : String) : Str))], p.1 = PT → p.2 = (("_law_errors_right.<locals>.<lambda>" : String) : Str) := fun p hp _ => by rw [List.mem_singleton.mp hp]
    obtain ⟨l, sa, b, sg, kvs, n, rfl, tabs, nsa, hs, n1, n4, hl, B, sgns, D, k⟩ := h
    refine ⟨_, (pss_cons (ps_set (i := 7) sc__law_errors_right.nd rfl (Or.inr rfl) (pe_hasO c__law_pick (hr.mono (by decide)) pass0 (pa_cons (pv 0) (pa_cons (pe_lst (pa_cons pe_non (pa_cons pe_int (pa_cons pe_bl (pa_cons pe_str (pa_cons (pe_tup pa_nil) (pa_cons (pe_lst pa_nil) (pa_cons pe_dnewK (pa_cons (pe_prp c_Book_prices hr (by decide) (pv 2)) (pa_cons (pe_prp c_Book_pieces hr (by decide) (pv 2)) (pa_cons (pe_tup (pa_cons (pv 2) pa_nil)) (pa_cons (pe_lst (pa_cons (pv 2) pa_nil)) (pa_cons (pe_prp c_Book_alphabet hr (by decide) (pv 2)) pa_nil))))))))))))) pa_nil))))
      (pss_cons (ps_setLc (i := 3) (own := [("sign", 10)]) rfl sc__law_errors_right.nd rfl rfl (sw_true rfl rfl rfl (by decide +kernel)) (pi_str pe_str) (blkOk_by (own := [("sign", 10)]) (N := ["dice", "signs", "book", "free", "others", "other", "told", "odd", "one", "two", "sign"]) (sc := defScope s__law_errors_right) (by decide +kernel)) (fun _ _ _ _ _ => (pg_name (i := 10) sc__law_errors_right.nd rfl (Or.inl rfl))) (fun _ _ _ _ _ => (pts_one (pt_cmpR (g_notIn_seq K) (pv 10) (pv 1) (by rfl)))) (fun _ _ _ _ _ => (pv 10)))
      (pss_cons (ps_set (i := 4) sc__law_errors_right.nd rfl (Or.inl rfl) (pe_op op_cat (pe_lst (pa_cons (pe_hasO c__law_pick (hr.mono (by decide)) pass0 (pa_cons (pv 0) (pa_cons (pv 3) pa_nil))) pa_nil)) (pe_slice (g_sl_list K) (pv 1) (po_some pe_int) po_none)))
      (pss_cons (ps_if (PW.pt (pw_and (pt_cmpR op_lt (pe_callB (g_len_seq K) (by rfl) T.b_len (by decide +kernel) (pa_cons (pv 1) pa_nil)) pe_int (nomark _)) (pw_and1 (pt_cmpR op_eq (pe_hasO c__law_roll (hr.mono (by decide)) pass0 (pa_cons (pv 0) (pa_cons pe_int pa_nil))) pe_int (nomark _))))) (pss_one (ps_set (i := 4) sc__law_errors_right.nd rfl (Or.inl rfl) (pe_op op_cat (pv 1) (pe_slice (g_sl_list K) (pv 4) po_none (po_some pe_int))))) pss_nil)
      (pss_cons (ps_set (i := 5) sc__law_errors_right.nd rfl (Or.inl rfl) (C8.pe_mk c_Book hr (by decide) (by rfl) (pa_cons (pe_callTy (g_dictP K rfl) (by rfl) T.b_dict (by decide +kernel) (pa_cons (pe_lc (own := [("sign", 10)]) rfl sc__law_errors_right.nd (g_list K (pv 4)) (blkOk_by (own := [("sign", 10)]) (N := ["dice", "signs", "book", "free", "others", "other", "told", "odd", "one", "two", "sign"]) (sc := defScope s__law_errors_right) (by decide +kernel)) (fun _ _ _ _ _ => (pg_name (i := 10) sc__law_errors_right.nd rfl (Or.inl rfl))) (fun _ _ _ _ _ => pts_nil) (fun _ _ _ _ _ => (pe_tup (pa_cons (pv 10) (pa_cons (pe_op op_add pe_int (pe_hasO c__law_roll (hr.mono (by decide)) pass0 (pa_cons (pv 0) (pa_cons pe_int pa_nil)))) pa_nil))))) pa_nil)) pa_nil)))
      (pss_cons (ps_set (i := 6) sc__law_errors_right.nd rfl (Or.inl rfl) (pe_lst (pa_cons (pe_lam (k := 5) c__law_met TB rfl (List.mem_cons_self) hT (hr.mono (by decide)) (lamS_by (sc := defScope s__law_errors_right) (by decide +kernel)) rfl (fun _ _ _ _ _ => rfl) (fun A' outer' s' H' E' f' c' hr' => (pe_hasX c_needless__bad (hr'.mono (by decide)) (takes_of rfl rfl rfl rfl) (fun _ _ _ _ h => h) (pa_cons (pv 7) pa_nil)))) pa_nil)))
      (pss_cons (ps_expr (g_bm K PySem.F.plainAttrs_list PySem.F.slot_list_append PySem.F.type_list_append mt_append (pv 6) (pa_cons (pe_lam (k := 5) c__law_met TB rfl (List.mem_cons_self) hT (hr.mono (by decide)) (lamS_by (sc := defScope s__law_errors_right) (by decide +kernel)) rfl (fun _ _ _ _ _ => rfl) (fun A' outer' s' H' E' f' c' hr' => (pe_hasX c_least_book__bad (hr'.mono (by decide)) (takes_of rfl rfl rfl rfl) (fun _ _ _ _ h => h) (pa_cons (pv 7) pa_nil)))) pa_nil)))
      (pss_cons (ps_for PassesOwn.never rfl (g_list K (pe_lst (pa_cons (pe_tup (pa_cons (pv 7) (pa_cons (pv 5) pa_nil))) (pa_cons (pe_tup (pa_cons (pv 7) (pa_cons (pv 7) pa_nil))) (pa_cons (pe_tup (pa_cons (pv 2) (pa_cons (pv 7) pa_nil))) pa_nil))))) (g_tup K (n := 2) rfl (pgs_cons (pg_name (i := 8) sc__law_errors_right.nd rfl (Or.inr rfl)) (pgs_cons (pg_name (i := 9) sc__law_errors_right.nd rfl (Or.inr rfl)) pgs_nil))) (pss_cons (ps_expr (g_bm K PySem.F.plainAttrs_list PySem.F.slot_list_append PySem.F.type_list_append mt_append (pv 6) (pa_cons (pe_lam (k := 5) c__law_met TB rfl (List.mem_cons_self) hT (hr.mono (by decide)) (lamS_by (sc := defScope s__law_errors_right) (by decide +kernel)) rfl (fun _ _ _ _ _ => rfl) (fun A' outer' s' H' E' f' c' hr' => (pe_hasX c_is_nowhere_dearer__bad (hr'.mono (by decide)) (takes_of rfl rfl rfl rfl) (fun _ _ _ _ h => h) (pa_cons (pv 8) (pa_cons (pv 9) pa_nil))))) pa_nil)))
      (pss_cons (ps_expr (g_bm K PySem.F.plainAttrs_list PySem.F.slot_list_append PySem.F.type_list_append mt_append (pv 6) (pa_cons (pe_lam (k := 5) c__law_met TB rfl (List.mem_cons_self) hT (hr.mono (by decide)) (lamS_by (sc := defScope s__law_errors_right) (by decide +kernel)) rfl (fun _ _ _ _ _ => rfl) (fun A' outer' s' H' E' f' c' hr' => (pe_hasX c_dearer_piece__bad (hr'.mono (by decide)) (takes_of rfl rfl rfl rfl) (fun _ _ _ _ h => h) (pa_cons (pv 8) (pa_cons (pv 9) pa_nil))))) pa_nil)))
      (pss_one (ps_expr (g_bm K PySem.F.plainAttrs_list PySem.F.slot_list_append PySem.F.type_list_append mt_append (pv 6) (pa_cons (pe_lam (k := 5) c__law_met TB rfl (List.mem_cons_self) hT (hr.mono (by decide)) (lamS_by (sc := defScope s__law_errors_right) (by decide +kernel)) rfl (fun _ _ _ _ _ => rfl) (fun A' outer' s' H' E' f' c' hr' => (pe_hasX c_are_as_cheap__bad (hr'.mono (by decide)) (takes_of rfl rfl rfl rfl) (fun _ _ _ _ h => h) (pa_cons (pv 8) (pa_cons (pv 9) pa_nil))))) pa_nil)))))))
      (pss_cons (ps_if (pt_cmpR (g_neD K hr.units) (pv 6) (pe_op op_rep (pe_lst (pa_cons pe_str pa_nil)) pe_int) (nomark _)) (pss_one (ps_ret pe_bl)) pss_nil)
      (pss_cons (ps_set (i := 6) sc__law_errors_right.nd rfl (Or.inl rfl) (pe_lst pa_nil))
      (pss_cons (ps_for PassesOwn.never rfl (g_list K (pe_lst (pa_cons (pe_tup (pa_cons (pv 2) (pa_cons (pv 5) pa_nil))) (pa_cons (pe_tup (pa_cons (pv 5) (pa_cons (pv 2) pa_nil))) pa_nil)))) (g_tup K (n := 2) rfl (pgs_cons (pg_name (i := 8) sc__law_errors_right.nd rfl (Or.inr rfl)) (pgs_cons (pg_name (i := 9) sc__law_errors_right.nd rfl (Or.inr rfl)) pgs_nil))) (pss_cons (ps_expr (g_bm K PySem.F.plainAttrs_list PySem.F.slot_list_append PySem.F.type_list_append mt_append (pv 6) (pa_cons (pe_lam (k := 5) c__law_met TB rfl (List.mem_cons_self) hT (hr.mono (by decide)) (lamS_by (sc := defScope s__law_errors_right) (by decide +kernel)) rfl (fun _ _ _ _ _ => rfl) (fun A' outer' s' H' E' f' c' hr' => (pe_hasX c_is_nowhere_dearer__bad (hr'.mono (by decide)) (takes_of rfl rfl rfl rfl) (fun _ _ _ _ h => h) (pa_cons (pv 8) (pa_cons (pv 9) pa_nil))))) pa_nil)))
      (pss_cons (ps_expr (g_bm K PySem.F.plainAttrs_list PySem.F.slot_list_append PySem.F.type_list_append mt_append (pv 6) (pa_cons (pe_lam (k := 5) c__law_met TB rfl (List.mem_cons_self) hT (hr.mono (by decide)) (lamS_by (sc := defScope s__law_errors_right) (by decide +kernel)) rfl (fun _ _ _ _ _ => rfl) (fun A' outer' s' H' E' f' c' hr' => (pe_hasX c_dearer_piece__bad (hr'.mono (by decide)) (takes_of rfl rfl rfl rfl) (fun _ _ _ _ h => h) (pa_cons (pv 8) (pa_cons (pv 9) pa_nil))))) pa_nil)))
      (pss_one (ps_expr (g_bm K PySem.F.plainAttrs_list PySem.F.slot_list_append PySem.F.type_list_append mt_append (pv 6) (pa_cons (pe_lam (k := 5) c__law_met TB rfl (List.mem_cons_self) hT (hr.mono (by decide)) (lamS_by (sc := defScope s__law_errors_right) (by decide +kernel)) rfl (fun _ _ _ _ _ => rfl) (fun A' outer' s' H' E' f' c' hr' => (pe_hasX c_are_as_cheap__bad (hr'.mono (by decide)) (takes_of rfl rfl rfl rfl) (fun _ _ _ _ h => h) (pa_cons (pv 8) (pa_cons (pv 9) pa_nil))))) pa_nil)))))))
      (pss_one (ps_ret (pe_cmpR (g_eqD K hr.units) (pv 6) (pe_op op_rep (pe_lst (pa_cons pe_str pa_nil)) pe_int) (nomark _))))))))))))))), ?_⟩
    obtain ⟨_, _, _, dx0, _, _, _, _, _, _, A0⟩ := B.ex
    refine ⟨_, rfl, by show 0 ≤ sizeLine; decide, fun p1 h1 => ?_⟩
    have s1 := same_new h1 (o := .tup [])
    have f1 : (upd H p1 (.tup [] : HO)) p1 = some (.tup [] : HO) := upd_same
    generalize (upd H p1 (.tup [] : HO)) = H1 at s1 f1 ⊢
    refine ⟨by show 0 ≤ sizeLine; decide, fun p2 h2 => ?_⟩
    have s2 := same_new h2 (o := .lst [])
    have f2 : (upd H1 p2 (.lst [] : HO)) p2 = some (.lst [] : HO) := upd_same
    generalize (upd H1 p2 (.lst [] : HO)) = H2 at s2 f2 ⊢
    refine fun p3 h3 => ?_
    have s3 := same_new h3 (o := .dK [])
    have f3 : (upd H2 p3 (.dK [] : HO)) p3 = some (.dK [] : HO) := upd_same
    generalize (upd H2 p3 (.dK [] : HO)) = H3 at s3 f3 ⊢
    have s03 := s1.trans (s2.trans s3)
    have B3 := B.same s03
    refine ⟨_, rfl, b, dx0, _, rfl, s03 _ _ A0.ob, b, kvs, rfl, B3, fun p4 ys H4 h4 pm so f4 s4 => ?_⟩
    have s04 := s03.trans s4
    refine ⟨_, rfl, b, dx0, _, rfl, s04 _ _ A0.ob, b, kvs, rfl, B3.same s4, fun tp ys' pm' so' ftp => ?_⟩
    refine ⟨_, rfl, by show 1 ≤ sizeLine; decide, fun p5 h5 => ?_⟩
    generalize hG_ : upd H4 p5 _ = H5
    have s5 : Same H4 H5 := by rw [← hG_]; exact same_new h5
    have f5 := (congrFun hG_ p5).symm.trans upd_same
    clear hG_
    refine ⟨_, rfl, by show 1 ≤ sizeLine; decide, fun p6 h6 => ?_⟩
    generalize hG_ : upd H5 p6 _ = H6
    have s6 : Same H5 H6 := by rw [← hG_]; exact same_new h6
    have f6 := (congrFun hG_ p6).symm.trans upd_same
    clear hG_
    have s06 := s04.trans (s5.trans s6)
    refine ⟨_, rfl, b, dx0, _, rfl, s06 _ _ A0.ob, b, kvs, rfl, B.same s06, fun ta al fta => ?_⟩
    refine ⟨by show 12 ≤ sizeLine; decide, fun ol hol => ?_⟩
    generalize hG_ : upd H6 ol _ = H7
    have s7 : Same H6 H7 := by rw [← hG_]; exact same_new hol
    have f7 := (congrFun hG_ ol).symm.trans upd_same
    clear hG_
    have s07 := s06.trans s7
    have D7 := D.same s07
    have nol : ol ≠ l := (D.same s06).ne hol
    have vb : ∀ y ∈ [V.non, .int 0, .bl true, .str (Str.ofString "ab"), .ref p1, .ref p2, .ref p3, .ref p4, .ref tp, .ref p5, .ref p6, .ref ta], Val H7 y ∧ y ≠ .ref l := by
      have tne : ∀ {p : Addr} {xs : List V}, H7 p = some (.tup xs) → p ≠ l := fun {p xs} h e => by
        obtain ⟨_, _, _, h2, _⟩ := D7
        rw [e, h2] at h
        cases h
      have rne : ∀ {p : Addr}, p ≠ l → V.ref p ≠ V.ref l := fun h e => h (V.ref.inj e)
      intro y hy
      simp only [List.mem_cons, List.not_mem_nil, or_false] at hy
      rcases hy with rfl | rfl | rfl | rfl | rfl | rfl | rfl | rfl | rfl | rfl | rfl | rfl
      · exact ⟨.inl .non, fun e => nomatch e⟩
      · exact ⟨.inl (.int 0), fun e => nomatch e⟩
      · exact ⟨.inl (.bl true), fun e => nomatch e⟩
      · exact ⟨.inr ⟨_, rfl, by decide +kernel⟩, fun e => nomatch e⟩
      · have g := (s2.trans (s3.trans (s4.trans (s5.trans (s6.trans s7))))) _ _ f1
        exact ⟨.inl (.tup g), rne (tne g)⟩
      · exact ⟨.inl (.lst ((s3.trans (s4.trans (s5.trans (s6.trans s7)))) _ _ f2)), rne ((D.same s1).ne h2)⟩
      · exact ⟨.inl (.dK ((s4.trans (s5.trans (s6.trans s7))) _ _ f3)), rne ((D.same (s1.trans s2)).ne h3)⟩
      · exact ⟨.inl (.dK ((s5.trans (s6.trans s7)) _ _ f4)), rne ((D.same s03).ne h4)⟩
      · have g := (s5.trans (s6.trans s7)) _ _ ftp
        exact ⟨.inl (.tup g), rne (tne g)⟩
      · have g := (s6.trans s7) _ _ f5
        exact ⟨.inl (.tup g), rne (tne g)⟩
      · exact ⟨.inl (.lst (s7 _ _ f6)), rne ((D.same (s04.trans s5)).ne h6)⟩
      · have g := s7 _ _ fta
        exact ⟨.inl (.tup g), rne (tne g)⟩
    refine ⟨l, .ref ol, _, n + 39, rfl, .lst nol (SqL.of f7), by simp, by simp, D7.le (by omega), fun odd H8 hodd k8 D8 => ?_⟩
    obtain ⟨vo7, no⟩ := vb odd hodd
    have vo := vo7.kp no k8
    have B8 := (B.same s07).kp D7 k8
    have k08 : Kp l H H8 := (Kp.of s07).trans k8
    have hs8 := k08 _ _ hs nsa
    clear vb vo7 hodd f7 f6 f5 fta ftp f4 f3 f2 f1
    -- a sign that the book does not have
    refine ⟨Str.ofString "abcdefghijklmnopqrstuvwxyz", rfl, fun Df hDf => ?_⟩
    refine lcs (cs (Str.ofString "abcdefghijklmnopqrstuvwxyz")) (walk_str (z := Str.ofString "abcdefghijklmnopqrstuvwxyz")) (fun c => if (!decide (c ∈ sg)) = true then some (chV c) else none) hDf (by decide +kernel) (fun H' s => trivial) ?_ ?_
    · rintro j c x G1 G2 hj s1 ⟨rfl, c', ec, rfl⟩ N M hN hM
      have e1 : c = c' := by
        have h : (cs (Str.ofString "abcdefghijklmnopqrstuvwxyz"))[j]? = some c' := by
          rw [← ec]
          exact Array.getElem?_toList
        exact Option.some.inj (hj.symm.trans h)
      subst e1
      refine ⟨wipe_set, _, rfl, _, rfl, sa, _, rfl, .inl (SqL.of (s1 _ _ hs8)), rfl, ?_, ?_⟩
      · rw [chs_map]
        exact flat_strs _
      · rw [if_pos rfl, inV_ch]
        refine ⟨!decide (c ∈ sg), rfl, itB (fun g => ?_) (fun g => ?_)⟩
        · exact ⟨_, rfl, hN _ _ (if_pos g) (Same.refl _)⟩
        · exact hM _ (if_neg (by rw [g]; exact Bool.false_ne_true)) (Same.refl _)
    intro G1 g1 e1
    rw [fm_ifc] at e1
    have frn := free_ex n4
    have frl : ((cs (Str.ofString "abcdefghijklmnopqrstuvwxyz")).filter fun c => !decide (c ∈ sg)).length ≤ 26 := Nat.le_trans (List.length_filter_le _ _) (by decide +kernel)
    have frm : ∀ c ∈ (cs (Str.ofString "abcdefghijklmnopqrstuvwxyz")).filter (fun c => !decide (c ∈ sg)), lett c = true ∧ c ∉ sg := fun c hc => by
      obtain ⟨h1, h2⟩ := List.mem_filter.mp hc
      refine ⟨List.all_eq_true.mp (show (Str.ofString "abcdefghijklmnopqrstuvwxyz").cps.toList.all lett = true by decide +kernel) c h1, fun h => ?_⟩
      rw [decide_eq_true h] at h2
      cases h2
    generalize ((cs (Str.ofString "abcdefghijklmnopqrstuvwxyz")).filter fun c => !decide (c ∈ sg)) = fr at e1 frn frl frm
    have D9 := D8.same g1
    have nDf : Df ≠ l := D8.ne hDf
    have hs9 := g1 _ _ hs8
    refine ⟨_, rfl, _, rfl, l, .ref Df, fr.map chV, n + 38, rfl, .lst nDf (SqL.of e1), by simpa using frn, by rw [List.length_map]; omega, D9.le (by omega), fun fv G2 hfv k2 D2 => ?_⟩
    obtain ⟨x, hx, rfl⟩ := List.mem_map.mp hfv
    obtain ⟨xl, xn⟩ := frm x hx
    refine ⟨by show 1 ≤ sizeLine; decide, fun q1 hq1 => ?_⟩
    generalize hG_ : upd G2 q1 _ = G3
    have g3 : Same G2 G3 := by rw [← hG_]; exact same_new hq1
    have fq1 := (congrFun hG_ q1).symm.trans upd_same
    clear hG_
    have hs3 := g3 _ _ (k2 _ _ hs9 nsa)
    refine ⟨_, rfl, _, rfl, ?_⟩
    dsimp only [tNoPart]
    refine ⟨sa, _, rfl, SqL.of hs3, fun q2 hq2 => ?_⟩
    have ec1 : cutV (sg.map chV) (some 1) none = (sg.drop 1).map chV := by rw [List.map_drop]; exact cutV_from (by rw [List.length_map]; omega)
    rw [ec1]
    generalize hG_ : upd G3 q2 _ = G4
    have g4 : Same G3 G4 := by rw [← hG_]; exact same_new hq2
    have fq2 := (congrFun hG_ q2).symm.trans upd_same
    clear hG_
    refine ⟨q1, q2, _, _, rfl, rfl, g4 _ _ fq1, fq2, by rw [List.length_map]; exact Nat.le_of_lt (small1000' (by show 1 + _ ≤ 100000; rw [List.length_drop]; omega)), fun os hos => ?_⟩
    generalize hG_ : upd G4 os _ = G5
    have g5 : Same G4 G5 := by rw [← hG_]; exact same_new hos
    have fos := (congrFun hG_ os).symm.trans upd_same
    clear hG_
    have fos' : G5 os = some (.lst ((x :: sg.drop 1).map chV)) := fos
    have D5 := (D2.same g3).same (g4.trans g5)
    have k25 : Kp l H8 G5 := (Kp.of g1).trans (k2.trans (.of (g3.trans (g4.trans g5))))
    have hs5 := k25 _ _ hs8 nsa
    refine ⟨_, rfl, _, _, rfl, .inl (SqL.of hs5), _, _, rfl, rfl, ?_⟩
    exact merge3 (C := fun G oa ol => Kp l H8 G ∧ Dice G l (n + 37) ∧ G oa = some (.lst (ol.map chV)) ∧ oa ≠ l ∧ 1 ≤ ol.length ∧ ol.length ≤ 4 ∧ (∀ c ∈ ol, lett c = true) ∧ x ∈ ol) (fun rest => by
      have nos : os ≠ l := (D2.same (g3.trans g4)).ne hos
      have c0 : Kp l H8 G5 ∧ Dice G5 l (n + 37) ∧ G5 os = some (.lst ((x :: sg.drop 1).map chV)) ∧ os ≠ l ∧ 1 ≤ (x :: sg.drop 1).length ∧ (x :: sg.drop 1).length ≤ 4 ∧ (∀ c ∈ x :: sg.drop 1, lett c = true) ∧ x ∈ x :: sg.drop 1 := by
        refine ⟨k25, D5.le (by omega), fos', nos, by rw [List.length_cons]; omega, by rw [List.length_cons, List.length_drop]; omega, fun c hc => ?_, List.mem_cons_self⟩
        rcases List.mem_cons.mp hc with h | h
        · rw [h]
          exact xl
        · exact hl c (List.mem_of_mem_drop h)
      rw [List.length_map]
      refine ⟨decide (sg.length < 4), congrArg V.bl (decide_eq_decide.mpr (by omega)), itB (fun e => ?_) (fun e => ?_)⟩
      · have e := of_decide_eq_true e
        refine ⟨_, rfl, l, 2, n + 37, rfl, by decide, by decide, D5.le (by omega), fun r G6 ra rb k6 D6 => ⟨rfl, _, rfl, itB (fun e2 => ?_) (fun e2 => ?_)⟩⟩
        · have hs6 := k6 _ _ hs5 nsa
          have fos6 := k6 _ _ fos' nos
          refine ⟨_, rfl, _, rfl, ?_⟩
          dsimp only [tNoPart]
          refine ⟨_, rfl, os, _, rfl, SqL.of fos6, fun q3 hq3 => ?_⟩
          have ec2 : cutV ((x :: sg.drop 1).map chV) none (some 1) = [chV x] := (cutV_to1 (i := 1) (by simp)).trans rfl
          rw [ec2]
          generalize hG_ : upd G6 q3 _ = G7
          have g7 : Same G6 G7 := by rw [← hG_]; exact same_new hq3
          have fq3 := (congrFun hG_ q3).symm.trans upd_same
          clear hG_
          refine ⟨sa, q3, _, _, rfl, rfl, g7 _ _ hs6, fq3, by rw [List.length_map]; exact Nat.le_of_lt (small1000' (by show _ + 1 ≤ 100000; omega)), fun os2 hos2 => ?_⟩
          generalize hG_ : upd G7 os2 _ = G8
          have g8 : Same G7 G8 := by rw [← hG_]; exact same_new hos2
          have fo8 := (congrFun hG_ os2).symm.trans upd_same
          clear hG_
          refine rest _ _ (sg ++ [x]) ⟨(k25.trans k6).trans (.of (g7.trans g8)), (D6.same g7).same g8, by rw [fo8, List.map_append]; rfl, (D6.same g7).ne hos2, by rw [List.length_append]; omega, by rw [List.length_append]; show _ + 1 ≤ 4; omega, fun c hc => ?_, List.mem_append_right _ List.mem_cons_self⟩
          rcases List.mem_append.mp hc with h | h
          · exact hl c h
          · rw [List.mem_singleton.mp h]
            exact xl
        · obtain ⟨a1, a2, a3, a4, a5⟩ := c0
          exact rest _ os _ ⟨a1.trans k6, D6, k6 _ _ a3 a4, a4, a5⟩
      · exact G.iteF (rest _ os _ c0)) (by
      rintro G oa ol ⟨kg, Dg, foa, noa, ol1, ol4, oll, xol⟩
      refine ⟨_, rfl, oa, rfl, ⟨_, SqL.of foa⟩, fun D0 hD0 => ?_⟩
      have nD0 : D0 ≠ l := Dg.ne hD0
      refine lc_it (walk_listF (K := K) chV ol) (fun t H' => ∃ prs : List (Addr × (Key × V)), prs.length = t ∧ H' D0 = some (.lst (prs.map fun p => V.ref p.1)) ∧ (∀ p ∈ prs, H' p.1 = some (.tup [kV p.2.1, p.2.2]) ∧ p.1 ≠ l ∧ p.1 ≠ D0) ∧ (∀ p ∈ prs, ∃ c q, p.2 = (Sum.inr (ch c), V.int q) ∧ c ∈ ol ∧ 1 ≤ q ∧ q ≤ 99) ∧ prs.map (·.2.1) = (ol.take t).map (fun c => Sum.inr (ch c)) ∧ Kp l G H' ∧ Dice H' l (n + 30 + (4 - t)))
        ⟨[], rfl, upd_same, fun _ h => (List.not_mem_nil h).elim, fun _ h => (List.not_mem_nil h).elim, rfl, (Kp.refl _ _).new hD0, (Dg.new hD0).le (by omega)⟩ (fun t H' _ q => by obtain ⟨_, _, _, _, _, _, q, _⟩ := q; exact SqL.of (q _ _ foa noa)) ?_ ?_
      · rintro t y E1 E2 ht ⟨prs, lp', e1, p1, p2, m1, ke, De⟩ ⟨rfl, w, hw, rfl⟩
        have tl := (List.getElem?_eq_some_iff.mp hw).1
        refine ⟨wipe_set, _, rfl, _, rfl, l, 9, n + 30 + (4 - (t + 1)), rfl, by decide, by decide, De.le (by omega), fun r3 E3 re rf k6 D6 => ⟨_, _, rfl, rfl, ?_⟩⟩
        have rf9 : r3 < 9 := rf
        refine ⟨by show 2 ≤ sizeLine; decide, fun tq htq => ?_⟩
        have ntq : tq ≠ l := D6.ne htq
        have e3 := k6 _ _ e1 nD0
        have ntD : tq ≠ D0 := (ne_of_none e3 htq).symm
        refine ⟨_, same_new htq _ _ e3, by rw [List.length_map]; exact small1000' (by omega), prs ++ [(tq, (Sum.inr (ch w), V.int (1 + r3)))], by rw [List.length_append, lp']; rfl, by rw [upd_same, List.map_append]; rfl, fun p hp => ?_, fun p hp => ?_, ?_, ((ke.trans k6).new htq).mut hD0, (D6.new htq).upd nD0⟩
        · rcases List.mem_append.mp hp with h | h
          · obtain ⟨a1, a2, a3⟩ := p1 p h
            exact ⟨by rw [upd_ne a3]; exact same_new htq _ _ (k6 _ _ a1 a2), a2, a3⟩
          · rw [List.mem_singleton.mp h]
            exact ⟨by rw [upd_ne ntD]; exact upd_same, ntq, ntD⟩
        · rcases List.mem_append.mp hp with h | h
          · exact p2 p h
          · rw [List.mem_singleton.mp h]
            exact ⟨w, 1 + r3, rfl, List.mem_of_getElem? hw, by omega, by omega⟩
        · rw [List.map_append, m1, List.take_add_one, hw, List.map_append]
          rfl
      rintro E1 ⟨prs, lp', e1, p1, p2, m1, ke, De⟩
      rw [List.take_length] at m1
      refine ⟨D0, prs.map (·.1), prs.map (·.2), rfl, SqL.of (by rw [e1, List.map_map]; rfl), paired_of (F := fun (p : Addr) (kv : Key × V) => SqT K E1 p [kV kv.1, kv.2]) (ps := prs) (fun q hq => SqT.of (p1 q hq).1), fun pd hpd => ?_⟩
      obtain ⟨P1, P2⟩ := PrOk.merge (sg := ol) (more := prs.map (·.2)) (kvs := []) PrOk.nil fun kv hkv => by
        obtain ⟨p, hp, rfl⟩ := List.mem_map.mp hkv
        obtain ⟨z, q, e, hz, q1, q9⟩ := p2 p hp
        exact ⟨ch z, q, e, ⟨by show 1 ≤ 1; omega, by show 1 ≤ 5; omega⟩, fun d hd => by
            have e : d = z := by simpa [cs] using hd
            rw [e]
            exact hz, q1, q9⟩
      have has : ∀ c ∈ ol, (valV (mergeK [] (prs.map (·.2))) (Sum.inr (ch c))).isSome = true := fun c hc => merge_has (.inl (by
        rw [List.map_map]
        show Sum.inr (ch c) ∈ prs.map (·.2.1)
        rw [m1]
        exact List.mem_map.mpr ⟨_, hc, rfl⟩))
      rw [List.length_map, lp', List.length_nil] at P2
      obtain ⟨avo, sgo⟩ := P1.right has oll ol4 ol1 (by omega)
      generalize mergeK [] (prs.map (·.2)) = kk at P1 P2 has avo sgo ⊢
      generalize hG_ : upd E1 pd _ = E2
      have s2' : Same E1 E2 := by rw [← hG_]; exact same_new hpd
      have f2' := (congrFun hG_ pd).symm.trans upd_same
      clear hG_
      refine fun ob dx nx ndx nex => made_book nx ndx f2' avo P1.nd fun E3 s3' Bo => ⟨rfl, ?_⟩
      have kE : Kp l G E3 := ke.trans (.of (s2'.trans s3'))
      have DE : Dice E3 l n := ((De.same s2').same s3').le (by omega)
      have k8E := kg.trans kE
      have vE := vo.kp no k8E
      have BE := B8.kp D8 k8E
      have kHE := k08.trans k8E
      have tE : Tabs _ E3 := Tabs.kp tabs D kHE
      have diff : ∃ c, ¬ ((tfD kvs (ch c)).isSome = true ↔ (tfD kk (ch c)).isSome = true) := ⟨x, fun h => by
        rw [Option.isSome_iff_exists, Option.isSome_iff_exists, sgns x, sgo x] at h
        exact xn (h.mpr xol)⟩
      clear kE k8E P1 P2 has p1 p2 m1 e1 s2' s3' f2'
      have la4 : ∀ m : Nat, ∀ z ∈ List.replicate m ("book" : Str), ∀ c ∈ cs z, lett c = true := fun m z hz => by
        rw [List.eq_of_mem_replicate hz]
        exact List.all_eq_true.mp (show (Str.ofString "book").cps.toList.all lett = true by decide +kernel)
      have lo4 : ∀ m : Nat, ∀ z ∈ List.replicate m ("operation" : Str), ∀ c ∈ cs z, lett c = true := fun m z hz => by
        rw [List.eq_of_mem_replicate hz]
        exact List.all_eq_true.mp (show (Str.ofString "operation").cps.toList.all lett = true by decide +kernel)
      refine ⟨tE, fun G1 x1 t1 => ⟨_, rfl, odd, rfl, vE.mono x1, CB, _, rfl, rfl, T.k_InvalidBook, fun G2 g2 => ?_⟩⟩
      refine ⟨by show 1 ≤ sizeLine; decide, fun tl htl => ?_⟩
      generalize hG_ : upd G2 tl _ = G3
      have g3 : Same G2 G3 := by rw [← hG_]; exact same_new htl
      have f3 := (congrFun hG_ tl).symm.trans upd_same
      clear hG_
      have kH2 : KpN l H G2 := (Kp.n kHE).trans ((ExtN.n x1).trans (Kp.n (.of g2)))
      have D2' := (DE.ext x1).same g2
      have T0 : TX C _ G2 G3 l tl b ob kvs kk odd n G3 (List.replicate 1 ("book" : Str)) := ⟨Tabs.same (Tabs.same t1 g2) g3, ((BE.ext x1).same g2).same g3, ((Bo.ext x1).same g2).same g3, ((vE.mono x1).same g2).same g3, ((vE.mono x1).same g2).ne htl, f3, D2'.same g3, D2'.ne htl, Kp.n (.of g3), htl, KpN.refl _ _⟩
      refine ⟨_, rfl, .inl ⟨rfl, _, SqL.of T0.at'⟩, T0.tb, fun G4 x4 t4 => ⟨_, rfl, odd, rfl, T0.vo.mono x4, CB, _, rfl, rfl, T.k_InvalidBook, fun G5 g5 => ⟨tl, _, _, rfl, rfl, g5 _ _ (ExtN.lst x4 T0.at'), by show 1 < sizeLine; decide, ?_⟩⟩⟩
      have T1 : TX C _ G2 G3 l tl b ob kvs kk odd n _ (List.replicate 2 ("book" : Str)) := T0.push x4 t4 g5 (Str.ofString "book")
      generalize (upd G5 tl _) = G6 at T1 ⊢
      refine ⟨_, rfl, _, rfl, by show 2 ≤ sizeLine; decide, fun w1 hw1 => ?_⟩
      generalize hG_ : upd G6 w1 _ = W1
      have v1 : Same G6 W1 := by rw [← hG_]; exact same_new hw1
      have fw1 := (congrFun hG_ w1).symm.trans upd_same
      clear hG_
      refine ⟨_, rfl, _, rfl, by show 2 ≤ sizeLine; decide, fun w2 hw2 => ?_⟩
      generalize hG_ : upd W1 w2 _ = W2
      have v2 : Same W1 W2 := by rw [← hG_]; exact same_new hw2
      have fw2 := (congrFun hG_ w2).symm.trans upd_same
      clear hG_
      refine ⟨_, rfl, _, rfl, by show 2 ≤ sizeLine; decide, fun w3 hw3 => ?_⟩
      generalize hG_ : upd W2 w3 _ = W3
      have v3 : Same W2 W3 := by rw [← hG_]; exact same_new hw3
      have fw3 := (congrFun hG_ w3).symm.trans upd_same
      clear hG_
      refine ⟨by show 3 ≤ sizeLine; decide, fun wl hwl => ?_⟩
      generalize hG_ : upd W3 wl _ = W4
      have v4 : Same W3 W4 := by rw [← hG_]; exact same_new hwl
      have fwl := (congrFun hG_ wl).symm.trans upd_same
      clear hG_
      have T2 := T1.base (v1.trans (v2.trans (v3.trans v4)))
      have ntl : ∀ {a : Addr} {xs : List V}, W4 a = some (.tup xs) → a ≠ tl := fun h q => by
        rw [q, T2.at'] at h
        cases h
      have nwl : wl ≠ tl := ne_of_none (((v1.trans (v2.trans v3)) _ _ T1.at')) hwl |>.symm
      have fw1' := (v2.trans (v3.trans v4)) _ _ fw1
      have fw2' := (v3.trans v4) _ _ fw2
      have fw3' := v4 _ _ fw3
      refine ⟨wl, rfl, ⟨_, SqL.of fwl⟩, for_list (K := K) (xs := [.ref w1, .ref w2, .ref w3]) (fun j σ G' => ∃ x8 x9, σ = [some (.ref l), some (.ref sa), some (.ref b), some (.ref Df), some (.ref oa), some (.ref ob), some (.ref tl), some odd, x8, x9, none] ∧ TX C _ G2 W4 l tl b ob kvs kk odd n G' (List.replicate (2 + 3 * j) ("book" : Str))) ⟨none, none, rfl, T2⟩ (fun j σ G' _ q => by obtain ⟨_, _, _, q⟩ := q; exact SqL.of (q.tp _ _ fwl (fun _ e => nomatch e) nwl)) ?_ ?_⟩
      · rintro j y σ V0 hj ⟨x8, x9, rfl, U0⟩
        have j3 : j < 3 := (List.getElem?_eq_some_iff.mp hj).1
        obtain ⟨t, u, v, rfl, ht, bad⟩ : ∃ (t : Addr) (u v : V), y = .ref t ∧ V0 t = some (.tup [u, v]) ∧ ∀ {G' : Hp}, Val G' odd → Book1 C G' b kvs → Book1 C G' ob kk → ∀ {E' : XK}, E' (.ref CB) none G' → BadC C CB CO G' u v E' := by
          match j, hj, j3 with
          | 0, hj, _ => cases hj; exact ⟨w1, _, _, rfl, U0.tp _ _ fw1' (fun _ e => nomatch e) (ntl fw1'), fun vo _ _ _ e => .inl ⟨vo, e⟩⟩
          | 1, hj, _ => cases hj; exact ⟨w2, _, _, rfl, U0.tp _ _ fw2' (fun _ e => nomatch e) (ntl fw2'), fun vo _ _ _ e => .inl ⟨vo, e⟩⟩
          | 2, hj, _ => cases hj; exact ⟨w3, _, _, rfl, U0.tp _ _ fw3' (fun _ e => nomatch e) (ntl fw3'), fun vo B1 _ _ e => .inr ⟨b, kvs, rfl, B1, .inl ⟨vo, e⟩⟩⟩
        refine ⟨t, _, rfl, SqT.of ht, rfl, _, _, rfl, _, _, rfl, rfl, ?_⟩
        refine ⟨_, rfl, .inl ⟨rfl, _, SqL.of U0.at'⟩, U0.tb, fun G4 x4 t4 => ⟨_, rfl, _, rfl, u, v, rfl, bad (U0.vo.mono x4) (U0.b1.ext x4) (U0.b2.ext x4) ⟨CB, _, rfl, rfl, T.k_InvalidBook, fun G5 g5 => ⟨tl, _, _, rfl, rfl, g5 _ _ (ExtN.lst x4 U0.at'), by rw [List.length_map, List.length_replicate]; exact small1000' (by omega), ?_⟩⟩⟩⟩
        have U1 := U0.push x4 t4 g5 (Str.ofString "book")
        rw [← List.replicate_succ'] at U1
        generalize (upd G5 tl _) = V1 at U1 ⊢
        clear g5 t4 x4
        refine ⟨_, rfl, .inl ⟨rfl, _, SqL.of U1.at'⟩, U1.tb, fun G4 x4 t4 => ⟨_, rfl, _, rfl, u, v, rfl, bad (U1.vo.mono x4) (U1.b1.ext x4) (U1.b2.ext x4) ⟨CB, _, rfl, rfl, T.k_InvalidBook, fun G5 g5 => ⟨tl, _, _, rfl, rfl, g5 _ _ (ExtN.lst x4 U1.at'), by rw [List.length_map, List.length_replicate]; exact small1000' (by omega), ?_⟩⟩⟩⟩
        have U2 := U1.push x4 t4 g5 (Str.ofString "book")
        rw [← List.replicate_succ'] at U2
        generalize (upd G5 tl _) = V2 at U2 ⊢
        clear g5 t4 x4
        refine ⟨_, rfl, .inl ⟨rfl, _, SqL.of U2.at'⟩, U2.tb, fun G4 x4 t4 => ⟨_, rfl, _, rfl, u, v, rfl, bad (U2.vo.mono x4) (U2.b1.ext x4) (U2.b2.ext x4) ⟨CB, _, rfl, rfl, T.k_InvalidBook, fun G5 g5 => ⟨tl, _, _, rfl, rfl, g5 _ _ (ExtN.lst x4 U2.at'), by rw [List.length_map, List.length_replicate]; exact small1000' (by omega), ?_⟩⟩⟩⟩
        have U3 := U2.push x4 t4 g5 (Str.ofString "book")
        rw [← List.replicate_succ'] at U3
        generalize (upd G5 tl _) = V3 at U3 ⊢
        clear g5 t4 x4
        exact ⟨_, _, rfl, U3⟩
      rintro σ V0 ⟨x8, x9, rfl, U0⟩
      have k0V : KpN l H V0 := kH2.trans U0.kn
      refine ⟨_, rfl, by show 1 ≤ sizeLine; decide, fun r1 hr1 => ?_⟩
      generalize hG_ : upd V0 r1 _ = X1
      have u1 : Same V0 X1 := by rw [← hG_]; exact same_new hr1
      have fr1 := (congrFun hG_ r1).symm.trans upd_same
      clear hG_
      refine ⟨r1, 11, _, rfl, rfl, fr1, by decide, by decide, by show 1 * 11 ≤ sizeLine; decide, fun r2 hr2 => ?_⟩
      generalize hG_ : upd X1 r2 _ = X2
      have u2 : Same X1 X2 := by rw [← hG_]; exact same_new hr2
      have fr2 := (congrFun hG_ r2).symm.trans upd_same
      clear hG_
      refine ne_lstrs (zs := List.replicate 11 ("book" : Str)) (SqL.of ((u1.trans u2) _ _ U0.at')) (SqL.of (fr2.trans rfl)) (la4 11) ⟨false, rfl, ?_⟩
      have u12 := u1.trans u2
      refine ⟨by show 0 ≤ sizeLine; decide, fun tm htm => ?_⟩
      have u3 := same_new htm (o := .lst [])
      have fr3 : (upd X2 tm (.lst [] : HO)) tm = some (.lst [] : HO) := upd_same
      generalize (upd X2 tm (.lst [] : HO)) = X3 at u3 fr3 ⊢
      have k0X : KpN l H X2 := k0V.trans (Kp.n (.of u12))
      have T3 : TX C _ X2 X3 l tm b ob kvs kk odd n X3 (List.replicate 0 ("operation" : Str)) := ⟨Tabs.same (Tabs.same U0.tb u12) u3, (U0.b1.same u12).same u3, (U0.b2.same u12).same u3, (U0.vo.same u12).same u3, (U0.vo.same u12).ne htm, fr3, (U0.dl.same u12).same u3, (U0.dl.same u12).ne htm, Kp.n (.of u3), htm, KpN.refl _ _⟩
      clear U0 u1 u2 u12 fr1 fr2 k0V T2 fw1' fw2' fw3' fwl fw1 fw2 fw3 v1 v2 v3 v4 T1 ntl
      refine ⟨_, rfl, _, rfl, by show 2 ≤ sizeLine; decide, fun w1 hw1 => ?_⟩
      generalize hG_ : upd X3 w1 _ = W1
      have v1 : Same X3 W1 := by rw [← hG_]; exact same_new hw1
      have fw1 := (congrFun hG_ w1).symm.trans upd_same
      clear hG_
      refine ⟨_, rfl, _, rfl, by show 2 ≤ sizeLine; decide, fun w2 hw2 => ?_⟩
      generalize hG_ : upd W1 w2 _ = W2
      have v2 : Same W1 W2 := by rw [← hG_]; exact same_new hw2
      have fw2 := (congrFun hG_ w2).symm.trans upd_same
      clear hG_
      refine ⟨by show 2 ≤ sizeLine; decide, fun wl hwl => ?_⟩
      generalize hG_ : upd W2 wl _ = W4
      have v4 : Same W2 W4 := by rw [← hG_]; exact same_new hwl
      have fwl := (congrFun hG_ wl).symm.trans upd_same
      clear hG_
      have T2 := T3.base (v1.trans (v2.trans v4))
      have ntl : ∀ {a : Addr} {xs : List V}, W4 a = some (.tup xs) → a ≠ tm := fun h q => by
        rw [q, T2.at'] at h
        cases h
      have nwl : wl ≠ tm := ne_of_none (((v1.trans v2)) _ _ T3.at') hwl |>.symm
      have fw1' := (v2.trans v4) _ _ fw1
      have fw2' := v4 _ _ fw2
      refine ⟨wl, rfl, ⟨_, SqL.of fwl⟩, for_list (K := K) (xs := [.ref w1, .ref w2]) (fun j σ G' => ∃ x8 x9, σ = [some (.ref l), some (.ref sa), some (.ref b), some (.ref Df), some (.ref oa), some (.ref ob), some (.ref tm), some odd, x8, x9, none] ∧ TX C _ X2 W4 l tm b ob kvs kk odd n G' (List.replicate (3 * j) ("operation" : Str))) ⟨_, _, rfl, T2⟩ (fun j σ G' _ q => by obtain ⟨_, _, _, q⟩ := q; exact SqL.of (q.tp _ _ fwl (fun _ e => nomatch e) nwl)) ?_ ?_⟩
      · rintro j y σ V0 hj ⟨x8, x9, rfl, U0⟩
        have j3 : j < 2 := (List.getElem?_eq_some_iff.mp hj).1
        obtain ⟨t, u, v, rfl, ht, bad⟩ : ∃ (t : Addr) (u v : V), y = .ref t ∧ V0 t = some (.tup [u, v]) ∧ ∀ {G' : Hp}, Val G' odd → Book1 C G' b kvs → Book1 C G' ob kk → ∀ {E' : XK}, E' (.ref CO) none G' → BadC C CB CO G' u v E' := by
          obtain ⟨dc, nd⟩ := diff
          match j, hj, j3 with
          | 0, hj, _ => cases hj; exact ⟨w1, _, _, rfl, U0.tp _ _ fw1' (fun _ e => nomatch e) (ntl fw1'), fun _ B1 B2 _ e => .inr ⟨b, kvs, rfl, B1, .inr ⟨ob, kk, rfl, B2, ⟨dc, nd⟩, e⟩⟩⟩
          | 1, hj, _ => cases hj; exact ⟨w2, _, _, rfl, U0.tp _ _ fw2' (fun _ e => nomatch e) (ntl fw2'), fun _ B1 B2 _ e => .inr ⟨ob, kk, rfl, B2, .inr ⟨b, kvs, rfl, B1, ⟨dc, fun h => nd h.symm⟩, e⟩⟩⟩
        refine ⟨t, _, rfl, SqT.of ht, rfl, _, _, rfl, _, _, rfl, rfl, ?_⟩
        refine ⟨_, rfl, .inl ⟨rfl, _, SqL.of U0.at'⟩, U0.tb, fun G4 x4 t4 => ⟨_, rfl, _, rfl, u, v, rfl, bad (U0.vo.mono x4) (U0.b1.ext x4) (U0.b2.ext x4) ⟨CO, _, rfl, rfl, T.k_InvalidOperation, fun G5 g5 => ⟨tm, _, _, rfl, rfl, g5 _ _ (ExtN.lst x4 U0.at'), by rw [List.length_map, List.length_replicate]; exact small1000' (by omega), ?_⟩⟩⟩⟩
        have U1 := U0.push x4 t4 g5 (Str.ofString "operation")
        rw [← List.replicate_succ'] at U1
        generalize (upd G5 tm _) = V1 at U1 ⊢
        clear g5 t4 x4
        refine ⟨_, rfl, .inl ⟨rfl, _, SqL.of U1.at'⟩, U1.tb, fun G4 x4 t4 => ⟨_, rfl, _, rfl, u, v, rfl, bad (U1.vo.mono x4) (U1.b1.ext x4) (U1.b2.ext x4) ⟨CO, _, rfl, rfl, T.k_InvalidOperation, fun G5 g5 => ⟨tm, _, _, rfl, rfl, g5 _ _ (ExtN.lst x4 U1.at'), by rw [List.length_map, List.length_replicate]; exact small1000' (by omega), ?_⟩⟩⟩⟩
        have U2 := U1.push x4 t4 g5 (Str.ofString "operation")
        rw [← List.replicate_succ'] at U2
        generalize (upd G5 tm _) = V2 at U2 ⊢
        clear g5 t4 x4
        refine ⟨_, rfl, .inl ⟨rfl, _, SqL.of U2.at'⟩, U2.tb, fun G4 x4 t4 => ⟨_, rfl, _, rfl, u, v, rfl, bad (U2.vo.mono x4) (U2.b1.ext x4) (U2.b2.ext x4) ⟨CO, _, rfl, rfl, T.k_InvalidOperation, fun G5 g5 => ⟨tm, _, _, rfl, rfl, g5 _ _ (ExtN.lst x4 U2.at'), by rw [List.length_map, List.length_replicate]; exact small1000' (by omega), ?_⟩⟩⟩⟩
        have U3 := U2.push x4 t4 g5 (Str.ofString "operation")
        rw [← List.replicate_succ'] at U3
        generalize (upd G5 tm _) = V3 at U3 ⊢
        clear g5 t4 x4
        exact ⟨_, _, rfl, U3⟩
      rintro σ V0 ⟨x8, x9, rfl, U0⟩
      refine ⟨_, rfl, by show 1 ≤ sizeLine; decide, fun r1 hr1 => ?_⟩
      generalize hG_ : upd V0 r1 _ = X4
      have u1 : Same V0 X4 := by rw [← hG_]; exact same_new hr1
      have fr1 := (congrFun hG_ r1).symm.trans upd_same
      clear hG_
      refine ⟨r1, 6, _, rfl, rfl, fr1, by decide, by decide, by show 1 * 6 ≤ sizeLine; decide, fun r2 hr2 => ?_⟩
      generalize hG_ : upd X4 r2 _ = X5
      have u2 : Same X4 X5 := by rw [← hG_]; exact same_new hr2
      have fr2 := (congrFun hG_ r2).symm.trans upd_same
      clear hG_
      have u12 := u1.trans u2
      refine eq_lstrs (zs := List.replicate 6 ("operation" : Str)) (SqL.of (u12 _ _ U0.at')) (SqL.of (fr2.trans rfl)) (lo4 6) (k X5 ((k0X.trans U0.kn).trans (Kp.n (.of u12))) (Tabs.same U0.tb u12) (U0.dl.same u12)))
theorem sc__law_right : FnScope ["dice", "signs", "plain", "other", "one", "two", "here", "there", "told", "due", "gone", "rest", "piece"] ["dice"] (defScope s__law_right) := ⟨rfl, rfl, rfl, by decide +kernel, rfl, by decide +kernel, by decide +kernel⟩
theorem ok__law_right {f : Addr} {fd : FuncData} (F : Fun K "_law_right" "_law_right" s__law_right f fd) (T : Txt K mg C CE CB CT CO) (c_Book : C8.Mak P w K mg base 5 "Book" C (spBook C K) []) (c_Book_prices : HasP P w K mg base 1 C "prices" (spPrices C)) (c__law_some : HasO P w K mg base CX0 2 "_law_some" ["dice", "items", "many"] (spSome K)) (c__law_roll : HasO P w K mg base CX0 1 "_law_roll" ["dice", "upto"] (spRoll)) (c__law_two : HasO P w K mg base CX0 4 "_law_two" ["dice", "signs"] (spTwo K)) (c__law_dearer : HasO P w K mg base CX0 2 "_law_dearer" ["one", "two"] (spLDear)) (c_is_nowhere_dearer : HasO P w K mg base CX0 6 "is_nowhere_dearer" ["book", "other"] (spNowhere C)) (c_dearer_piece : HasO P w K mg base CX0 6 "dearer_piece" ["book", "other"] (spDearer C)) (c_are_as_cheap : HasO P w K mg base CX0 6 "are_as_cheap" ["book", "other"] (spAsCheap C)) (c__law_needless : HasO P w K mg base CX0 2 "_law_needless" ["prices"] (spLNeed)) (c_needless : HasO P w K mg base CX0 6 "needless" ["book"] (spNeed C)) (c_least_book : HasO P w K mg base CX0 7 "least_book" ["book"] (spLeast C)) (c__law_errors_right : Has P w K mg base CX0 8 "_law_errors_right" ["dice", "signs", "book"] (spErrs C [(PT, (("_law_errors_right.<locals>.<lambda>" : String) : Str))])) : FnG P w K mg base CX0 10 f fd ["dice"] (spRightT [(PT, (("_law_errors_right.<locals>.<lambda>" : String) : Str))] 600) := by
  refine fn_g0 F sc__law_right (fun vs H Q E h => ?_) (fun cdv A outer s H vs Q E hg hr h => ?_)
  · obtain ⟨l, n, rfl, _⟩ := h
    rfl
  · have hu := hu_of hr
    obtain ⟨l, n, rfl, tabs, D, k⟩ := h
    refine ⟨_, (pss_cons (ps_set (i := 1) sc__law_right.nd rfl (Or.inl rfl) (pe_hasO c__law_some (hr.mono (by decide)) pass0 (pa_cons (pv 0) (pa_cons pe_str (pa_cons (pe_op op_add pe_int (pe_hasO c__law_roll (hr.mono (by decide)) pass0 (pa_cons (pv 0) (pa_cons pe_int pa_nil)))) pa_nil)))))
      (pss_cons (ps_asg (pe_hasO c__law_two (hr.mono (by decide)) pass0 (pa_cons (pv 0) (pa_cons (pv 1) pa_nil))) (pg_lst (n := 2) rfl (pgs_cons (pg_name (i := 2) sc__law_right.nd rfl (Or.inr rfl)) (pgs_cons (pg_name (i := 3) sc__law_right.nd rfl (Or.inl rfl)) pgs_nil))))
      (pss_cons (ps_par (i := 4) (j := 5) (by rfl) sc__law_right.nd rfl rfl (by decide) rfl rfl (pa_cons (C8.pe_mk c_Book hr (by decide) (by rfl) (pa_cons (pv 2) pa_nil)) (pa_cons (C8.pe_mk c_Book hr (by decide) (by rfl) (pa_cons (pv 3) pa_nil)) pa_nil)) (by rfl))
      (pss_cons (ps_par (i := 6) (j := 7) (by rfl) sc__law_right.nd rfl rfl (by decide) rfl rfl (pa_cons (pe_hasO c__law_dearer (hr.mono (by decide)) pass0 (pa_cons (pv 2) (pa_cons (pv 3) pa_nil))) (pa_cons (pe_hasO c__law_dearer (hr.mono (by decide)) pass0 (pa_cons (pv 3) (pa_cons (pv 2) pa_nil))) pa_nil)) (by rfl))
      (pss_cons (ps_set (i := 8) sc__law_right.nd rfl (Or.inl rfl) (pe_lst (pa_cons (pe_hasO c_dearer_piece (hr.mono (by decide)) pass0 (pa_cons (pv 4) (pa_cons (pv 5) pa_nil))) (pa_cons (pe_hasO c_dearer_piece (hr.mono (by decide)) pass0 (pa_cons (pv 5) (pa_cons (pv 4) pa_nil))) (pa_cons (pe_hasO c_is_nowhere_dearer (hr.mono (by decide)) pass0 (pa_cons (pv 4) (pa_cons (pv 5) pa_nil))) (pa_cons (pe_hasO c_is_nowhere_dearer (hr.mono (by decide)) pass0 (pa_cons (pv 5) (pa_cons (pv 4) pa_nil))) pa_nil))))))
      (pss_cons (ps_expr (g_bm K PySem.F.plainAttrs_list PySem.F.slot_list_append PySem.F.type_list_append mt_append (pv 8) (pa_cons (pe_hasO c_are_as_cheap (hr.mono (by decide)) pass0 (pa_cons (pv 4) (pa_cons (pv 5) pa_nil))) pa_nil)))
      (pss_cons (ps_set (i := 9) sc__law_right.nd rfl (Or.inl rfl) (pe_lst (pa_cons (pe_ix (g_ix_list K) (pe_op op_cat (pv 6) (pe_lst (pa_cons pe_non pa_nil))) pe_int (fun _ _ => rfl)) (pa_cons (pe_ix (g_ix_list K) (pe_op op_cat (pv 7) (pe_lst (pa_cons pe_non pa_nil))) pe_int (fun _ _ => rfl)) (pa_cons (pe_cmpR (g_eqD K hr.units) (pv 6) (pe_lst pa_nil) (nomark _)) (pa_cons (pe_cmpR (g_eqD K hr.units) (pv 7) (pe_lst pa_nil) (nomark _)) (pa_cons (pe_and (pe_cmpR (g_eqD K hr.units) (pv 6) (pe_lst pa_nil) (nomark _)) (pe_one (pe_cmpR (g_eqD K hr.units) (pv 7) (pe_lst pa_nil) (nomark _)))) pa_nil)))))))
      (pss_cons (ps_if (pt_cmpR op_ne (pe_callB (g_repr K hg hr.units) (by rfl) T.b_repr (by decide +kernel) (pa_cons (pv 8) pa_nil)) (pe_callB (g_repr K hg hr.units) (by rfl) T.b_repr (by decide +kernel) (pa_cons (pv 9) pa_nil)) (nomark _)) (pss_one (ps_ret pe_bl)) pss_nil)
      (pss_cons (ps_set (i := 10) sc__law_right.nd rfl (Or.inr rfl) (pe_hasO c__law_needless (hr.mono (by decide)) pass0 (pa_cons (pv 2) pa_nil)))
      (pss_cons (ps_if (PW.pt (pw_or (pt_cmpR op_ne (pe_callB (g_repr K hg hr.units) (by rfl) T.b_repr (by decide +kernel) (pa_cons (pe_hasO c_needless (hr.mono (by decide)) pass0 (pa_cons (pv 4) pa_nil)) pa_nil)) (pe_callB (g_repr K hg hr.units) (by rfl) T.b_repr (by decide +kernel) (pa_cons (pe_callTy (g_tuple_of K) (by rfl) T.b_tuple (by decide +kernel) (pa_cons (pv 10) pa_nil)) pa_nil)) (nomark _)) (pw_or1 (pt_cmpR op_ne (pe_callB (g_repr K hg hr.units) (by rfl) T.b_repr (by decide +kernel) (pa_cons (pe_hasO c_needless (hr.mono (by decide)) pass0 (pa_cons (pv 5) pa_nil)) pa_nil)) (pe_callB (g_repr K hg hr.units) (by rfl) T.b_repr (by decide +kernel) (pa_cons (pe_callTy (g_tuple_of K) (by rfl) T.b_tuple (by decide +kernel) (pa_cons (pe_hasO c__law_needless (hr.mono (by decide)) pass0 (pa_cons (pv 3) pa_nil)) pa_nil)) pa_nil)) (nomark _))))) (pss_one (ps_ret pe_bl)) pss_nil)
      (pss_cons (ps_setLc (i := 11) (own := [("piece", 12)]) rfl sc__law_right.nd rfl rfl (sw_true rfl rfl rfl (by decide +kernel)) (g_list K (pe_callB (call_sortedD rfl) (by rfl) T.b_sorted (by decide +kernel) (pa_cons (pv 2) pa_nil))) (blkOk_by (own := [("piece", 12)]) (N := ["dice", "signs", "plain", "other", "one", "two", "here", "there", "told", "due", "gone", "rest", "piece"]) (sc := defScope s__law_right) (by decide +kernel)) (fun _ _ _ _ _ => (pg_name (i := 12) sc__law_right.nd rfl (Or.inl rfl))) (fun _ _ _ _ _ => (pts_one (pt_cmpR (g_notIn_seq K) (pv 12) (pv 10) (by rfl)))) (fun _ _ _ _ _ => (pe_tup (pa_cons (pv 12) (pa_cons (pe_dget hu (pv 2) (pv 12) (fun _ _ => rfl)) pa_nil)))))
      (pss_cons (ps_if (PW.pt (pw_or (pt_cmpR op_ne (pe_callB (g_repr K hg hr.units) (by rfl) T.b_repr (by decide +kernel) (pa_cons (LiI.pe_listItems rfl (pe_prp c_Book_prices hr (by decide) (pe_hasO c_least_book (hr.mono (by decide)) pass0 (pa_cons (pv 4) pa_nil))) rfl T.b_list (by decide +kernel)) pa_nil)) (pe_callB (g_repr K hg hr.units) (by rfl) T.b_repr (by decide +kernel) (pa_cons (pv 11) pa_nil)) (nomark _)) (pw_or1 (pt_not (pt_val (pe_has c__law_errors_right hg (hr.mono (by decide)) pass0 (pa_cons (pv 0) (pa_cons (pv 1) (pa_cons (pv 4) pa_nil))))))))) (pss_one (ps_ret pe_bl)) pss_nil)
      (pss_one (ps_ret (pe_and (pe_cmpR (g_eqD K hr.units) (LiI.pe_listItems rfl (pe_prp c_Book_prices hr (by decide) (pv 4)) rfl T.b_list (by decide +kernel)) (pe_callB (cr_sortTI rfl) (by rfl) T.b_sorted (by decide +kernel) (pa_cons (g_bm0 K PySem.F.plainAttrs_dict PySem.F.slot_dict_items PySem.F.type_dict_items mt_itemsK (pv 2)) pa_nil)) (nomark _)) (pe_one (pe_cmpR op_isN (pe_hasO c_dearer_piece (hr.mono (by decide)) pass0 (pa_cons (pv 4) (pa_cons (pv 4) pa_nil))) pe_non (nomark _)))))))))))))))))), ?_⟩
    -- the signs
    refine ⟨_, rfl, _, rfl, l, 4, n + 595, rfl, by decide, by decide, D.le (by omega), fun r H1 r0 r1 kp1 D1 => ⟨_, _, rfl, rfl, ?_⟩⟩
    refine ⟨l, .str (Str.ofString "abcdefghijklmnopqrstuvwxyz"), signsV (Str.ofString "abcdefghijklmnopqrstuvwxyz"), (1 + r).toNat, n + 590, by rw [Int.toNat_of_nonneg (by omega)]; rfl, .str (by decide +kernel) rfl, by decide +kernel, by omega, D1.le (by omega), fun sa zs rest H2 hsa pm zl e2 kp2 D2 => ?_⟩
    have nsa : sa ≠ l := D1.ne hsa
    have kp02 : Kp l H H2 := kp1.trans kp2
    obtain ⟨sg, rfl, sgl⟩ : ∃ sg : List Nat, zs = sg.map chV ∧ ∀ c ∈ sg, lett c = true := by
      refine lift_map fun v hv => ?_
      obtain ⟨c, hc, rfl⟩ := List.mem_map.mp (pm.mem_iff.mp (List.mem_append_left rest hv))
      exact ⟨c, rfl, List.all_eq_true.mp (show (Str.ofString "abcdefghijklmnopqrstuvwxyz").cps.toList.all lett = true by decide +kernel) c hc⟩
    have l26 : (signsV (Str.ofString "abcdefghijklmnopqrstuvwxyz")).length = 26 := by decide +kernel
    rw [List.length_map, l26] at zl
    have n1 : 1 ≤ sg.length := by omega
    have n4 : sg.length ≤ 4 := by omega
    clear pm zl
    -- two books
    refine ⟨_, rfl, _, rfl, l, sa, sg, n + 400, rfl, nsa, e2, n1, n4, sgl, D2.le (by omega), fun pp d1 d2 k1 k2 H3 hpp hd1 hd2 npp nd1 nd2 e3 f1 f2 A1 A2 kp3 D3 => ?_⟩
    obtain ⟨av1, ndk1, sg1⟩ := A1
    obtain ⟨av2, ndk2, sg2⟩ := A2
    refine ⟨pp, _, rfl, SqL.of e3, rfl, _, _, rfl, _, _, rfl, rfl, ?_⟩
    have tar1 := tar_of av1 ndk1
    have tar2 := tar_of av2 ndk2
    have good1 := tar1.good
    have good2 := tar2.good
    have ov12 : ∀ z p, tfD k2 z = some p → Over (tfD k1) (cs z) := fun z p h c hc => (sg1 c).mpr ((sg2 c).mp (good2.cov z p h c hc))
    have ov21 : ∀ z p, tfD k1 z = some p → Over (tfD k2) (cs z) := fun z p h c hc => (sg2 c).mpr ((sg1 c).mp (good1.cov z p h c hc))
    have ss : SameSigns (tfD k1) (tfD k2) := fun c => (sg1 c).trans (sg2 c).symm
    obtain ⟨_, al1, _, _⟩ := ap_parts av1
    obtain ⟨_, al2, _, _⟩ := ap_parts av2
    have kw1 : ∀ {z p}, tfD k1 z = some p → z.length ≤ 5 ∧ ∀ c ∈ cs z, lett c = true := fun {z p} h => by
      obtain ⟨_, h5, h6⟩ := keyStrs_piece al1 z ((tf_key al1).mpr ⟨p, h⟩)
      exact ⟨by rw [← cs_len]; exact h5, h6⟩
    have kw2 : ∀ {z p}, tfD k2 z = some p → z.length ≤ 5 ∧ ∀ c ∈ cs z, lett c = true := fun {z p} h => by
      obtain ⟨_, h5, h6⟩ := keyStrs_piece al2 z ((tf_key al2).mpr ⟨p, h⟩)
      exact ⟨by rw [← cs_len]; exact h5, h6⟩
    refine ⟨_, rfl, fun x1 dx1 nx1 ndx1 nex1 => made_book nx1 ndx1 f1 av1 ndk1 fun H4 s4 B1 => ⟨rfl, ?_⟩⟩
    refine ⟨_, rfl, fun x2 dx2 nx2 ndx2 nex2 => made_book nx2 ndx2 (s4 _ _ f2) av2 ndk2 fun H5 s5 B2 => ⟨rfl, ?_⟩⟩
    have s35 := s4.trans s5
    have B1 := B1.same s5
    refine ⟨_, _, rfl, ?_⟩
    refine ⟨_, rfl, _, rfl, d1, d2, k1, k2, rfl, s35 _ _ f1, s35 _ _ f2, tar1, av2, ndk2, ov12, fun hp hz H6 hhp e6 m1 so1 s6 => ?_⟩
    have s36 := s35.trans s6
    refine ⟨_, rfl, _, rfl, d2, d1, k2, k1, rfl, s36 _ _ f2, s36 _ _ f1, tar2, av1, ndk1, ov21, fun tp tz H7 htp e7 m2 so2 s7 => ?_⟩
    have s37 := s36.trans s7
    have hzw : ∀ z ∈ hz, z.length ≤ 5 ∧ ∀ c ∈ cs z, lett c = true := fun z h => by
      obtain ⟨q, hq, _⟩ := (m1 z).mp h
      exact kw2 hq
    have tzw : ∀ z ∈ tz, z.length ≤ 5 ∧ ∀ c ∈ cs z, lett c = true := fun z h => by
      obtain ⟨q, hq, _⟩ := (m2 z).mp h
      exact kw1 hq
    refine ⟨_, _, rfl, ?_⟩
    have s57 := s6.trans s7
    refine ⟨_, rfl, _, rfl, k1, k2, ⟨x1, x2, rfl, B1.same s57, B2.same s57, ss⟩, fun ra H8 s8 da => ?_⟩
    have s58 := s57.trans s8
    refine ⟨_, rfl, _, rfl, k2, k1, ⟨x2, x1, rfl, B2.same s58, B1.same s58, ss.symm⟩, fun rb H9 s9 db => ?_⟩
    have s59 := s58.trans s9
    refine ⟨_, rfl, _, rfl, k1, k2, ⟨x1, x2, rfl, B1.same s59, B2.same s59, ss⟩, fun ba H10 s10 ha => ?_⟩
    have s510 := s59.trans s10
    refine ⟨_, rfl, _, rfl, k2, k1, ⟨x2, x1, rfl, B2.same s510, B1.same s510, ss.symm⟩, fun bb H11 s11 hb => ?_⟩
    refine ⟨by show 4 ≤ sizeLine; decide, fun tl htl => ?_⟩
    generalize hG_ : upd H11 tl _ = H12
    have s12 : Same H11 H12 := by rw [← hG_]; exact same_new htl
    have ft := (congrFun hG_ tl).symm.trans upd_same
    clear hG_
    have s512 := s510.trans (s11.trans s12)
    refine ⟨_, rfl, .inl ⟨rfl, _, SqL.of ft⟩, _, rfl, _, rfl, k1, k2, ⟨x1, x2, rfl, B1.same s512, B2.same s512, ss⟩, fun bc H13 s13 hc => ?_⟩
    refine ⟨tl, _, _, rfl, rfl, s13 _ _ ft, by show 4 < sizeLine; decide, ?_⟩
    have s711 := ((s8.trans s9).trans s10).trans s11
    have s713 := same_mut (s711.trans (s12.trans s13)) (s711.free htl) (o := .lst ([ra, rb, V.bl ba, V.bl bb] ++ [V.bl bc]))
    have ft' : (upd H13 tl (.lst ([ra, rb, V.bl ba, V.bl bb] ++ [V.bl bc]))) tl = some (.lst [ra, rb, V.bl ba, V.bl bb, V.bl bc]) := upd_same
    generalize (upd H13 tl (.lst ([ra, rb, V.bl ba, V.bl bb] ++ [V.bl bc]))) = H14 at s713 ft' ⊢
    have era := dear_head da m1 so1.1
    have erb := dear_head db m2 so2.1
    have eba : ba = hz.isEmpty := by rw [Bool.eq_iff_iff, ha, dear_nil m1]
    have ebb : bb = tz.isEmpty := by rw [Bool.eq_iff_iff, hb, dear_nil m2]
    have ebc : bc = (hz.isEmpty && tz.isEmpty) := by rw [Bool.eq_iff_iff, hc, Bool.and_eq_true, dear_nil m1, dear_nil m2]
    subst era erb eba ebb ebc
    clear da db ha hb hc
    have h14 := s713 _ _ (s7 _ _ e6)
    have t14 := s713 _ _ e7
    have lz : ∀ {zs : List Str} {kvs : List (Key × V)}, zs.Nodup → kvs.length ≤ 12 → (∀ z ∈ zs, ∃ q, tfD kvs z = some q) → (kvs.all fun kv => isPiece (kV kv.1) && isPrice kv.2) = true → zs.length ≤ 12 := fun {zs kvs} nd n12 h al => by
      have h1 := nd_sub_len (l2 := keyStrs kvs) nd fun z hz => (tf_key al).mpr (h z hz)
      have h2 := congrArg List.length (keys_of al)
      rw [List.length_map, List.length_map] at h2
      omega
    have lhz : hz.length ≤ 12 := lz so1.2 (ap_parts av2).1.2 (fun z h => by obtain ⟨q, hq, _⟩ := (m1 z).mp h; exact ⟨q, hq⟩) al2
    have ltz : tz.length ≤ 12 := lz so2.2 (ap_parts av1).1.2 (fun z h => by obtain ⟨q, hq, _⟩ := (m2 z).mp h; exact ⟨q, hq⟩) al1
    -- what is due
    refine ⟨_, rfl, by show 1 ≤ sizeLine; decide, fun q1 hq1 => ?_⟩
    generalize hG_ : upd H14 q1 _ = H15
    have s15 : Same H14 H15 := by rw [← hG_]; exact same_new hq1
    have fq1 := (congrFun hG_ q1).symm.trans upd_same
    clear hG_
    refine ⟨hp, q1, _, _, rfl, rfl, s15 _ _ h14, fq1, by rw [List.length_map]; exact Nat.le_of_lt (small1000' (by show _ + 1 ≤ 100000; omega)), fun q2 hq2 => ?_⟩
    generalize hG_ : upd H15 q2 _ = H16
    have s16 : Same H15 H16 := by rw [← hG_]; exact same_new hq2
    have fq2 := (congrFun hG_ q2).symm.trans upd_same
    clear hG_
    refine ⟨q2, _, _, _, rfl, rfl, SqL.of fq2, at_of (j := 0) rfl hd_at, ?_⟩
    have s1416 := s15.trans s16
    refine ⟨_, rfl, by show 1 ≤ sizeLine; decide, fun q3 hq3 => ?_⟩
    generalize hG_ : upd H16 q3 _ = H17
    have s17 : Same H16 H17 := by rw [← hG_]; exact same_new hq3
    have fq3 := (congrFun hG_ q3).symm.trans upd_same
    clear hG_
    refine ⟨tp, q3, _, _, rfl, rfl, (s1416.trans s17) _ _ t14, fq3, by rw [List.length_map]; exact Nat.le_of_lt (small1000' (by show _ + 1 ≤ 100000; omega)), fun q4 hq4 => ?_⟩
    generalize hG_ : upd H17 q4 _ = H18
    have s18 : Same H17 H18 := by rw [← hG_]; exact same_new hq4
    have fq4 := (congrFun hG_ q4).symm.trans upd_same
    clear hG_
    refine ⟨q4, _, _, _, rfl, rfl, SqL.of fq4, at_of (j := 0) rfl hd_at, ?_⟩
    have s1418 := s1416.trans (s17.trans s18)
    refine ⟨_, rfl, by show 0 ≤ sizeLine; decide, fun q5 hq5 => ?_⟩
    have s19 := same_new hq5 (o := .lst [])
    have fq5 : (upd H18 q5 (.lst [] : HO)) q5 = some (.lst [] : HO) := upd_same
    generalize (upd H18 q5 (.lst [] : HO)) = H19 at s19 fq5 ⊢
    refine rEq_nilS (SqL.of ((s1418.trans s19) _ _ h14)) fq5 (fun z h => (hzw z h).2) ?_
    have s1419 := s1418.trans s19
    refine ⟨_, rfl, by show 0 ≤ sizeLine; decide, fun q6 hq6 => ?_⟩
    have s20 := same_new hq6 (o := .lst [])
    have fq6 : (upd H19 q6 (.lst [] : HO)) q6 = some (.lst [] : HO) := upd_same
    generalize (upd H19 q6 (.lst [] : HO)) = H20 at s20 fq6 ⊢
    refine rEq_nilS (SqL.of ((s1419.trans s20) _ _ t14)) fq6 (fun z h => (tzw z h).2) ?_
    have s1420 := s1419.trans s20
    refine ⟨_, rfl, by show 0 ≤ sizeLine; decide, fun q7 hq7 => ?_⟩
    have s21 := same_new hq7 (o := .lst [])
    have fq7 : (upd H20 q7 (.lst [] : HO)) q7 = some (.lst [] : HO) := upd_same
    generalize (upd H20 q7 (.lst [] : HO)) = H21 at s21 fq7 ⊢
    refine rEq_nilS (SqL.of ((s1420.trans s21) _ _ h14)) fq7 (fun z h => (hzw z h).2) ?_
    have s1421 := s1420.trans s21
    exact mergeV (C := fun G v => Same H14 G ∧ v = (hz.isEmpty && tz.isEmpty)) (fun rest => by
      refine ⟨_, rfl, itB (fun e => ?_) (fun e => ?_)⟩
      · obtain ⟨v, hv⟩ : ∃ v, tz.isEmpty = v := ⟨_, rfl⟩
        refine ⟨_, rfl, by show 0 ≤ sizeLine; decide, fun q8 hq8 => ?_⟩
        have s22 := same_new hq8 (o := .lst [])
        have fq8 : (upd H21 q8 (.lst [] : HO)) q8 = some (.lst [] : HO) := upd_same
        generalize (upd H21 q8 (.lst [] : HO)) = H22 at s22 fq8 ⊢
        refine rEq_nilV (SqL.of ((s1421.trans s22) _ _ t14)) fq8 (fun z h => (tzw z h).2) hv (rest H22 v ⟨s1421.trans s22, by rw [e, ← hv]; rfl⟩)
      · exact rest H21 false ⟨s1421, by rw [e]; rfl⟩) (by
      rintro G v ⟨sG, rfl⟩
      refine ⟨by show 5 ≤ sizeLine; decide, fun dl hdl => ?_⟩
      generalize hG_ : upd G dl _ = G1
      have g1 : Same G G1 := by rw [← hG_]; exact same_new hdl
      have fd := (congrFun hG_ dl).symm.trans upd_same
      clear hG_
      refine ⟨_, rfl, ?_⟩
      dsimp only [tNil]
      refine repr_five ((sG.trans g1) _ _ ft') (hd_dp hz) (hd_dp tz) (hd_shw hzw) (hd_shw tzw) ?_
      refine ⟨_, rfl, ?_⟩
      dsimp only [tNil]
      refine repr_five fd (hd_dp hz) (hd_dp tz) (hd_shw hzw) (hd_shw tzw) ?_
      refine ⟨rfl, false, ne_self, ?_⟩
      have sH : Same H7 G1 := s713.trans (sG.trans g1)
      have sA : Same H3 G1 := s37.trans sH
      have B1 := B1.same (s57.trans sH)
      have B2 := B2.same (s57.trans sH)
      clear s713 ft' h14 t14 s711 fd s1421 s1420 s1419 s1418 s1416
      -- the needless ones
      refine ⟨_, rfl, d1, k1, rfl, sA _ _ f1, av1, ndk1, fun gp gz G2 hgp eg mg1 sog g2 => ?_⟩
      have s32 := sA.trans g2
      have gw : ∀ {zs : List Str} {kvs : List (Key × V)}, (∀ {z p}, tfD kvs z = some p → z.length ≤ 5 ∧ ∀ c ∈ cs z, lett c = true) → (∀ z, z ∈ zs ↔ Needless (tfD kvs) z) → ∀ z ∈ zs, z.length ≤ 5 ∧ ∀ c ∈ cs z, lett c = true := fun kw m z h => by
        obtain ⟨p, hp, _⟩ := (m z).mp h
        exact kw hp
      have gl : ∀ {zs : List Str} {kvs : List (Key × V)}, (∀ z, z ∈ zs ↔ Needless (tfD kvs) z) → zs.Nodup → kvs.length ≤ 12 → (kvs.all fun kv => isPiece (kV kv.1) && isPrice kv.2) = true → zs.length ≤ 12 := fun m nd n12 al => lz nd n12 (fun z h => by obtain ⟨p, hp, _⟩ := (m z).mp h; exact ⟨p, hp⟩) al
      have w1 := gw (fun h => kw1 h) mg1
      have l1 := gl mg1 sog.2 (ap_parts av1).1.2 al1
      refine ⟨_, rfl, x1, k1, rfl, B1.same g2, fun np nz G3 hnp en mn son g3 => ?_⟩
      have enz : nz = gz := same_words (fun z => (mn z).trans (mg1 z).symm) son.1 son.2 sog.1 sog.2
      subst enz
      dsimp only [tNil]
      refine repr_strsT en l1 w1 ?_
      refine ⟨_, rfl, gp, _, rfl, .inl ⟨SqL.of (g3 _ _ eg), fun q8 hq8 => ?_⟩⟩
      generalize hG_ : upd G3 q8 _ = G4
      have g4 : Same G3 G4 := by rw [← hG_]; exact same_new hq8
      have fq8 := (congrFun hG_ q8).symm.trans upd_same
      clear hG_
      dsimp only [tNil]
      refine repr_strsT fq8 l1 w1 ?_
      refine ⟨rfl, false, ne_self, ?_⟩
      refine itF rfl ?_
      have g24 := g2.trans (g3.trans g4)
      have s34 := sA.trans g24
      refine ⟨_, rfl, x2, k2, rfl, B2.same g24, fun np2 nz2 G5 hnp2 en2 mn2 son2 g5 => ?_⟩
      have w2 := gw (fun h => kw2 h) mn2
      have l2 := gl mn2 son2.2 (ap_parts av2).1.2 al2
      dsimp only [tNil]
      refine repr_strsT en2 l2 w2 ?_
      have s35' := s34.trans g5
      refine ⟨_, rfl, d2, k2, rfl, s35' _ _ f2, av2, ndk2, fun gp2 gz2 G6 hgp2 eg2 mg2 sog2 g6 => ?_⟩
      have enz2 : gz2 = nz2 := same_words (fun z => (mg2 z).trans (mn2 z).symm) sog2.1 sog2.2 son2.1 son2.2
      subst enz2
      refine ⟨gp2, _, rfl, .inl ⟨SqL.of eg2, fun q9 hq9 => ?_⟩⟩
      generalize hG_ : upd G6 q9 _ = G7
      have g7 : Same G6 G7 := by rw [← hG_]; exact same_new hq9
      have fq9 := (congrFun hG_ q9).symm.trans upd_same
      clear hG_
      dsimp only [tNil]
      refine repr_strsT fq9 l2 w2 ?_
      refine ⟨rfl, false, ne_self, ?_⟩
      have g27 := g24.trans (g5.trans (g6.trans g7))
      have s37' := sA.trans g27
      refine itF rfl ?_
      clear fq8 fq9 en2 eg2 en
      -- the rest
      have lk1 : (keyStrs k1).length ≤ 12 := by
        have h := congrArg List.length (keys_of al1)
        rw [List.length_map, List.length_map] at h
        have := (ap_parts av1).1.2
        omega
      refine ⟨_, rfl, d1, k1, keyStrs k1, rfl, .inl (s37' _ _ f1), keys_of al1, by omega, fun ys qs pm sr hqs => ?_⟩
      generalize hG_ : upd G7 qs _ = G8
      have g8 : Same G7 G8 := by rw [← hG_]; exact same_new hqs
      have fqs := (congrFun hG_ qs).symm.trans upd_same
      clear hG_
      have ly12 : ys.length ≤ 12 := by
        rw [pm.length_eq]
        exact lk1
      have s38 := s37'.trans g8
      have eg8 := ((g3.trans g4).trans (g5.trans (g6.trans g7))).trans g8 _ _ eg
      refine ⟨qs, rfl, ⟨_, SqL.of fqs⟩, fun D0 hD0 => ?_⟩
      refine lc_it (walk_listF (K := K) V.str ys) (fun t H' => ∃ prs : List (Addr × (Str × Int)), H' D0 = some (.lst (prs.map fun p => V.ref p.1)) ∧ (∀ p ∈ prs, H' p.1 = some (.tup [.str p.2.1, .int p.2.2]) ∧ p.1 ≠ D0) ∧ prs.map (·.2) = psOf k1 ((ys.take t).filter fun y => !decide (y ∈ nz)) ∧ prs.length ≤ t ∧ Same G8 H')
        ⟨[], upd_same, fun _ h => (List.not_mem_nil h).elim, rfl, Nat.le_refl _, same_new hD0⟩ (fun t H' _ q => by obtain ⟨_, _, _, _, _, q⟩ := q; exact SqL.of (q _ _ fqs)) ?_ ?_
      · rintro t x E1 E2 ht ⟨prs, e1, p1, m1, lp', se⟩ ⟨rfl, w, hw, rfl⟩
        have tl := (List.getElem?_eq_some_iff.mp hw).1
        have hk := pm.mem_iff.mp (List.mem_of_getElem? hw)
        refine ⟨wipe_set, _, rfl, _, rfl, gp, _, rfl, .inl (SqL.of (se _ _ eg8)), rfl, flat_strs _, ?_⟩
        rw [if_pos rfl, inV_str]
        have tk : (ys.take (t + 1)).filter (fun y => !decide (y ∈ nz)) = (ys.take t).filter (fun y => !decide (y ∈ nz)) ++ (if (!decide (w ∈ nz)) = true then [w] else []) := by
          rw [List.take_add_one, hw, List.filter_append]
          refine congrArg _ ?_
          show [w].filter (fun y => !decide (y ∈ nz)) = _
          cases e : decide (w ∈ nz) <;> simp [e]
        refine ⟨!decide (w ∈ nz), rfl, itB (fun e => ?_) (fun e => ?_)⟩
        · rw [if_pos e] at tk
          refine ⟨_, rfl, _, rfl, _, rfl, d1, .int (priceIn k1 w), rfl, .inl ⟨k1, Sum.inr w, .inl ((s38.trans se) _ _ f1), rfl, (price_of_key al1 hk).1.symm⟩, by show 2 ≤ sizeLine; decide, fun tq htq => ?_⟩
          have ntD : tq ≠ D0 := (ne_of_none e1 htq).symm
          refine ⟨_, same_new htq _ _ e1, by rw [List.length_map]; exact small1000' (by omega), prs ++ [(tq, (w, priceIn k1 w))], by rw [upd_same, List.map_append]; rfl, fun p hp => ?_, ?_, by rw [List.length_append]; show _ + 1 ≤ _; omega, ?_⟩
          · rcases List.mem_append.mp hp with h | h
            · obtain ⟨a1, a2⟩ := p1 p h
              exact ⟨by rw [upd_ne a2]; exact same_new htq _ _ a1, a2⟩
            · rw [List.mem_singleton.mp h]
              exact ⟨by rw [upd_ne ntD]; exact upd_same, ntD⟩
          · rw [List.map_append, m1, tk]
            unfold psOf
            rw [List.map_append]
            rfl
          · exact same_mut (se.trans (same_new htq)) hD0
        · rw [if_neg (by rw [e]; exact Bool.false_ne_true), List.append_nil] at tk
          exact ⟨prs, e1, p1, by rw [tk]; exact m1, by omega, se⟩
      rintro E1 ⟨prs, e1, p1, m1, lp', se⟩
      rw [List.take_length] at m1
      have gE := g27.trans (g8.trans se)
      have sE := sA.trans gE
      have B1E := B1.same gE
      refine ⟨_, rfl, x1, k1, rfl, B1E, fun lb lk G9 Bl tlk g9 => ?_⟩
      obtain ⟨_, _, _, dxl, _, _, _, _, _, _, Al⟩ := id Bl.ex
      refine ⟨lb, dxl, _, rfl, Al.ob, lb, lk, rfl, Bl, fun bp bys G10 hbp bpm bso be g10 => ?_⟩
      refine ⟨bp, _, rfl, be, fun G11 lq ts g11' hlq hts nts e11 prd => ?_⟩
      have g11 : Same G10 G11 := g11'
      have gL := g9.trans (g10.trans g11)
      obtain ⟨_, all, _, _⟩ := ap_parts Bl.av
      have ebys : bys = ys.filter (fun y => !decide (y ∈ nz)) := same_words (fun z => by
          rw [bpm.mem_iff, tf_key all, List.mem_filter, pm.mem_iff, tf_key al1]
          constructor
          · rintro ⟨q, hq⟩
            obtain ⟨a, b⟩ := (tlk z q).mp hq
            exact ⟨⟨q, a⟩, by rw [decide_eq_false (fun h => b ((mg1 z).mp h))]; rfl⟩
          · rintro ⟨⟨q, hq⟩, h⟩
            exact ⟨q, (tlk z q).mpr ⟨hq, fun nd => by rw [decide_eq_true ((mg1 z).mpr nd)] at h; cases h⟩⟩) (so_pw bso) (bpm.nodup_iff.mpr (keys_nd all Bl.nd)) ((so_pw sr).filter _) ((pm.nodup_iff.mpr (keys_nd al1 ndk1)).filter _)
      have eps : psOf lk bys = psOf k1 (ys.filter fun y => !decide (y ∈ nz)) := by
        rw [← ebys]
        unfold psOf
        refine List.map_congr_left fun z hz => ?_
        have h1 := (price_of_key all (bpm.mem_iff.mp hz)).1
        have h2 := ((tlk z _).mp (tf_some.mpr h1)).1
        have h4 := (price_of_key al1 ((tf_key al1).mpr ⟨_, h2⟩)).1
        rw [tf_some.mp h2] at h4
        rw [V.int.inj (Option.some.inj h4)]
      have em : prs.map (·.2) = psOf lk bys := m1.trans eps.symm
      have bl12 : (psOf lk bys).length ≤ 12 := by
        rw [← em, List.length_map]
        omega
      have bnd : ∀ e ∈ psOf lk bys, e.1.length ≤ 5 ∧ (∀ c ∈ cs e.1, lett c = true) ∧ 0 ≤ e.2 ∧ e.2 ≤ 99 := fun e he => by
        obtain ⟨y, hy, rfl⟩ := List.mem_map.mp he
        have hk := bpm.mem_iff.mp hy
        obtain ⟨_, h5, h6⟩ := keyStrs_piece all y hk
        obtain ⟨_, h7, h8⟩ := price_of_key all hk
        exact ⟨by rw [← cs_len]; exact h5, h6, by show 0 ≤ priceIn lk y; omega, h8⟩
      dsimp only [tNil]
      refine repr_pairsL e11 (dp_pairedS (ks := psOf lk bys) (Same.refl _) prd) bl12 bnd ?_
      refine ⟨_, rfl, ?_⟩
      dsimp only [tNil]
      refine repr_pairsL (gL _ _ e1) (by rw [← em]; exact dp_pairs fun z hz => gL _ _ (p1 z hz).1) bl12 bnd ?_
      refine ⟨rfl, false, ne_self, ?_⟩
      refine itF rfl ?_
      -- what is refused
      have sL := sE.trans gL
      have DL : Dice G11 l (n + 400) := D3.same sL
      have kL : Kp l H G11 := (kp02.trans kp3).trans (.of sL)
      refine ⟨_, rfl, _, rfl, _, rfl, l, sa, x1, sg, k1, n, rfl, Tabs.kp tabs D kL, nsa, sL _ _ (kp3 _ _ e2 nsa), n1, n4, sgl, B1E.same gL, sg1, DL.le (by omega), fun G' kn t' D' => ⟨true, rfl, ?_⟩⟩
      have f1' := kn _ _ (sL _ _ f1) (fun _ e => nomatch e) nd1
      have B1' := Book1.kpn (B1E.same gL) DL kn
      dsimp only
      refine itF rfl ?_
      obtain ⟨_, _, _, dx5, _, _, _, _, _, _, A5⟩ := id B1'.ex
      refine ⟨_, rfl, x1, dx5, _, rfl, A5.ob, x1, k1, rfl, B1', fun cp cys H32 hcp cpm cso ce s32 => ?_⟩
      refine ⟨cp, _, rfl, ce, fun H33 lq3 ts3 s33' hlq3 hts3 nts3 e33 prd3 => ?_⟩
      have s33 : Same H32 H33 := s33'
      have p33 := s33 _ _ (s32 _ _ f1')
      refine ⟨_, rfl, .inr (.inr (.inl ⟨rfl, .inl ⟨_, p33⟩⟩)), d1, _, rfl, rfl, .inl p33, fun vw hvw => ?_⟩
      obtain ⟨ks, ek⟩ := lift_ent (kvs := k1) fun kv hkv => by
        obtain ⟨z, p, rfl, _⟩ := tar1.mem kv hkv
        exact ⟨z, p, rfl⟩
      have p34 := same_new hvw (o := DX.itemsO vw d1) _ _ p33
      have nk : (ks.map (·.1)).Nodup := nd_ent (by rw [← ek]; exact ndk1)
      have kn64 : ks.length < 64 := by
        have h := congrArg List.length ek
        rw [List.length_map] at h
        have := (ap_parts av1).1.2
        omega
      rw [ek] at p34
      refine ⟨vw, d1, ks, rfl, upd_same, .inl p34, nk, kn64, fun H35 q2 ps2 s35 pp sp q35 at35 => ?_⟩
      have s36 := (same_new hvw (o := DX.itemsO vw d1)).trans s35
      have pk := ps_perm (ks := ks) (ys := cys) (by rw [← ek]; exact al1) (by rw [← ek]; exact ndk1) (by rw [← ek]; exact cpm)
      rw [← ek] at pk
      have eps2 : psOf k1 cys = ps2.map (·.2) := pairs_eq (by rw [(pk.map (·.1)).nodup_iff]; exact nk) (so_ps cso) sp (pk.trans pp.symm)
      have dl2 : DpAll K H35 (ts3.map V.ref) ((ps2.map (·.2)).map fun e => PyData.tuple [.str e.1, .int e.2]) := by
        rw [← eps2]
        exact dp_pairedS s36 prd3
      dsimp only
      refine eqD_same (d := dPairs (ps2.map (·.2))) (.lst (SqL.of (s36 _ _ e33)) dl2) (.lst (SqL.of q35) (dp_pairs at35)) (shaped_pairs fun e he c hc => ?_) ?_
      · rw [← eps2] at he
        obtain ⟨y, hy, rfl⟩ := List.mem_map.mp he
        exact (keyStrs_piece al1 y (cpm.mem_iff.mp hy)).2.2 c hc
      have SE : Same G' H35 := (s32.trans s33).trans s36
      refine ⟨true, rfl, itT rfl ?_⟩
      refine ⟨_, rfl, _, rfl, k1, k1, ⟨x1, x1, rfl, B1'.same SE, B1'.same SE, fun c => Iff.rfl⟩, fun rr H36 s36' dr => ⟨rfl, ?_⟩⟩
      have er : rr = .non := by
        rcases dr with ⟨h, _⟩ | ⟨z, p, _, hp, lt, _⟩
        · exact h
        · have := lp_piece good1 hp
          omega
      rw [er, decide_eq_true rfl]
      have SF := SE.trans s36'
      exact k _ (((Kp.n kL).trans kn).trans (Kp.n (.of SF))) (Tabs.same t' SF) (D'.same SF))
theorem sc_law : FnScope ["script", "spot", "dice", "turn", "book", "dear", "told"] ["script"] (defScope s_law) := ⟨rfl, rfl, rfl, by decide +kernel, rfl, by decide +kernel, by decide +kernel⟩
theorem ok_law {f : Addr} {fd : FuncData} (F : Fun K "law" "law" s_law f fd) (T : Txt K mg C CE CB CT CO) (c_Book : C8.Mak P w K mg base 5 "Book" C (spBook C K) []) (c_Book_pieces : HasP P w K mg base 1 C "pieces" (spPieces C)) (c__law_dice : HasO P w K mg base CX0 1 "_law_dice" ["script", "spot"] (spDice K)) (c__law_right : Has P w K mg base CX0 10 "_law_right" ["dice"] (spRightT [(PT, (("_law_errors_right.<locals>.<lambda>" : String) : Str))] 600)) (c_least_book : HasO P w K mg base CX0 7 "least_book" ["book"] (spLeast C)) (c_dearer_piece : HasO P w K mg base CX0 6 "dearer_piece" ["book", "other"] (spDearer C)) (c_needless : HasO P w K mg base CX0 6 "needless" ["book"] (spNeed C)) : FnG P w K mg base CX0 12 f fd ["script"] (spLawT [(PT, (("_law_errors_right.<locals>.<lambda>" : String) : Str))] K) := by
  refine fn_g0 F sc_law (fun vs H Q E h => ?_) (fun cdv A outer s H vs Q E hg hr h => ?_)
  · obtain ⟨a, ns, rfl, _⟩ := h
    rfl
  · have hu := hu_of hr
    obtain ⟨a, ns, rfl, tabs, hS, hn, k⟩ := h
    refine ⟨_, (pss_cons (ps_for PassesOwn.never rfl (pi_range1 (by rfl) T.b_range (pa_cons (pe_callB (call_max2 rfl) (by rfl) T.b_max (by decide +kernel) (pa_cons pe_int (pa_cons (pe_callB (call_min2 rfl) (by rfl) T.b_min (by decide +kernel) (pa_cons pe_int (pa_cons (pe_callB (g_len_seq K) (by rfl) T.b_len (by decide +kernel) (pa_cons (pv 0) pa_nil)) pa_nil))) pa_nil))) pa_nil)) (pg_name (i := 1) sc_law.nd rfl (Or.inl rfl)) (pss_cons (ps_set (i := 2) sc_law.nd rfl (Or.inl rfl) (pe_hasO c__law_dice (hr.mono (by decide)) pass0 (pa_cons (pv 0) (pa_cons (pv 1) pa_nil))))
      (pss_one (ps_for PassesOwn.never rfl (pi_range1 (by rfl) T.b_range (pa_cons pe_int pa_nil)) (pg_name (i := 3) sc_law.nd rfl (Or.inl rfl)) (pss_one (ps_if (pt_not (pt_val (pe_has c__law_right hg (hr.mono (by decide)) pass0 (pa_cons (pv 2) pa_nil)))) (pss_one (ps_ret pe_bl)) pss_nil))))))
      (pss_cons (ps_set (i := 4) sc_law.nd rfl (Or.inl rfl) (C8.pe_mk c_Book hr (by decide) (by rfl) (pa_cons (pe_disp (pps_cons pe_str pe_int (pps_cons pe_str pe_int (pps_cons pe_str pe_int (pps_cons pe_str pe_int (pps_cons pe_str pe_int pps_nil))))) (by rfl) (by rfl) (fun z => by cases z) (by decide)) pa_nil)))
      (pss_cons (ps_set (i := 5) sc_law.nd rfl (Or.inl rfl) (C8.pe_mk c_Book hr (by decide) (by rfl) (pa_cons (pe_disp (pps_cons pe_str pe_int (pps_cons pe_str pe_int (pps_cons pe_str pe_int (pps_cons pe_str pe_int (pps_cons pe_str pe_int pps_nil))))) (by rfl) (by rfl) (fun z => by cases z) (by decide)) pa_nil)))
      (pss_cons (ps_set (i := 6) sc_law.nd rfl (Or.inl rfl) (pe_lst (pa_cons (pe_hasO c_needless (hr.mono (by decide)) pass0 (pa_cons (pv 4) pa_nil)) (pa_cons (pe_hasO c_dearer_piece (hr.mono (by decide)) pass0 (pa_cons (pv 4) (pa_cons (pv 5) pa_nil))) (pa_cons (pe_hasO c_dearer_piece (hr.mono (by decide)) pass0 (pa_cons (pv 5) (pa_cons (pv 4) pa_nil))) (pa_cons (pe_prp c_Book_pieces hr (by decide) (pe_hasO c_least_book (hr.mono (by decide)) pass0 (pa_cons (pv 5) pa_nil))) pa_nil))))))
      (pss_one (ps_ret (pe_cmpR (g_eqD K hr.units) (pv 6) (pe_lst (pa_cons (pe_tup (pa_cons pe_str (pa_cons pe_str pa_nil))) (pa_cons pe_str (pa_cons pe_str (pa_cons (pe_tup (pa_cons pe_str (pa_cons pe_str (pa_cons pe_str pa_nil)))) pa_nil))))) (nomark _)))))))), ?_⟩
    obtain ⟨J, hJ, j1, j8⟩ : ∃ J : Int, (if (if ((ns.map V.int).length : Int) < 8 then ((ns.map V.int).length : Int) else 8) > 1 then (if ((ns.map V.int).length : Int) < 8 then ((ns.map V.int).length : Int) else 8) else 1) = J ∧ 1 ≤ J ∧ J ≤ 8 := ⟨_, rfl, cells_bound (n := (ns.map V.int).length) (m := 8) (by decide)⟩
    refine ⟨_, rfl, _, _, rfl, .inl hS, _, _, rfl, _, _, rfl, J, congrArg (fun i => [V.int i]) hJ, by omega, by omega, for_range (lo := 0) (n := J.toNat) (fun i σ H' => ∃ x1 x2 x3, σ = [some (.ref a), x1, x2, x3, none, none, none] ∧ ExtN H H' ∧ Tabs [(PT, (("_law_errors_right.<locals>.<lambda>" : String) : Str))] H') ⟨_, _, _, rfl, ExtN.refl H, tabs⟩ ?_ ?_⟩
    · rintro i σ H1 hi ⟨x1, x2, x3, rfl, s1, t1⟩
      refine ⟨_, rfl, _, rfl, a, ns, _, rfl, ExtN.seq s1 hS, hn, by omega, by omega, fun l H2 hl s2 D2 => ?_⟩
      refine ⟨2, rfl, by decide, by decide, for_range (lo := 0) (n := 2) (fun j σ H' => ∃ y1 y3, σ = [some (.ref a), y1, some (.ref l), y3, none, none, none] ∧ KpN l H1 H' ∧ Tabs [(PT, (("_law_errors_right.<locals>.<lambda>" : String) : Str))] H' ∧ Dice H' l (2 ^ 60 - 600 * j)) ⟨_, _, rfl, Kp.n (.of s2), Tabs.same t1 s2, D2.le (by omega)⟩ ?_ ?_⟩
      · rintro j σ H3 hj ⟨y1, y3, rfl, k3, t3, D3⟩
        refine ⟨_, rfl, l, 2 ^ 60 - 600 * (j + 1), rfl, t3, D3.le (by omega), fun H4 k4 t4 D4 => ⟨true, rfl, ?_⟩⟩
        exact ⟨_, _, rfl, k3.trans k4, t4, D4⟩
      rintro σ H3 ⟨y1, y3, rfl, k3, t3, D3⟩
      exact ⟨_, _, _, rfl, ExtN.trans s1 (KpN.ext k3 hl), t3⟩
    rintro σ H1 ⟨x1, x2, x3, rfl, s1, t1⟩
    refine fun pd hpd => ⟨upd_same, bkK, rfl, by decide, ?_⟩
    have e2 : (upd (upd H1 pd (.dK [])) pd (.dK (mergeK [] bkK))) pd = some (.dK bkK) := upd_same
    generalize (upd (upd H1 pd (.dK [])) pd (.dK (mergeK [] bkK))) = H2 at e2 ⊢
    intro b dx hb hdx hne
    refine made_book hb hdx e2 bk_av bk_nd fun H3 s3 B3 => ⟨rfl, ?_⟩
    refine fun pe hpe => ⟨upd_same, drK, rfl, by decide, ?_⟩
    have e4 : (upd (upd H3 pe (.dK [])) pe (.dK (mergeK [] drK))) pe = some (.dK drK) := upd_same
    have s4 : Same H3 (upd (upd H3 pe (.dK [])) pe (.dK (mergeK [] drK))) := same_mut (same_new hpe) hpe
    generalize (upd (upd H3 pe (.dK [])) pe (.dK (mergeK [] drK))) = H4 at e4 s4 ⊢
    intro b2 dx2 hb2 hdx2 hne2
    refine made_book hb2 hdx2 e4 dr_av dr_nd fun H5 s5 B5 => ⟨rfl, ?_⟩
    have B3 := B3.same (s4.trans s5)
    refine ⟨_, rfl, b, bkK, rfl, B3, fun np nz G1 hnp en mn sn g1 => ?_⟩
    have enz : nz = [sAB, sABAB] := same_words (fun z => (mn z).trans (bk_need z).symm) sn.1 sn.2 (by decide +kernel) (by decide +kernel)
    subst enz
    refine ⟨_, rfl, _, rfl, bkK, drK, ⟨b, b2, rfl, B3.same g1, B5.same g1, co_same⟩, fun r1 G2 g2 da => ?_⟩
    have era := bk_dear da
    subst era
    have g12 := g1.trans g2
    refine ⟨_, rfl, _, rfl, drK, bkK, ⟨b2, b, rfl, B5.same g12, B3.same g12, co_same.symm⟩, fun r2 G3 g3 db => ?_⟩
    have erb := dr_dear db
    subst erb
    have g13 := g12.trans g3
    refine ⟨_, rfl, b2, drK, rfl, B5.same g13, fun lb lk G4 Bl tlk g4 => ?_⟩
    obtain ⟨_, _, _, dxl, _, _, _, _, _, _, Al⟩ := id Bl.ex
    refine ⟨lb, dxl, _, rfl, Al.ob, lb, lk, rfl, Bl, fun tp ys pm so ftp => ?_⟩
    obtain ⟨_, all, _, _⟩ := ap_parts Bl.av
    have eys : ys = [sA, sAB, sB] := same_words (fun z => by rw [pm.mem_iff, tf_key all, dr_least tlk]) (so_pw so) (pm.nodup_iff.mpr (keys_nd all Bl.nd)) (by decide +kernel) (by decide +kernel)
    subst eys
    refine ⟨by show 4 ≤ sizeLine; decide, fun tl htl => ?_⟩
    generalize hG_ : upd G4 tl _ = G5
    have g5 : Same G4 G5 := by rw [← hG_]; exact same_new htl
    have ftl := (congrFun hG_ tl).symm.trans upd_same
    clear hG_
    refine ⟨_, rfl, by show 2 ≤ sizeLine; decide, fun q1 hq1 => ?_⟩
    generalize hG_ : upd G5 q1 _ = G6
    have g6 : Same G5 G6 := by rw [← hG_]; exact same_new hq1
    have fq1 := (congrFun hG_ q1).symm.trans upd_same
    clear hG_
    refine ⟨by show 3 ≤ sizeLine; decide, fun q2 hq2 => ?_⟩
    generalize hG_ : upd G6 q2 _ = G7
    have g7 : Same G6 G7 := by rw [← hG_]; exact same_new hq2
    have fq2 := (congrFun hG_ q2).symm.trans upd_same
    clear hG_
    refine ⟨by show 4 ≤ sizeLine; decide, fun q3 hq3 => ?_⟩
    generalize hG_ : upd G7 q3 _ = G8
    have g8 : Same G7 G8 := by rw [← hG_]; exact same_new hq3
    have fq3 := (congrFun hG_ q3).symm.trans upd_same
    clear hG_
    have en8 := ((g2.trans (g3.trans g4)).trans (g5.trans (g6.trans (g7.trans g8)))) _ _ en
    have ftp8 := (g5.trans (g6.trans (g7.trans g8))) _ _ ftp
    refine eqD_same (d := .list [.tuple ([sAB, sABAB].map PyData.str), .str sAB, .str sBA, .tuple ([sA, sAB, sB].map PyData.str)]) (.lst (SqL.of ((g6.trans (g7.trans g8)) _ _ ftl)) (.cons (.tup (SqT.of en8) (dpAll_strs _)) (.cons (.str _) (.cons (.str _) (.cons (.tup (SqT.of ftp8) (dpAll_strs _)) .nil))))) (.lst (SqL.of fq3) (.cons (.tup (SqT.of ((g7.trans g8) _ _ fq1)) (dpAll_strs [sAB, sABAB])) (.cons (.str _) (.cons (.str _) (.cons (.tup (SqT.of (g8 _ _ fq2)) (dpAll_strs [sA, sAB, sB])) .nil))))) (by decide +kernel) (k _)
end
theorem all_mk {l : PySem.W.OpenLaw} {w : World} {K : PySem.W.Frag} {h : Heap} {mg : Str → Option Value} {fa : Addr} {C CE CB CT CO : Addr} (X : K.In h) (G0 : h.Ns mainGlobals mg) (hfa : mg "law" = some (.ref fa))
    {f0 f1 f2 f3 f4 f5 f6 f7 f8 f9 f10 f11 f12 f13 f14 f15 f16 f17 f18 f19 f20 f21 f22 f23 f24 f25 f26 f27 f28 f29 f30 f31 f32 : Addr}
    {od0 an0 : Option Addr} {sl0 : Array (Option Value)} {oc0 kV0 dc0 pm0 cd0 ct0 : Value}
    {od1 an1 : Option Addr} {sl1 : Array (Option Value)} {oc1 kV1 dc1 pm1 cd1 ct1 : Value}
    {od2 an2 : Option Addr} {sl2 : Array (Option Value)} {oc2 kV2 dc2 pm2 cd2 ct2 : Value}
    {od3 an3 : Option Addr} {sl3 : Array (Option Value)} {oc3 kV3 dc3 pm3 cd3 ct3 : Value}
    {od4 an4 : Option Addr} {sl4 : Array (Option Value)} {oc4 kV4 dc4 pm4 cd4 ct4 : Value}
    {od5 an5 : Option Addr} {sl5 : Array (Option Value)} {oc5 kV5 dc5 pm5 cd5 ct5 : Value}
    {od6 an6 : Option Addr} {sl6 : Array (Option Value)} {oc6 kV6 dc6 pm6 cd6 ct6 : Value}
    {od7 an7 : Option Addr} {sl7 : Array (Option Value)} {oc7 kV7 dc7 pm7 cd7 ct7 : Value}
    {od8 an8 : Option Addr} {sl8 : Array (Option Value)} {oc8 kV8 dc8 pm8 cd8 ct8 : Value}
    {od9 an9 : Option Addr} {sl9 : Array (Option Value)} {oc9 kV9 dc9 pm9 cd9 ct9 : Value}
    {od10 an10 : Option Addr} {sl10 : Array (Option Value)} {oc10 kV10 dc10 pm10 cd10 ct10 : Value}
    {od11 an11 : Option Addr} {sl11 : Array (Option Value)} {oc11 kV11 dc11 pm11 cd11 ct11 : Value}
    {od12 an12 : Option Addr} {sl12 : Array (Option Value)} {oc12 kV12 dc12 pm12 cd12 ct12 : Value}
    {od13 an13 : Option Addr} {sl13 : Array (Option Value)} {oc13 kV13 dc13 pm13 cd13 ct13 : Value}
    {od14 an14 : Option Addr} {sl14 : Array (Option Value)} {oc14 kV14 dc14 pm14 cd14 ct14 : Value}
    {od15 an15 : Option Addr} {sl15 : Array (Option Value)} {oc15 kV15 dc15 pm15 cd15 ct15 : Value}
    {od16 an16 : Option Addr} {sl16 : Array (Option Value)} {oc16 kV16 dc16 pm16 cd16 ct16 : Value}
    {od17 an17 : Option Addr} {sl17 : Array (Option Value)} {oc17 kV17 dc17 pm17 cd17 ct17 : Value}
    {od18 an18 : Option Addr} {sl18 : Array (Option Value)} {oc18 kV18 dc18 pm18 cd18 ct18 : Value}
    {od19 an19 : Option Addr} {sl19 : Array (Option Value)} {oc19 kV19 dc19 pm19 cd19 ct19 : Value}
    {od20 an20 : Option Addr} {sl20 : Array (Option Value)} {oc20 kV20 dc20 pm20 cd20 ct20 : Value}
    {od21 an21 : Option Addr} {sl21 : Array (Option Value)} {oc21 kV21 dc21 pm21 cd21 ct21 : Value}
    {od22 an22 : Option Addr} {sl22 : Array (Option Value)} {oc22 kV22 dc22 pm22 cd22 ct22 : Value}
    {od23 an23 : Option Addr} {sl23 : Array (Option Value)} {oc23 kV23 dc23 pm23 cd23 ct23 : Value}
    {od24 an24 : Option Addr} {sl24 : Array (Option Value)} {oc24 kV24 dc24 pm24 cd24 ct24 : Value}
    {od25 an25 : Option Addr} {sl25 : Array (Option Value)} {oc25 kV25 dc25 pm25 cd25 ct25 : Value}
    {od26 an26 : Option Addr} {sl26 : Array (Option Value)} {oc26 kV26 dc26 pm26 cd26 ct26 : Value}
    {od27 an27 : Option Addr} {sl27 : Array (Option Value)} {oc27 kV27 dc27 pm27 cd27 ct27 : Value}
    {od28 an28 : Option Addr} {sl28 : Array (Option Value)} {oc28 kV28 dc28 pm28 cd28 ct28 : Value}
    {od29 an29 : Option Addr} {sl29 : Array (Option Value)} {oc29 kV29 dc29 pm29 cd29 ct29 : Value}
    {od30 an30 : Option Addr} {sl30 : Array (Option Value)} {oc30 kV30 dc30 pm30 cd30 ct30 : Value}
    {od31 an31 : Option Addr} {sl31 : Array (Option Value)} {oc31 kV31 dc31 pm31 cd31 ct31 : Value}
    {od32 an32 : Option Addr} {sl32 : Array (Option Value)} {oc32 kV32 dc32 pm32 cd32 ct32 : Value}
    (aC : PySem.W.nsIn K mainGlobals "Book" = some (some (.ref C))) (pg : PySem.W.plainGet K C Str.empty = true) (hd : PySem.W.hasDictIn K C = true) (po : PySem.W.plainOver K C = true) (sa : PySem.W.findIn K (.ref C) "__setattr__" = some (some (.builtin "object.__setattr__"))) (mk : PySem.W.makesIn K C = true) (kc : PySem.W.keepIn K (.ref C) = true)
    (iha : PySem.W.findIn K (.ref C) "__class__" = some (some (.builtin "object.__class__"))) (ihn : PySem.W.specialIn K (.builtin "object.__class__") "__get__" = some (some (.builtin "getset_descriptor.__get__"))) (iht : PySem.W.takesIn K (.builtin "object.__class__") = some true) (ihm : PySem.W.mroIn K C (.type "object") = some true)
    (n_own_prices : PySem.W.findIn K (.ref C) "own_prices" = some none)
    (n_own_pieces : PySem.W.findIn K (.ref C) "own_pieces" = some none)
    (n_own_alphabet : PySem.W.findIn K (.ref C) "own_alphabet" = some none)
    (n_own_longest : PySem.W.findIn K (.ref C) "own_longest" = some none)
    (n_own_dearest : PySem.W.findIn K (.ref C) "own_dearest" = some none)
    {zC : ClassData} (kcl : PySem.W.clsIn K C = some zC) (kty : PySem.W.typeIn K (.ref C) = some (.type "type"))
    (eg_CutError : PySem.W.nsIn K mainGlobals "CutError" = some (some (.ref CE))) (ex_CutError : PySem.W.excIn K CE [.type "ValueError", .type "Exception", .type "BaseException", .type "object"] "ValueError.__new__" = true) (ek_CutError : PySem.W.keepIn K (.ref CE) = true) (eb_CutError : PySem.W.subIn K (.ref CE) (.type "BaseException") = some true) (et_CutError : PySem.W.typeIn K (.ref CE) = some (.type "type")) (eh_CutError : PySem.W.hasDictIn K CE = true)
    (eg_InvalidBook : PySem.W.nsIn K mainGlobals "InvalidBook" = some (some (.ref CB))) (ex_InvalidBook : PySem.W.excIn K CB [.type "ValueError", .type "Exception", .type "BaseException", .type "object"] "ValueError.__new__" = true) (ek_InvalidBook : PySem.W.keepIn K (.ref CB) = true) (eb_InvalidBook : PySem.W.subIn K (.ref CB) (.type "BaseException") = some true) (et_InvalidBook : PySem.W.typeIn K (.ref CB) = some (.type "type")) (eh_InvalidBook : PySem.W.hasDictIn K CB = true)
    (eg_InvalidText : PySem.W.nsIn K mainGlobals "InvalidText" = some (some (.ref CT))) (ex_InvalidText : PySem.W.excIn K CT [.type "ValueError", .type "Exception", .type "BaseException", .type "object"] "ValueError.__new__" = true) (ek_InvalidText : PySem.W.keepIn K (.ref CT) = true) (eb_InvalidText : PySem.W.subIn K (.ref CT) (.type "BaseException") = some true) (et_InvalidText : PySem.W.typeIn K (.ref CT) = some (.type "type")) (eh_InvalidText : PySem.W.hasDictIn K CT = true)
    (eg_InvalidOperation : PySem.W.nsIn K mainGlobals "InvalidOperation" = some (some (.ref CO))) (ex_InvalidOperation : PySem.W.excIn K CO [.type "ValueError", .type "Exception", .type "BaseException", .type "object"] "ValueError.__new__" = true) (ek_InvalidOperation : PySem.W.keepIn K (.ref CO) = true) (eb_InvalidOperation : PySem.W.subIn K (.ref CO) (.type "BaseException") = some true) (et_InvalidOperation : PySem.W.typeIn K (.ref CO) = some (.type "type")) (eh_InvalidOperation : PySem.W.hasDictIn K CO = true)
    (xg_InvalidBook : PySem.W.findIn K (.ref CB) "__getattribute__" = some (some (.builtin "BaseException.__getattribute__"))) (xk_InvalidBook : PySem.W.findIn K (.ref CB) "__getattr__" = some none) (xa_InvalidBook : PySem.W.findIn K (.ref CB) "__class__" = some (some (.builtin "object.__class__"))) (xm_InvalidBook : PySem.W.mroIn K CB (.type "object") = some true) (xv_InvalidBook : PySem.W.subIn K (.ref CB) (.type "ValueError") = some true) (xc_InvalidBook : PySem.W.subIn K (.ref CB) (.ref CE) = some true)
    (xs_InvalidBook_InvalidBook : PySem.W.subIn K (.ref CB) (.ref CB) = some true)
    (xs_InvalidBook_InvalidText : PySem.W.subIn K (.ref CB) (.ref CT) = some false)
    (xs_InvalidBook_InvalidOperation : PySem.W.subIn K (.ref CB) (.ref CO) = some false)
    (xg_InvalidOperation : PySem.W.findIn K (.ref CO) "__getattribute__" = some (some (.builtin "BaseException.__getattribute__"))) (xk_InvalidOperation : PySem.W.findIn K (.ref CO) "__getattr__" = some none) (xa_InvalidOperation : PySem.W.findIn K (.ref CO) "__class__" = some (some (.builtin "object.__class__"))) (xm_InvalidOperation : PySem.W.mroIn K CO (.type "object") = some true) (xv_InvalidOperation : PySem.W.subIn K (.ref CO) (.type "ValueError") = some true) (xc_InvalidOperation : PySem.W.subIn K (.ref CO) (.ref CE) = some true)
    (xs_InvalidOperation_InvalidBook : PySem.W.subIn K (.ref CO) (.ref CB) = some false)
    (xs_InvalidOperation_InvalidText : PySem.W.subIn K (.ref CO) (.ref CT) = some false)
    (xs_InvalidOperation_InvalidOperation : PySem.W.subIn K (.ref CO) (.ref CO) = some true)
    (a0 : PySem.W.nsIn K mainGlobals "is_integer" = some (some (.ref f0)))
    (l0 : K.lookup f0 = some ⟨oc0, od0, .func (PySem.W.fnOf "is_integer" "is_integer" (defArgs s_is_integer) (defBody s_is_integer) (defScope s_is_integer) .none kV0 dc0 pm0 an0 cd0 ct0), sl0⟩) (c0 : PySem.W.codeIn K cd0 "is_integer" = true) (k0 : PySem.W.keepIn K (.ref f0) = true)
    (a1 : PySem.W.nsIn K mainGlobals "is_word" = some (some (.ref f1)))
    (l1 : K.lookup f1 = some ⟨oc1, od1, .func (PySem.W.fnOf "is_word" "is_word" (defArgs s_is_word) (defBody s_is_word) (defScope s_is_word) .none kV1 dc1 pm1 an1 cd1 ct1), sl1⟩) (c1 : PySem.W.codeIn K cd1 "is_word" = true) (k1 : PySem.W.keepIn K (.ref f1) = true)
    (a2 : PySem.W.nsIn K mainGlobals "is_piece" = some (some (.ref f2)))
    (l2 : K.lookup f2 = some ⟨oc2, od2, .func (PySem.W.fnOf "is_piece" "is_piece" (defArgs s_is_piece) (defBody s_is_piece) (defScope s_is_piece) .none kV2 dc2 pm2 an2 cd2 ct2), sl2⟩) (c2 : PySem.W.codeIn K cd2 "is_piece" = true) (k2 : PySem.W.keepIn K (.ref f2) = true)
    (a3 : PySem.W.nsIn K mainGlobals "is_integer_within" = some (some (.ref f3)))
    (l3 : K.lookup f3 = some ⟨oc3, od3, .func (PySem.W.fnOf "is_integer_within" "is_integer_within" (defArgs s_is_integer_within) (defBody s_is_integer_within) (defScope s_is_integer_within) .none kV3 dc3 pm3 an3 cd3 ct3), sl3⟩) (c3 : PySem.W.codeIn K cd3 "is_integer_within" = true) (k3 : PySem.W.keepIn K (.ref f3) = true)
    (a4 : PySem.W.nsIn K mainGlobals "is_price" = some (some (.ref f4)))
    (l4 : K.lookup f4 = some ⟨oc4, od4, .func (PySem.W.fnOf "is_price" "is_price" (defArgs s_is_price) (defBody s_is_price) (defScope s_is_price) .none kV4 dc4 pm4 an4 cd4 ct4), sl4⟩) (c4 : PySem.W.codeIn K cd4 "is_price" = true) (k4 : PySem.W.keepIn K (.ref f4) = true)
    (a5 : PySem.W.nsIn K mainGlobals "are_prices" = some (some (.ref f5)))
    (l5 : K.lookup f5 = some ⟨oc5, od5, .func (PySem.W.fnOf "are_prices" "are_prices" (defArgs s_are_prices) (defBody s_are_prices) (defScope s_are_prices) .none kV5 dc5 pm5 an5 cd5 ct5), sl5⟩) (c5 : PySem.W.codeIn K cd5 "are_prices" = true) (k5 : PySem.W.keepIn K (.ref f5) = true)
    (a6 : PySem.W.findIn K (.ref C) "__init__" = some (some (.ref f6))) (i6 : PySem.W.isFn K (.ref f6) = true)
    (l6 : K.lookup f6 = some ⟨oc6, od6, .func (PySem.W.fnOf "__init__" "Book.__init__" (defArgs s_Book___init__) (defBody s_Book___init__) (defScope s_Book___init__) .none kV6 dc6 pm6 an6 cd6 ct6), sl6⟩) (c6 : PySem.W.codeIn K cd6 "Book.__init__" = true) (k6 : PySem.W.keepIn K (.ref f6) = true)
    {pr7 : Addr} {re7 : List Value} (a7 : PySem.W.findIn K (.ref C) "prices" = some (some (.ref pr7))) (pg7 : PySem.W.specialIn K (.ref pr7) "__get__" = some (some (.builtin "property.__get__"))) (pt7 : PySem.W.takesIn K (.ref pr7) = some true) (rc7 : PySem.W.recIn K pr7 "property" = some (.ref f7 :: re7))
    (l7 : K.lookup f7 = some ⟨oc7, od7, .func (PySem.W.fnOf "prices" "Book.prices" (defArgs s_Book_prices) (defBody s_Book_prices) (defScope s_Book_prices) .none kV7 dc7 pm7 an7 cd7 ct7), sl7⟩) (c7 : PySem.W.codeIn K cd7 "Book.prices" = true) (k7 : PySem.W.keepIn K (.ref f7) = true)
    {pr8 : Addr} {re8 : List Value} (a8 : PySem.W.findIn K (.ref C) "pieces" = some (some (.ref pr8))) (pg8 : PySem.W.specialIn K (.ref pr8) "__get__" = some (some (.builtin "property.__get__"))) (pt8 : PySem.W.takesIn K (.ref pr8) = some true) (rc8 : PySem.W.recIn K pr8 "property" = some (.ref f8 :: re8))
    (l8 : K.lookup f8 = some ⟨oc8, od8, .func (PySem.W.fnOf "pieces" "Book.pieces" (defArgs s_Book_pieces) (defBody s_Book_pieces) (defScope s_Book_pieces) .none kV8 dc8 pm8 an8 cd8 ct8), sl8⟩) (c8 : PySem.W.codeIn K cd8 "Book.pieces" = true) (k8 : PySem.W.keepIn K (.ref f8) = true)
    {pr9 : Addr} {re9 : List Value} (a9 : PySem.W.findIn K (.ref C) "alphabet" = some (some (.ref pr9))) (pg9 : PySem.W.specialIn K (.ref pr9) "__get__" = some (some (.builtin "property.__get__"))) (pt9 : PySem.W.takesIn K (.ref pr9) = some true) (rc9 : PySem.W.recIn K pr9 "property" = some (.ref f9 :: re9))
    (l9 : K.lookup f9 = some ⟨oc9, od9, .func (PySem.W.fnOf "alphabet" "Book.alphabet" (defArgs s_Book_alphabet) (defBody s_Book_alphabet) (defScope s_Book_alphabet) .none kV9 dc9 pm9 an9 cd9 ct9), sl9⟩) (c9 : PySem.W.codeIn K cd9 "Book.alphabet" = true) (k9 : PySem.W.keepIn K (.ref f9) = true)
    (a10 : PySem.W.nsIn K mainGlobals "least_price" = some (some (.ref f10)))
    (l10 : K.lookup f10 = some ⟨oc10, od10, .func (PySem.W.fnOf "least_price" "least_price" (defArgs s_least_price) (defBody s_least_price) (defScope s_least_price) .none kV10 dc10 pm10 an10 cd10 ct10), sl10⟩) (c10 : PySem.W.codeIn K cd10 "least_price" = true) (k10 : PySem.W.keepIn K (.ref f10) = true)
    (a11 : PySem.W.nsIn K mainGlobals "require_book" = some (some (.ref f11)))
    (l11 : K.lookup f11 = some ⟨oc11, od11, .func (PySem.W.fnOf "require_book" "require_book" (defArgs s_require_book) (defBody s_require_book) (defScope s_require_book) .none kV11 dc11 pm11 an11 cd11 ct11), sl11⟩) (c11 : PySem.W.codeIn K cd11 "require_book" = true) (k11 : PySem.W.keepIn K (.ref f11) = true)
    (a12 : PySem.W.nsIn K mainGlobals "require_comparable" = some (some (.ref f12)))
    (l12 : K.lookup f12 = some ⟨oc12, od12, .func (PySem.W.fnOf "require_comparable" "require_comparable" (defArgs s_require_comparable) (defBody s_require_comparable) (defScope s_require_comparable) .none kV12 dc12 pm12 an12 cd12 ct12), sl12⟩) (c12 : PySem.W.codeIn K cd12 "require_comparable" = true) (k12 : PySem.W.keepIn K (.ref f12) = true)
    (a13 : PySem.W.nsIn K mainGlobals "dearer_in" = some (some (.ref f13)))
    (l13 : K.lookup f13 = some ⟨oc13, od13, .func (PySem.W.fnOf "dearer_in" "dearer_in" (defArgs s_dearer_in) (defBody s_dearer_in) (defScope s_dearer_in) .none kV13 dc13 pm13 an13 cd13 ct13), sl13⟩) (c13 : PySem.W.codeIn K cd13 "dearer_in" = true) (k13 : PySem.W.keepIn K (.ref f13) = true)
    (a14 : PySem.W.nsIn K mainGlobals "is_nowhere_dearer" = some (some (.ref f14)))
    (l14 : K.lookup f14 = some ⟨oc14, od14, .func (PySem.W.fnOf "is_nowhere_dearer" "is_nowhere_dearer" (defArgs s_is_nowhere_dearer) (defBody s_is_nowhere_dearer) (defScope s_is_nowhere_dearer) .none kV14 dc14 pm14 an14 cd14 ct14), sl14⟩) (c14 : PySem.W.codeIn K cd14 "is_nowhere_dearer" = true) (k14 : PySem.W.keepIn K (.ref f14) = true)
    (a15 : PySem.W.nsIn K mainGlobals "dearer_piece" = some (some (.ref f15)))
    (l15 : K.lookup f15 = some ⟨oc15, od15, .func (PySem.W.fnOf "dearer_piece" "dearer_piece" (defArgs s_dearer_piece) (defBody s_dearer_piece) (defScope s_dearer_piece) .none kV15 dc15 pm15 an15 cd15 ct15), sl15⟩) (c15 : PySem.W.codeIn K cd15 "dearer_piece" = true) (k15 : PySem.W.keepIn K (.ref f15) = true)
    (a16 : PySem.W.nsIn K mainGlobals "are_as_cheap" = some (some (.ref f16)))
    (l16 : K.lookup f16 = some ⟨oc16, od16, .func (PySem.W.fnOf "are_as_cheap" "are_as_cheap" (defArgs s_are_as_cheap) (defBody s_are_as_cheap) (defScope s_are_as_cheap) .none kV16 dc16 pm16 an16 cd16 ct16), sl16⟩) (c16 : PySem.W.codeIn K cd16 "are_as_cheap" = true) (k16 : PySem.W.keepIn K (.ref f16) = true)
    (a17 : PySem.W.nsIn K mainGlobals "needless_in" = some (some (.ref f17)))
    (l17 : K.lookup f17 = some ⟨oc17, od17, .func (PySem.W.fnOf "needless_in" "needless_in" (defArgs s_needless_in) (defBody s_needless_in) (defScope s_needless_in) .none kV17 dc17 pm17 an17 cd17 ct17), sl17⟩) (c17 : PySem.W.codeIn K cd17 "needless_in" = true) (k17 : PySem.W.keepIn K (.ref f17) = true)
    (a18 : PySem.W.nsIn K mainGlobals "needless" = some (some (.ref f18)))
    (l18 : K.lookup f18 = some ⟨oc18, od18, .func (PySem.W.fnOf "needless" "needless" (defArgs s_needless) (defBody s_needless) (defScope s_needless) .none kV18 dc18 pm18 an18 cd18 ct18), sl18⟩) (c18 : PySem.W.codeIn K cd18 "needless" = true) (k18 : PySem.W.keepIn K (.ref f18) = true)
    (a19 : PySem.W.nsIn K mainGlobals "least_book" = some (some (.ref f19)))
    (l19 : K.lookup f19 = some ⟨oc19, od19, .func (PySem.W.fnOf "least_book" "least_book" (defArgs s_least_book) (defBody s_least_book) (defScope s_least_book) .none kV19 dc19 pm19 an19 cd19 ct19), sl19⟩) (c19 : PySem.W.codeIn K cd19 "least_book" = true) (k19 : PySem.W.keepIn K (.ref f19) = true)
    (a20 : PySem.W.nsIn K mainGlobals "_law_dice" = some (some (.ref f20)))
    (l20 : K.lookup f20 = some ⟨oc20, od20, .func (PySem.W.fnOf "_law_dice" "_law_dice" (defArgs s__law_dice) (defBody s__law_dice) (defScope s__law_dice) .none kV20 dc20 pm20 an20 cd20 ct20), sl20⟩) (c20 : PySem.W.codeIn K cd20 "_law_dice" = true) (k20 : PySem.W.keepIn K (.ref f20) = true)
    (a21 : PySem.W.nsIn K mainGlobals "_law_roll" = some (some (.ref f21)))
    (l21 : K.lookup f21 = some ⟨oc21, od21, .func (PySem.W.fnOf "_law_roll" "_law_roll" (defArgs s__law_roll) (defBody s__law_roll) (defScope s__law_roll) .none kV21 dc21 pm21 an21 cd21 ct21), sl21⟩) (c21 : PySem.W.codeIn K cd21 "_law_roll" = true) (k21 : PySem.W.keepIn K (.ref f21) = true)
    (a22 : PySem.W.nsIn K mainGlobals "_law_pick" = some (some (.ref f22)))
    (l22 : K.lookup f22 = some ⟨oc22, od22, .func (PySem.W.fnOf "_law_pick" "_law_pick" (defArgs s__law_pick) (defBody s__law_pick) (defScope s__law_pick) .none kV22 dc22 pm22 an22 cd22 ct22), sl22⟩) (c22 : PySem.W.codeIn K cd22 "_law_pick" = true) (k22 : PySem.W.keepIn K (.ref f22) = true)
    (a23 : PySem.W.nsIn K mainGlobals "_law_some" = some (some (.ref f23)))
    (l23 : K.lookup f23 = some ⟨oc23, od23, .func (PySem.W.fnOf "_law_some" "_law_some" (defArgs s__law_some) (defBody s__law_some) (defScope s__law_some) .none kV23 dc23 pm23 an23 cd23 ct23), sl23⟩) (c23 : PySem.W.codeIn K cd23 "_law_some" = true) (k23 : PySem.W.keepIn K (.ref f23) = true)
    (a24 : PySem.W.nsIn K mainGlobals "_law_cuts" = some (some (.ref f24)))
    (l24 : K.lookup f24 = some ⟨oc24, od24, .func (PySem.W.fnOf "_law_cuts" "_law_cuts" (defArgs s__law_cuts) (defBody s__law_cuts) (defScope s__law_cuts) .none kV24 dc24 pm24 an24 cd24 ct24), sl24⟩) (c24 : PySem.W.codeIn K cd24 "_law_cuts" = true) (k24 : PySem.W.keepIn K (.ref f24) = true)
    (a25 : PySem.W.nsIn K mainGlobals "_law_met" = some (some (.ref f25)))
    (l25 : K.lookup f25 = some ⟨oc25, od25, .func (PySem.W.fnOf "_law_met" "_law_met" (defArgs s__law_met) (defBody s__law_met) (defScope s__law_met) .none kV25 dc25 pm25 an25 cd25 ct25), sl25⟩) (c25 : PySem.W.codeIn K cd25 "_law_met" = true) (k25 : PySem.W.keepIn K (.ref f25) = true)
    (a26 : PySem.W.nsIn K mainGlobals "_law_cost" = some (some (.ref f26)))
    (l26 : K.lookup f26 = some ⟨oc26, od26, .func (PySem.W.fnOf "_law_cost" "_law_cost" (defArgs s__law_cost) (defBody s__law_cost) (defScope s__law_cost) .none kV26 dc26 pm26 an26 cd26 ct26), sl26⟩) (c26 : PySem.W.codeIn K cd26 "_law_cost" = true) (k26 : PySem.W.keepIn K (.ref f26) = true)
    (a27 : PySem.W.nsIn K mainGlobals "_law_dearer" = some (some (.ref f27)))
    (l27 : K.lookup f27 = some ⟨oc27, od27, .func (PySem.W.fnOf "_law_dearer" "_law_dearer" (defArgs s__law_dearer) (defBody s__law_dearer) (defScope s__law_dearer) .none kV27 dc27 pm27 an27 cd27 ct27), sl27⟩) (c27 : PySem.W.codeIn K cd27 "_law_dearer" = true) (k27 : PySem.W.keepIn K (.ref f27) = true)
    (a28 : PySem.W.nsIn K mainGlobals "_law_needless" = some (some (.ref f28)))
    (l28 : K.lookup f28 = some ⟨oc28, od28, .func (PySem.W.fnOf "_law_needless" "_law_needless" (defArgs s__law_needless) (defBody s__law_needless) (defScope s__law_needless) .none kV28 dc28 pm28 an28 cd28 ct28), sl28⟩) (c28 : PySem.W.codeIn K cd28 "_law_needless" = true) (k28 : PySem.W.keepIn K (.ref f28) = true)
    (a29 : PySem.W.nsIn K mainGlobals "_law_two" = some (some (.ref f29)))
    (l29 : K.lookup f29 = some ⟨oc29, od29, .func (PySem.W.fnOf "_law_two" "_law_two" (defArgs s__law_two) (defBody s__law_two) (defScope s__law_two) .none kV29 dc29 pm29 an29 cd29 ct29), sl29⟩) (c29 : PySem.W.codeIn K cd29 "_law_two" = true) (k29 : PySem.W.keepIn K (.ref f29) = true)
    (a30 : PySem.W.nsIn K mainGlobals "_law_errors_right" = some (some (.ref f30)))
    (l30 : K.lookup f30 = some ⟨oc30, od30, .func (PySem.W.fnOf "_law_errors_right" "_law_errors_right" (defArgs s__law_errors_right) (defBody s__law_errors_right) (defScope s__law_errors_right) .none kV30 dc30 pm30 an30 cd30 ct30), sl30⟩) (c30 : PySem.W.codeIn K cd30 "_law_errors_right" = true) (k30 : PySem.W.keepIn K (.ref f30) = true)
    (a31 : PySem.W.nsIn K mainGlobals "_law_right" = some (some (.ref f31)))
    (l31 : K.lookup f31 = some ⟨oc31, od31, .func (PySem.W.fnOf "_law_right" "_law_right" (defArgs s__law_right) (defBody s__law_right) (defScope s__law_right) .none kV31 dc31 pm31 an31 cd31 ct31), sl31⟩) (c31 : PySem.W.codeIn K cd31 "_law_right" = true) (k31 : PySem.W.keepIn K (.ref f31) = true)
    (a32 : PySem.W.nsIn K mainGlobals "law" = some (some (.ref f32)))
    (l32 : K.lookup f32 = some ⟨oc32, od32, .func (PySem.W.fnOf "law" "law" (defArgs s_law) (defBody s_law) (defScope s_law) .none kV32 dc32 pm32 an32 cd32 ct32), sl32⟩) (c32 : PySem.W.codeIn K cd32 "law" = true) (k32 : PySem.W.keepIn K (.ref f32) = true)
    (z_ValueError : PySem.W.nsIn K mainGlobals "ValueError" = some none)
    (z_abs : PySem.W.nsIn K mainGlobals "abs" = some none)
    (z_all : PySem.W.nsIn K mainGlobals "all" = some none)
    (z_bool : PySem.W.nsIn K mainGlobals "bool" = some none)
    (z_dict : PySem.W.nsIn K mainGlobals "dict" = some none)
    (z_int : PySem.W.nsIn K mainGlobals "int" = some none)
    (z_isinstance : PySem.W.nsIn K mainGlobals "isinstance" = some none)
    (z_len : PySem.W.nsIn K mainGlobals "len" = some none)
    (z_list : PySem.W.nsIn K mainGlobals "list" = some none)
    (z_max : PySem.W.nsIn K mainGlobals "max" = some none)
    (z_min : PySem.W.nsIn K mainGlobals "min" = some none)
    (z_range : PySem.W.nsIn K mainGlobals "range" = some none)
    (z_repr : PySem.W.nsIn K mainGlobals "repr" = some none)
    (z_sorted : PySem.W.nsIn K mainGlobals "sorted" = some none)
    (z_str : PySem.W.nsIn K mainGlobals "str" = some none)
    (z_sum : PySem.W.nsIn K mainGlobals "sum" = some none)
    (z_tuple : PySem.W.nsIn K mainGlobals "tuple" = some none)
    {t_MAX_ALPHABET : Tok} (y_MAX_ALPHABET : PySem.W.nsIn K mainGlobals "MAX_ALPHABET" = some (some (.int 4 t_MAX_ALPHABET)))
    {t_MAX_PIECES : Tok} (y_MAX_PIECES : PySem.W.nsIn K mainGlobals "MAX_PIECES" = some (some (.int 12 t_MAX_PIECES)))
    {t_MAX_PRICE : Tok} (y_MAX_PRICE : PySem.W.nsIn K mainGlobals "MAX_PRICE" = some (some (.int 99 t_MAX_PRICE)))
    {t_PIECE_SIGNS : Tok} (y_PIECE_SIGNS : PySem.W.nsIn K mainGlobals "PIECE_SIGNS" = some (some (.int 5 t_PIECE_SIGNS)))
    {cT pT : Addr} {ocT : Value} {odT : Option Addr} {vsT : Array Value} {slT : Array (Option Value)} (hcT : cd30 = .ref cT) (lcT : K.lookup cT = some ⟨ocT, odT, .fields vsT, slT⟩) (pvT : (vsT[11]? : Option Value) = some (.ref pT)) (npT : K.lookup pT = none) (tbT : h.get? pT = some { cls := .none, data := .fields #[] }) (cdT : PySem.W.codeHdIn K cT pT = true)
    : LawT l.prog w K 12 63 "script" mg fa h := by
  have e := hfa.symm.trans (PySem.W.mg_of X G0 a32)
  cases e
  have T : Txt K mg C CE CB CT CO := ⟨⟨pg, hd, po, sa⟩, ⟨⟨pg, hd, po, sa⟩, iha, ihn, iht, ihm, if_pos (beq_self_eq_true _)⟩, n_own_prices, n_own_pieces, n_own_alphabet, n_own_longest, n_own_dearest, PySem.W.mg_of X G0 aC, noC_of (by rw [kcl]; rfl) kty, ⟨ex_CutError, PySem.W.mg_of X G0 eg_CutError, ek_CutError, eb_CutError, et_CutError⟩, ⟨ex_InvalidBook, PySem.W.mg_of X G0 eg_InvalidBook, ek_InvalidBook, eb_InvalidBook, et_InvalidBook⟩, ⟨ex_InvalidText, PySem.W.mg_of X G0 eg_InvalidText, ek_InvalidText, eb_InvalidText, et_InvalidText⟩, ⟨ex_InvalidOperation, PySem.W.mg_of X G0 eg_InvalidOperation, ek_InvalidOperation, eb_InvalidOperation, et_InvalidOperation⟩, ⟨⟨xg_InvalidBook, xk_InvalidBook, eb_InvalidBook, eh_InvalidBook, xa_InvalidBook, ihn, iht, xm_InvalidBook⟩, PySem.W.exm_ref eb_CutError eh_CutError et_CutError xc_InvalidBook, kit_type (by decide +kernel) xv_InvalidBook, ⟨_, _, _, kit_ref eh_InvalidBook et_InvalidBook xs_InvalidBook_InvalidBook (fun _ => rfl), kit_ref eh_InvalidText et_InvalidText xs_InvalidBook_InvalidText (fun q => by injection q with q; subst q; exact absurd (xs_InvalidBook_InvalidBook.symm.trans xs_InvalidBook_InvalidText) (by decide)), kit_ref eh_InvalidOperation et_InvalidOperation xs_InvalidBook_InvalidOperation (fun q => by injection q with q; subst q; exact absurd (xs_InvalidBook_InvalidBook.symm.trans xs_InvalidBook_InvalidOperation) (by decide)), .inl rfl⟩⟩, ⟨⟨xg_InvalidOperation, xk_InvalidOperation, eb_InvalidOperation, eh_InvalidOperation, xa_InvalidOperation, ihn, iht, xm_InvalidOperation⟩, PySem.W.exm_ref eb_CutError eh_CutError et_CutError xc_InvalidOperation, kit_type (by decide +kernel) xv_InvalidOperation, ⟨_, _, _, kit_ref eh_InvalidBook et_InvalidBook xs_InvalidOperation_InvalidBook (fun q => by injection q with q; subst q; exact absurd (xs_InvalidOperation_InvalidOperation.symm.trans xs_InvalidOperation_InvalidBook) (by decide)), kit_ref eh_InvalidText et_InvalidText xs_InvalidOperation_InvalidText (fun q => by injection q with q; subst q; exact absurd (xs_InvalidOperation_InvalidOperation.symm.trans xs_InvalidOperation_InvalidText) (by decide)), kit_ref eh_InvalidOperation et_InvalidOperation xs_InvalidOperation_InvalidOperation (fun _ => rfl), .inr (.inr rfl)⟩⟩, PySem.W.mg_none_of X G0 z_ValueError, PySem.W.mg_none_of X G0 z_abs, PySem.W.mg_none_of X G0 z_all, PySem.W.mg_none_of X G0 z_bool, PySem.W.mg_none_of X G0 z_dict, PySem.W.mg_none_of X G0 z_int, PySem.W.mg_none_of X G0 z_isinstance, PySem.W.mg_none_of X G0 z_len, PySem.W.mg_none_of X G0 z_list, PySem.W.mg_none_of X G0 z_max, PySem.W.mg_none_of X G0 z_min, PySem.W.mg_none_of X G0 z_range, PySem.W.mg_none_of X G0 z_repr, PySem.W.mg_none_of X G0 z_sorted, PySem.W.mg_none_of X G0 z_str, PySem.W.mg_none_of X G0 z_sum, PySem.W.mg_none_of X G0 z_tuple, ⟨_, PySem.W.mg_of X G0 y_MAX_ALPHABET⟩, ⟨_, PySem.W.mg_of X G0 y_MAX_PIECES⟩, ⟨_, PySem.W.mg_of X G0 y_MAX_PRICE⟩, ⟨_, PySem.W.mg_of X G0 y_PIECE_SIGNS⟩⟩
  have F0 := fun_mk (st := s_is_integer) l0 c0 k0
  have b0 := F0.binds (ps := ["value"]) fun _ _ _ _ _ _ us hl => match us, hl with | [_], _ => rfl
  have F1 := fun_mk (st := s_is_word) l1 c1 k1
  have b1 := F1.binds (ps := ["value"]) fun _ _ _ _ _ _ us hl => match us, hl with | [_], _ => rfl
  have F2 := fun_mk (st := s_is_piece) l2 c2 k2
  have b2 := F2.binds (ps := ["value"]) fun _ _ _ _ _ _ us hl => match us, hl with | [_], _ => rfl
  have F3 := fun_mk (st := s_is_integer_within) l3 c3 k3
  have b3 := F3.binds (ps := ["value", "least", "most"]) fun _ _ _ _ _ _ us hl => match us, hl with | [_, _, _], _ => rfl
  have F4 := fun_mk (st := s_is_price) l4 c4 k4
  have b4 := F4.binds (ps := ["value"]) fun _ _ _ _ _ _ us hl => match us, hl with | [_], _ => rfl
  have F5 := fun_mk (st := s_are_prices) l5 c5 k5
  have b5 := F5.binds (ps := ["value"]) fun _ _ _ _ _ _ us hl => match us, hl with | [_], _ => rfl
  have F6 := fun_mk (st := s_Book___init__) l6 c6 k6
  have b6 := F6.binds (ps := ["self", "prices"]) fun _ _ _ _ _ _ us hl => match us, hl with | [_, _], _ => rfl
  have F7 := fun_mk (st := s_Book_prices) l7 c7 k7
  have b7 := F7.binds (ps := ["self"]) fun _ _ _ _ _ _ us hl => match us, hl with | [_], _ => rfl
  have F8 := fun_mk (st := s_Book_pieces) l8 c8 k8
  have b8 := F8.binds (ps := ["self"]) fun _ _ _ _ _ _ us hl => match us, hl with | [_], _ => rfl
  have F9 := fun_mk (st := s_Book_alphabet) l9 c9 k9
  have b9 := F9.binds (ps := ["self"]) fun _ _ _ _ _ _ us hl => match us, hl with | [_], _ => rfl
  have F10 := fun_mk (st := s_least_price) l10 c10 k10
  have b10 := F10.binds (ps := ["prices", "text"]) fun _ _ _ _ _ _ us hl => match us, hl with | [_, _], _ => rfl
  have F11 := fun_mk (st := s_require_book) l11 c11 k11
  have b11 := F11.binds (ps := ["value"]) fun _ _ _ _ _ _ us hl => match us, hl with | [_], _ => rfl
  have F12 := fun_mk (st := s_require_comparable) l12 c12 k12
  have b12 := F12.binds (ps := ["book", "other"]) fun _ _ _ _ _ _ us hl => match us, hl with | [_, _], _ => rfl
  have F13 := fun_mk (st := s_dearer_in) l13 c13 k13
  have b13 := F13.binds (ps := ["book", "other"]) fun _ _ _ _ _ _ us hl => match us, hl with | [_, _], _ => rfl
  have F14 := fun_mk (st := s_is_nowhere_dearer) l14 c14 k14
  have b14 := F14.binds (ps := ["book", "other"]) fun _ _ _ _ _ _ us hl => match us, hl with | [_, _], _ => rfl
  have F15 := fun_mk (st := s_dearer_piece) l15 c15 k15
  have b15 := F15.binds (ps := ["book", "other"]) fun _ _ _ _ _ _ us hl => match us, hl with | [_, _], _ => rfl
  have F16 := fun_mk (st := s_are_as_cheap) l16 c16 k16
  have b16 := F16.binds (ps := ["book", "other"]) fun _ _ _ _ _ _ us hl => match us, hl with | [_, _], _ => rfl
  have F17 := fun_mk (st := s_needless_in) l17 c17 k17
  have b17 := F17.binds (ps := ["book"]) fun _ _ _ _ _ _ us hl => match us, hl with | [_], _ => rfl
  have F18 := fun_mk (st := s_needless) l18 c18 k18
  have b18 := F18.binds (ps := ["book"]) fun _ _ _ _ _ _ us hl => match us, hl with | [_], _ => rfl
  have F19 := fun_mk (st := s_least_book) l19 c19 k19
  have b19 := F19.binds (ps := ["book"]) fun _ _ _ _ _ _ us hl => match us, hl with | [_], _ => rfl
  have F20 := fun_mk (st := s__law_dice) l20 c20 k20
  have b20 := F20.binds (ps := ["script", "spot"]) fun _ _ _ _ _ _ us hl => match us, hl with | [_, _], _ => rfl
  have F21 := fun_mk (st := s__law_roll) l21 c21 k21
  have b21 := F21.binds (ps := ["dice", "upto"]) fun _ _ _ _ _ _ us hl => match us, hl with | [_, _], _ => rfl
  have F22 := fun_mk (st := s__law_pick) l22 c22 k22
  have b22 := F22.binds (ps := ["dice", "items"]) fun _ _ _ _ _ _ us hl => match us, hl with | [_, _], _ => rfl
  have F23 := fun_mk (st := s__law_some) l23 c23 k23
  have b23 := F23.binds (ps := ["dice", "items", "many"]) fun _ _ _ _ _ _ us hl => match us, hl with | [_, _, _], _ => rfl
  have F24 := fun_mk (st := s__law_cuts) l24 c24 k24
  have b24 := F24.binds (ps := ["prices", "text"]) fun _ _ _ _ _ _ us hl => match us, hl with | [_, _], _ => rfl
  have F25 := fun_mk (st := s__law_met) l25 c25 k25
  have b25 := F25.binds (ps := ["call"]) fun _ _ _ _ _ _ us hl => match us, hl with | [_], _ => rfl
  have F26 := fun_mk (st := s__law_cost) l26 c26 k26
  have b26 := F26.binds (ps := ["prices", "way"]) fun _ _ _ _ _ _ us hl => match us, hl with | [_, _], _ => rfl
  have F27 := fun_mk (st := s__law_dearer) l27 c27 k27
  have b27 := F27.binds (ps := ["one", "two"]) fun _ _ _ _ _ _ us hl => match us, hl with | [_, _], _ => rfl
  have F28 := fun_mk (st := s__law_needless) l28 c28 k28
  have b28 := F28.binds (ps := ["prices"]) fun _ _ _ _ _ _ us hl => match us, hl with | [_], _ => rfl
  have F29 := fun_mk (st := s__law_two) l29 c29 k29
  have b29 := F29.binds (ps := ["dice", "signs"]) fun _ _ _ _ _ _ us hl => match us, hl with | [_, _], _ => rfl
  have F30 := fun_mk (st := s__law_errors_right) l30 c30 k30
  have b30 := F30.binds (ps := ["dice", "signs", "book"]) fun _ _ _ _ _ _ us hl => match us, hl with | [_, _, _], _ => rfl
  have F31 := fun_mk (st := s__law_right) l31 c31 k31
  have b31 := F31.binds (ps := ["dice"]) fun _ _ _ _ _ _ us hl => match us, hl with | [_], _ => rfl
  have F32 := fun_mk (st := s_law) l32 c32 k32
  have hC := PySem.W.codeHd_of_K X cdT
  refine ⟨⟨PySem.W.fnOf "law" "law" (defArgs s_law) (defBody s_law) (defScope s_law) .none kV32 dc32 pm32 an32 cd32 ct32, [(cT, pT)], spLawT [(pT, (("_law_errors_right.<locals>.<lambda>" : String) : Str))] K, fun p hp => by rw [List.mem_singleton.mp hp]; exact tbT, fun p hp => by rw [List.mem_singleton.mp hp]; exact npT, fun p hp => by rw [List.mem_singleton.mp hp]; exact hC, fun s v => .of_eq rfl,
    fun H a ns hl hT hS => ⟨a, ns, rfl, fun p hp => by rw [List.mem_singleton.mp hp]; exact LamX.TabS.nil (hT _ List.mem_cons_self), hS, hl, fun _ => rfl⟩, fun base _ _ TB => ?_⟩⟩
  have h_is_integer : HasO l.prog w K mg base CX0 1 "is_integer" ["value"] (spIsI K isInteger) := .mk' F0 (PySem.W.mg_of X G0 a0) b0 (ok_is_integer F0 T)
  have h_is_word : HasO l.prog w K mg base CX0 1 "is_word" ["value"] (spIs K isWord) := .mk' F1 (PySem.W.mg_of X G0 a1) b1 (ok_is_word F1 T)
  have h_is_piece : HasO l.prog w K mg base CX0 2 "is_piece" ["value"] (spIs K isPiece) := .mk' F2 (PySem.W.mg_of X G0 a2) b2 (ok_is_piece F2 T h_is_word)
  have h_is_integer_within : HasO l.prog w K mg base CX0 2 "is_integer_within" ["value", "least", "most"] (spWithin K) := .mk' F3 (PySem.W.mg_of X G0 a3) b3 (ok_is_integer_within F3 T h_is_integer)
  have h_is_price : HasO l.prog w K mg base CX0 3 "is_price" ["value"] (spIsI K isPrice) := .mk' F4 (PySem.W.mg_of X G0 a4) b4 (ok_is_price F4 T h_is_integer_within)
  have h_are_prices : HasO l.prog w K mg base CX0 4 "are_prices" ["value"] (spArePrices K) := .mk' F5 (PySem.W.mg_of X G0 a5) b5 (ok_are_prices F5 T h_is_piece h_is_price)
  have h_Book : C8.Mak l.prog w K mg base 5 "Book" C (spBook C K) [] := ⟨_, _, ["self", "prices"], [], ⟨mk, a6, i6, kc⟩, ok_Book___init__ F6 T h_are_prices, PySem.W.mg_of X G0 aC, b6, .nil⟩
  have h_Book_prices : HasP l.prog w K mg base 1 C "prices" (spPrices C) := ⟨pr7, _, _, ⟨pg, hd, po, sa⟩, ⟨a7, pg7, pt7, ⟨_, rc7⟩⟩, ok_Book_prices F7 T, b7⟩
  have h_Book_pieces : HasP l.prog w K mg base 1 C "pieces" (spPieces C) := ⟨pr8, _, _, ⟨pg, hd, po, sa⟩, ⟨a8, pg8, pt8, ⟨_, rc8⟩⟩, ok_Book_pieces F8 T, b8⟩
  have h_Book_alphabet : HasP l.prog w K mg base 1 C "alphabet" (spAlph C) := ⟨pr9, _, _, ⟨pg, hd, po, sa⟩, ⟨a9, pg9, pt9, ⟨_, rc9⟩⟩, ok_Book_alphabet F9 T, b9⟩
  have h_least_price : HasO l.prog w K mg base CX0 4 "least_price" ["prices", "text"] (spLeastPrice) := .mk' F10 (PySem.W.mg_of X G0 a10) b10 (ok_least_price F10 T)
  have h_require_book : HasO l.prog w K mg base CX0 1 "require_book" ["value"] (spReqBook C) := .mk' F11 (PySem.W.mg_of X G0 a11) b11 (ok_require_book F11 T)
  have h_require_comparable : HasO l.prog w K mg base CX0 2 "require_comparable" ["book", "other"] (spReqCmp C) := .mk' F12 (PySem.W.mg_of X G0 a12) b12 (ok_require_comparable F12 T h_require_book)
  have h_dearer_in : HasO l.prog w K mg base CX0 5 "dearer_in" ["book", "other"] (spDearer C) := .mk' F13 (PySem.W.mg_of X G0 a13) b13 (ok_dearer_in F13 T h_least_price)
  have h_is_nowhere_dearer : HasO l.prog w K mg base CX0 6 "is_nowhere_dearer" ["book", "other"] (spNowhere C) := .mk' F14 (PySem.W.mg_of X G0 a14) b14 (ok_is_nowhere_dearer F14 T h_require_comparable h_dearer_in)
  have h_dearer_piece : HasO l.prog w K mg base CX0 6 "dearer_piece" ["book", "other"] (spDearer C) := .mk' F15 (PySem.W.mg_of X G0 a15) b15 (ok_dearer_piece F15 T h_require_comparable h_dearer_in)
  have h_are_as_cheap : HasO l.prog w K mg base CX0 6 "are_as_cheap" ["book", "other"] (spAsCheap C) := .mk' F16 (PySem.W.mg_of X G0 a16) b16 (ok_are_as_cheap F16 T h_require_comparable h_dearer_in)
  have h_needless_in : HasO l.prog w K mg base CX0 5 "needless_in" ["book"] (spNeedIn C) := .mk' F17 (PySem.W.mg_of X G0 a17) b17 (ok_needless_in F17 T h_least_price)
  have h_needless : HasO l.prog w K mg base CX0 6 "needless" ["book"] (spNeed C) := .mk' F18 (PySem.W.mg_of X G0 a18) b18 (ok_needless F18 T h_require_book h_needless_in)
  have h_least_book : HasO l.prog w K mg base CX0 7 "least_book" ["book"] (spLeast C) := .mk' F19 (PySem.W.mg_of X G0 a19) b19 (ok_least_book F19 T h_Book h_require_book h_needless_in)
  have h__law_dice : HasO l.prog w K mg base CX0 1 "_law_dice" ["script", "spot"] (spDice K) := .mk' F20 (PySem.W.mg_of X G0 a20) b20 (ok__law_dice F20 T)
  have h__law_roll : HasO l.prog w K mg base CX0 1 "_law_roll" ["dice", "upto"] (spRoll) := .mk' F21 (PySem.W.mg_of X G0 a21) b21 (ok__law_roll F21 T)
  have h__law_pick : HasO l.prog w K mg base CX0 2 "_law_pick" ["dice", "items"] (spPick K) := .mk' F22 (PySem.W.mg_of X G0 a22) b22 (ok__law_pick F22 T h__law_roll)
  have h__law_some : HasO l.prog w K mg base CX0 2 "_law_some" ["dice", "items", "many"] (spSome K) := .mk' F23 (PySem.W.mg_of X G0 a23) b23 (ok__law_some F23 T h__law_roll)
  have h__law_cuts : HasO l.prog w K mg base CX0 1 "_law_cuts" ["prices", "text"] (spCuts) := .mk' F24 (PySem.W.mg_of X G0 a24) b24 (ok__law_cuts F24 T)
  have h_require_book__may : HasO l.prog w K mg base (L2.CX l.prog w) 1 "require_book" ["value"] (spMayBook C CB) := .mk' F11 (PySem.W.mg_of X G0 a11) b11 (ok_require_book__may F11 T)
  have h_require_comparable__bad : HasO l.prog w K mg base (L2.CX l.prog w) 2 "require_comparable" ["book", "other"] (spBadC C CB CO) := .mk' F12 (PySem.W.mg_of X G0 a12) b12 (ok_require_comparable__bad F12 T h_require_book__may)
  have h_is_nowhere_dearer__bad : HasO l.prog w K mg base (L2.CX l.prog w) 3 "is_nowhere_dearer" ["book", "other"] (spBadC C CB CO) := .mk' F14 (PySem.W.mg_of X G0 a14) b14 (ok_is_nowhere_dearer__bad F14 T h_require_comparable__bad)
  have h_dearer_piece__bad : HasO l.prog w K mg base (L2.CX l.prog w) 3 "dearer_piece" ["book", "other"] (spBadC C CB CO) := .mk' F15 (PySem.W.mg_of X G0 a15) b15 (ok_dearer_piece__bad F15 T h_require_comparable__bad)
  have h_are_as_cheap__bad : HasO l.prog w K mg base (L2.CX l.prog w) 3 "are_as_cheap" ["book", "other"] (spBadC C CB CO) := .mk' F16 (PySem.W.mg_of X G0 a16) b16 (ok_are_as_cheap__bad F16 T h_require_comparable__bad)
  have h_needless__bad : HasO l.prog w K mg base (L2.CX l.prog w) 2 "needless" ["book"] (spBadBook CB) := .mk' F18 (PySem.W.mg_of X G0 a18) b18 (ok_needless__bad F18 T h_require_book__may)
  have h_least_book__bad : HasO l.prog w K mg base (L2.CX l.prog w) 2 "least_book" ["book"] (spBadBook CB) := .mk' F19 (PySem.W.mg_of X G0 a19) b19 (ok_least_book__bad F19 T h_Book h_require_book__may)
  have h__law_met := ok__law_met F25 T (PySem.W.mg_of X G0 a25) b25
  have h__law_cost : HasO l.prog w K mg base CX0 1 "_law_cost" ["prices", "way"] (spSumOf) := .mk' F26 (PySem.W.mg_of X G0 a26) b26 (ok__law_cost F26 T)
  have h__law_dearer : HasO l.prog w K mg base CX0 2 "_law_dearer" ["one", "two"] (spLDear) := .mk' F27 (PySem.W.mg_of X G0 a27) b27 (ok__law_dearer F27 T h__law_cuts h__law_cost)
  have h__law_needless : HasO l.prog w K mg base CX0 2 "_law_needless" ["prices"] (spLNeed) := .mk' F28 (PySem.W.mg_of X G0 a28) b28 (ok__law_needless F28 T h__law_cuts h__law_cost)
  have h__law_two : HasO l.prog w K mg base CX0 4 "_law_two" ["dice", "signs"] (spTwo K) := .mk' F29 (PySem.W.mg_of X G0 a29) b29 (ok__law_two F29 T h__law_pick h__law_roll h__law_some)
  have h__law_errors_right : Has l.prog w K mg base CX0 8 "_law_errors_right" ["dice", "signs", "book"] (spErrs C [(pT, (("_law_errors_right.<locals>.<lambda>" : String) : Str))]) := .mk' F30 (PySem.W.mg_of X G0 a30) b30 (ok__law_errors_right F30 T hcT (TB _ List.mem_cons_self) h_Book h_Book_prices h_Book_pieces h_Book_alphabet h__law_pick h__law_roll h__law_met h_needless__bad h_least_book__bad h_is_nowhere_dearer__bad h_dearer_piece__bad h_are_as_cheap__bad)
  have h__law_right : Has l.prog w K mg base CX0 10 "_law_right" ["dice"] (spRightT [(pT, (("_law_errors_right.<locals>.<lambda>" : String) : Str))] 600) := .mk' F31 (PySem.W.mg_of X G0 a31) b31 (ok__law_right F31 T h_Book h_Book_prices h__law_some h__law_roll h__law_two h__law_dearer h_is_nowhere_dearer h_dearer_piece h_are_as_cheap h__law_needless h_needless h_least_book h__law_errors_right)
  exact ok_law F32 T h_Book h_Book_pieces h__law_dice h__law_right h_least_book h_dearer_piece h_needless
end K07
open PySem PySem.W PyProof.Rows
set_option maxRecDepth 100000 in
set_option maxHeartbeats 0 in
theorem PySem.Challenge.cw_cutbehind_k07_dearer_and_needless_pieces_holds : PySem.Challenge.rw_cutbehind_k07_dearer_and_needless_pieces.Holds := by
  w_on; o_law; k_head; (case hw => w_witness2)
  k_fill
  refine G.walk_gT (l := PySem.Challenge.rw_cutbehind_k07_dearer_and_needless_pieces) (n := 63) (k := 12) (x := "script") rfl (by decide) rfl ⟨rfl, by decide, by decide⟩ (fun w h Y => PySem.W.km_in_of Y) ?F
  case F =>
    intro w mg fa h Y KX G0 hmg
    refine' K07.all_mk (l := PySem.Challenge.rw_cutbehind_k07_dearer_and_needless_pieces) KX G0 hmg ?aC ?pg ?hd ?po ?sa ?mk ?kc ?iha ?ihn ?iht ?ihm ?n_own_prices ?n_own_pieces ?n_own_alphabet ?n_own_longest ?n_own_dearest ?kcl ?kty ?eg_CutError ?ex_CutError ?ek_CutError ?eb_CutError ?et_CutError ?eh_CutError ?eg_InvalidBook ?ex_InvalidBook ?ek_InvalidBook ?eb_InvalidBook ?et_InvalidBook ?eh_InvalidBook ?eg_InvalidText ?ex_InvalidText ?ek_InvalidText ?eb_InvalidText ?et_InvalidText ?eh_InvalidText ?eg_InvalidOperation ?ex_InvalidOperation ?ek_InvalidOperation ?eb_InvalidOperation ?et_InvalidOperation ?eh_InvalidOperation ?xg_InvalidBook ?xk_InvalidBook ?xa_InvalidBook ?xm_InvalidBook ?xv_InvalidBook ?xc_InvalidBook ?xs_InvalidBook_InvalidBook ?xs_InvalidBook_InvalidText ?xs_InvalidBook_InvalidOperation ?xg_InvalidOperation ?xk_InvalidOperation ?xa_InvalidOperation ?xm_InvalidOperation ?xv_InvalidOperation ?xc_InvalidOperation ?xs_InvalidOperation_InvalidBook ?xs_InvalidOperation_InvalidText ?xs_InvalidOperation_InvalidOperation ?a0 ?l0 ?c0 ?k0 ?a1 ?l1 ?c1 ?k1 ?a2 ?l2 ?c2 ?k2 ?a3 ?l3 ?c3 ?k3 ?a4 ?l4 ?c4 ?k4 ?a5 ?l5 ?c5 ?k5 ?a6 ?i6 ?l6 ?c6 ?k6 ?a7 ?pg7 ?pt7 ?rc7 ?l7 ?c7 ?k7 ?a8 ?pg8 ?pt8 ?rc8 ?l8 ?c8 ?k8 ?a9 ?pg9 ?pt9 ?rc9 ?l9 ?c9 ?k9 ?a10 ?l10 ?c10 ?k10 ?a11 ?l11 ?c11 ?k11 ?a12 ?l12 ?c12 ?k12 ?a13 ?l13 ?c13 ?k13 ?a14 ?l14 ?c14 ?k14 ?a15 ?l15 ?c15 ?k15 ?a16 ?l16 ?c16 ?k16 ?a17 ?l17 ?c17 ?k17 ?a18 ?l18 ?c18 ?k18 ?a19 ?l19 ?c19 ?k19 ?a20 ?l20 ?c20 ?k20 ?a21 ?l21 ?c21 ?k21 ?a22 ?l22 ?c22 ?k22 ?a23 ?l23 ?c23 ?k23 ?a24 ?l24 ?c24 ?k24 ?a25 ?l25 ?c25 ?k25 ?a26 ?l26 ?c26 ?k26 ?a27 ?l27 ?c27 ?k27 ?a28 ?l28 ?c28 ?k28 ?a29 ?l29 ?c29 ?k29 ?a30 ?l30 ?c30 ?k30 ?a31 ?l31 ?c31 ?k31 ?a32 ?l32 ?c32 ?k32 ?z_ValueError ?z_abs ?z_all ?z_bool ?z_dict ?z_int ?z_isinstance ?z_len ?z_list ?z_max ?z_min ?z_range ?z_repr ?z_sorted ?z_str ?z_sum ?z_tuple ?y_MAX_ALPHABET ?y_MAX_PIECES ?y_MAX_PRICE ?y_PIECE_SIGNS ?hcT ?lcT ?pvT ?npT ?tbT ?cdT
    (case aC => k_is)
    (case pg => k_is)
    (case hd => k_is)
    (case po => k_is)
    (case sa => k_is)
    (case mk => k_is)
    (case kc => k_is)
    (case iha => k_is)
    (case ihn => k_is)
    (case iht => k_is)
    (case ihm => k_is)
    (case n_own_prices => k_is)
    (case n_own_pieces => k_is)
    (case n_own_alphabet => k_is)
    (case n_own_longest => k_is)
    (case n_own_dearest => k_is)
    (case kcl => k_is)
    (case kty => k_is)
    (case eg_CutError => k_is)
    (case ex_CutError => k_exc)
    (case ek_CutError => k_is)
    (case eb_CutError => k_is)
    (case et_CutError => k_is)
    (case eh_CutError => k_is)
    (case eg_InvalidBook => k_is)
    (case ex_InvalidBook => k_exc)
    (case ek_InvalidBook => k_is)
    (case eb_InvalidBook => k_is)
    (case et_InvalidBook => k_is)
    (case eh_InvalidBook => k_is)
    (case eg_InvalidText => k_is)
    (case ex_InvalidText => k_exc)
    (case ek_InvalidText => k_is)
    (case eb_InvalidText => k_is)
    (case et_InvalidText => k_is)
    (case eh_InvalidText => k_is)
    (case eg_InvalidOperation => k_is)
    (case ex_InvalidOperation => k_exc)
    (case ek_InvalidOperation => k_is)
    (case eb_InvalidOperation => k_is)
    (case et_InvalidOperation => k_is)
    (case eh_InvalidOperation => k_is)
    (case xg_InvalidBook => k_is)
    (case xk_InvalidBook => k_is)
    (case xa_InvalidBook => k_is)
    (case xm_InvalidBook => k_is)
    (case xv_InvalidBook => k_is)
    (case xc_InvalidBook => k_is)
    (case xs_InvalidBook_InvalidBook => k_is)
    (case xs_InvalidBook_InvalidText => k_is)
    (case xs_InvalidBook_InvalidOperation => k_is)
    (case xg_InvalidOperation => k_is)
    (case xk_InvalidOperation => k_is)
    (case xa_InvalidOperation => k_is)
    (case xm_InvalidOperation => k_is)
    (case xv_InvalidOperation => k_is)
    (case xc_InvalidOperation => k_is)
    (case xs_InvalidOperation_InvalidBook => k_is)
    (case xs_InvalidOperation_InvalidText => k_is)
    (case xs_InvalidOperation_InvalidOperation => k_is)
    (case a0 => k_is)
    (case l0 => k_is)
    (case c0 => k_is)
    (case k0 => k_is)
    (case a1 => k_is)
    (case l1 => k_is)
    (case c1 => k_is)
    (case k1 => k_is)
    (case a2 => k_is)
    (case l2 => k_is)
    (case c2 => k_is)
    (case k2 => k_is)
    (case a3 => k_is)
    (case l3 => k_is)
    (case c3 => k_is)
    (case k3 => k_is)
    (case a4 => k_is)
    (case l4 => k_is)
    (case c4 => k_is)
    (case k4 => k_is)
    (case a5 => k_is)
    (case l5 => k_is)
    (case c5 => k_is)
    (case k5 => k_is)
    (case a6 => k_is)
    (case i6 => k_is)
    (case l6 => k_is)
    (case c6 => k_is)
    (case k6 => k_is)
    (case a7 => k_is)
    (case pg7 => k_is)
    (case pt7 => k_is)
    (case rc7 => k_is)
    (case l7 => k_is)
    (case c7 => k_is)
    (case k7 => k_is)
    (case a8 => k_is)
    (case pg8 => k_is)
    (case pt8 => k_is)
    (case rc8 => k_is)
    (case l8 => k_is)
    (case c8 => k_is)
    (case k8 => k_is)
    (case a9 => k_is)
    (case pg9 => k_is)
    (case pt9 => k_is)
    (case rc9 => k_is)
    (case l9 => k_is)
    (case c9 => k_is)
    (case k9 => k_is)
    (case a10 => k_is)
    (case l10 => k_is)
    (case c10 => k_is)
    (case k10 => k_is)
    (case a11 => k_is)
    (case l11 => k_is)
    (case c11 => k_is)
    (case k11 => k_is)
    (case a12 => k_is)
    (case l12 => k_is)
    (case c12 => k_is)
    (case k12 => k_is)
    (case a13 => k_is)
    (case l13 => k_is)
    (case c13 => k_is)
    (case k13 => k_is)
    (case a14 => k_is)
    (case l14 => k_is)
    (case c14 => k_is)
    (case k14 => k_is)
    (case a15 => k_is)
    (case l15 => k_is)
    (case c15 => k_is)
    (case k15 => k_is)
    (case a16 => k_is)
    (case l16 => k_is)
    (case c16 => k_is)
    (case k16 => k_is)
    (case a17 => k_is)
    (case l17 => k_is)
    (case c17 => k_is)
    (case k17 => k_is)
    (case a18 => k_is)
    (case l18 => k_is)
    (case c18 => k_is)
    (case k18 => k_is)
    (case a19 => k_is)
    (case l19 => k_is)
    (case c19 => k_is)
    (case k19 => k_is)
    (case a20 => k_is)
    (case l20 => k_is)
    (case c20 => k_is)
    (case k20 => k_is)
    (case a21 => k_is)
    (case l21 => k_is)
    (case c21 => k_is)
    (case k21 => k_is)
    (case a22 => k_is)
    (case l22 => k_is)
    (case c22 => k_is)
    (case k22 => k_is)
    (case a23 => k_is)
    (case l23 => k_is)
    (case c23 => k_is)
    (case k23 => k_is)
    (case a24 => k_is)
    (case l24 => k_is)
    (case c24 => k_is)
    (case k24 => k_is)
    (case a25 => k_is)
    (case l25 => k_is)
    (case c25 => k_is)
    (case k25 => k_is)
    (case a26 => k_is)
    (case l26 => k_is)
    (case c26 => k_is)
    (case k26 => k_is)
    (case a27 => k_is)
    (case l27 => k_is)
    (case c27 => k_is)
    (case k27 => k_is)
    (case a28 => k_is)
    (case l28 => k_is)
    (case c28 => k_is)
    (case k28 => k_is)
    (case a29 => k_is)
    (case l29 => k_is)
    (case c29 => k_is)
    (case k29 => k_is)
    (case a30 => k_is)
    (case l30 => k_is)
    (case c30 => k_is)
    (case k30 => k_is)
    (case a31 => k_is)
    (case l31 => k_is)
    (case c31 => k_is)
    (case k31 => k_is)
    (case a32 => k_is)
    (case l32 => k_is)
    (case c32 => k_is)
    (case k32 => k_is)
    (case z_ValueError => k_is)
    (case z_abs => k_is)
    (case z_all => k_is)
    (case z_bool => k_is)
    (case z_dict => k_is)
    (case z_int => k_is)
    (case z_isinstance => k_is)
    (case z_len => k_is)
    (case z_list => k_is)
    (case z_max => k_is)
    (case z_min => k_is)
    (case z_range => k_is)
    (case z_repr => k_is)
    (case z_sorted => k_is)
    (case z_str => k_is)
    (case z_sum => k_is)
    (case z_tuple => k_is)
    (case y_MAX_ALPHABET => k_is)
    (case y_MAX_PIECES => k_is)
    (case y_MAX_PRICE => k_is)
    (case y_PIECE_SIGNS => k_is)
    (case hcT => rfl)
    (case lcT => k_is)
    (case pvT => rfl)
    (case npT => kernel_rfl)
    (case tbT => exact PySem.W.km_tabs_of Y _ (by decide))
    (case cdT => kernel_rfl)
#print axioms PySem.Challenge.cw_cutbehind_k07_dearer_and_needless_pieces_holds
