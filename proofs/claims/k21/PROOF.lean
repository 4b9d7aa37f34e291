import PyProof.Rows.All
import Wide.All
import OpenK.AllK
import Wide.FinOn
import PyProof.EqAt
import PyProof.EqKinds
import PyProof.TupleCall
import HandS.ForMost
import HandS.Wide
import HandS.IsInst
import HandS.Walk
import HandS.Style
import HandS.More
import HandS.TupAny
import HandS.TupMul
import HandS.Set
import HandS.SetTxt0
import HandS.SetTxtIn
import HandS.SetFor
import HandS.DictComp
import HandS.ListItems
import HandS.Property
import KE.KDictCopyH
import HandS.Codes
import HandS.DictTup
import KE.KSortTup
import PyProof.Rows.SortKeyStr
import HandS.OwnEq
import HandS.Deep
import KE.KOpsOwn
import PyProof.TupleKey
import PyProof.DictRoadsH
import PyProof.DictStraight
import HandS.Base
import HandS.Dict
import KE.KDictDisplayH
import KE.SortData
import KE.OsSortAny
import KE.KCallOwn
import PyProof.NeKinds
import HandS.Small
import HandS.Star
import PySem.Challenge.RW_cutbehind_k21_whole_fronts_decide_all_co
set_option Elab.async false
set_option linter.all false
set_option maxRecDepth 100000
set_option maxHeartbeats 4000000
/-! The part that every claim shares: defs that are run where no repr is under way (FnG), and rules for what the hand layer lacks. -/
namespace G
open PySem PySem.Spec PyProof.Rows L2
/-! ### a def's promise where no guarded builtin is running -/
structure FnG (P : Program) (w : World) (K : PySem.W.Frag) (mg : Str → Option Value) (base : Heap) (CX : CXT) (k : Nat) (f : Addr) (fd : FuncData) (ps : List Str) (sp : Sp) : Prop where
  cnt : ∀ {vs H Q E}, sp vs H Q E → vs.length = ps.length
  go : ∀ {A : Around} {outer : List Env} {s : Shared} {H : Hp} {args : Args} {us : List Value} {vs : List V} {Q : VK} {E : XK}, A.guards = some [] → Room k A → Env0 P w K mg base A outer s H →
    BindsTo s fd args (ps.zip us) → Vals vs us → sp vs H Q E → codeAny (model P w) A (.call (.ref f) args) (CR CX outer P w H s Q E) s
section
variable {P : Program} {w : World} {K : PySem.W.Frag} {mg : Str → Option Value} {base : Heap} {CX : CXT} {k : Nat} {f : Addr} {fd : FuncData} {ps : List Str} {sp : Sp}
theorem FnG.of (F : FnOk P w K mg base CX k f fd ps sp) : FnG P w K mg base CX k f fd ps sp :=
  ⟨fun h => F.len _ _ _ _ h, fun {A outer s H args us vs Q E} _ hr e0 hb hv hs => F.run A outer s H args us vs Q E hr e0 hb hv hs⟩
theorem FnG.mono {j : Nat} (F : FnG P w K mg base CX j f fd ps sp) (h : j ≤ k) : FnG P w K mg base CX k f fd ps sp :=
  ⟨F.cnt, fun hg hr => F.go hg (hr.mono h)⟩
end
/-- the rule for a def of the text, by its body; the body's reader is told that nothing guarded runs -/
theorem fn_gK {CX : CXT} {P : Program} {w : World} {K : PySem.W.Frag} {mg : Str → Option Value} {base : Heap} {k : Nat} {f : Addr} {x qual : Str} {st : Stmt} {fd : FuncData} {N ps : List Str} {sp : Sp}
    (F : Fun K x qual st f fd) (S : FnScope N ps (defScope st)) (cnt : ∀ vs H Q E, sp vs H Q E → vs.length = ps.length)
    (body : ∀ (cdv : Value), fd.code = cdv → ∀ (A : Around) (outer : List Env) (s : Shared) (H : Hp) (vs : List V) (Q : VK) (E : XK), (A.deeper (envOfC qual (defScope st) s.heap.objs.size f cdv)).guards = some [] →
      Room k (A.deeper (envOfC qual (defScope st) s.heap.objs.size f cdv)) → sp vs H Q E →
      ∃ t, PSs (cxOf CX P w K mg base N qual (defScope st) f cdv A outer s H E) (defBody st) t ∧ t { nx := fun _ H' => Q .non H', rt := Q } (start N vs) H) :
    FnG P w K mg base CX (k + 1) f fd ps sp := by
  obtain ⟨oc, od, kV, doc, pm, an, cdv, ct, osl, hfd, look, code⟩ := F.ex
  subst hfd
  refine ⟨fun h => cnt _ _ _ _ h, ?_⟩
  intro A outer s H args us vs Q E hg room env0 hbind hvals want
  have kin : K.In s.heap := env0.mod.kin.keeps fun b o q => (env0.bs b o q).1
  have nolim : s.heap.NoLimit := env0.mod.nolimit.keeps fun b o q => (env0.bs b o q).1
  have kinds : ∀ y ∈ ps.zip us, (defScope st).names.lookup y.1 = some .local ∨ ((defScope st).names.lookup y.1 = some .cell ∧ ((cellsFrom (s.heap.objs.size + 1) (defScope st).names []).lookup y.1).isSome = true) := by
    rintro ⟨n, v⟩ hy
    cases S.par n (List.of_mem_zip hy).1 with
    | inl q => exact Or.inl q
    | inr q => exact Or.inr ⟨q, PySem.W.cellsFrom_some _ _ _ (Or.inl q)⟩
  refine codeAny_call_function room.depth (kin _ _ look) rfl S.co S.gen rfl (PySem.W.codeRec_of kin code) (hbind _ _ _ _ ?_)
  refine wpAny_newFunctionEnv_cells S.kind kinds ?_
  intro env he s1 z
  subst he
  refine ⟨nolim.keeps z.toInCall.keep, codeAny_func ?_⟩
  obtain ⟨t, ht, hq⟩ := body cdv rfl A outer s H vs Q E hg (room.deeper _) want
  have I0 := inv_start (CX := CX) (P := P) (w := w) (mg := mg) (base := base) (qual := qual) (E := E) S room.hd env0 (cnt _ _ _ _ want) hvals z
  refine wpAny_mono (ht.run [] s1 (start N vs) H _ I0 hq) ?_ (fun _ _ q => q)
  intro fl s' hs
  cases fl with
  | ret u =>
    obtain ⟨v, σ', H', J, rv, q⟩ := hs
    exact ⟨v, H', J.os, J.bare, J.base, J.hok, rv, q⟩
  | next =>
    obtain ⟨σ', H', J, q⟩ := hs
    exact ⟨V.non, H', J.os, J.bare, J.base, J.hok, rfl, q⟩
  | brk => exact hs.elim fun _ z => z.elim fun _ z => False.elim z.2
  | cont => exact hs.elim fun _ z => z.elim fun _ z => False.elim z.2
theorem fn_g {CX : CXT} {P : Program} {w : World} {K : PySem.W.Frag} {mg : Str → Option Value} {base : Heap} {k : Nat} {f : Addr} {x qual : Str} {st : Stmt} {fd : FuncData} {N ps : List Str} {sp : Sp}
    (F : Fun K x qual st f fd) (S : FnScope N ps (defScope st)) (cnt : ∀ vs H Q E, sp vs H Q E → vs.length = ps.length)
    (body : ∀ (cdv : Value) (A : Around) (outer : List Env) (s : Shared) (H : Hp) (vs : List V) (Q : VK) (E : XK), (A.deeper (envOfC qual (defScope st) s.heap.objs.size f cdv)).guards = some [] →
      Room k (A.deeper (envOfC qual (defScope st) s.heap.objs.size f cdv)) → sp vs H Q E →
      ∃ t, PSs (cxOf CX P w K mg base N qual (defScope st) f cdv A outer s H E) (defBody st) t ∧ t { nx := fun _ H' => Q .non H', rt := Q } (start N vs) H) :
    FnG P w K mg base CX (k + 1) f fd ps sp := fn_gK F S cnt fun cdv _ => body cdv
/-- a def that lets nothing out, its code object known -/
theorem fn_gC {P : Program} {w : World} {K : PySem.W.Frag} {mg : Str → Option Value} {base : Heap} {k : Nat} {f c : Addr} {x qual : Str} {st : Stmt} {fd : FuncData} {N ps : List Str} {sp : Sp}
    (F : Fun K x qual st f fd) (hc : fd.code = .ref c) (S : FnScope N ps (defScope st)) (cnt : ∀ vs H Q E, sp vs H Q E → vs.length = ps.length)
    (body : ∀ (A : Around) (outer : List Env) (s : Shared) (H : Hp) (vs : List V) (Q : VK) (E : XK), (A.deeper (envOfC qual (defScope st) s.heap.objs.size f (.ref c))).guards = some [] →
      Room k (A.deeper (envOfC qual (defScope st) s.heap.objs.size f (.ref c))) → sp vs H Q E →
      ∃ t, PSs (cxOf CX0 P w K mg base N qual (defScope st) f (.ref c) A outer s H E).nox (defBody st) t ∧ t { nx := fun _ H' => Q .non H', rt := Q } (start N vs) H) :
    FnG P w K mg base CX0 (k + 1) f fd ps sp := fn_gK F S cnt fun cdv e A outer s H vs Q E hg hr h => by
  rw [hc] at e
  subst e
  obtain ⟨t, ht, hq⟩ := body A outer s H vs Q E hg hr h
  exact ⟨t, ht.nox, hq⟩
/-- a def that lets nothing out -/
theorem fn_g0 {P : Program} {w : World} {K : PySem.W.Frag} {mg : Str → Option Value} {base : Heap} {k : Nat} {f : Addr} {x qual : Str} {st : Stmt} {fd : FuncData} {N ps : List Str} {sp : Sp}
    (F : Fun K x qual st f fd) (S : FnScope N ps (defScope st)) (cnt : ∀ vs H Q E, sp vs H Q E → vs.length = ps.length)
    (body : ∀ (cdv : Value) (A : Around) (outer : List Env) (s : Shared) (H : Hp) (vs : List V) (Q : VK) (E : XK), (A.deeper (envOfC qual (defScope st) s.heap.objs.size f cdv)).guards = some [] →
      Room k (A.deeper (envOfC qual (defScope st) s.heap.objs.size f cdv)) → sp vs H Q E →
      ∃ t, PSs (cxOf CX0 P w K mg base N qual (defScope st) f cdv A outer s H E).nox (defBody st) t ∧ t { nx := fun _ H' => Q .non H', rt := Q } (start N vs) H) :
    FnG P w K mg base CX0 (k + 1) f fd ps sp := fn_g F S cnt fun cdv A outer s H vs Q E hg hr h => by
  obtain ⟨t, ht, hq⟩ := body cdv A outer s H vs Q E hg hr h
  exact ⟨t, ht.nox, hq⟩

/-! ### a def as its callers use it -/
structure Has (P : Program) (w : World) (K : PySem.W.Frag) (mg : Str → Option Value) (base : Heap) (CX : CXT) (k : Nat) (x : Str) (ps : List Str) (sp : Sp) : Prop where
  ex : ∃ f fd, FnG P w K mg base CX k f fd ps sp ∧ mg x = some (.ref f) ∧ PySem.W.keepIn K (.ref f) = true ∧ Binds K fd ps []
theorem Has.mono {P : Program} {w : World} {K : PySem.W.Frag} {mg : Str → Option Value} {base : Heap} {CX : CXT} {j k : Nat} {x : Str} {ps : List Str} {sp : Sp} (F : Has P w K mg base CX j x ps sp) (h : j ≤ k) : Has P w K mg base CX k x ps sp := by
  obtain ⟨f, fd, G, r⟩ := F.ex
  exact ⟨f, fd, G.mono h, r⟩
theorem Has.mk' {P : Program} {w : World} {K : PySem.W.Frag} {mg : Str → Option Value} {base : Heap} {CX : CXT} {k : Nat} {x qual : Str} {ps : List Str} {sp : Sp} {f : Addr} {fd : FuncData} {st : Stmt} (F : Fun K x qual st f fd) (hm : mg x = some (.ref f)) (hb : Binds K fd ps [])
    (G : FnG P w K mg base CX k f fd ps sp) : Has P w K mg base CX k x ps sp := ⟨f, fd, G, hm, F.kp, hb⟩
section
variable {X : Cx} {CX : CXT} {k : Nat} {x : Str} {ps : List Str} {sp : Sp} {E : XK} {p pos : Pos} {e : Expr} {es : List Expr} {t : TA}
theorem run_g {f : Addr} {fd : FuncData} {pins : List (Addr × Obj)} {σ : L2.St} {H : Hp} {s : Shared} {Q : VK} {us : List Value} {vs : List V} (F : FnG X.prog X.w X.K X.mg X.base CX k f fd ps sp) (hg : X.A.guards = some []) (hr : Room k X.A) (hb : Binds X.K fd ps []) (hx : Passes CX X E)
    (I : Inv X pins σ H s) (r : Vals vs us) (h : sp vs H Q E) : wpAny (model X.prog X.w) X.A (call (.ref f) us) (EP X pins σ Q) X.xe s := by
  have hl : (us ++ []).length = ps.length := by
    rw [List.append_nil, ← r.length]
    exact F.cnt h
  have hb' := hb s us I.kIn hl
  rw [List.append_nil] at hb'
  refine wpAny_call (codeAny_mono (F.go hg hr I.env0 hb' r h) ?_)
  intro res s' q
  cases res with
  | error err => exact hx pins σ H s err s' I q
  | ok fl =>
    cases fl with
    | ret u => exact I.after q
    | next => exact q.elim
    | brk => exact q.elim
    | cont => exact q.elim
theorem pe_has (F : Has X.prog X.w X.K X.mg X.base CX k x ps sp) (hg : X.A.guards = some []) (hr : Room k X.A) (hx : Passes CX X E) (ha : PA X (e :: es) t) (hl : Gl X x := by rfl)
    (hdb : (x == ("__debug__" : Str)) = false := by decide) (he : starEach (e :: es) X.env = (false, eval e X.env) :: starEach es X.env := by rfl) (hpl : (backTo pos (starEach es X.env)).any (·.1) = false := by rfl) :
    PE X (.Call (.Name x p) (e :: es) [] pos) (tCall sp [] E t) := by
  obtain ⟨f, fd, G, hm, hk, hb⟩ := F.ex
  constructor
  intro pins s σ H Q I h
  refine wpAny_Call_Name_kw (ld_glob I hl hm ?_ hdb)
  refine PySem.W.callWith_K (h₀ := X.base) I.ok.mod.kin hk (thn (ha.run pos pins s σ H _ I h) ?_) he hpl
  rintro us s1 ⟨vs, H1, I1, r, q⟩
  refine ⟨I1.kIn, run_g G hg hr hb hx I1 r ?_⟩
  have q' : sp (vs ++ []) H1 Q E := q
  rw [List.append_nil] at q'
  exact q'
theorem pe_has0 (F : Has X.prog X.w X.K X.mg X.base CX k x ps sp) (hg : X.A.guards = some []) (hr : Room k X.A) (hx : Passes CX X E) (hl : Gl X x := by rfl) (hdb : (x == ("__debug__" : Str)) = false := by decide) :
    PE X (.Call (.Name x p) [] [] pos) (tCall sp [] E tNil) := by
  obtain ⟨f, fd, G, hm, hk, hb⟩ := F.ex
  constructor
  intro pins s σ H Q I h
  refine wpAny_Call_Name_kw (ld_glob I hl hm ?_ hdb)
  exact PySem.W.callWith_K0 I.kIn hk (run_g (us := []) (vs := []) G hg hr hb hx I .nil h)
end

/-! ### rules for ints of any size, texts, lists, repr -/
section
variable {X : Cx}
def CPowW (i j : Int) : Prop := 0 ≤ j ∧ (Builtin.Int.intBits i : Int) * j ≤ 2 ^ 27
theorem op_powW : OpR X (binaryOp .Pow) (rI CPowW fun i j => .int (i ^ j.toNat)) := by
  intro pins s σ H x y v u Q I rx ry h
  obtain ⟨i, j, rfl, rfl, ⟨h1, h2⟩, q⟩ := h
  obtain ⟨t1, rfl⟩ := rx
  obtain ⟨t2, rfl⟩ := ry
  exact pow_int h1 h2 ⟨V.int _, H, I.tok _, ⟨_, rfl⟩, q⟩
/-- a text said n times, n at least 2 -/
def sRep (z : Str) (n : Nat) : Str := ⟨(List.replicate n z.cps).foldl (· ++ ·) #[]⟩
def rMulS : R2 := fun x y H Q => ∃ (z : Str) (n : Int), x = .str z ∧ y = .int n ∧ 1 < n ∧ n < 2 ^ 40 ∧ 0 < z.length ∧ z.length * n.toNat ≤ sizeLine ∧ Q (.str (sRep z n.toNat)) H
theorem op_mulS : OpR X (binaryOp .Mult) rMulS := by
  intro pins s σ H x y v u Q I rx ry h
  obtain ⟨z, n, rfl, rfl, h1, h2, h3, h4, q⟩ := h
  obtain ⟨t1, rfl⟩ := rx
  obtain ⟨t2, rfl⟩ := ry
  have hz : sizeLine = 16777216 := sizeLine_eq
  have c0 : ¬ n < 1 := by omega
  have c1 : (n == 1 || z.length == 0) = false := by
    have a : (n == 1) = false := beq_eq_false_iff_ne.mpr (by omega)
    have b : (z.length == 0) = false := beq_eq_false_iff_ne.mpr (by omega)
    rw [a, b]
    rfl
  have h5 : (z.length * n.toNat : Nat) ≤ 16777216 := by rw [← hz]; exact h4
  refine PySem.P.mul_str ?_ ?_ ?_ ?_
  · have a : ¬ n < -(2 ^ 63 : Int) := by omega
    have b : ¬ n ≥ 2 ^ 63 := by omega
    rw [decide_eq_false a, decide_eq_false b]
    rfl
  · intro _ _ hgt
    have hn0 : (0 : Int) < n := by omega
    have e1 : (z.length : Int) ≤ 16777216 := by
      have : z.length * 1 ≤ z.length * n.toNat := Nat.mul_le_mul_left _ (by omega)
      omega
    have e2 : (8388608 : Int) ≤ (2 ^ 63 - 1) / n := by
      rw [Int.le_ediv_iff_mul_le hn0]
      have : 8388608 * n < 8388608 * 2 ^ 40 := by omega
      have e3 : (8388608 : Int) * 2 ^ 40 = 2 ^ 63 := by decide
      omega
    have e4 : (z.length : Int) ≤ 8388608 := by
      have : z.length * 2 ≤ z.length * n.toNat := Nat.mul_le_mul_left _ (by omega)
      omega
    omega
  · intro _ _
    unfold Builtin.Str.tooLong
    have : ¬ (z.length * n.toNat) > sizeLine := by omega
    simpa using this
  · rw [if_neg c0, c1]
    exact ⟨by
      show (sRep z n.toNat).length ≤ sizeLine
      exact fits_reps (by unfold Builtin.Str.tooLong; simpa using (show ¬ (z.length * n.toNat) > sizeLine by omega)), ⟨V.str _, H, I.tok _, ⟨_, rfl⟩, q⟩⟩

/-- the signs of a text, each a text -/
def signsV (z : Str) : List V := z.cps.toList.map fun c => V.str ⟨#[c]⟩
def rListS : List V → Hp → VK → Prop := fun xs H Q => ∃ z : Str, xs = [.str z] ∧ z.length ≤ sizeLine ∧ ∀ p, H p = none → Q (.ref p) (upd H p (.lst (signsV z)))
theorem vals_at : ∀ (xs : List V) (us : List Value), us.length = xs.length → (∀ (j : Nat) (u : Value), us[j]? = some u → ∃ x, xs[j]? = some x ∧ RelV x u) → Vals xs us
  | [], [], _, _ => .nil
  | [], _ :: _, n, _ => by cases n
  | _ :: _, [], n, _ => by cases n
  | x :: xs, u :: us, n, at' => by
    obtain ⟨y, ey, ry⟩ := at' 0 u rfl
    cases ey
    refine .cons ry (vals_at xs us (Nat.succ.inj n) ?_)
    intro j v hv
    exact at' (j + 1) v hv
theorem call_list_str (hc : X.calm = true) : CallR X (.type "list") rListS := by
  intro pins s σ H xs us Q I r h
  obtain ⟨z, rfl, hz, q⟩ := h
  obtain ⟨u, rfl, t, rfl⟩ := vals1 r
  refine PySem.call_list_str (I.ok.hd hc) z t ?_ hz
  intro h' tk acc c' keeps at' items
  have lenA : acc.toList.length = (signsV z).length := by
    unfold signsV
    rw [List.length_map, Array.length_toList, Array.length_toList]
    exact items.1
  have va : Vals (signsV z) acc.toList := vals_at _ _ lenA fun j u hu => by
    have hj : acc[j]? = some u := by simpa using hu
    obtain ⟨c, tk2, e1, rfl⟩ := items.2 j u hj
    refine ⟨V.str ⟨#[c]⟩, ?_, ⟨tk2, rfl⟩⟩
    unfold signsV
    have e2 : z.cps.toList[j]? = some c := by simpa using e1
    rw [List.getElem?_map, e2]
    rfl
  have lz : (signsV z).length ≤ sizeLine := by
    unfold signsV
    rw [List.length_map, Array.length_toList]
    exact hz
  refine ⟨.ref s.heap.objs.size, _, I.laid (t' := tk) (o := .lst (signsV z)) keeps (Nat.le_refl _) ?_, rfl, q _ (I.hok.fresh (Nat.le_refl _))⟩
  exact ⟨lz, acc.toList, c', va, by simpa using at'⟩

/-- repr of data of any depth (no dict within) -/
def rRepr (K : PySem.W.Frag) : List V → Hp → VK → Prop := fun xs H Q => ∃ x d, xs = [x] ∧ Dp K H x d ∧ d.showable = true ∧ d.hasDict = false ∧ d.depth ≤ 60 ∧ d.shown.length ≤ sizeLine ∧ Q (.str d.shown) H
theorem call_repr (hg : X.A.guards = some []) (hu : X.A.units + 64 < cLine) : CallR X (.builtin "repr") (rRepr X.K) := by
  intro pins s σ H xs us Q I r h
  obtain ⟨x, d, rfl, hd, hs, hD, hdep, hz, q⟩ := h
  obtain ⟨u, rfl, rx⟩ := vals1 r
  obtain ⟨as, rd⟩ := Dp.reads I d x u hd rx
  have fin : ∀ h' t tk, (∀ b o, s.heap.get? b = some o → h'.get? b = some o) → EP X pins σ Q (.str d.shown t) { s with heap := h', toks := tk } := fun h' t tk keeps =>
    ⟨V.str d.shown, H, I.kept keeps, ⟨t, rfl⟩, q⟩
  cases rd with
  | none =>
    simp only [PyData.shown] at fin
    exact PySem.P.repr_of_none (fin _ _ _ fun _ _ e => e)
  | bool b =>
    simp only [PyData.shown] at fin
    exact PySem.P.repr_of_bool (fin _ _ _ fun _ _ e => e)
  | int i t =>
    simp only [PyData.shown] at fin
    exact PySem.P.repr_of_int (by simpa [PyData.showable] using hs) (fin _ _ _ fun _ _ e => e)
  | str z t =>
    simp only [PyData.shown] at fin hz
    exact PySem.P.repr_of_str (fin _ _ _ fun _ _ e => e) hz
  | list a b c e => exact repr_of_reads' (.list a b c e) hs (PyData.noDict_hsm hD) hg (by omega) (fun _ _ e => e) fin hz
  | tuple a b c e => exact repr_of_reads' (.tuple a b c e) hs (PyData.noDict_hsm hD) hg (by omega) (fun _ _ e => e) fin hz
  | dict a b c e f => cases hD
end

/-! ### the end of a law row, for a law that is run where nothing guarded runs -/
theorem end_g {P : Program} {w : World} {K : PySem.W.Frag} {mg mb : Str → Option Value} {k : Nat} {fa a : Addr} {fd : FuncData} {x : Str} {sp : Sp} {s₁ : Shared} {vs : List Value} {ns : List Int}
    (kin : K.In s₁.heap) (nsM : s₁.heap.Ns mainGlobals mg) (nsB : s₁.heap.Ns builtinsNs mb) (plainB : ∀ x : Str, x ≠ "__name__" → mb x = bootBuiltins x) (nolim : s₁.heap.NoLimit) (gens : s₁.gens = #[])
    (at' : s₁.heap.get? a = some { cls := .type "list", data := .seq vs.toArray }) (areI : IntsAre vs ns) (short : ns.length ≤ sizeLine) (room : Room k callerA)
    (F : ∀ base : Heap, K.In base → base.Ns mainGlobals mg → FnG P w K mg base CX0 k fa fd [x] sp) (bind : ∀ (s : Shared) (u : Value), BindsTo s fd ⟨[u], []⟩ [(x, u)])
    (prom : ∀ H : Hp, Only H → SqL K H a (ns.map V.int) → sp [.ref a] H (fun v _ => v = .bl true) fun _ _ _ => False) :
    codeAny (model P w) callerA (.call (.ref fa) ⟨[.ref a], []⟩) (fun r s' => r = .ok (.ret (.bool true)) ∧ OldK s₁.heap s'.heap ∧ s'.os = s₁.os ∧ AllBare s'.gens) s₁ := by
  have hv := vals_ints areI
  have hlen := areI.length
  have go : ∀ H : Hp, Only H → SqL K H a (ns.map V.int) → HOk P w H s₁.heap → (∀ b, H b ≠ none → b = a) → (H a ≠ none → K.lookup a = none) →
      codeAny (model P w) callerA (.call (.ref fa) ⟨[.ref a], []⟩) (fun r s' => r = .ok (.ret (.bool true)) ∧ OldK s₁.heap s'.heap ∧ s'.os = s₁.os ∧ AllBare s'.gens) s₁ := by
    intro H only sq hok one notK
    have dictFree : ∀ {b : Addr} {o : Obj} {es : Array DictEntry} {ep : Nat}, s₁.heap.get? b = some o → o.data = .dict es ep → H b = none := by
      intro b o es ep e d
      match hb : H b with
      | none => rfl
      | some u =>
        have eb := one b (by rw [hb]; exact fun z => by cases z)
        rw [eb, at'] at e
        cases e
        exact absurd d (fun z => by cases z)
    have nsT : ∀ {b : Addr} {m : Str → Option Value}, s₁.heap.Ns b m → (hidT s₁.heap H).Ns b m := by
      rintro b m ⟨o, es, ep, e, d, rest⟩
      exact ⟨o, es, ep, hidT_get e (dictFree e d), d, rest⟩
    have kinT : K.In (hidT s₁.heap H) := by
      intro b o e
      refine hidT_get (kin b o e) ?_
      match hb : H b with
      | none => rfl
      | some u =>
        have nz : H b ≠ none := by rw [hb]; exact fun z => by cases z
        have eb := one b nz
        rw [eb] at nz e
        rw [notK nz] at e
        cases e
    have modT : Mod K mg (hidT s₁.heap H) := by
      refine ⟨kinT, nsT nsM, ⟨mb, nsT nsB, plainB⟩, ?_⟩
      obtain ⟨mc, l1, l2⟩ := nolim
      exact ⟨mc, nsT l1, l2⟩
    have start0 : Env0 P w K mg (hidT s₁.heap H) callerA [] s₁ H :=
      ⟨rfl, modT, fun _ _ e => of_hidT e, Nat.le_of_eq (hidT_size _ _), trivial, fun _ z => (List.not_mem_nil z).elim, hok, .of_eq gens⟩
    have ran := (F _ kinT (nsT nsM)).go (args := ⟨[.ref a], []⟩) (us := [.ref a]) (vs := [.ref a]) rfl room start0 (bind s₁ (.ref a)) (.cons rfl .nil) (prom H only sq)
    refine codeAny_mono ran ?_
    intro r s' h
    match r, h with
    | .ok (.ret u), ⟨v, H', os, bare, un, hok', rel, val⟩ =>
      have val' : v = .bl true := val
      subst val'
      have eu : u = Value.bool true := rel
      subst eu
      refine ⟨rfl, OldK.of_keep ?_, os, bare⟩
      intro b o e
      match hb : H b with
      | none => exact un.keep b o e hb (fun z => (List.not_mem_nil z).elim) (fun z => (List.not_mem_nil z).elim)
      | some _ =>
        rcases only b with z | ⟨ob, xs, z⟩
        · rw [hb] at z
          cases z
        · have old := (hok b _ z).1
          have new := (hok' b _ (un.frzs b ob _ z)).1
          rw [e] at old
          cases old
          exact new
    | .ok .next, z => exact False.elim z
    | .ok .brk, z => exact False.elim z
    | .ok .cont, z => exact False.elim z
    | .error _, z => exact False.elim z
  match hk : K.lookup a with
  | some o =>
    have e := kin a o hk
    rw [at'] at e
    cases e
    refine go (fun _ => none) (fun _ => Or.inl rfl) (Or.inr ⟨_, vs.toArray, _, hk, rfl, rfl, rfl, ?_, by simpa using hv⟩) (fun _ _ z => by cases z) (fun _ z => absurd rfl z) fun z => absurd rfl z
    rw [List.size_toArray, hlen]
    exact short
  | none =>
    let H1 : Hp := fun b => if b = a then some (.frz { cls := .type "list", data := .seq vs.toArray } (.lst (ns.map V.int))) else none
    have here : H1 a = some (.frz { cls := .type "list", data := .seq vs.toArray } (.lst (ns.map V.int))) := if_pos rfl
    have away : ∀ {b}, b ≠ a → H1 b = none := fun hb => if_neg hb
    refine go H1 (fun b => ?_) (Or.inl (Or.inr ⟨_, here⟩)) (fun b u z => ?_) (fun b z => ?_) fun _ => hk
    · by_cases hb : b = a
      · rw [hb]
        exact Or.inr ⟨_, _, here⟩
      · exact Or.inl (away hb)
    · by_cases hb : b = a
      · rw [hb] at z ⊢
        rw [here] at z
        cases z
        exact ⟨at', by rw [List.length_map]; exact short, vs, _, hv, at'⟩
      · rw [away hb] at z
        cases z
    · by_cases hb : b = a
      · exact hb
      · exact absurd (away hb) z
theorem walk_g {l : PySem.W.OpenLaw} {n k : Nat} {q : Program} {loose : List Str} {XP : (Str → Option Value) → Heap → Prop} {YP : World → Heap → Prop} {d : DefRec} {K : Params → PySem.W.Frag} {sp : PySem.W.Frag → Sp} {x : Str}
    (many : l.most = some n) (fits : n ≤ sizeLine) (plain : d.params.defaults = []) (room : Room k callerA) (hY : ∀ (w : World) (h : Heap), YP w h → (K w.params).In h)
    (F : ∀ (w : World) (mg : Str → Option Value) (fa : Addr) (h : Heap), (K w.params).In h → h.Ns mainGlobals mg → mg d.name = some (.ref fa) →
      ∃ fd : FuncData, (∀ (s : Shared) (u : Value), BindsTo s fd ⟨[u], []⟩ [(x, u)]) ∧ ∀ base : Heap, (K w.params).In base → base.Ns mainGlobals mg → FnG l.prog w (K w.params) mg base CX0 k fa fd [x] (sp (K w.params)))
    (prom : ∀ (K : PySem.W.Frag) (H : Hp) (a : Addr) (ns : List Int), ns.length ≤ n → Only H → SqL K H a (ns.map V.int) → sp K [.ref a] H (fun v _ => v = .bl true) fun _ _ _ => False) :
    PySem.W.WalkO q loose XP YP l.row.toRowW d [] (fun f vs => PySem.call f vs) := by
  refine Att.attach_call many plain ?_
  intro w s₀ s₁ mg mb fa o pm cd doc a vs ns G Y ho hd hcd hmg hobj hints hlen hgens
  obtain ⟨fd, bind, hF⟩ := F w mg fa _ (hY w _ Y) G.T.g hmg
  exact end_g (hY w _ Y) G.T.g G.T.b G.T.builtins G.T.nolimit hgens hobj hints (Nat.le_trans hlen fits) room hF bind fun H only sq => prom _ H a ns hlen only sq
end G
/-! The layer's rules with the written part K named, so that they serve within a comprehension. -/
namespace G
open PySem PySem.Spec PyProof.Rows L2
section
variable {X : Cx} (K : PySem.W.Frag)
theorem g_ix_list (e : X.K = K := by rfl) : IxR X (rIxL K) := by
  subst e
  exact ix_list
theorem g_ix_tup (e : X.K = K := by rfl) : IxR X (rIxT K) := by
  subst e
  exact ix_tup
theorem g_ix_seq (e : X.K = K := by rfl) : IxR X (rIx K) := by
  subst e
  exact ix_seq
def rLenQ : List V → Hp → VK → Prop := fun xs H Q => ∃ p ys, xs = [.ref p] ∧ (SqL K H p ys ∨ SqT K H p ys) ∧ Q (.int (ys.length : Int)) H
theorem g_len_seq (e : X.K = K := by rfl) : CallR X (.builtin "len") (rLenQ K) := by
  subst e
  exact call_len_seq
def rLenG : List V → Hp → VK → Prop := fun xs H Q => ∃ x n, xs = [x] ∧ LenV K x H n ∧ Q (.int (n : Int)) H
theorem g_len (e : X.K = K := by rfl) : CallR X (.builtin "len") (rLenG K) := by
  subst e
  exact call_len
def rListQ : List V → Hp → VK → Prop := fun xs H Q => ∃ p ys, xs = [.ref p] ∧ (SqL K H p ys ∨ SqT K H p ys) ∧ ∀ l, H l = none → Q (.ref l) (upd H l (.lst ys))
theorem g_list_of (e : X.K = K := by rfl) : CallR X (.type "list") (rListQ K) := by
  subst e
  exact call_list_of
def rListAny : List V → Hp → VK → Prop := fun xs H Q => rListS xs H Q ∨ rListQ K xs H Q
theorem g_list_any (hc : X.calm = true) (e : X.K = K := by rfl) : CallR X (.type "list") (rListAny K) := fun pins s σ H xs us Q I r h => by
  rcases h with h | h
  · exact call_list_str hc pins s σ H xs us Q I r h
  · exact g_list_of K e pins s σ H xs us Q I r h
def rDictP : List V → Hp → VK → Prop := fun xs H Q => ∃ (a : Addr) (ps : List Addr) (kvs : List (Key × V)), xs = [.ref a] ∧ SqL K H a (ps.map V.ref) ∧ Paired (fun p kv => SqT K H p [kV kv.1, kv.2]) ps kvs ∧ ∀ p, H p = none → Q (.ref p) (upd H p (.dK (mergeK [] kvs)))
theorem g_dictP (hc : X.calm = true) (e : X.K = K := by rfl) : CallR X (.type "dict") (rDictP K) := by
  subst e
  exact call_dictP hc
def rTupQ : List V → Hp → VK → Prop := fun xs H Q => ∃ p ys, xs = [.ref p] ∧ ((SqL K H p ys ∧ ∀ l, H l = none → Q (.ref l) (upd H l (.tup ys))) ∨ (SqT K H p ys ∧ Q (.ref p) H))
theorem g_tuple_of (e : X.K = K := by rfl) : CallR X (.type "tuple") (rTupQ K) := by
  subst e
  exact call_tuple_of
theorem g_isi (e : X.K = K := by rfl) : CallR X (.builtin "isinstance") (rIsi K) := by
  subst e
  exact call_isi
theorem g_isiT (e : X.K = K := by rfl) : CallR X (.builtin "isinstance") (rIsiT K) := by
  subst e
  exact call_isiT
theorem g_all (hc : X.calm = true) (e : X.K = K := by rfl) : CallR X (.builtin "all") (rAll K) := by
  subst e
  exact cr_all hc
theorem g_any (hc : X.calm = true) (e : X.K = K := by rfl) : CallR X (.builtin "any") (rAny K) := by
  subst e
  exact cr_any hc
theorem g_sum (hc : X.calm = true) (e : X.K = K := by rfl) : CallR X (.builtin "sum") (rSum K) := by
  subst e
  exact cr_sum hc
theorem g_max (hc : X.calm = true) (e : X.K = K := by rfl) : CallR X (.builtin "max") (rMax K) := by
  subst e
  exact cr_max hc
theorem g_min (hc : X.calm = true) (e : X.K = K := by rfl) : CallR X (.builtin "min") (rMin K) := by
  subst e
  exact cr_min hc
theorem g_sortedS (e : X.K = K := by rfl) : CallR X (.builtin "sorted") (rSortedS K) := by
  subst e
  exact cr_sortedS
theorem g_in_seq (e : X.K = K := by rfl) : OpR X (compareOp .In) (rIn K false) := by
  subst e
  exact op_in_seq
theorem g_notIn_seq (e : X.K = K := by rfl) : OpR X (compareOp .NotIn) (rIn K true) := by
  subst e
  exact op_notIn_seq
theorem g_eqD (hu : X.A.units + 64 < cLine) (e : X.K = K := by rfl) : OpR X (compareOp .Eq) (rEqD K) := by
  subst e
  exact op_eqD hu
theorem g_neD (hu : X.A.units + 64 < cLine) (e : X.K = K := by rfl) : OpR X (compareOp .NotEq) (rNeD K) := by
  subst e
  exact op_neD hu
theorem g_sl_list (e : X.K = K := by rfl) : SlR X (rSlL K) := by
  subst e
  exact sl_list
theorem g_sl_tup (e : X.K = K := by rfl) : SlR X (rSlA K) := by
  subst e
  exact sl_tupA
theorem g_repr (hg : X.A.guards = some []) (hu : X.A.units + 64 < cLine) (e : X.K = K := by rfl) : CallR X (.builtin "repr") (rRepr K) := by
  subst e
  exact call_repr hg hu
theorem g_fld {x : Expr} {f : Str} {pos : Pos} {ta : TE} (he : PE X x ta) (hb : attributeBase x f X.env (eval x X.env) = eval x X.env := by rfl) (e : X.K = K := by rfl) : PE X (.Attribute x f pos) (tFld K ta f) := by
  subst e
  exact pe_fld he hb
theorem g_list {tg l : Expr} {tl : TE} (hl : PE X l tl) (e : X.K = K := by rfl) : PI X tg l (iList K tl) := by
  subst e
  exact pi_list hl
theorem g_tuple {tg l : Expr} {tl : TE} (hl : PE X l tl) (e : X.K = K := by rfl) : PI X tg l (iTup K tl) := by
  subst e
  exact pi_tup hl
theorem g_tup {es : List Expr} {k : Nat} {t : TGs} {n : Nat} {pos : Pos} (hc : X.calm = true) (h : PGs X es t) (hn : (assignEach es X.env).length = n := by rfl) (hst : (assignEach es X.env).findIdx? (·.1) = none := by rfl) (e : X.K = K := by rfl) :
    PG X (.Tuple es k pos) (gTup K n t) := by
  subst e
  exact pg_tup hc h hn hst
/-- sep.join(a list or a tuple of texts) -/
def rJoin : V → List V → Hp → VK → Prop := fun x xs H Q => ∃ a p, ∃ ys : List Str, x = .str a ∧ xs = [.ref p] ∧ (SqL K H p (ys.map V.str) ∨ SqT K H p (ys.map V.str)) ∧ (ys.map (·.length)).sum + ys.length * a.length ≤ 16777216 ∧ Q (.str (Txt.join a ys)) H
theorem g_join {o x : Expr} {to te : TE} {apos pos : Pos} (ho : PE X o to) (he : PE X x te) (hs : starEach [x] X.env = [(false, eval x X.env)] := by rfl) (hbase : attributeBase o "join" X.env (eval o X.env) = eval o X.env := by rfl) (hline : (apos.endLine == pos.line) = true := by rfl) (e : X.K = K := by rfl) :
    PE X (.Call (.Attribute o "join" apos) [x] [] pos) (tM1 (rJoin K) to te) := by
  subst e
  exact pe_join ho he hs hbase hline
theorem g_bm0 {T name id : String} {o : Expr} {to : TE} {r : V → List V → Hp → VK → Prop} {apos cpos : Pos} (pa : PlainAttrs T) (slot : Slot T name id) (hty : typeOf (.builtin id) = pure (.type "method_descriptor")) (hm : MtR X id r) (ho : PE X o to)
    (hb : attributeBase o name X.env (eval o X.env) = eval o X.env := by rfl) (hl : (apos.endLine == cpos.line) = true := by rfl) (e : X.K = K := by rfl) : PE X (.Call (.Attribute o name apos) [] [] cpos) (tBM0 K T r to) := by
  subst e
  exact pe_bm0 pa slot hty hm ho hb hl
theorem g_bm {T name id : String} {o x : Expr} {xs : List Expr} {to : TE} {t : TA} {r : V → List V → Hp → VK → Prop} {apos cpos : Pos} (pa : PlainAttrs T) (slot : Slot T name id) (hty : typeOf (.builtin id) = pure (.type "method_descriptor")) (hm : MtR X id r) (ho : PE X o to) (ha : PA X (x :: xs) t)
    (hb : attributeBase o name X.env (eval o X.env) = eval o X.env := by rfl) (hf : ((backTo cpos (starEach (x :: xs) X.env)).all (fun y => !y.1) && (backToKw cpos (keywordEach [] X.env)).all (fun y => y.1.isSome) &&
      decide ((x :: xs).length + ([] : List Keyword).length + (if ([] : List Keyword).isEmpty then 0 else 1) < 30)) = true := by rfl)
    (hl : (apos.endLine == cpos.line) = true := by rfl) (hs : starEach (x :: xs) X.env = (false, eval x X.env) :: starEach xs X.env := by rfl) (hp : (backTo cpos (starEach xs X.env)).any (·.1) = false := by rfl) (e : X.K = K := by rfl) :
    PE X (.Call (.Attribute o name apos) (x :: xs) [] cpos) (tBM K T r to t) := by
  subst e
  exact pe_bm pa slot hty hm ho ha hb hf hl hs hp
end
end G
namespace G
open PySem PySem.Spec PyProof.Rows L2
theorem itT {c : Bool} {A B : Prop} (hc : c = true) (h : A) : if c = true then A else B := by
  rw [if_pos hc]
  exact h
theorem itF {c : Bool} {A B : Prop} (hc : c = false) (h : B) : if c = true then A else B := by
  rw [hc, if_neg Bool.false_ne_true]
  exact h
/-- an if on a Bool that is not known -/
theorem itB {c : Bool} {A B : Prop} (h1 : c = true → A) (h2 : c = false → B) : if c = true then A else B := by
  cases c
  · exact itF rfl (h2 rfl)
  · exact itT rfl (h1 rfl)
/-! ### kinds of values -/
def isStr : V → Bool | .str _ => true | _ => false
def isBl : V → Bool | .bl _ => true | _ => false
def isIntB : V → Bool | .int _ => true | .bl _ => true | _ => false
def Tyd (K : PySem.W.Frag) (H : Hp) (x : V) : Prop := ∃ t, TyX K H x t ∧ PySem.W.kitOne K t (.type "str") = some (isStr x) ∧ PySem.W.kitOne K t (.type "int") = some (isIntB x) ∧ PySem.W.kitOne K t (.type "bool") = some (isBl x)
section
variable {K : PySem.W.Frag} {H : Hp} {x : V}
theorem tyd_of {T : String} {a b c : Bool} (h : TyX K H x (.type T)) (ha : kitB T "str" = some a) (hb : kitB T "int" = some b) (hc : kitB T "bool" = some c) (ea : isStr x = a) (eb : isIntB x = b) (ec : isBl x = c) : Tyd K H x :=
  ⟨_, h, by rw [ea]; exact kit_ty ha, by rw [eb]; exact kit_ty hb, by rw [ec]; exact kit_ty hc⟩
theorem tyd_non  : Tyd K H .non := tyd_of (a := false) (b := false) (c := false) (.base .non) (by decide +kernel) (by decide +kernel) (by decide +kernel) rfl rfl rfl
theorem tyd_bl (b : Bool) : Tyd K H (.bl b) := tyd_of (a := false) (b := true) (c := true) (.base (.bl b)) (by decide +kernel) (by decide +kernel) (by decide +kernel) rfl rfl rfl
theorem tyd_int (i : Int) : Tyd K H (.int i) := tyd_of (a := false) (b := true) (c := false) (.base (.int i)) (by decide +kernel) (by decide +kernel) (by decide +kernel) rfl rfl rfl
theorem tyd_str (z : Str) : Tyd K H (.str z) := tyd_of (a := true) (b := false) (c := false) (.base (.str z)) (by decide +kernel) (by decide +kernel) (by decide +kernel) rfl rfl rfl
theorem tyd_lst {a : Addr} {xs : List V} (h : H a = some (.lst xs)) : Tyd K H (.ref a) := tyd_of (a := false) (b := false) (c := false) (.base (.lst h)) (by decide +kernel) (by decide +kernel) (by decide +kernel) rfl rfl rfl
theorem tyd_tup {a : Addr} {xs : List V} (h : H a = some (.tup xs)) : Tyd K H (.ref a) := tyd_of (a := false) (b := false) (c := false) (.base (.tup h)) (by decide +kernel) (by decide +kernel) (by decide +kernel) rfl rfl rfl
theorem tyd_dK {a : Addr} {kvs : List (Key × V)} (h : H a = some (.dK kvs)) : Tyd K H (.ref a) := tyd_of (a := false) (b := false) (c := false) (.base (.dK h)) (by decide +kernel) (by decide +kernel) (by decide +kernel) rfl rfl rfl
end
/-! ### texts as lists of codes -/
abbrev cs (z : Str) : List Nat := z.cps.toList
theorem cs_len (z : Str) : (cs z).length = z.length := by
  show z.cps.toList.length = z.cps.size
  simp
theorem str_ext {x y : Str} (h : cs x = cs y) : x = y := by
  obtain ⟨a⟩ := x
  obtain ⟨b⟩ := y
  have : a = b := Array.toList_inj.mp h
  rw [this]
theorem cs_app (x y : Str) : cs (x ++ y) = cs x ++ cs y := by
  show (x.cps ++ y.cps).toList = _
  simp
def lett (c : Nat) : Bool := decide (97 ≤ c) && decide (c ≤ 122)
def isWord : V → Bool | .str z => !(cs z).isEmpty && (cs z).all lett | _ => false
def isSign : V → Bool | .str z => decide ((cs z).length = 1) && (cs z).all lett | _ => false
def isText : V → Bool | .str z => decide ((cs z).length ≤ 8000) && (cs z).all lett | _ => false
def isPiece : V → Bool | .str z => decide (1 ≤ (cs z).length) && decide ((cs z).length ≤ 5) && (cs z).all lett | _ => false
def isInteger : V → Bool | .int i => decide (i.natAbs < 10 ^ 60) | _ => false
theorem lt_one {a b : Nat} : decide (([a] : List Nat) < [b]) = decide (a < b) := by
  by_cases h : a < b
  · rw [decide_eq_true h, decide_eq_true (List.cons_lt_cons_iff.mpr (Or.inl h))]
  · rw [decide_eq_false h, decide_eq_false (fun z => ?_)]
    rcases List.cons_lt_cons_iff.mp z with z | ⟨_, z⟩
    · exact h z
    · cases z
theorem lett_eq (c : Nat) : (!decide (([c] : List Nat) < [97])) = decide (97 ≤ c) ∧ (!decide (([122] : List Nat) < [c])) = decide (c ≤ 122) := by
  rw [lt_one, lt_one]
  constructor
  · by_cases h : c < 97
    · rw [decide_eq_true h, decide_eq_false (by omega)]
      rfl
    · rw [decide_eq_false h, decide_eq_true (by omega)]
      rfl
  · by_cases h : 122 < c
    · rw [decide_eq_true h, decide_eq_false (by omega)]
      rfl
    · rw [decide_eq_false h, decide_eq_true (by omega)]
      rfl
theorem abs_lt (i : Int) : decide ((if i < 0 then -i else i) < (10 : Int) ^ (60 : Int).toNat) = isInteger (.int i) := by
  show _ = decide (i.natAbs < 10 ^ 60)
  have e : (10 : Int) ^ (60 : Int).toNat = ((10 ^ 60 : Nat) : Int) := by decide +kernel
  rw [e]
  generalize (10 ^ 60 : Nat) = m
  by_cases h : i.natAbs < m
  · rw [decide_eq_true h, decide_eq_true]
    split <;> omega
  · rw [decide_eq_false h, decide_eq_false]
    split <;> omega
def szV : V → Prop | .str z => z.length ≤ 100000 | _ => True
theorem fits_sz {n : Nat} (h : n ≤ 100000) : n ≤ sizeLine := Nat.le_trans h (by decide)
theorem same_new {H : Hp} {p : Addr} {o : HO} (h : H p = none) : Same H (upd H p o) := fun b u e => by
  rw [upd_ne (ne_of_none e h)]
  exact e
/-- is_integer, is_word and the like: any value, told by a function on values -/
def spIs (K : PySem.W.Frag) (p : V → Bool) : Sp := fun vs H Q _ => ∃ x, vs = [x] ∧ Tyd K H x ∧ szV x ∧ ∀ H', Same H H' → Q (.bl (p x)) H'
theorem v_str_ne {z : Str} : (!decide (V.str z = V.str "")) = !(cs z).isEmpty := by
  by_cases h : cs z = []
  · have e : z = "" := str_ext (by rw [h]; rfl)
    rw [e]
    rfl
  · have e : V.str z ≠ V.str "" := fun q => h (by rw [V.str.inj q]; rfl)
    rw [decide_eq_false e]
    cases hz : cs z with
    | nil => exact absurd hz h
    | cons a l => rfl
theorem v_str_eq {z : Str} : decide (V.str z = V.str "") = (cs z).isEmpty := by
  have := v_str_ne (z := z)
  cases h1 : decide (V.str z = V.str "") <;> cases h2 : (cs z).isEmpty <;> rw [h1, h2] at this <;> first | rfl | cases this
theorem lett_of {c : Nat} (h : decide (97 ≤ c) = true) : lett c = decide (c ≤ 122) := by
  unfold lett
  rw [h]
  rfl
theorem lett_no {c : Nat} (h : decide (97 ≤ c) = false) : lett c = false := by
  unfold lett
  rw [h]
  rfl
theorem one_sign {z : Str} (h : (cs z).length = 1) : ∃ c, z = ⟨#[c]⟩ := by
  match hz : cs z, h with
  | [c], _ => exact ⟨c, str_ext (by rw [hz])⟩
theorem v_len_eq {z : Str} {n : Nat} : decide (V.int (z.length : Int) = V.int (n : Int)) = decide ((cs z).length = n) := by
  rw [cs_len]
  by_cases h : z.length = n
  · rw [decide_eq_true h, decide_eq_true (by rw [h])]
  · rw [decide_eq_false h, decide_eq_false (fun q => h (by have := V.int.inj q; omega))]
theorem v_len_eq1 {z : Str} : decide (V.int (z.length : Int) = V.int 1) = decide ((cs z).length = 1) := v_len_eq (n := 1)
theorem sign_one (c : Nat) : isSign (.str ⟨#[c]⟩) = lett c := by
  show (decide (([c] : List Nat).length = 1) && ([c] : List Nat).all lett) = lett c
  simp
/-! ### a comprehension whose element changes nothing -/
theorem wipe_set {σ : L2.St} {j : Nat} {v : V} : wipe ((wipe σ [j]).set j (some v)) [j] = wipe σ [j] := by
  show ((σ.set j none).set j (some v)).set j none = σ.set j none
  rw [List.set_set, List.set_set]
theorem lcp_str {z : Str} {te : TE} {j : Nat} {σ : L2.St} {H1 : Hp} {D : Addr} {Qd : Hp → Prop} (f : Nat → V) (hz : z.length ≤ sizeLine)
    (hs : ∀ (c : Nat) (acc : List V) (N : VK), c ∈ cs z → N (f c) (upd H1 D (.lst acc)) → te ((wipe σ [j]).set j (some (.str ⟨#[c]⟩))) (upd H1 D (.lst acc)) N) (hd : Qd (upd H1 D (.lst ((cs z).map f)))) :
    ∃ W : Nat → Nat → Hp → Prop, (∃ m, W 0 m (upd H1 D (.lst []))) ∧ ∀ i m H, W i m H →
      ((Its z).stop i H ∧ Qd H) ∨ ((Its z).go i H ∧ ∃ Nx : Hp → Prop, (∀ H', Nx H' → ∃ m', m' < m ∧ W (i + 1) m' H') ∧ ∀ x H', (Its z).yld i H x H' → gName j x (wipe σ [j]) H' fun σ2 H2 => wipe σ2 [j] = wipe σ [j] ∧ tYes σ2 H2 fun b H3 =>
        if b = true then te σ2 H3 fun y H4 => ∃ acc, H4 D = some (.lst acc) ∧ acc.length < sizeLine ∧ Nx (upd H4 D (.lst (acc ++ [y]))) else Nx H3) := by
  have hl := cs_len z
  refine ⟨fun i m H => m = (cs z).length - i ∧ i ≤ (cs z).length ∧ H = upd H1 D (.lst (((cs z).take i).map f)), ⟨_, rfl, Nat.zero_le _, rfl⟩, ?_⟩
  rintro i m H ⟨rfl, hi, rfl⟩
  by_cases hlt : i < (cs z).length
  · have hlt' : i < z.cps.size := by rw [hl] at hlt; exact hlt
    refine .inr ⟨hlt', fun H' => H' = upd H1 D (.lst (((cs z).take (i + 1)).map f)), fun H' e => ⟨(cs z).length - (i + 1), by omega, rfl, hlt, e⟩, ?_⟩
    rintro x H' ⟨rfl, c, hc, rfl⟩
    have hc' : (cs z)[i]? = some c := by simpa [cs] using hc
    refine ⟨wipe_set, hs c _ _ (List.mem_of_getElem? hc') ⟨_, upd_same, ?_, ?_⟩⟩
    · rw [List.length_map, List.length_take]
      omega
    · rw [upd_upd]
      have : (cs z).take (i + 1) = (cs z).take i ++ [c] := by
        rw [List.take_add_one, hc']
        rfl
      rw [this, List.map_append]
      rfl
  · have e : i = (cs z).length := by omega
    refine .inl ⟨by show z.cps.size ≤ i; rw [e, hl]; exact Nat.le_refl _, ?_⟩
    rw [e, List.take_length]
    exact hd

/-! ### the dice of the laws: a list of three ints -/
def Big (i : Int) : Prop := 0 ≤ i ∧ i.natAbs < 2 ^ 2500
/-- dice at l, good for n further rolls -/
def Dice (H : Hp) (l : Addr) (n : Nat) : Prop := ∃ d0 d1 d2 : Int, H l = some (.lst [.int d0, .int d1, .int d2]) ∧ Big d0 ∧ Big d1 ∧ 0 ≤ d2 ∧ d2 + n ≤ 2 ^ 62
/-- all but l is as it was -/
def Kp (l : Addr) (H H' : Hp) : Prop := ∀ b o, H b = some o → b ≠ l → H' b = some o
theorem Kp.refl (l : Addr) (H : Hp) : Kp l H H := fun _ _ e _ => e
theorem Kp.trans {l : Addr} {H H1 H2 : Hp} (a : Kp l H H1) (b : Kp l H1 H2) : Kp l H H2 := fun c o e n => b c o (a c o e n) n
theorem Kp.of {l : Addr} {H H' : Hp} (a : Same H H') : Kp l H H' := fun c o e _ => a c o e
theorem Kp.upd {l : Addr} {H : Hp} {o : HO} : Kp l H (upd H l o) := fun b u e n => by
  rw [upd_ne n]
  exact e
theorem Kp.new {l p : Addr} {H H' : Hp} {o : HO} (a : Kp l H H') (h : H' p = none) : Kp l H (L2.upd H' p o) := a.trans (.of (same_new h))
/-- what was not there ahead may change -/
theorem Kp.mut {l p : Addr} {H H' : Hp} {o : HO} (a : Kp l H H') (h : H p = none) : Kp l H (L2.upd H' p o) := fun b u e n => by
  rw [upd_ne (ne_of_none e h)]
  exact a b u e n
theorem Kp.seq {K : PySem.W.Frag} {l a : Addr} {H H' : Hp} {xs : List V} (k : Kp l H H') (n : a ≠ l) (h : SqL K H a xs) : SqL K H' a xs := by
  rcases h with (h | ⟨o, h⟩) | h
  · exact Or.inl (Or.inl (k _ _ h n))
  · exact Or.inl (Or.inr ⟨o, k _ _ h n⟩)
  · exact Or.inr h
theorem Kp.tup {K : PySem.W.Frag} {l a : Addr} {H H' : Hp} {xs : List V} (k : Kp l H H') (n : a ≠ l) (h : SqT K H a xs) : SqT K H' a xs := by
  rcases h with (h | ⟨o, h⟩) | h
  · exact Or.inl (Or.inl (k _ _ h n))
  · exact Or.inl (Or.inr ⟨o, k _ _ h n⟩)
  · exact Or.inr h
theorem Dice.ne {H : Hp} {l p : Addr} {n : Nat} (d : Dice H l n) (h : H p = none) : p ≠ l := by
  obtain ⟨_, _, _, e, _⟩ := d
  exact (ne_of_none e h).symm
theorem Dice.le {H : Hp} {l : Addr} {n m : Nat} (d : Dice H l n) (h : m ≤ n) : Dice H l m := by
  obtain ⟨d0, d1, d2, e, h0, h1, h2, h3⟩ := d
  exact ⟨d0, d1, d2, e, h0, h1, h2, by omega⟩
theorem Dice.same {H H' : Hp} {l : Addr} {n : Nat} (d : Dice H l n) (s : Same H H') : Dice H' l n := by
  obtain ⟨d0, d1, d2, e, r⟩ := d
  exact ⟨d0, d1, d2, s _ _ e, r⟩
theorem Dice.upd {H : Hp} {l p : Addr} {o : HO} {n : Nat} (d : Dice H l n) (h : p ≠ l) : Dice (L2.upd H p o) l n := by
  obtain ⟨d0, d1, d2, e, r⟩ := d
  exact ⟨d0, d1, d2, by rw [upd_ne h.symm]; exact e, r⟩
theorem big_mod {x : Int} {m : Int} (h : 0 < m) (hm : m.natAbs ≤ 2 ^ 2420) : 0 ≤ x % m ∧ (x % m).natAbs < 2 ^ 2420 := by
  have h1 := Int.emod_nonneg x (by omega : m ≠ 0)
  have h2 := Int.emod_lt_of_pos x h
  refine ⟨h1, ?_⟩
  generalize (2 ^ 2420 : Nat) = M at hm
  omega
theorem pow_mono2 : (2 : Nat) ^ 2420 * 4 + 2 ^ 2420 ≤ 2 ^ 2500 := by decide +kernel
theorem big_of {x : Int} (h0 : 0 ≤ x) (h : x.natAbs < 2 ^ 2420) : Big x := ⟨h0, by
  have := pow_mono2
  generalize (2 ^ 2420 : Nat) = M at *
  generalize (2 ^ 2500 : Nat) = N at *
  omega⟩
theorem big_zero : Big 0 := ⟨Int.le_refl _, by decide +kernel⟩
theorem one_small : (131071 * 64 + 5 : Nat) ≤ 2 ^ 2420 := by decide +kernel
theorem big_seed {x b s : Int} (h0 : 0 ≤ x) (h : x.natAbs < 2 ^ 2420) (hb : 0 ≤ b ∧ b ≤ 1) (hs : 0 ≤ s ∧ s ≤ 64) : Big (2 * x + b + 131071 * s + 3) := by
  have h1 := pow_mono2
  have h2 := one_small
  refine ⟨by omega, ?_⟩
  generalize (2 ^ 2420 : Nat) = M at *
  generalize (2 ^ 2500 : Nat) = N at *
  omega
theorem big_div {x u : Int} (h : Big x) (hu : 1 ≤ u) : Big (x / u) := by
  obtain ⟨h0, h1⟩ := h
  have a := Int.ediv_nonneg h0 (by omega : (0 : Int) ≤ u)
  have b : x / u ≤ x := Int.ediv_le_self u h0
  refine ⟨a, ?_⟩
  generalize (2 ^ 2500 : Nat) = N at *
  omega
/-- an expression with two ways, joined: an int under p on both -/
theorem tif_int {t : TT} {ta tb : TE} {σ : L2.St} {H : Hp} {Q : VK} {c : Bool} (p : Int → Prop) (ht : ∀ N : Bool → Hp → Prop, N c H → t σ H N)
    (ha : c = true → ∀ N : VK, (∀ i, p i → N (.int i) H) → ta σ H N) (hb : c = false → ∀ N : VK, (∀ i, p i → N (.int i) H) → tb σ H N) (hq : ∀ i, p i → Q (.int i) H) : tIf t ta tb σ H Q := by
  refine ht _ ?_
  exact itB (fun e => ha e _ hq) (fun e => hb e _ hq)
/-- _law_dice -/
def spDice (K : PySem.W.Frag) : Sp := fun vs H Q _ => ∃ (a : Addr) (ns : List Int) (s : Int), vs = [.ref a, .int s] ∧ SqL K H a (ns.map V.int) ∧ ns.length ≤ 63 ∧ 0 ≤ s ∧ s ≤ 64 ∧ ∀ l H', H l = none → Same H H' → Dice H' l (2 ^ 60) → Q (.ref l) H'
/-- _law_roll -/
def spRoll : Sp := fun vs H Q _ => ∃ (l : Addr) (u : Int) (n : Nat), vs = [.ref l, .int u] ∧ 1 ≤ u ∧ u ≤ 2 ^ 40 ∧ Dice H l (n + 1) ∧ ∀ r H', 0 ≤ r → r < u → Kp l H H' → Dice H' l n → Q (.int r) H'
/-- what the laws pick from: a list, a tuple, a text -/
inductive Seq (K : PySem.W.Frag) (H : Hp) (l : Addr) : V → List V → Prop
  | lst {a : Addr} {ys : List V} (n : a ≠ l) (h : SqL K H a ys) : Seq K H l (.ref a) ys
  | tup {a : Addr} {ys : List V} (n : a ≠ l) (h : SqT K H a ys) : Seq K H l (.ref a) ys
  | str {z : Str} {ys : List V} (h : z.length ≤ 1000) (e : ys = signsV z) : Seq K H l (.str z) ys
theorem Seq.kp {K : PySem.W.Frag} {H H' : Hp} {l : Addr} {x : V} {ys : List V} (s : Seq K H l x ys) (k : Kp l H H') : Seq K H' l x ys := by
  cases s with
  | lst n h => exact .lst n (k.seq n h)
  | tup n h => exact .tup n (k.tup n h)
  | str h e => exact .str h e
/-- _law_pick -/
def spPick (K : PySem.W.Frag) : Sp := fun vs H Q _ => ∃ (l : Addr) (x : V) (ys : List V) (n : Nat), vs = [.ref l, x] ∧ Seq K H l x ys ∧ ys ≠ [] ∧ ys.length ≤ 1000 ∧ Dice H l (n + 1) ∧ ∀ y H', y ∈ ys → Kp l H H' → Dice H' l n → Q y H'
theorem signsV_len (z : Str) : (signsV z).length = z.length := by
  unfold signsV
  rw [List.length_map, cs_len]

abbrev ch (c : Nat) : Str := ⟨#[c]⟩
abbrev chV (c : Nat) : V := .str (ch c)
def sOf (l : List Nat) : Str := ⟨l.toArray⟩
theorem cs_sOf (l : List Nat) : cs (sOf l) = l := by simp [sOf]
theorem sOf_cs (z : Str) : sOf (cs z) = z := str_ext (cs_sOf _)
theorem sOf_len (l : List Nat) : (sOf l).length = l.length := by rw [← cs_len, cs_sOf]
theorem signsV_eq (z : Str) : signsV z = (cs z).map chV := rfl
theorem joinL_one : ∀ l : List Nat, TL.joinL [] (l.map fun c => [c]) = l
  | [] => rfl
  | [a] => rfl
  | a :: b :: r => by
    show [a] ++ ([] ++ TL.joinL [] ((b :: r).map fun c => [c])) = a :: b :: r
    rw [joinL_one (b :: r)]
    rfl
theorem join_ch (l : List Nat) : Txt.join "" (l.map ch) = sOf l := by
  refine str_ext ?_
  rw [cs_sOf, TL.join_eq]
  have h := TL.tl_join "" (l.map ch)
  rw [List.map_map] at h
  exact h.trans (joinL_one l)
theorem sum_ch (l : List Nat) : ((l.map ch).map (·.length)).sum = l.length := by
  induction l with
  | nil => rfl
  | cons a r ih =>
    rw [List.map_cons, List.map_cons, List.sum_cons, ih]
    show 1 + r.length = r.length + 1
    omega
/-- _law_letters -/
def spLetters (K : PySem.W.Frag) : Sp := fun vs H Q _ => ∃ (l : Addr) (x : V) (cl : List Nat) (m n : Nat), vs = [.ref l, x, .int (m : Int)] ∧ Seq K H l x (cl.map chV) ∧ cl ≠ [] ∧ cl.length ≤ 1000 ∧ m ≤ 10000 ∧ Dice H l (n + m) ∧
  ∀ (zs : List Nat) H', zs.length = m → (∀ c ∈ zs, c ∈ cl) → Kp l H H' → Dice H' l n → Q (.str (sOf zs)) H'

/-! ### what repr shows -/
structure Shw (d : PyData) (k n : Nat) : Prop where
  s : d.showable = true
  h : d.hasDict = false
  dp : d.depth ≤ k
  len : d.shown.length ≤ n
theorem shw_bool (b : Bool) : Shw (.bool b) 0 5 := ⟨by simp [PyData.showable], by simp [PyData.hasDict], by simp [PyData.depth], by cases b <;> simp only [PyData.shown] <;> decide +kernel⟩
theorem shw_none : Shw .none 0 4 := ⟨by simp [PyData.showable], by simp [PyData.hasDict], by simp [PyData.depth], by simp only [PyData.shown]; decide +kernel⟩
theorem shw_int {i : Int} (h : i.natAbs.log2 < 1920) : Shw (.int i) 0 1921 := ⟨by simpa [PyData.showable] using h, by simp [PyData.hasDict], by simp [PyData.depth], by simp only [PyData.shown]; exact int_text_len_1921 h⟩
theorem Shw.le {d : PyData} {k n k' n' : Nat} (a : Shw d k n) (hk : k ≤ k') (hn : n ≤ n') : Shw d k' n' := ⟨a.s, a.h, Nat.le_trans a.dp hk, Nat.le_trans a.len hn⟩
theorem shownAll_map : ∀ ds : List PyData, PyData.shownAll ds = ds.map PyData.shown
  | [] => by simp [PyData.shownAll]
  | d :: r => by simp [PyData.shownAll, shownAll_map r]
theorem textFrom_le : ∀ (ts : List Str) (k : Nat) (acc : Str) (n : Nat), (∀ t ∈ ts, t.length ≤ n) → (textFrom k acc ts).length ≤ acc.length + ts.length * (n + 2)
  | [], k, acc, n, _ => by
    show acc.length ≤ acc.length + 0 * (n + 2)
    omega
  | t :: r, k, acc, n, h => by
    have h1 := textFrom_le r (k + 1) (acc ++ (if k > 0 then ", " else "" : String) ++ t) n fun x hx => h x (List.mem_cons_of_mem _ hx)
    have h2 := h t List.mem_cons_self
    rw [strLen_append, strLen_append] at h1
    have h3 : ((if k > 0 then ", " else "" : String) : Str).length ≤ 2 := by split <;> decide +kernel
    show (textFrom (k + 1) _ r).length ≤ acc.length + (r.length + 1) * (n + 2)
    rw [Nat.add_mul]
    omega
theorem shwAll {ds : List PyData} {k n : Nat} (h : ∀ d ∈ ds, Shw d k n) : PyData.showableAll ds = true ∧ PyData.hasDictAll ds = false ∧ PyData.depthAll ds ≤ k ∧ ∀ t ∈ PyData.shownAll ds, t.length ≤ n := by
  induction ds with
  | nil => exact ⟨by simp [PyData.showableAll], by simp [PyData.hasDictAll], by simp [PyData.depthAll], by simp [PyData.shownAll]⟩
  | cons d r ih =>
    obtain ⟨a1, a2, a3, a4⟩ := h d List.mem_cons_self
    obtain ⟨b1, b2, b3, b4⟩ := ih fun x hx => h x (List.mem_cons_of_mem _ hx)
    refine ⟨by simp [PyData.showableAll, a1, b1], by simp [PyData.hasDictAll, a2, b2], ?_, ?_⟩
    · simp only [PyData.depthAll]
      omega
    · intro t ht
      simp only [PyData.shownAll] at ht
      rcases List.mem_cons.mp ht with rfl | ht
      · exact a4
      · exact b4 t ht
theorem shw_list {ds : List PyData} {k n : Nat} (h : ∀ d ∈ ds, Shw d k n) : Shw (.list ds) (k + 1) (ds.length * (n + 2) + 2) := by
  obtain ⟨b1, b2, b3, b4⟩ := shwAll h
  refine ⟨by simpa [PyData.showable] using b1, by simpa [PyData.hasDict] using b2, by simp only [PyData.depth]; omega, ?_⟩
  simp only [PyData.shown]
  unfold listText
  rw [strLen_append]
  have h1 := textFrom_le _ 0 "[" n b4
  rw [shownAll_map, List.length_map] at h1
  rw [shownAll_map]
  have h2 : ((("[" : String) : Str)).length = 1 := by decide +kernel
  have h3 : ((("]" : String) : Str)).length = 1 := by decide +kernel
  omega
/-- a list of truths as data -/
def dBools (bs : List Bool) : PyData := .list (bs.map PyData.bool)
theorem shw_bools (bs : List Bool) : Shw (dBools bs) 1 (bs.length * 7 + 2) := by
  have h := shw_list (ds := bs.map PyData.bool) (k := 0) (n := 5) fun d hd => by
    obtain ⟨b, _, rfl⟩ := List.mem_map.mp hd
    exact shw_bool b
  rw [List.length_map] at h
  exact h
theorem dpAll_bools {K : PySem.W.Frag} {H : Hp} : ∀ bs : List Bool, DpAll K H (bs.map V.bl) (bs.map PyData.bool)
  | [] => .nil
  | b :: r => .cons (.bl b) (dpAll_bools r)
theorem dp_bools {K : PySem.W.Frag} {H : Hp} {a : Addr} {bs : List Bool} (h : SqL K H a (bs.map V.bl)) : Dp K H (.ref a) (dBools bs) := .lst h (dpAll_bools bs)
/-- repr(a list of truths), as rRepr asks -/
theorem repr_bools {K : PySem.W.Frag} {H : Hp} {a : Addr} {bs : List Bool} {Q : VK} (h : H a = some (.lst (bs.map V.bl))) (hn : bs.length ≤ 1000) (q : Q (.str (dBools bs).shown) H) : rRepr K [.ref a] H Q := by
  obtain ⟨s, hd, dp, len⟩ := shw_bools bs
  exact ⟨_, dBools bs, rfl, dp_bools (SqL.of h), s, hd, by omega, Nat.le_trans len (fits_sz (by omega)), q⟩
theorem mem_all {p : V → Bool} {ys : List V} {y : V} (h : ys.all p = true) (hy : y ∈ ys) : p y = true := List.all_eq_true.mp h y hy
def vIn (lo hi : Int) : V → Bool | .int i => decide (lo ≤ i) && decide (i ≤ hi) | _ => false
theorem vIn_of {lo hi : Int} {y : V} (h : vIn lo hi y = true) : ∃ i, y = .int i ∧ lo ≤ i ∧ i ≤ hi := by
  cases y with
  | int i =>
    have h' : (decide (lo ≤ i) && decide (i ≤ hi)) = true := h
    rw [Bool.and_eq_true] at h'
    exact ⟨i, rfl, of_decide_eq_true h'.1, of_decide_eq_true h'.2⟩
  | _ => cases h
theorem pick_int {lo hi : Int} {ys : List V} {y : V} (h : ys.all (vIn lo hi) = true) (hy : y ∈ ys) : ∃ i, y = .int i ∧ lo ≤ i ∧ i ≤ hi := vIn_of (mem_all h hy)
/-- a promise of a part of a law: it is right, c rolls are made -/
def spRight (c : Nat) : Sp := fun vs H Q _ => ∃ (l : Addr) (n : Nat), vs = [.ref l] ∧ Dice H l (n + c) ∧ ∀ H', Kp l H H' → Dice H' l n → Q (.bl true) H'
/-- is_integer: of any value, no size asked -/
def spIsI (K : PySem.W.Frag) (p : V → Bool) : Sp := fun vs H Q _ => ∃ x, vs = [x] ∧ Tyd K H x ∧ ∀ H', Same H H' → Q (.bl (p x)) H'
theorem Dice.new {H : Hp} {l p : Addr} {o : HO} {n : Nat} (d : Dice H l n) (h : H p = none) : Dice (L2.upd H p o) l n := d.upd (d.ne h)
/-- what a drawn odd value is: of a known kind, as long as it stands, and no integer -/
def OddI (K : PySem.W.Frag) (l : Addr) (H : Hp) (y : V) : Prop := (∀ H', Kp l H H' → Tyd K H' y) ∧ isInteger y = false
theorem isI_near {near r : Int} (h0 : 0 ≤ near + r) (s : Int) (hs : s = 1 ∨ s = -1) : isInteger (.int ((near + r) * s)) = decide (near + r < (10 : Int) ^ (60 : Int).toNat) := by
  show decide (((near + r) * s).natAbs < 10 ^ 60) = _
  have e : (10 : Int) ^ (60 : Int).toNat = ((10 ^ 60 : Nat) : Int) := by decide +kernel
  have e2 : ((near + r) * s).natAbs = (near + r).natAbs := by
    rcases hs with rfl | rfl
    · rw [Int.mul_one]
    · rw [Int.mul_neg, Int.mul_one, Int.natAbs_neg]
  rw [e, e2]
  generalize (10 ^ 60 : Nat) = m
  by_cases h : near + r < (m : Int)
  · rw [decide_eq_true h, decide_eq_true (by omega)]
  · rw [decide_eq_false h, decide_eq_false (by omega)]
theorem log_of {i : Int} (h : i.natAbs < 2 ^ 300) : i.natAbs.log2 < 1920 := Nat.lt_of_lt_of_le (PySem.Flt.log2_lt_of (by decide) h) (by decide)
theorem reprB (bs : List Bool) (hn : bs.length ≤ 1000) : (dBools bs).showable = true ∧ (dBools bs).hasDict = false ∧ (dBools bs).depth ≤ 60 ∧ (dBools bs).shown.length ≤ sizeLine := by
  obtain ⟨s, hd, dp, len⟩ := shw_bools bs
  exact ⟨s, hd, by omega, Nat.le_trans len (fits_sz (by omega))⟩
/-! ### texts made of pieces of texts -/
theorem isText_of {z : Str} (h1 : (cs z).length ≤ 8000) (h2 : ∀ c ∈ cs z, lett c = true) : isText (.str z) = true := by
  show (decide ((cs z).length ≤ 8000) && (cs z).all lett) = true
  rw [decide_eq_true h1, List.all_eq_true.mpr h2]
  rfl
theorem isPiece_of {z : Str} (h2 : ∀ c ∈ cs z, lett c = true) : isPiece (.str z) = (decide (1 ≤ (cs z).length) && decide ((cs z).length ≤ 5)) := by
  show (decide (1 ≤ (cs z).length) && decide ((cs z).length ≤ 5) && (cs z).all lett) = _
  rw [List.all_eq_true.mpr h2, Bool.and_true]
theorem isSign_of {z : Str} (h2 : ∀ c ∈ cs z, lett c = true) : isSign (.str z) = decide ((cs z).length = 1) := by
  show (decide ((cs z).length = 1) && (cs z).all lett) = _
  rw [List.all_eq_true.mpr h2, Bool.and_true]
theorem spoilt {z : Str} {c : Nat} (hc : c ∈ cs z) (h : lett c = false) : isText (.str z) = false ∧ isPiece (.str z) = false ∧ isSign (.str z) = false ∧ isWord (.str z) = false := by
  have e : (cs z).all lett = false := by
    cases q : (cs z).all lett with
    | false => rfl
    | true =>
      rw [List.all_eq_true.mp q c hc] at h
      cases h
  refine ⟨?_, ?_, ?_, ?_⟩
  · show (_ && (cs z).all lett) = false
    rw [e, Bool.and_false]
  · show (_ && (cs z).all lett) = false
    rw [e, Bool.and_false]
  · show (_ && (cs z).all lett) = false
    rw [e, Bool.and_false]
  · show (_ && (cs z).all lett) = false
    rw [e, Bool.and_false]
theorem cs_cut (z : Str) (lo hi : Option Int) : cs (cutS z lo hi) = ((cs z).drop (HT.sIx z.length 0 lo)).take (HT.sIx z.length z.length hi - HT.sIx z.length 0 lo) := by
  unfold cutS
  simp
theorem cut_sub {z : Str} {lo hi : Option Int} {c : Nat} (h : c ∈ cs (cutS z lo hi)) : c ∈ cs z := by
  rw [cs_cut] at h
  exact List.mem_of_mem_drop (List.mem_of_mem_take h)
theorem sIx_pos {n d : Nat} {i : Int} (h : 0 ≤ i) : HT.sIx n d (some i) = min i.toNat n := by
  show (if i < 0 then _ else _) = _
  rw [if_neg (by omega)]
theorem cut_len {z : Str} {a b : Int} (ha : 0 ≤ a) (hab : a ≤ b) (hb : b ≤ z.length) : (cs (cutS z (some a) (some b))).length = (b - a).toNat := by
  rw [cs_cut, sIx_pos ha, sIx_pos (by omega), List.length_take, List.length_drop, cs_len]
  omega
theorem cut_lenFrom {z : Str} {a : Int} (ha : 0 ≤ a) (hb : a ≤ z.length) : (cs (cutS z (some a) none)).length = z.length - a.toNat := by
  rw [cs_cut, sIx_pos ha, List.length_take, List.length_drop, cs_len]
  show min (z.length - _) _ = _
  omega
theorem cut_lenTo {z : Str} {b : Int} (h0 : 0 ≤ b) (hb : b ≤ z.length) : (cs (cutS z none (some b))).length = b.toNat := by
  rw [cs_cut, sIx_pos h0, List.length_take, List.length_drop, cs_len]
  show min (min b.toNat z.length - 0) (z.length - 0) = _
  omega
theorem str_app_len (x y : Str) : (x ++ y).length = x.length + y.length := strLen_append x y
/-- two ways joined, whatever the test and the ways do -/
theorem tif_join {t : TT} {ta tb : TE} {σ : L2.St} {H : Hp} {Q : VK} (P : Hp → Prop) (R : V → Hp → Prop) (ht : ∀ N : Bool → Hp → Prop, (∀ c H1, P H1 → N c H1) → t σ H N)
    (ha : ∀ H1, P H1 → ∀ N : VK, (∀ v H2, R v H2 → N v H2) → ta σ H1 N) (hb : ∀ H1, P H1 → ∀ N : VK, (∀ v H2, R v H2 → N v H2) → tb σ H1 N) (hq : ∀ v H2, R v H2 → Q v H2) : tIf t ta tb σ H Q :=
  ht _ fun c H1 p => itB (fun _ => ha H1 p _ hq) (fun _ => hb H1 p _ hq)
/-- a <= b <= c of known ints, as a value -/
theorem chain_le {ta tb tc : TE} {σ : L2.St} {H : Hp} {Q : VK} {a b c : Int} (ha : ∀ N : VK, N (.int a) H → ta σ H N) (hb : ∀ N : VK, N (.int b) H → tb σ H N) (hc : ∀ N : VK, N (.int c) H → tc σ H N)
    (q : Q (.bl (decide (a ≤ b) && decide (b ≤ c))) H) : tChain (rI0 fun i j => .bl (decide (i ≤ j))) (rI0 fun i j => .bl (decide (i ≤ j))) ta tb tc σ H Q := by
  refine ha _ (hb _ ⟨a, b, rfl, rfl, _, rfl, ?_⟩)
  refine itB (fun e => ?_) (fun e => ?_)
  · refine hc _ ⟨b, c, rfl, rfl, ?_⟩
    rw [e] at q
    exact q
  · rw [e] at q
    exact q
theorem odd_of {z : Str} {o : Nat} (h : (cs z).all (fun c => !lett c) = true) (ho : o ∈ z.cps.toList) : lett o = false := by
  have := List.all_eq_true.mp h o ho
  simpa using this
theorem v_int_eq {a b : Int} : decide (V.int a = V.int b) = decide (a = b) := by
  by_cases h : a = b
  · rw [decide_eq_true h, decide_eq_true (by rw [h])]
  · rw [decide_eq_false h, decide_eq_false (fun q => h (V.int.inj q))]
theorem sz_of' {z : Str} (h : z.length ≤ 100000) : szV (.str z) := h
theorem sign_no {z : Str} (h : (cs z).length ≠ 1) : isSign (.str z) = false := by
  show (decide ((cs z).length = 1) && (cs z).all lett) = false
  rw [decide_eq_false h]
  rfl
theorem piece_no {z : Str} (h : 5 < (cs z).length) : isPiece (.str z) = false := by
  show (decide (1 ≤ (cs z).length) && decide ((cs z).length ≤ 5) && (cs z).all lett) = false
  rw [decide_eq_false (by omega : ¬ (cs z).length ≤ 5), Bool.and_false]
  rfl
theorem ne_self {z : Str} : V.bl (!decide (V.str z = V.str z)) = V.bl false := by
  rw [decide_eq_true rfl]
  rfl
theorem is_self {z : Str} : V.bl (decide (V.str z = V.str z)) = V.bl true := by rw [decide_eq_true rfl]
theorem foldl_cat : ∀ (n : Nat) (a acc : Array Nat), ((List.replicate n a).foldl (· ++ ·) acc).toList = acc.toList ++ (List.replicate n a.toList).flatten
  | 0, a, acc => by simp
  | n + 1, a, acc => by
    rw [List.replicate_succ, List.foldl_cons, foldl_cat n a (acc ++ a), List.replicate_succ, List.flatten_cons]
    simp
theorem cs_rep (z : Str) (n : Nat) : cs (sRep z n) = (List.replicate n (cs z)).flatten := by
  have h := foldl_cat n z.cps #[]
  rw [show (#[] : Array Nat).toList = [] from rfl, List.nil_append] at h
  exact h
theorem rep_mem {z : Str} {n c : Nat} (h : c ∈ cs (sRep z n)) : c ∈ cs z := by
  rw [cs_rep] at h
  obtain ⟨l, hl, hc⟩ := List.mem_flatten.mp h
  rw [List.eq_of_mem_replicate hl] at hc
  exact hc
theorem sum_rep : ∀ n k : Nat, (List.replicate n k).sum = n * k
  | 0, k => by simp
  | n + 1, k => by
    rw [List.replicate_succ, List.sum_cons, sum_rep n k, Nat.add_mul]
    omega
theorem rep_len (z : Str) (n : Nat) : (sRep z n).length = n * z.length := by
  rw [← cs_len, cs_rep, List.length_flatten, List.map_replicate, sum_rep, cs_len]
theorem Kp.sameOf {l : Addr} {H H1 H2 : Hp} (s : Same H H1) (k : Kp l H1 H2) (h : H l = none) : Same H H2 := fun b o e => k b o (s b o e) (ne_of_none e h)
def spLaw (K : PySem.W.Frag) : Sp := fun vs H Q _ => ∃ (a : Addr) (ns : List Int), vs = [.ref a] ∧ SqL K H a (ns.map V.int) ∧ ns.length ≤ 63 ∧ ∀ H', Q (.bl true) H'
/-- how many cells are looked at -/
theorem cells_bound {n : Nat} {m : Int} (hm : 1 ≤ m) : 1 ≤ (if (if (n : Int) < m then (n : Int) else m) > 1 then (if (n : Int) < m then (n : Int) else m) else 1) ∧ (if (if (n : Int) < m then (n : Int) else m) > 1 then (if (n : Int) < m then (n : Int) else m) else 1) ≤ m := by
  split <;> split <;> omega
theorem small1000' {n : Nat} (h : n ≤ 100000) : n < sizeLine := Nat.lt_of_le_of_lt h (by decide)
/-- _law_some: drawn items of a row, each at most once -/
def spSome (K : PySem.W.Frag) : Sp := fun vs H Q _ => ∃ (l : Addr) (x : V) (ys : List V) (m n : Nat), vs = [.ref l, x, .int (m : Int)] ∧ Seq K H l x ys ∧ ys.length ≤ 1000 ∧ m ≤ 1000 ∧ Dice H l (n + m) ∧
  ∀ p zs rest H', H p = none → (zs ++ rest).Perm ys → zs.length = min m ys.length → H' p = some (.lst zs) → Kp l H H' → Dice H' l n → Q (.ref p) H'
theorem ix_pos {n : Nat} {r : Int} (h0 : 0 ≤ r) (h1 : r < n) : seqIndex? r n = some r.toNat := (ixN_seq (n := n) (i := r) (j := r.toNat) (by unfold ixN; rw [if_pos h0, if_pos h1])).1
theorem erase_perm {α : Type} : ∀ {l : List α} {k : Nat} {y : α}, l[k]? = some y → (y :: l.eraseIdx k).Perm l
  | [], k, y, h => by simp at h
  | a :: r, 0, y, h => by
    have e : a = y := by simpa using h
    subst e
    exact List.Perm.refl _
  | a :: r, k + 1, y, h => by
    have ih := erase_perm (l := r) (k := k) (y := y) (by simpa using h)
    show (y :: a :: r.eraseIdx k).Perm (a :: r)
    exact (List.Perm.swap a y _).trans (ih.cons a)
theorem big_cut {x c : Int} (h0 : 0 ≤ x) (h : x.natAbs < 2 ^ 2420) (hc : 0 ≤ c) : Big (if x - c > 0 then x - c else 0) := by
  split
  · refine big_of (by omega) ?_
    generalize (2 ^ 2420 : Nat) = M at h ⊢
    omega
  · exact big_zero
theorem atI_neg {α : Type} {xs : List α} {j : Nat} (h : j < xs.length) : atI xs (-(j : Int) - 1) = xs[xs.length - 1 - j]? := by
  have e : ixN xs.length (-(j : Int) - 1) = some (xs.length - 1 - j) := by
    unfold ixN
    rw [if_neg (by omega), if_pos (by omega)]
    congr 1
    omega
  unfold atI
  rw [e]
  rfl
end G
/-! sorted(set(text)): sets of texts as tracked things. -/
namespace G
open PySem PySem.Spec PyProof.Rows L2 PySem.Froz
def txO (e : Int × Value) : Str := match e.2 with | .str k _ => k | _ => ⟨#[]⟩
/-- the payload holds the texts l, and can be gone through -/
structure SsOk (P : Program) (w : World) (D : SD) (l : List Str) : Prop where
  tx : TxOk P w D l
  pm : (D.1.toList.map txO).Perm l
  ris : Ris D.2.2.place.toList
  led : w.params.followText "set-order" = true ∨ D.2.2.led = true
section
variable {P : Program} {w : World} {A : Around} {E : Value → Shared → Prop} {s : Shared}
theorem SsOk.add {D : SD} {l : List Str} {k : Str} (u : Tok) (O : SsOk P w D l) : SsOk P w (addTx (hashStr w k) (.str k u) D) (k :: l) := by
  have F := add_ok (k := k) u O.tx
  obtain ⟨⟨_, _, _, _⟩, pm, ris, led⟩ := O
  obtain ⟨es, ep, t⟩ := D
  have p1 := layNew_perm t es (hashStr w k) (.str k u)
  have r1 := layNew_ris t es (hashStr w k) (.str k u) ris
  have d1 := layNew_led t es (hashStr w k) (.str k u)
  unfold addTx at F ⊢
  generalize layNew t es (hashStr w k) (.str k u) = Z at p1 r1 d1 F ⊢
  obtain ⟨es1, t1, wd, gv⟩ := Z
  dsimp only at p1 r1 d1 F ⊢
  have r2 : Ris (if t1.plain = true then { t1 with plain := false } else t1).place.toList := by
    split <;> exact r1
  have d2 : (if t1.plain = true then { t1 with plain := false } else t1).led = t.led := by
    split <;> exact d1
  generalize (if t1.plain = true then { t1 with plain := false } else t1) = t2 at r2 d2 F ⊢
  have q1 : (es1.toList.map txO).Perm (k :: l) := by
    refine (p1.map txO).trans ?_
    rw [Array.toList_push, List.map_append]
    exact List.perm_append_comm.trans (List.Perm.cons _ pm)
  have dl : w.params.followText "set-order" = true ∨ t2.led = true := led.imp id fun z => by rw [d2]; exact z
  refine ⟨F, ?_, ?_, ?_⟩
  · unfold tailTx
    split
    · exact ((relayAll_perm t2 es1 _).map txO).trans q1
    · exact q1
  · unfold tailTx
    split
    · exact relayAll_ris t2 es1 _
    · exact r2
  · unfold tailTx
    split
    · exact dl.imp id fun z => by
        show (relayAll t2 es1 _).2.1.led = true
        rw [relayAll_led]
        exact z
    · exact dl
/-- the set of texts at a -/
def SsAt (P : Program) (w : World) (h : Heap) (a : Addr) (l : List Str) : Prop := ∃ D, h.get? a = some (sObj "set" D) ∧ SsOk P w D l
theorem SsAt.at {h h' : Heap} {a : Addr} {l : List Str} (x : SsAt P w h a l) (k : ∀ o, h.get? a = some o → h'.get? a = some o) : SsAt P w h' a l := by
  obtain ⟨D, ho, r⟩ := x
  exact ⟨D, k _ ho, r⟩
theorem ss_hashed {a : Addr} {l : List Str} {k : Str} {u : Tok} {Q : Bool → Shared → Prop} (x : SsAt P w s.heap a l) (room : l.length + 1 < scanBound)
    (h : ∀ b h', Heap.SameBut a s.heap h' → SsAt P w h' a (if k ∈ l then l else k :: l) → Q b { s with heap := h' }) : wpAny (model P w) A (setAddHashed a (.str k u) (hashStr w k)) Q E s := by
  obtain ⟨D, ho, O⟩ := x
  by_cases hk : k ∈ l
  · rw [if_pos hk] at h
    have O' := O
    obtain ⟨⟨el, mem, sz, fit⟩, pm, ris, led⟩ := O'
    obtain ⟨es, ep, t⟩ := D
    have hd : (sObj "set" (es, ep, t)).data = .set es ep t := rfl
    have hkey : (strKind P w).is k (.str k u) = true := is_str k u
    have hs : es.size = l.length := sz
    unfold setAddHashed setAddHashedIn
    refine wpAny_holding (wpAny_bind (wpAny_setState_of ho hd fit ?_))
    dsimp only
    rw [byScan_of rfl (by omega) el]
    simp only [↓reduceIte]
    unfold setAddByScan
    refine wpAny_bind ?_
    refine wpAny_bind (wpAny_rule ?_)
    refine wpAny_bind (wpAny_setScan_of (knd := strKind P w) (k := k) hkey ho hd fit el ?_)
    obtain ⟨e, he, q⟩ := (mem k).mp hk
    cases hf : List.findIdx? (fun e => (strKind P w).is k e.2) es.toList with
    | none =>
      have c := List.findIdx?_eq_none_iff.mp hf e he
      rw [q] at c
      cases c
    | some j =>
      dsimp only
      exact wpAny_pure (wpAny_pure (h false s.heap (Heap.SameBut.refl a s.heap) ⟨_, ho, O⟩))
  · rw [if_neg hk] at h
    exact add_x ho O.tx hk room (h true _ (Heap.SameBut.update s.heap a _) ⟨_, get_upd _ ho rfl, O.add u⟩)
theorem ss_fresh {h : Heap} {a : Addr} (ho : h.get? a = some { cls := .type "set", dict := none, data := .set #[] 0 (.fresh 0 0 (!w.params.followText "set-order")) }) : SsAt P w h a [] :=
  ⟨(#[], 0, .fresh 0 0 (!w.params.followText "set-order")), ho, ⟨.nil rfl, .nil, List.Pairwise.nil, by
    show _ ∨ (!w.params.followText "set-order") = true
    cases w.params.followText "set-order" <;> simp⟩⟩
/-- one text after the other goes into the set -/
theorem ss_loop {I : Addr} {fp wr : List Addr} {G : Array GenState → Array GenState → Prop} {n : Nat} {Pv : Nat → Value → Prop} {St : Nat → Shared → Prop} {R : Result → Shared → Prop}
    (W : WalksS P w A.in1 I fp wr G n Pv St) {S : Addr} (hSf : S ∉ fp) (f : Nat → Str) (hb : n + 1 < scanBound) (hv : ∀ i v, Pv i v → ∃ u, v = .str (f i) u) :
    ∀ (k i : Nat) (s : Shared) (l : List Str), n - i = k → i ≤ n → St i s → SsAt P w s.heap S l → l.Nodup → l.length ≤ i → (∀ y, y ∈ l ↔ ∃ j, j < i ∧ y = f j) →
      (∀ s' l', Moved (S :: wr) G s s' → SsAt P w s'.heap S l' → l'.Nodup → l'.length ≤ n → (∀ y, y ∈ l' ↔ ∃ j, j < n ∧ y = f j) → R (.ok (.ret .none)) s') →
      codeAny (model P w) A (.builtin "set.update.loop" ⟨[.ref S, .ref I], []⟩) R s := by
  have hSw : S ∉ wr := fun h => hSf (W.sub _ h)
  have up : ∀ b ∈ wr, b ∈ S :: wr := fun b hb => List.mem_cons_of_mem _ hb
  intro k
  induction k with
  | zero =>
    intro i s l e hi st x nd ln mem q
    obtain rfl : i = n := by omega
    refine codeAny_builtin F.entry_set_update_loop ?_
    rw [Around.under_plainId F.plain_set_update_loop _]
    refine wpAny_bind (W.done s _ _ st fun s' hm => ?_)
    exact wpAny_pure (q s' l (hm.mono up) (x.at fun o e => hm.heap S o hSw e) nd ln mem)
  | succ k ih =>
    intro i s l e hi st x nd ln mem q
    have lt : i < n := by omega
    refine codeAny_builtin F.entry_set_update_loop ?_
    rw [Around.under_plainId F.plain_set_update_loop _]
    refine wpAny_bind (W.item i s _ _ lt st fun v s' hP st' hm => ?_)
    obtain ⟨u, rfl⟩ := hv i v hP
    have x' := x.at fun o e => hm.heap S o hSw e
    show wpAny _ A.in1 (holding [Value.str (f i) u] (setAdd S (.str (f i) u)) >>= _) _ _ s'
    refine wpAny_bind (wpAny_holding ?_)
    unfold setAdd
    refine wpAny_holding (wpAny_bind ((strKind P w).pyHash (k := f i) (is_str _ _) ?_))
    refine ss_hashed (s := { s' with toks := s'.toks + 1 }) x' (by omega) fun b h' sb x2 => ?_
    refine wpAny_pure ⟨plainId_quiet F.plain_set_update_loop _, ih (i + 1) _ (if f i ∈ l then l else f i :: l) (by omega) lt (W.frame _ s' _ _ st' (Nat.le_succ _) fun b hb o e => ?_) x2 ?_ ?_ ?_ fun s2 l2 m2 y2 n2 ln2 mm2 => ?_⟩
    · rw [sb.2 b fun h => hSf (h ▸ hb)]
      exact e
    · split
      · exact nd
      · rename_i h
        exact List.nodup_cons.mpr ⟨h, nd⟩
    · split
      · omega
      · rw [List.length_cons]
        omega
    · intro y
      have step : (∃ j, j < i + 1 ∧ y = f j) ↔ (∃ j, j < i ∧ y = f j) ∨ y = f i := ⟨fun ⟨j, h1, h2⟩ => by
        rcases Nat.lt_or_ge j i with c | c
        · exact .inl ⟨j, c, h2⟩
        · exact .inr (by rw [h2, show j = i by omega]), fun h => by
        rcases h with ⟨j, h1, h2⟩ | h
        · exact ⟨j, by omega, h2⟩
        · exact ⟨i, by omega, h⟩⟩
      rw [step, ← mem]
      split
      · rename_i h
        exact ⟨.inl, fun z => z.elim id fun e => e ▸ h⟩
      · rw [List.mem_cons]
        exact Or.comm
    · refine q s2 l2 (Moved.trans W.gtrans ((hm.mono up).then_heap (Nat.le_succ _) fun b o hb e => ?_) m2) y2 n2 ln2 mm2
      rw [sb.2 b fun h => hb (h ▸ List.mem_cons_self)]
      exact e
/-- the signs of a text, each once -/
def OnceOf (z : Str) (l : List Str) : Prop := l.Nodup ∧ l.length ≤ z.length ∧ ∀ y, y ∈ l ↔ ∃ c ∈ cs z, y = ch c
theorem once_of {z : Str} {l : List Str} (nd : l.Nodup) (ln : l.length ≤ z.cps.size) (m : ∀ y, y ∈ l ↔ ∃ j, j < z.cps.size ∧ y = ⟨#[z.cps.getD j 0]⟩) : OnceOf z l := by
  refine ⟨nd, ln, fun y => (m y).trans ⟨fun ⟨j, h1, h2⟩ => ⟨z.cps.getD j 0, ?_, h2⟩, fun ⟨c, h1, h2⟩ => ?_⟩⟩
  · have e : z.cps.getD j 0 = z.cps[j] := by simp [Array.getD, h1]
    rw [e]
    exact Array.mem_toList_iff.mpr (Array.getElem_mem h1)
  · obtain ⟨j, hj, e⟩ := List.mem_iff_getElem.mp h1
    have hj' : j < z.cps.size := by simpa [cs] using hj
    refine ⟨j, hj', ?_⟩
    rw [h2, ← e]
    unfold ch
    simp [Array.getD, hj', cs]
end
end G
namespace G
open PySem PySem.Spec PyProof.Rows L2 PySem.Froz
section
variable {P : Program} {w : World} {A : Around} {E : Value → Shared → Prop} {s : Shared}
abbrev emptySet (w : World) : Obj := { cls := .type "set", dict := none, data := .set #[] 0 (.fresh 0 0 (!w.params.followText "set-order")) }
/-- set(z), z a text -/
theorem ss_call {z : Str} {t : Tok} {Q : Value → Shared → Prop} (hh : A.handled = none) (hb : z.cps.size + 1 < scanBound)
    (h : ∀ (h' : Heap) (tk : Nat) l, SsAt P w h' s.heap.objs.size l → OnceOf z l → (∀ b o, s.heap.get? b = some o → h'.get? b = some o) → Q (.ref s.heap.objs.size) { s with heap := h', toks := tk }) :
    wpAny (model P w) A (call (.type "set") [.str z t]) Q E s := by
  obtain ⟨c, tl, hmro⟩ := F.called_set.mro
  have hmade := F.called_set.made
  have hsub := F.called_set.sub
  refine wpAny_call (codeAny_of_tree ?_)
  show wpAny _ _ (callAny (.type "set") _) _ _ _
  refine wpAny_pure ⟨Code.quiet_builtin _ (by decide +kernel), codeAny_builtin F.entry_type_call ?_⟩
  rw [Around.under_plain (weight_type_call_type "set" [.str z t] []) rfl]
  have h1 := F.called_set.notType
  have h2 := F.called_set.canCreate
  have hct := F.typeCall_set_1 (.str z t)
  repeat (any_goals (first | assumption | wp_step))
  refine codeAny_mono (code_set_led1 (.str z t) (E := E) (Q₁ := fun obj s₁ => obj = .ref s.heap.objs.size ∧ s₁ = { s with heap := s.heap.push (emptySet w) }) ⟨rfl, rfl⟩) fun r s₁ hr => ?_
  cases r with
  | error e => exact hr
  | ok fl =>
    cases fl with
    | ret obj =>
      obtain ⟨rfl, rfl⟩ := hr
      have hS : (s.heap.push (emptySet w)).get? s.heap.objs.size = some (emptySet w) := Heap.get?_push_size _ rfl
      have hT : Shared.TypeIs { s with heap := s.heap.push (emptySet w) } (.ref s.heap.objs.size) "set" := ⟨_, hS, rfl⟩
      have hli := F.called_set.init.lookup
      have hbi := F.called_set.init.bind (.ref s.heap.objs.size)
      repeat (any_goals (first | assumption | wp_step))
      refine codeAny_mono (codeAny_call_builtin (R := wants (fun r s₂ => r = .none ∧ ∃ h' tk l, s₂ = { s with heap := h', toks := tk } ∧ SsAt P w h' s.heap.objs.size l ∧ OnceOf z l ∧
          (∀ b o, s.heap.get? b = some o → h'.get? b = some o)) E) F.called_set.init.plain F.entry_set_init (check_set_init_1 hT ?_)) fun r₂ s₂ hr₂ => ?_
      · have anyS : ∀ {A' : Around} {E' : Value → Shared → Prop} {s' : Shared} {Q' : Bool → Shared → Prop}, Q' false s' → wpAny (model P w) A' (Builtin.Frozenset.isAnySet (.str z t)) Q' E' s' := fun q => by
          unfold Builtin.Frozenset.isAnySet orM
          refine wpAny_bind (wpAny_isInstance (typeIs_str _ _ _) PySem.F.sub_str_set ?_)
          exact wpAny_isInstance (typeIs_str _ _ _) PySem.F.sub_str_frozenset q
        have hne : (Value.type "str" == Value.type "dict") = false := by decide
        have hh3 : A.in1.in1.in1.handled = none := by simp [hh]
        unfold Builtin.«set.__init__» noKeywords Builtin.Frozenset.updateFrom
        generalize hPI : pyIter = PI
        generalize hAS : Builtin.Frozenset.isAnySet = AS at anyS
        wp_walk
        refine anyS ?_
        subst hAS
        wp_walk
        subst hPI
        refine wpAny_pyIter_str fun o St hW hst => ?_
        refine wpAny_bind (wpAny_runValue ?_)
        have hz : (s.heap.push (emptySet w)).objs.size = s.heap.objs.size + 1 := Heap.size_push ..
        have hnI : s.heap.objs.size ∉ [(s.heap.push (emptySet w)).objs.size] := by
          rw [hz, List.mem_singleton]
          omega
        refine ss_loop (P := P) (w := w) ((hW _ hh3).toS) hnI (fun i => ⟨#[z.cps.getD i 0]⟩) hb (fun i v hv => ?_) (z.cps.size - 0) 0 _ [] (by omega) (Nat.zero_le _) hst (ss_fresh (Heap.get?_push_of_some _ hS)) .nil (Nat.le_refl _) (fun y => ⟨fun h => (List.not_mem_nil h).elim, fun ⟨j, h, _⟩ => absurd h (Nat.not_lt_zero _)⟩) fun s' l hm x nd ln mem => ?_
        · obtain ⟨c, u, hc, rfl⟩ := hv
          refine ⟨u, ?_⟩
          congr 3
          simp [Array.getD, (Array.getElem?_eq_some_iff.mp hc).1, ← (Array.getElem?_eq_some_iff.mp hc).2]
        · obtain ⟨h', g2, d', tk', os'⟩ := s'
          have eg : g2 = s.gens := hm.gens
          have ed : d' = s.drawn := hm.drawn
          have eo : os' = s.os := hm.os
          subst eg; subst ed; subst eo
          refine wpAny_pure ?_
          show wpAny _ _ (ret Value.none) _ _ _
          refine wpAny_pure ⟨rfl, h', tk', l, rfl, x, once_of nd ln mem, fun b o' e => ?_⟩
          have b0 := Heap.lt_size e
          refine hm.heap b o' (fun hb => ?_) (Heap.get?_push_of_some _ (Heap.get?_push_of_some _ e))
          rw [hz] at hb
          rcases List.mem_cons.mp hb with z | z
          · exact absurd b0 (by rw [z]; exact Nat.lt_irrefl _)
          · exact absurd b0 (by rw [List.mem_singleton.mp z]; exact Nat.not_lt_of_le (Nat.le_succ _))
      · cases r₂ with
        | error e => exact hr₂
        | ok fl₂ =>
          cases fl₂ with
          | ret r =>
            obtain ⟨rfl, h', tk, l, rfl, x, oz, hk⟩ := hr₂
            repeat (any_goals (first | assumption | wp_step))
            exact h _ _ _ x oz hk
          | _ => exact hr₂.elim
    | _ => exact hr.elim
/-- sorted(a), a a set of texts -/
theorem ss_sorted {a : Addr} {l : List Str} {Q : Value → Shared → Prop} (x : SsAt P w s.heap a l) (hh : A.handled = none) (few : l.length < 64)
    (q : ∀ s' p (out : Array Value) (c : Nat) ys, (∀ b o, s.heap.get? b = some o → s'.heap.get? b = some o) → s'.gens = s.gens → s'.os = s.os → s.heap.objs.size ≤ p → s'.heap.get? p = some (seqObj "list" out c) →
      StrsAre out.toList ys → ys.Perm l → sortedS ys = true → Q (.ref p) s') : wpAny (model P w) A (call (.builtin "sorted") [.ref a]) Q E s := by
  obtain ⟨D, ho, O⟩ := x
  obtain ⟨es, ep, t⟩ := D
  have sz : es.size = l.length := O.tx.sz
  refine Calls.call_function_entry kind_sorted plain_sorted entry_sorted (args_sorted1 _) ?_
  unfold Builtin.«sorted»
  refine wpAny_bind (m := checkCount "sorted" 1 1 _) (wpAny_pure ?_)
  refine wpAny_bind (collect_set (A := A.in1) hh ⟨_, ho, rfl, rfl⟩ O.tx.fit (by show es.size < 4096; omega) O.ris O.led fun s1 vs k1 hz g1 o1 pm => ?_)
  have hlen : vs.length = l.length := by rw [pm.length_eq, List.length_map, Array.length_toList, sz]
  -- what the values say
  have texts : ∀ {vs : List Value}, (∀ v ∈ vs, ∃ e ∈ es.toList, v = e.2) → ∃ ws, StrsAre vs ws ∧ ws = vs.map (fun v => txO (0, v)) := by
    intro vs
    induction vs with
    | nil => exact fun _ => ⟨[], .nil, rfl⟩
    | cons v r ih =>
      intro hv
      obtain ⟨ws, h1, h2⟩ := ih fun u hu => hv u (List.mem_cons_of_mem _ hu)
      obtain ⟨e, he, rfl⟩ := hv v List.mem_cons_self
      obtain ⟨⟨k, hk, _⟩, _⟩ := O.tx.el e he
      obtain ⟨u, hu⟩ := Value.isStrOf_shape hk
      refine ⟨k :: ws, ?_, ?_⟩
      · rw [hu]
        exact .cons k u h1
      · rw [List.map_cons, ← h2, hu]
        rfl
  obtain ⟨ws, hw, ew⟩ := texts fun v hv => by
    obtain ⟨e, he, r⟩ := List.mem_map.mp (pm.mem_iff.mp hv)
    exact ⟨e, he, r.symm⟩
  have pw : ws.Perm l := by
    rw [ew]
    refine (pm.map _).trans ?_
    rw [List.map_map]
    exact O.pm
  refine wpAny_bind (wpAny_newList ?_ (by rw [hlen, sizeLine_eq]; omega))
  have hoL : (s1.heap.push (seqObj "list" vs.toArray 0)).get? s1.heap.objs.size = some (seqObj "list" vs.toArray 0) := Heap.get?_push_size _ rfl
  refine wpAny_bind (wpAny_holding (wpAny_call_entry slot_list_sort ⟨_, hoL, rfl⟩ entry_list_sort (list_sort_treeK strKind_oneLt hoL hw.keysOf (fun v₁ v₂ rest e => keyKind_strs (by rw [← e]; exact hw)) (by rw [hlen]; exact few) fun st' hp hs => ⟨_, rfl, ?_⟩) (args_list_sort _)))
  obtain ⟨ys, a1, a2, a3⟩ := sorted_out_str hw hp hs
  generalize (arrOf st').map (·.2) = out at a1 ⊢
  obtain ⟨c, hc⟩ := sortedHeap_at (vs := vs) (out := out) hoL
  refine wpAny_pure ⟨_, rfl, q _ s1.heap.objs.size out c ys (fun b u e => ?_) g1 o1 hz hc a1 (a2.trans pw) a3⟩
  have e1 := k1 b u e
  have lt := Heap.lt_size e1
  show (sortedHeap (s1.heap.push (seqObj "list" vs.toArray 0)) s1.heap.objs.size vs out).get? b = some u
  rw [sortedHeap_old (Nat.ne_of_lt lt) (by rw [Heap.size_push]; exact Nat.lt_succ_of_lt lt)]
  exact Heap.get?_push_of_some _ e1
end
/-- the set of texts at a, tracked -/
def SsO (P : Program) (w : World) (a : Addr) (l : List Str) : HO := .ext fun h => SsAt P w h a l
theorem ss_new {P : Program} {w : World} {H : Hp} {h : Heap} {a : Addr} {l : List Str} (x : SsAt P w h a l) : ObjOk P w H h a (SsO P w a l) := by
  obtain ⟨D, ho, _⟩ := id x
  exact ⟨x, ⟨_, ho⟩, fun h1 h2 p k => SsAt.at p k⟩
section
variable {X : Cx}
def rSetTx (P : Program) (w : World) : List V → Hp → VK → Prop := fun xs H Q => ∃ z : Str, xs = [.str z] ∧ z.length ≤ 4000 ∧ ∀ p l, H p = none → OnceOf z l → Q (.ref p) (upd H p (SsO P w p l))
theorem cr_setTx (hc : X.calm = true) : CallR X (.type "set") (rSetTx X.prog X.w) := by
  intro pins s σ H xs us Q I r h
  obtain ⟨z, rfl, hz, q⟩ := h
  obtain ⟨u, rfl, t, rfl⟩ := vals1 r
  have hz' : z.cps.size ≤ 4000 := hz
  refine ss_call (P := X.prog) (w := X.w) (I.ok.hd hc) (by unfold scanBound; omega) fun h' tk l x oz k => ?_
  exact ⟨.ref s.heap.objs.size, upd H s.heap.objs.size (SsO X.prog X.w s.heap.objs.size l), I.laid (t' := tk) k (Nat.le_refl _) (ss_new x), rfl, q _ l (I.hok.fresh (Nat.le_refl _)) oz⟩
def rSortTx (P : Program) (w : World) : List V → Hp → VK → Prop := fun xs H Q => ∃ a l, xs = [.ref a] ∧ H a = some (SsO P w a l) ∧ l.length < 64 ∧ ∀ p ys, H p = none → ys.Perm l → sortedS ys = true → Q (.ref p) (upd H p (.lst (ys.map V.str)))
theorem cr_sortTx (hc : X.calm = true) : CallR X (.builtin "sorted") (rSortTx X.prog X.w) := by
  intro pins s σ H vs us Q I r h
  obtain ⟨a, l, rfl, ha, few, q⟩ := h
  have x : SsAt X.prog X.w s.heap a l := (I.hok a _ ha).1
  obtain ⟨u, rfl, ru⟩ := vals1 r
  cases ru
  refine ss_sorted x (I.ok.hd hc) few fun s' p out c ys k g o hp hg hs pm so => ?_
  have hn : H p = none := I.hok.fresh hp
  have hl : (ys.map V.str).length ≤ sizeLine := by rw [List.length_map, pm.length_eq, sizeLine_eq]; omega
  have J : Inv X pins σ (upd H p (.lst (ys.map V.str))) { s with heap := s'.heap, gens := s'.gens, drawn := s'.drawn, toks := s'.toks } :=
    I.call (ch := []) (Un.laid k hp hn) (I.hok.laid k hp ⟨hl, out.toList, c, vals_of_strs hs, hg⟩) (by rw [g]; exact I.bare) (fun _ z => nomatch z)
  have e : s' = { s with heap := s'.heap, gens := s'.gens, drawn := s'.drawn, toks := s'.toks } := by
    cases s'
    cases s
    cases o
    rfl
  rw [e]
  exact ⟨.ref p, _, J, rfl, q p ys hn pm so⟩
end
end G
namespace G
open PySem PySem.Spec PyProof.Rows L2
/-! ### comprehensions over anything that is walked, whose parts leave all that was tracked -/
section
variable {α : Type} {J : It} {G : Hp → Prop} {Y : Nat → Hp → V → Hp → Prop}
theorem take_fm {its : List α} {i : Nat} {a : α} {β : Type} (h : α → Option β) (e : its[i]? = some a) : (its.take (i + 1)).filterMap h = (its.take i).filterMap h ++ (h a).toList := by
  rw [List.take_add_one, e, List.filterMap_append]
  cases hh : h a <;> simp [hh]
theorem lcs (its : List α) (w : Walk J its.length G Y) (h : α → Option V) {g : TG} {tt : TT} {te : TE} {vs : List Nat} {σ : L2.St} {H1 : Hp} {D : Addr} {Qd : Hp → Prop} (hD : H1 D = none) (hz : its.length ≤ 1000000) (hG : ∀ H, Same H1 H → G H)
    (hs : ∀ i a x H H', its[i]? = some a → Same H1 H → Y i H x H' → ∀ (N : VK) (M : Hp → Prop), (∀ v H3, h a = some v → Same H H3 → N v H3) → (∀ H3, h a = none → Same H H3 → M H3) →
      g x (wipe σ vs) H' fun σ2 H2 => wipe σ2 vs = wipe σ vs ∧ tt σ2 H2 fun b H3 => if b = true then te σ2 H3 N else M H3)
    (hd : ∀ H, Same H1 H → H D = some (.lst (its.filterMap h)) → Qd H) :
    ∃ W : Nat → Nat → Hp → Prop, (∃ m, W 0 m (upd H1 D (.lst []))) ∧ ∀ i m H, W i m H →
      (J.stop i H ∧ Qd H) ∨ (J.go i H ∧ ∃ Nx : Hp → Prop, (∀ H', Nx H' → ∃ m', m' < m ∧ W (i + 1) m' H') ∧ ∀ x H', J.yld i H x H' → g x (wipe σ vs) H' fun σ2 H2 => wipe σ2 vs = wipe σ vs ∧ tt σ2 H2 fun b H3 =>
        if b = true then te σ2 H3 fun y H4 => ∃ acc, H4 D = some (.lst acc) ∧ acc.length < sizeLine ∧ Nx (upd H4 D (.lst (acc ++ [y]))) else Nx H3) := by
  refine lc_it w (fun i H => Same H1 H ∧ H D = some (.lst ((its.take i).filterMap h))) ⟨same_new hD, upd_same⟩ (fun i H _ p => hG H p.1) ?_ (fun H p => hd H p.1 (by rw [p.2, List.take_length]))
  rintro i x H H' hi ⟨s, e⟩ y
  obtain ⟨a, ha⟩ : ∃ a, its[i]? = some a := ⟨_, List.getElem?_eq_getElem hi⟩
  have short : ((its.take i).filterMap h).length < sizeLine := by
    have h1 := List.length_filterMap_le h (its.take i)
    rw [List.length_take] at h1
    exact Nat.lt_of_le_of_lt (by omega : _ ≤ 1000000) (by decide)
  refine hs i a x H H' ha s y _ _ (fun v H3 hv s3 => ⟨_, s3 _ _ e, short, fun b o q => ?_, ?_⟩) (fun H3 hv s3 => ⟨s.trans s3, ?_⟩)
  · rw [upd_ne (ne_of_none q hD)]
    exact s3 _ _ (s _ _ q)
  · rw [upd_same, take_fm h ha, hv]
    rfl
  · rw [s3 _ _ e, take_fm h ha, hv]
    show _ = some (HO.lst (_ ++ []))
    rw [List.append_nil]
end
/-- the pairs of a dict, each a new tuple -/
def YKV (kvs : List (Key × V)) : Nat → Hp → V → Hp → Prop := fun i H x H' => ∃ T k v, kvs[i]? = some (k, v) ∧ x = .ref T ∧ H T = none ∧ H' = upd H T (.tup [kV k, v])
theorem walk_kv {d : Addr} {o : Obj} {kvs : List (Key × V)} : Walk (Iti d o kvs) kvs.length (fun H => H d = some (.frz o (.dK kvs))) (YKV kvs) :=
  ⟨fun _ _ hi q => ⟨q, hi⟩, fun _ q => ⟨q, Nat.le_refl _⟩, fun _ _ _ _ _ _ y => y⟩
/-- the end of a body: an object that is not changed any more -/
def tFrz (t : TS) : TS := fun D σ H => t { D with nx := fun σ' H' => ∃ d u, H' d = some u ∧ Mut (some u) ∧ ∀ od, D.nx σ' (upd H' d (.frz od u)) } σ H
theorem pss_frz {X : Cx} {body : List Stmt} {t : TS} (h : PSs X body t) : PSs X body (tFrz t) := by
  refine ⟨fun pins s σ H D I hw => thn (h.run pins s σ H _ I hw) fun f s1 q => ?_⟩
  cases f with
  | next =>
    obtain ⟨σ', H', I1, d, u, hd, mu, k⟩ := q
    obtain ⟨od, I2⟩ := I1.lock hd mu
    exact ⟨σ', _, I2, k od⟩
  | brk => exact q
  | cont => exact q
  | ret v => exact q
/-! ### attributes by name -/
theorem lk_at {k : Str} {v : V} {r : List (Str × V)} : List.lookup k ((k, v) :: r) = some v := by
  have e : (k == k) = true := beq_self_eq_true k
  simp only [List.lookup, e]
theorem lk_by {k g : Str} {v : V} {r : List (Str × V)} (h : (k == g) = false) : List.lookup k ((g, v) :: r) = List.lookup k r := by
  simp only [List.lookup, h]
theorem pf_by {f g : Str} {v x : V} {r : List (Str × V)} (h : ¬ g = f) : putF f v ((g, x) :: r) = (g, x) :: putF f v r := if_neg h
/-! ### books -/
abbrev Ps := List (Str × Int)
def kvOf (ps : Ps) : List (Key × V) := ps.map fun p => (Sum.inr p.1, V.int p.2)
def lens (ps : Ps) : List Int := ps.map fun p => (p.1.length : Int)
def fees (ps : Ps) : List Int := ps.map (·.2)
def sgn (ps : Ps) : List Str := (ps.map (·.1)).filter fun z => decide (z.length = 1)
def IsMax (m : Int) (l : List Int) : Prop := m ∈ l ∧ ∀ y ∈ l, y ≤ m
def bookF (d tp ta : Addr) (L M : Int) : List (Str × V) := [("own_prices", .ref d), ("own_pieces", .ref tp), ("own_alphabet", .ref ta), ("own_longest", .int L), ("own_dearest", .int M)]
structure BookAt (C : Addr) (H : Hp) (b : Addr) (ps : Ps) (L M : Int) (dx d tp ta : Addr) (od : Obj) : Prop where
  ob : H b = some (.ins C dx (bookF d tp ta L M))
  dc : H d = some (.frz od (.dK (kvOf ps)))
  pi : H tp = some (.tup (ps.map fun p => V.str p.1))
  al : H ta = some (.tup ((sgn ps).map V.str))
  lo : IsMax L (lens ps)
  de : IsMax M (fees ps)
theorem BookAt.same {C : Addr} {H H' : Hp} {b : Addr} {ps : Ps} {L M : Int} {dx d tp ta : Addr} {od : Obj} (B : BookAt C H b ps L M dx d tp ta od) (s : Same H H') : BookAt C H' b ps L M dx d tp ta od :=
  ⟨s _ _ B.ob, s _ _ B.dc, s _ _ B.pi, s _ _ B.al, B.lo, B.de⟩
section
variable {d tp ta : Addr} {L M : Int}
theorem bf_prices : (bookF d tp ta L M).lookup ("own_prices" : Str) = some (.ref d) := lk_at
theorem bf_pieces : (bookF d tp ta L M).lookup ("own_pieces" : Str) = some (.ref tp) := (lk_by (by decide +kernel)).trans lk_at
theorem bf_alphabet : (bookF d tp ta L M).lookup ("own_alphabet" : Str) = some (.ref ta) := (lk_by (by decide +kernel)).trans ((lk_by (by decide +kernel)).trans lk_at)
theorem bf_longest : (bookF d tp ta L M).lookup ("own_longest" : Str) = some (.int L) := (lk_by (by decide +kernel)).trans ((lk_by (by decide +kernel)).trans ((lk_by (by decide +kernel)).trans lk_at))
theorem bf_dearest : (bookF d tp ta L M).lookup ("own_dearest" : Str) = some (.int M) := (lk_by (by decide +kernel)).trans ((lk_by (by decide +kernel)).trans ((lk_by (by decide +kernel)).trans ((lk_by (by decide +kernel)).trans lk_at)))
theorem bf_no {m : Str} (h1 : (m == ("own_prices" : Str)) = false) (h2 : (m == ("own_pieces" : Str)) = false) (h3 : (m == ("own_alphabet" : Str)) = false) (h4 : (m == ("own_longest" : Str)) = false) (h5 : (m == ("own_dearest" : Str)) = false) :
    (bookF d tp ta L M).lookup m = none := (lk_by h1).trans ((lk_by h2).trans ((lk_by h3).trans ((lk_by h4).trans ((lk_by h5).trans rfl))))
theorem bf_made : putF "own_dearest" (.int M) (putF "own_longest" (.int L) (putF "own_alphabet" (.ref ta) (putF "own_pieces" (.ref tp) (putF "own_prices" (.ref d) [])))) = bookF d tp ta L M := by
  show putF "own_dearest" (.int M) (putF "own_longest" (.int L) (putF "own_alphabet" (.ref ta) (putF "own_pieces" (.ref tp) [(("own_prices" : Str), .ref d)]))) = _
  rw [pf_by (by decide +kernel)]
  show putF "own_dearest" (.int M) (putF "own_longest" (.int L) (putF "own_alphabet" (.ref ta) [(("own_prices" : Str), .ref d), (("own_pieces" : Str), .ref tp)])) = _
  rw [pf_by (by decide +kernel), pf_by (by decide +kernel)]
  show putF "own_dearest" (.int M) (putF "own_longest" (.int L) [(("own_prices" : Str), .ref d), (("own_pieces" : Str), .ref tp), (("own_alphabet" : Str), .ref ta)]) = _
  rw [pf_by (by decide +kernel), pf_by (by decide +kernel), pf_by (by decide +kernel)]
  show putF "own_dearest" (.int M) [(("own_prices" : Str), .ref d), (("own_pieces" : Str), .ref tp), (("own_alphabet" : Str), .ref ta), (("own_longest" : Str), .int L)] = _
  rw [pf_by (by decide +kernel), pf_by (by decide +kernel), pf_by (by decide +kernel), pf_by (by decide +kernel)]
  rfl
end
/-! ### a def of the program as its callers use it (no word of guards) -/
structure HasO (P : Program) (w : World) (K : PySem.W.Frag) (mg : Str → Option Value) (base : Heap) (CX : CXT) (k : Nat) (x : Str) (ps : List Str) (sp : Sp) : Prop where
  ex : ∃ f fd, FnOk P w K mg base CX k f fd ps sp ∧ mg x = some (.ref f) ∧ PySem.W.keepIn K (.ref f) = true ∧ Binds K fd ps []
section
variable {P : Program} {w : World} {K : PySem.W.Frag} {mg : Str → Option Value} {base : Heap} {CX : CXT} {k : Nat} {x qual : Str} {ps : List Str} {sp : Sp}
theorem HasO.toG (F : HasO P w K mg base CX k x ps sp) : Has P w K mg base CX k x ps sp := by
  obtain ⟨f, fd, G, r⟩ := F.ex
  exact ⟨f, fd, .of G, r⟩
theorem HasO.mk' {f : Addr} {fd : FuncData} {st : Stmt} (F : Fun K x qual st f fd) (hm : mg x = some (.ref f)) (hb : Binds K fd ps []) (G : FnOk P w K mg base CX k f fd ps sp) : HasO P w K mg base CX k x ps sp := ⟨f, fd, G, hm, F.kp, hb⟩
end
section
variable {X : Cx} {CX : CXT} {k : Nat} {x : Str} {ps : List Str} {sp : Sp} {E : XK} {p pos : Pos} {e : Expr} {es : List Expr} {t : TA}
theorem pe_hasO (F : HasO X.prog X.w X.K X.mg X.base CX k x ps sp) (hr : Room k X.A) (hx : Passes CX X E) (ha : PA X (e :: es) t) (hl : Gl X x := by rfl)
    (hdb : (x == ("__debug__" : Str)) = false := by decide) (he : starEach (e :: es) X.env = (false, eval e X.env) :: starEach es X.env := by rfl) (hpl : (backTo pos (starEach es X.env)).any (·.1) = false := by rfl) :
    PE X (.Call (.Name x p) (e :: es) [] pos) (tCall sp [] E t) := by
  obtain ⟨f, fd, G, hm, hk, hb⟩ := F.ex
  exact pe_call G hr hl hm hk hb .nil hx ha hdb he hpl
end
/-! ### a dict that a walk locks -/
theorem unlock {H H' : Hp} {a : Addr} {u : HO} {od : Obj} (h : H a = some u) (s : Same (upd H a (.frz od u)) H') : Same H (upd H' a u) := fun b o e => by
  by_cases hb : b = a
  · rw [hb] at e ⊢
    rw [h] at e
    cases e
    exact upd_same
  · rw [upd_ne hb]
    exact s _ _ (by rw [upd_ne hb]; exact e)
theorem lock_ne {H : Hp} {a D : Addr} {o : HO} (h : upd H a o D = none) : D ≠ a := fun e => by
  rw [e, upd_same] at h
  cases h
theorem lock_free {H : Hp} {a D : Addr} {o : HO} (h : upd H a o D = none) : H D = none := by
  rw [upd_ne (lock_ne h)] at h
  exact h
/-- [elt for piece in a dict of texts for sign in piece], elt a value of the sign alone -/
theorem lc2_ks {kvs : List (Key × V)} {zs : List Str} {te : TE} {j1 j2 : Nat} {σ : L2.St} {H1 : Hp} {D d : Addr} {od : Obj} {Qd : Hp → Prop} (hk : kvs.map (·.1) = zs.map Sum.inr) (f : Nat → V) (hd0 : H1 d = some (.frz od (.dK kvs))) (hD : H1 D = none)
    (hz : ((zs.map cs).flatten).length ≤ 100000) (hw : ∀ v, wipe ((wipe σ [j1, j2]).set j1 (some v)) [j1, j2] = wipe σ [j1, j2])
    (hw1 : ∀ v u, wipe ((wipe ((wipe σ [j1, j2]).set j1 (some v)) [j2]).set j2 (some u)) [j2] = wipe ((wipe σ [j1, j2]).set j1 (some v)) [j2])
    (hv : ∀ v, ((wipe σ [j1, j2]).set j1 (some v))[j1]? = some (some v))
    (hs : ∀ z ∈ zs, ∀ c ∈ cs z, ∀ H, Same H1 H → ∀ N : VK, (∀ H', Same H H' → N (f c) H') → te ((wipe ((wipe σ [j1, j2]).set j1 (some (.str z))) [j2]).set j2 (some (chV c))) H N)
    (hd : ∀ H, Same H1 H → H D = some (.lst ((zs.map cs).flatten.map f)) → Qd H) :
    ∃ W : Nat → Nat → Hp → Prop, (∃ m, W 0 m (upd H1 D (.lst []))) ∧ ∀ i m H, W i m H →
      ((Itk d od kvs).stop i H ∧ Qd H) ∨ ((Itk d od kvs).go i H ∧ ∃ Nx : Hp → Prop, (∀ H', Nx H' → ∃ m', m' < m ∧ W (i + 1) m' H') ∧ ∀ x H', (Itk d od kvs).yld i H x H' → gName j1 x (wipe σ [j1, j2]) H' fun σ2 H2 => wipe σ2 [j1, j2] = wipe σ [j1, j2] ∧ tYes σ2 H2 fun b H3 =>
        if b = true then iStr (tVar j1) σ2 H3 fun J1 H4 => ∃ W1 : Nat → Nat → Hp → Prop, (∃ m, W1 0 m H4) ∧ ∀ j k H, W1 j k H →
          (J1.stop j H ∧ Nx H) ∨ (J1.go j H ∧ ∃ Nx1 : Hp → Prop, (∀ H', Nx1 H' → ∃ k', k' < k ∧ W1 (j + 1) k' H') ∧ ∀ x H', J1.yld j H x H' → gName j2 x (wipe σ2 [j2]) H' fun σ3 H5 => wipe σ3 [j2] = wipe σ2 [j2] ∧ tYes σ3 H5 fun b H6 =>
            if b = true then te σ3 H6 fun y H7 => ∃ acc, H7 D = some (.lst acc) ∧ acc.length < sizeLine ∧ Nx1 (upd H7 D (.lst (acc ++ [y]))) else Nx1 H6)
        else Nx H3) := by
  have len : kvs.length = zs.length := by
    have h := congrArg List.length hk
    rwa [List.length_map, List.length_map] at h
  have keep : ∀ {H : Hp} {o : HO}, Same H1 H → Same H1 (upd H D o) := fun s b o e => by
    rw [upd_ne (ne_of_none e hD)]
    exact s _ _ e
  have part : ∀ (i : Nat) (z : Str), zs[i]? = some z → ∀ j, ((((zs.take i).map cs).flatten.map f) ++ ((cs z).take j).map f).length ≤ 100000 := by
    intro i z hi j
    have e1 : zs = zs.take i ++ z :: zs.drop (i + 1) := by
      obtain ⟨hlt, hz'⟩ := List.getElem?_eq_some_iff.mp hi
      rw [← hz', List.getElem_cons_drop, List.take_append_drop]
    have e2 := hz
    rw [e1, List.map_append, List.flatten_append, List.map_cons, List.flatten_cons, List.length_append, List.length_append] at e2
    rw [List.length_append, List.length_map, List.length_map, List.length_take]
    omega
  refine ⟨fun i m H => m = kvs.length - i ∧ i ≤ kvs.length ∧ Same H1 H ∧ H D = some (.lst (((zs.take i).map cs).flatten.map f)), ⟨_, rfl, Nat.zero_le _, same_new hD, upd_same⟩, ?_⟩
  rintro i m H ⟨rfl, hi, s, e⟩
  have fz := s _ _ hd0
  by_cases hlt : i < kvs.length
  · refine .inr ⟨⟨fz, hlt⟩, fun H' => Same H1 H' ∧ H' D = some (.lst (((zs.take (i + 1)).map cs).flatten.map f)), fun H' q => ⟨kvs.length - (i + 1), by omega, rfl, hlt, q⟩, ?_⟩
    rintro x H' ⟨rfl, k, v, ek, rfl⟩
    obtain ⟨z, hz1⟩ : ∃ z, zs[i]? = some z := ⟨_, List.getElem?_eq_getElem (by omega)⟩
    have ez : k = Sum.inr z := by
      have h1 := congrArg (fun l => l[i]?) hk
      simp only [List.getElem?_map, ek, hz1] at h1
      exact Option.some.inj h1
    subst ez
    have hzm := List.mem_of_getElem? hz1
    refine ⟨hw _, _, hv _, z, rfl, fun j k' H' => k' = (cs z).length - j ∧ j ≤ (cs z).length ∧ Same H1 H' ∧ H' D = some (.lst ((((zs.take i).map cs).flatten.map f) ++ ((cs z).take j).map f)), ⟨_, rfl, Nat.zero_le _, s, by simpa using e⟩, ?_⟩
    rintro j k' H2 ⟨rfl, hj, s2, e2⟩
    have lz := cs_len z
    by_cases hjl : j < (cs z).length
    · refine .inr ⟨by show j < z.cps.size; rw [lz] at hjl; exact hjl, fun H' => Same H1 H' ∧ H' D = some (.lst ((((zs.take i).map cs).flatten.map f) ++ ((cs z).take (j + 1)).map f)), fun H' q => ⟨(cs z).length - (j + 1), by omega, rfl, hjl, q⟩, ?_⟩
      rintro x H3 ⟨rfl, c, hc, rfl⟩
      have hc' : (cs z)[j]? = some c := by simpa [cs] using hc
      refine ⟨hw1 _ _, hs z hzm c (List.mem_of_getElem? hc') _ s2 _ fun H4 s4 => ⟨_, s4 _ _ e2, Nat.lt_of_le_of_lt (part i z hz1 j) (by decide), keep (s2.trans s4), ?_⟩⟩
      rw [upd_same, List.append_assoc]
      congr 3
      have : (cs z).take (j + 1) = (cs z).take j ++ [c] := by
        rw [List.take_add_one, hc']
        rfl
      rw [this, List.map_append]
      rfl
    · have ej : j = (cs z).length := by omega
      subst ej
      refine .inl ⟨by show z.cps.size ≤ _; rw [lz]; exact Nat.le_refl _, s2, ?_⟩
      rw [List.take_length] at e2
      rw [e2]
      have : (zs.take (i + 1)).map cs = (zs.take i).map cs ++ [cs z] := by
        rw [List.take_add_one, hz1, List.map_append]
        rfl
      rw [this, List.flatten_append, List.map_append]
      simp
  · have ei : i = kvs.length := by omega
    subst ei
    refine .inl ⟨⟨fz, Nat.le_refl _⟩, hd H s ?_⟩
    rw [len, List.take_length] at e
    exact e
/-! ### the values of a dict, as a view -/
def vwV (d r : Addr) : HO := .ext fun h => h.IsValuesView r d
section
variable {X : Cx}
theorem mt_values : MtR X "dict.values" (fun x xs H Q => ∃ d kvs, x = .ref d ∧ xs = [] ∧ Rd H d (.dK kvs) ∧ ∀ r, H r = none → Q (.ref r) (upd H r (vwV d r))) := by
  intro pins s σ H x xs v us Q I rx rs h
  obtain ⟨d, kvs, rfl, rfl, hd, q⟩ := h
  cases rx
  cases rs
  obtain ⟨_, low, vs, _, hdo⟩ := dk_rd I.hok hd
  refine call_meetsIn PySem.F.slot_dict_values hdo.typeIs PySem.F.entry_dict_values (PySem.F.args_dict_values_1 _) (meets_dict_values (mixKind X.prog X.w) d low) ⟨⟨vs, hdo⟩, ?_⟩
  have view : (s.heap.push { cls := .type "dict_values", data := .fields #[.ref d] }).IsValuesView s.heap.objs.size d := ⟨_, Heap.get?_push_size _ rfl, rfl, rfl⟩
  refine ⟨.ref s.heap.objs.size, _, I.laid (o := vwV d s.heap.objs.size) (fun _ _ e => Heap.get?_push_of_some _ e) (Nat.le_refl _) ⟨view, ⟨_, Heap.get?_push_size _ rfl⟩, ?_⟩, rfl, q _ (I.hok.fresh (Nat.le_refl _))⟩
  rintro h1 h2 ⟨o, a, b, c⟩ k
  exact ⟨o, k o a, b, c⟩
theorem call_listVw (hc : X.calm = true) : CallR X (.type "list") (fun xs H Q => ∃ r d kvs, xs = [.ref r] ∧ H r = some (vwV d r) ∧ Rd H d (.dK kvs) ∧ ∀ p, H p = none → Q (.ref p) (upd H p (.lst (kvs.map (·.2))))) := by
  intro pins s σ H xs us Q I rs h
  obtain ⟨r, d, kvs, rfl, hr, hd, q⟩ := h
  obtain ⟨u, rfl, ru⟩ := vals1 rs
  cases ru
  obtain ⟨short, low, vs, rel, hdo⟩ := dk_rd I.hok hd
  obtain ⟨ep, at'⟩ := hdo.dictAt
  have view : s.heap.IsValuesView r d := (I.hok r _ hr).1
  have nl : kvs.length = vs.length := rel.length
  refine PySem.W.kdl_call (PySem.W.kdl_values (knd := mixKind X.prog X.w) (kvs := vs) (ep := ep)) (I.ok.hd hc) ⟨view, at'⟩ (by omega) ?_
  intro h' tk acc c' keeps new items
  have va : Vals (kvs.map (·.2)) acc.toList := vals_at _ _ (by rw [Array.length_toList, List.length_map, items.1, nl]) fun j w hw => by
    obtain ⟨k, hk⟩ := items.2 j w (by simpa using hw)
    obtain ⟨p, hp, rp⟩ : ∃ p, kvs[j]? = some p ∧ RelV p.2 w := by
      have jl : j < kvs.length := by
        have := (List.getElem?_eq_some_iff.mp hk).1
        omega
      refine ⟨kvs[j], List.getElem?_eq_getElem jl, ?_⟩
      obtain ⟨y, hy, ry⟩ := LiI.paired_get rel (List.getElem?_eq_getElem jl)
      rw [hk] at hy
      cases hy
      exact ry.2
    exact ⟨p.2, by rw [List.getElem?_map, hp]; rfl, rp⟩
  refine ⟨.ref s.heap.objs.size, _, I.laid (t' := tk) (o := .lst (kvs.map (·.2))) keeps (Nat.le_refl _) ⟨by rw [List.length_map]; exact short, acc.toList, c', va, by simpa using new⟩, rfl, q _ (I.hok.fresh (Nat.le_refl _))⟩
/-- len of a dict, locked or not -/
theorem call_lenF : CallR X (.builtin "len") (fun xs H Q => ∃ a kvs, xs = [V.ref a] ∧ Rd H a (.dK kvs) ∧ Q (.int (kvs.length : Int)) H) := by
  intro pins s σ H xs us Q I rs h
  obtain ⟨a, kvs, rfl, ha, q⟩ := h
  obtain ⟨u, rfl, ru⟩ := vals1 rs
  cases ru
  exact d_len I (by first | exact ha | exact Or.inl ha) fun t s' J => ⟨.int kvs.length, H, J, ⟨t, rfl⟩, q⟩
end
/-! ### what a dict of prices is -/
def inRange (x : V) (a b : Int) : Bool := match x with | .int i => decide (i.natAbs < 10 ^ 60) && (decide (a ≤ i) && decide (i ≤ b)) | _ => false
def isPrice (x : V) : Bool := inRange x 1 99
def keyStrs (kvs : List (Key × V)) : List Str := kvs.filterMap fun kv => match kv.1 with | .inr z => some z | .inl _ => none
def arePrices (kvs : List (Key × V)) : Bool :=
  (decide (1 ≤ (kvs.length : Int)) && decide ((kvs.length : Int) ≤ 12)) && (kvs.all fun kv => isPiece (kV kv.1) && isPrice kv.2) && decide (((keyStrs kvs).filter fun z => decide ((cs z).length = 1)).length ≤ 4) &&
    ((keyStrs kvs).map cs).flatten.all fun c => (valV kvs (Sum.inr (ch c))).isSome
/-- what was tracked is so still, or locked -/
def Sim (H H' : Hp) : Prop := ∀ b o, H b = some o → H' b = some o ∨ ∃ od, H' b = some (.frz od o)
theorem Sim.of {H H' : Hp} (s : Same H H') : Sim H H' := fun b o e => Or.inl (s b o e)
theorem Sim.lock {H : Hp} {a : Addr} {u : HO} {od : Obj} (h : H a = some u) : Sim H (upd H a (.frz od u)) := fun b o e => by
  by_cases hb : b = a
  · rw [hb] at e ⊢
    rw [h] at e
    cases e
    exact Or.inr ⟨od, upd_same⟩
  · exact Or.inl (by rw [upd_ne hb]; exact e)
theorem Sim.then {H H1 H2 : Hp} (a : Sim H H1) (s : Same H1 H2) : Sim H H2 := fun b o e => by
  rcases a b o e with h | ⟨od, h⟩
  · exact Or.inl (s _ _ h)
  · exact Or.inr ⟨od, s _ _ h⟩
theorem Sim.after {H H1 H2 : Hp} (s : Same H H1) (a : Sim H1 H2) : Sim H H2 := fun b o e => a b o (s b o e)
/-- of a known kind, as long as it stands, locked or not -/
def TydS (K : PySem.W.Frag) (H : Hp) (x : V) : Prop := ∀ H', Sim H H' → Tyd K H' x
section
variable {K : PySem.W.Frag} {H : Hp}
theorem TydS.now {x : V} (t : TydS K H x) : Tyd K H x := t H (.of (Same.refl H))
theorem TydS.same {H' : Hp} {x : V} (t : TydS K H x) (s : Same H H') : TydS K H' x := fun H2 z => t H2 (Sim.after s z)
theorem tydS_non : TydS K H .non := fun _ _ => tyd_non
theorem tydS_bl (b : Bool) : TydS K H (.bl b) := fun _ _ => tyd_bl b
theorem tydS_int (i : Int) : TydS K H (.int i) := fun _ _ => tyd_int i
theorem tydS_str (z : Str) : TydS K H (.str z) := fun _ _ => tyd_str z
theorem tydS_lst {a : Addr} {xs : List V} (h : H a = some (.lst xs)) : TydS K H (.ref a) := fun H' z => by
  rcases z a _ h with h | ⟨od, h⟩
  · exact tyd_lst h
  · exact tyd_of (a := false) (b := false) (c := false) (.base (.frz h)) (by decide +kernel) (by decide +kernel) (by decide +kernel) rfl rfl rfl
theorem tydS_tup {a : Addr} {xs : List V} (h : H a = some (.tup xs)) : TydS K H (.ref a) := fun H' z => by
  rcases z a _ h with h | ⟨od, h⟩
  · exact tyd_tup h
  · exact tyd_of (a := false) (b := false) (c := false) (.fTuple h) (by decide +kernel) (by decide +kernel) (by decide +kernel) rfl rfl rfl
theorem tydS_dK {a : Addr} {kvs : List (Key × V)} (h : H a = some (.dK kvs)) : TydS K H (.ref a) := fun H' z => by
  rcases z a _ h with h | ⟨od, h⟩
  · exact tyd_dK h
  · exact tyd_of (a := false) (b := false) (c := false) (.fDict h) (by decide +kernel) (by decide +kernel) (by decide +kernel) rfl rfl rfl
end
def KvOk (K : PySem.W.Frag) (H : Hp) (kvs : List (Key × V)) : Prop := ∀ kv ∈ kvs, szV (kV kv.1) ∧ TydS K H kv.2
theorem tyd_key {K : PySem.W.Frag} {H : Hp} (k : Key) : Tyd K H (kV k) := by
  cases k with
  | inl i => exact tyd_int i
  | inr z => exact tyd_str z
def spWithin (K : PySem.W.Frag) : Sp := fun vs H Q _ => ∃ x a b, vs = [x, .int a, .int b] ∧ Tyd K H x ∧ ∀ H', Same H H' → Q (.bl (inRange x a b)) H'
def spArePrices (K : PySem.W.Frag) : Sp := fun vs H Q _ => ∃ x, vs = [x] ∧
  ((∃ t, TyX K H x t ∧ PySem.W.kitOne K t (.type "dict") = some false ∧ ∀ H', Same H H' → Q (.bl false) H') ∨
   ∃ a kvs, x = .ref a ∧ H a = some (.dK kvs) ∧ kvs.length ≤ 1000 ∧ KvOk K H kvs ∧ ∀ H', Same H H' → Q (.bl (arePrices kvs)) H')
theorem piece_key {k : Key} (h : isPiece (kV k) = true) : ∃ z, k = Sum.inr z ∧ 1 ≤ (cs z).length ∧ (cs z).length ≤ 5 ∧ ∀ c ∈ cs z, lett c = true := by
  cases k with
  | inl i => cases h
  | inr z =>
    have h' : (decide (1 ≤ (cs z).length) && decide ((cs z).length ≤ 5) && (cs z).all lett) = true := h
    rw [Bool.and_eq_true, Bool.and_eq_true] at h'
    exact ⟨z, rfl, of_decide_eq_true h'.1.1, of_decide_eq_true h'.1.2, List.all_eq_true.mp h'.2⟩
theorem keys_of {kvs : List (Key × V)} (h : (kvs.all fun kv => isPiece (kV kv.1) && isPrice kv.2) = true) : kvs.map (·.1) = (keyStrs kvs).map Sum.inr := by
  induction kvs with
  | nil => rfl
  | cons a r ih =>
    rw [List.all_cons, Bool.and_eq_true, Bool.and_eq_true] at h
    obtain ⟨z, ez, _⟩ := piece_key h.1.1
    obtain ⟨k, v⟩ := a
    dsimp only at ez
    subst ez
    show Sum.inr z :: _ = Sum.inr z :: _
    rw [ih h.2]
    rfl
theorem keyStrs_piece {kvs : List (Key × V)} (h : (kvs.all fun kv => isPiece (kV kv.1) && isPrice kv.2) = true) : ∀ z ∈ keyStrs kvs, 1 ≤ (cs z).length ∧ (cs z).length ≤ 5 ∧ ∀ c ∈ cs z, lett c = true := by
  intro z hz
  obtain ⟨kv, hkv, e⟩ := List.mem_filterMap.mp hz
  have h1 := List.all_eq_true.mp h kv hkv
  rw [Bool.and_eq_true] at h1
  obtain ⟨y, ey, r⟩ := piece_key h1.1
  obtain ⟨k, v⟩ := kv
  dsimp only at ey e
  subst ey
  cases e
  exact r
theorem flat_len {zs : List Str} (h : ∀ z ∈ zs, (cs z).length ≤ 5) : ((zs.map cs).flatten).length ≤ 5 * zs.length := by
  induction zs with
  | nil => exact Nat.zero_le _
  | cons a r ih =>
    rw [List.map_cons, List.flatten_cons, List.length_append, List.length_cons]
    have h1 := h a List.mem_cons_self
    have h2 := ih fun z hz => h z (List.mem_cons_of_mem _ hz)
    omega
theorem singles : ∀ kvs : List (Key × V), (kvs.filterMap fun kv => match kv.1 with | .inr z => if decide ((cs z).length = 1) = true then some (V.str z) else none | .inl _ => none) = ((keyStrs kvs).filter fun z => decide ((cs z).length = 1)).map V.str
  | [] => rfl
  | (.inl i, v) :: r => singles r
  | (.inr z, v) :: r => by
    have ih := singles r
    have e : keyStrs ((Sum.inr z, v) :: r) = z :: keyStrs r := rfl
    rw [e, List.filter_cons, List.filterMap_cons]
    dsimp only
    cases h : decide ((cs z).length = 1) with
    | true =>
      rw [if_pos rfl, if_pos rfl, List.map_cons, ih]
    | false =>
      rw [if_neg Bool.false_ne_true, if_neg Bool.false_ne_true, ih]
/-! ### dict comprehensions; walks of lists and tuples told by a function -/
section
variable {α : Type} {J : It} {G : Hp → Prop} {Y : Nat → Hp → V → Hp → Prop}
theorem valV_none {κ : Type} [DecidableEq κ] {kvs : List (κ × V)} {k : κ} (h : k ∉ kvs.map (·.1)) : valV kvs k = none := by
  cases e : valV kvs k with
  | none => rfl
  | some v => exact absurd (valV_in e) h
theorem dcs (its : List α) (w : Walk J its.length G Y) (h : α → Key × V) (nd : (its.map fun a => (h a).1).Nodup) {g : TG} {tt : TT} {tk tv : TE} {vs : List Nat} {σ : L2.St} {H1 : Hp} {D : Addr} {Qd : Hp → Prop} (hD : H1 D = none) (hz : its.length ≤ 100000) (hG : ∀ H, Same H1 H → G H)
    (hs : ∀ i a x H H', its[i]? = some a → Same H1 H → Y i H x H' → ∀ (N : V → V → Hp → Prop) (M : Hp → Prop), (∀ H3, Same H H3 → N (kV (h a).1) (h a).2 H3) →
      g x (wipe σ vs) H' fun σ2 H2 => wipe σ2 vs = wipe σ vs ∧ tt σ2 H2 fun b H3 => if b = true then tk σ2 H3 fun y H4 => tv σ2 H4 fun z H5 => N y z H5 else M H3)
    (hd : ∀ H, Same H1 H → H D = some (.dK (its.map h)) → Qd H) :
    ∃ W : Nat → Nat → Hp → Prop, (∃ m, W 0 m (upd H1 D (.dK []))) ∧ ∀ i m H, W i m H →
      (J.stop i H ∧ Qd H) ∨ (J.go i H ∧ ∃ Nx : Hp → Prop, (∀ H', Nx H' → ∃ m', m' < m ∧ W (i + 1) m' H') ∧ ∀ x H', J.yld i H x H' → g x (wipe σ vs) H' fun σ2 H2 => wipe σ2 vs = wipe σ vs ∧ tt σ2 H2 fun b H3 =>
        if b = true then tk σ2 H3 fun y H4 => tv σ2 H4 fun z H5 => ∃ kvs k, y = kV k ∧ H5 D = some (.dK kvs) ∧ kvs.length < sizeLine ∧ Nx (upd H5 D (.dK (putK kvs k z))) else Nx H3) := by
  refine ⟨fun i m H => m = its.length - i ∧ i ≤ its.length ∧ Same H1 H ∧ H D = some (.dK ((its.take i).map h)), ⟨_, rfl, Nat.zero_le _, same_new hD, upd_same⟩, ?_⟩
  rintro i m H ⟨rfl, hi, s, e⟩
  by_cases hlt : i < its.length
  · obtain ⟨a, ha⟩ : ∃ a, its[i]? = some a := ⟨_, List.getElem?_eq_getElem hlt⟩
    refine .inr ⟨w.goes i H hlt (hG H s), fun H' => Same H1 H' ∧ H' D = some (.dK ((its.take (i + 1)).map h)), fun H' q => ⟨its.length - (i + 1), by omega, rfl, hlt, q⟩, ?_⟩
    intro x H' y
    refine hs i a x H H' ha s (w.yields i H x H' hlt (hG H s) y) _ _ fun H3 s3 => ⟨_, (h a).1, rfl, s3 _ _ e, ?_, fun b o q => ?_, ?_⟩
    · rw [List.length_map, List.length_take]
      exact Nat.lt_of_le_of_lt (by omega : _ ≤ 100000) (by decide)
    · rw [upd_ne (ne_of_none q hD)]
      exact s3 _ _ (s _ _ q)
    · have e1 : its.take (i + 1) = its.take i ++ [a] := by
        rw [List.take_add_one, ha]
        rfl
      have e2 : valV ((its.take i).map h) (h a).1 = none := valV_none fun m => by
        rw [List.map_map] at m
        have nd' : ((its.take (i + 1)).map fun a => (h a).1).Nodup := nd.sublist ((List.take_sublist _ _).map _)
        rw [e1, List.map_append] at nd'
        exact (List.nodup_append.mp nd').2.2 _ m _ (List.mem_singleton.mpr rfl) rfl
      rw [upd_same, putK_new _ e2, e1, List.map_append]
      rfl
  · have ei : i = its.length := by omega
    subst ei
    refine .inl ⟨w.stops H (hG H s), hd H s ?_⟩
    rw [e, List.take_length]
end
theorem walk_listF {β : Type} {K : PySem.W.Frag} {a : Addr} (f : β → V) (ys : List β) : Walk (Itl K a) ys.length (fun H => SqL K H a (ys.map f)) (fun i H x H' => H' = H ∧ ∃ b, ys[i]? = some b ∧ x = f b) := by
  have w := walk_list (K := K) (a := a) (xs := ys.map f)
  rw [List.length_map] at w
  refine w.mono (fun _ h => h) ?_
  rintro i H x H' hi _ ⟨rfl, hx⟩
  rw [List.getElem?_map] at hx
  cases e : ys[i]? with
  | none =>
    rw [e] at hx
    cases hx
  | some b =>
    rw [e] at hx
    exact ⟨rfl, b, rfl, (Option.some.inj hx).symm⟩
theorem walk_tupF {β : Type} {K : PySem.W.Frag} {a : Addr} (f : β → V) (ys : List β) : Walk (Itt K a) ys.length (fun H => SqT K H a (ys.map f)) (fun i H x H' => H' = H ∧ ∃ b, ys[i]? = some b ∧ x = f b) := by
  have w := walk_tup (K := K) (a := a) (xs := ys.map f)
  rw [List.length_map] at w
  refine w.mono (fun _ h => h) ?_
  rintro i H x H' hi _ ⟨rfl, hx⟩
  rw [List.getElem?_map] at hx
  cases e : ys[i]? with
  | none =>
    rw [e] at hx
    cases hx
  | some b =>
    rw [e] at hx
    exact ⟨rfl, b, rfl, (Option.some.inj hx).symm⟩
/-! ### a book is made -/
def priceIn (kvs : List (Key × V)) (z : Str) : Int := match valV kvs (Sum.inr z) with | some (.int p) => p | _ => 0
def psOf (kvs : List (Key × V)) (ys : List Str) : Ps := ys.map fun z => (z, priceIn kvs z)
theorem fm_some {α β : Type} (f : α → β) (l : List α) : l.filterMap (fun a => some (f a)) = l.map f := by
  rw [List.filterMap_eq_map']
theorem price_of_key {kvs : List (Key × V)} (h : (kvs.all fun kv => isPiece (kV kv.1) && isPrice kv.2) = true) {z : Str} (hz : z ∈ keyStrs kvs) : valV kvs (Sum.inr z) = some (.int (priceIn kvs z)) ∧ 1 ≤ priceIn kvs z ∧ priceIn kvs z ≤ 99 := by
  have hm : (Sum.inr z : Key) ∈ kvs.map (·.1) := by
    rw [keys_of h]
    exact List.mem_map.mpr ⟨z, hz, rfl⟩
  cases e : valV kvs (Sum.inr z : Key) with
  | none => exact absurd hm (valV_not e)
  | some v =>
    obtain ⟨kv, hkv, e1⟩ : ∃ kv ∈ kvs, kv.2 = v := by
      unfold valV at e
      cases e2 : kvs.find? (fun kv => decide (kv.1 = (Sum.inr z : Key))) with
      | none =>
        rw [e2] at e
        cases e
      | some kv =>
        rw [e2] at e
        exact ⟨kv, List.mem_of_find?_eq_some e2, Option.some.inj e⟩
    have h1 := List.all_eq_true.mp h kv hkv
    rw [Bool.and_eq_true] at h1
    have h2 := h1.2
    rw [e1] at h2
    cases v with
    | int p =>
      have h3 : (decide (p.natAbs < 10 ^ 60) && (decide (1 ≤ p) && decide (p ≤ 99))) = true := h2
      rw [Bool.and_eq_true, Bool.and_eq_true] at h3
      have e3 : priceIn kvs z = p := by
        unfold priceIn
        rw [e]
      rw [e3]
      exact ⟨rfl, of_decide_eq_true h3.2.1, of_decide_eq_true h3.2.2⟩
    | _ => cases h2
theorem ap_parts {kvs : List (Key × V)} (h : arePrices kvs = true) : (1 ≤ kvs.length ∧ kvs.length ≤ 12) ∧ (kvs.all fun kv => isPiece (kV kv.1) && isPrice kv.2) = true ∧ ((keyStrs kvs).filter fun z => decide ((cs z).length = 1)).length ≤ 4 ∧
    (((keyStrs kvs).map cs).flatten.all fun c => (valV kvs (Sum.inr (ch c))).isSome) = true := by
  unfold arePrices at h
  rw [Bool.and_eq_true, Bool.and_eq_true, Bool.and_eq_true, Bool.and_eq_true] at h
  obtain ⟨⟨⟨⟨a, b⟩, c⟩, d⟩, e⟩ := h
  have a' := of_decide_eq_true a
  have b' := of_decide_eq_true b
  exact ⟨⟨by omega, by omega⟩, c, of_decide_eq_true d, e⟩
theorem not_there {H H' : Hp} {a : Addr} (s : Same H H') (h : H' a = none) : H a = none := by
  cases e : H a with
  | none => rfl
  | some o =>
    rw [s _ _ e] at h
    cases h
theorem nd_of_map {α β : Type} {f : α → β} {l : List α} (h : (l.map f).Nodup) : l.Nodup := List.Pairwise.of_map f (fun _ _ n e => n (congrArg f e)) h
theorem nd_map {α β : Type} {f : α → β} (hf : ∀ a b, f a = f b → a = b) {l : List α} (h : l.Nodup) : (l.map f).Nodup := List.Pairwise.map f (fun a b n e => n (hf a b e)) h
section
variable {x y z u v : V}
theorem pf2 : putF "own_pieces" y [(("own_prices" : Str), x)] = [(("own_prices" : Str), x), ("own_pieces", y)] := by
  rw [pf_by (by decide +kernel)]
  rfl
theorem pf3 : putF "own_alphabet" z [(("own_prices" : Str), x), ("own_pieces", y)] = [(("own_prices" : Str), x), ("own_pieces", y), ("own_alphabet", z)] := by
  rw [pf_by (by decide +kernel), pf_by (by decide +kernel)]
  rfl
theorem pf4 : putF "own_longest" u [(("own_prices" : Str), x), ("own_pieces", y), ("own_alphabet", z)] = [(("own_prices" : Str), x), ("own_pieces", y), ("own_alphabet", z), ("own_longest", u)] := by
  rw [pf_by (by decide +kernel), pf_by (by decide +kernel), pf_by (by decide +kernel)]
  rfl
theorem pf5 : putF "own_dearest" v [(("own_prices" : Str), x), ("own_pieces", y), ("own_alphabet", z), ("own_longest", u)] = [(("own_prices" : Str), x), ("own_pieces", y), ("own_alphabet", z), ("own_longest", u), ("own_dearest", v)] := by
  rw [pf_by (by decide +kernel), pf_by (by decide +kernel), pf_by (by decide +kernel), pf_by (by decide +kernel)]
  rfl
end
theorem sgn_fm (kvs : List (Key × V)) (ys : List Str) : (ys.filterMap fun z => if decide ((cs z).length = 1) = true then some (V.str z) else none) = (sgn (psOf kvs ys)).map V.str := by
  induction ys with
  | nil => rfl
  | cons z r ih =>
    have e : sgn (psOf kvs (z :: r)) = if decide (z.length = 1) = true then z :: sgn (psOf kvs r) else sgn (psOf kvs r) := by
      unfold sgn psOf
      rw [List.map_cons, List.map_cons, List.filter_cons]
    rw [e, List.filterMap_cons, cs_len, ih]
    cases decide (z.length = 1) <;> rfl
theorem kv_keys (ps : Ps) : (kvOf ps).map (fun kv => kV kv.1) = ps.map fun p => V.str p.1 := by
  unfold kvOf
  rw [List.map_map]
  rfl
theorem kv_vals (ps : Ps) : (kvOf ps).map (·.2) = (fees ps).map V.int := by
  unfold kvOf fees
  rw [List.map_map, List.map_map]
  rfl
/-- Book.__init__ on a right dict -/
def spBook (C : Addr) (K : PySem.W.Frag) : Sp := fun vs H Q _ => ∃ (b dx a : Addr) (kvs : List (Key × V)), vs = [.ref b, .ref a] ∧ H b = some (.ins C dx []) ∧ H a = some (.dK kvs) ∧ KvOk K H kvs ∧ arePrices kvs = true ∧ (kvs.map (·.1)).Nodup ∧
  ∀ H' ys L M d tp ta od, ys.Perm (keyStrs kvs) → sortedS ys = true → BookAt C H' b (psOf kvs ys) L M dx d tp ta od → (∀ c o, H c = some o → c ≠ b → H' c = some o) → Q .non H'
end G
/-! Cheapest prices, in plain Lean: cuts by a tariff, the least fee. -/
namespace G
open PySem PySem.Spec PyProof.Rows L2
abbrev Tf := Str → Option Int
def Cut (F : Tf) (l : List Nat) (c : Ps) : Prop := (∀ p ∈ c, F p.1 = some p.2) ∧ (c.map fun p => cs p.1).flatten = l
def fee (c : Ps) : Int := (c.map (·.2)).sum
def Least (F : Tf) (l : List Nat) (m : Int) : Prop := (∃ c, Cut F l c ∧ fee c = m) ∧ ∀ c, Cut F l c → m ≤ fee c
def Over (F : Tf) (l : List Nat) : Prop := ∀ c ∈ l, ∃ p, F (ch c) = some p
structure Good (F : Tf) : Prop where
  pos : ∀ z p, F z = some p → 1 ≤ p ∧ p ≤ 99
  len : ∀ z p, F z = some p → 1 ≤ (cs z).length ∧ (cs z).length ≤ 5
  cov : ∀ z p, F z = some p → Over F (cs z)
open Classical in
noncomputable def lp (F : Tf) (l : List Nat) : Int := if h : ∃ m, Least F l m then h.choose else 0
section
variable {F F1 F2 : Tf} {l a b : List Nat} {m n : Int} {c d : Ps} {z : Str} {p : Int}
theorem Least.uniq (h : Least F l m) (k : Least F l n) : m = n := by
  obtain ⟨⟨c, hc, rfl⟩, hm⟩ := h
  obtain ⟨⟨d, hd, rfl⟩, hn⟩ := k
  have := hm d hd
  have := hn c hc
  omega
theorem lp_of (h : Least F l m) : lp F l = m := by
  have hx : ∃ m, Least F l m := ⟨m, h⟩
  unfold lp
  rw [dif_pos hx]
  exact hx.choose_spec.uniq h
theorem fee_app : fee (c ++ d) = fee c + fee d := by
  unfold fee
  rw [List.map_append, List.sum_append]
theorem Cut.app (h : Cut F a c) (k : Cut F b d) : Cut F (a ++ b) (c ++ d) := by
  refine ⟨fun p hp => ?_, ?_⟩
  · rcases List.mem_append.mp hp with q | q
    · exact h.1 p q
    · exact k.1 p q
  · rw [List.map_append, List.flatten_append, h.2, k.2]
theorem Cut.one (h : F z = some p) : Cut F (cs z) [(z, p)] := ⟨fun q hq => by rw [List.mem_singleton.mp hq]; exact h, by simp⟩
theorem Cut.nil : Cut F [] [] := ⟨fun _ h => (List.not_mem_nil h).elim, rfl⟩
theorem fee_one : fee [(z, p)] = p := by simp [fee]
theorem fee_nil : fee [] = 0 := rfl
theorem fee_cons {q : Str × Int} : fee (q :: c) = q.2 + fee c := rfl
theorem fee_pos (G : Good F) : ∀ c : Ps, (∀ p ∈ c, F p.1 = some p.2) → 0 ≤ fee c
  | [], _ => Int.le_refl _
  | q :: r, h => by
    have h1 := (G.pos _ _ (h q List.mem_cons_self)).1
    have h2 := fee_pos G r fun p hp => h p (List.mem_cons_of_mem _ hp)
    rw [fee_cons]
    omega
theorem cut_ex (o : Over F l) : ∃ c, Cut F l c := by
  induction l with
  | nil => exact ⟨[], Cut.nil⟩
  | cons x r ih =>
    obtain ⟨c, hc⟩ := ih fun y hy => o y (List.mem_cons_of_mem _ hy)
    obtain ⟨p, hp⟩ := o x List.mem_cons_self
    exact ⟨_, (Cut.one hp).app hc⟩
theorem least_ex (G : Good F) (o : Over F l) : ∃ m, Least F l m := by
  obtain ⟨c0, h0⟩ := cut_ex o
  have go : ∀ n : Nat, ∀ c, Cut F l c → (fee c).toNat = n → ∃ m, Least F l m := by
    intro n
    induction n using Nat.strongRecOn with
    | ind n ih =>
      intro c hc hn
      by_cases hx : ∃ d, Cut F l d ∧ fee d < fee c
      · obtain ⟨d, hd, lt⟩ := hx
        have := fee_pos G d hd.1
        exact ih (fee d).toNat (by omega) d hd rfl
      · refine ⟨fee c, ⟨c, hc, rfl⟩, fun d hd => ?_⟩
        by_cases q : fee c ≤ fee d
        · exact q
        · exact absurd ⟨d, hd, by omega⟩ hx
  exact go _ c0 h0 rfl
theorem lp_least (G : Good F) (o : Over F l) : Least F l (lp F l) := by
  obtain ⟨m, h⟩ := least_ex G o
  rw [lp_of h]
  exact h
theorem lp_nil (G : Good F) : lp F [] = 0 := lp_of ⟨⟨[], Cut.nil, rfl⟩, fun c hc => fee_pos G c hc.1⟩
theorem lp_le (G : Good F) (h : Cut F l c) (o : Over F l) : lp F l ≤ fee c := (lp_least G o).2 c h
theorem lp_cut (G : Good F) (o : Over F l) : ∃ c, Cut F l c ∧ fee c = lp F l := (lp_least G o).1
theorem Over.app (h : Over F a) (k : Over F b) : Over F (a ++ b) := fun c hc => by
  rcases List.mem_append.mp hc with q | q
  · exact h c q
  · exact k c q
theorem Over.left (h : Over F (a ++ b)) : Over F a := fun c hc => h c (List.mem_append_left _ hc)
theorem Over.right (h : Over F (a ++ b)) : Over F b := fun c hc => h c (List.mem_append_right _ hc)
theorem Over.take (h : Over F l) (i : Nat) : Over F (l.take i) := fun c hc => h c (List.mem_of_mem_take hc)
theorem Over.drop (h : Over F l) (i : Nat) : Over F (l.drop i) := fun c hc => h c (List.mem_of_mem_drop hc)
theorem lp_add (G : Good F) (ha : Over F a) (hb : Over F b) : lp F (a ++ b) ≤ lp F a + lp F b := by
  obtain ⟨c, hc, e1⟩ := lp_cut G ha
  obtain ⟨d, hd, e2⟩ := lp_cut G hb
  have := lp_le G (hc.app hd) (ha.app hb)
  rw [fee_app, e1, e2] at this
  exact this
theorem lp_piece (G : Good F) (h : F z = some p) : lp F (cs z) ≤ p := by
  have := lp_le G (Cut.one h) (G.cov z p h)
  rwa [fee_one] at this
theorem lp_app (G : Good F) (ha : Over F a) (h : F z = some p) : lp F (a ++ cs z) ≤ lp F a + p := by
  have h1 := lp_add G ha (G.cov z p h)
  have h2 := lp_piece G h
  omega
/-- the last piece of a cheapest cut -/
theorem lp_last (G : Good F) (o : Over F l) (ne : l ≠ []) : ∃ z p a, F z = some p ∧ l = a ++ cs z ∧ lp F l = lp F a + p := by
  obtain ⟨c, hc, e⟩ := lp_cut G o
  have nc : c ≠ [] := fun q => ne (by rw [← hc.2, q]; rfl)
  obtain ⟨d, q, rfl⟩ : ∃ d q, c = d ++ [q] := ⟨c.dropLast, c.getLast nc, (List.dropLast_concat_getLast nc).symm⟩
  have hq := hc.1 q (List.mem_append_right _ (List.mem_singleton.mpr rfl))
  have hl : l = (d.map fun p => cs p.1).flatten ++ cs q.1 := by
    rw [← hc.2, List.map_append, List.flatten_append]
    simp
  have hd : Cut F (d.map fun p => cs p.1).flatten d := ⟨fun p hp => hc.1 p (List.mem_append_left _ hp), rfl⟩
  have oa : Over F (d.map fun p => cs p.1).flatten := by
    rw [hl] at o
    exact o.left
  refine ⟨q.1, q.2, _, hq, hl, ?_⟩
  have h1 := lp_le G hd oa
  have h2 := lp_app G oa hq
  rw [← hl] at h2
  rw [fee_app] at e
  have h3 : fee [q] = q.2 := fee_one (z := q.1)
  rw [h3] at e
  omega
/-- one step of the row of cheapest prices -/
theorem lp_step (G : Good F) (o : Over F l) (ne : l ≠ []) {ys : List Int} (hin : ∀ y ∈ ys, ∃ z p a, F z = some p ∧ l = a ++ cs z ∧ y = lp F a + p)
    (hall : ∀ z p a, F z = some p → l = a ++ cs z → lp F a + p ∈ ys) (hm : m ∈ ys) (hl : ∀ y ∈ ys, m ≤ y) : m = lp F l := by
  obtain ⟨z, p, a, h1, h2, h3⟩ := lp_last G o ne
  have h4 := hl _ (hall z p a h1 h2)
  obtain ⟨z', p', a', h5, h6, h7⟩ := hin m hm
  have h8 := lp_app G (a := a') (by rw [h6] at o; exact o.left) h5
  rw [← h6] at h8
  omega
/-- dearer on no piece, dearer on no text -/
theorem lp_mono (G1 : Good F1) (G2 : Good F2) (h : ∀ z p, F2 z = some p → Over F1 (cs z) ∧ lp F1 (cs z) ≤ p) (o1 : Over F1 l) (o2 : Over F2 l) : lp F1 l ≤ lp F2 l := by
  obtain ⟨c, hc, e⟩ := lp_cut G2 o2
  rw [← e]
  have go : ∀ (c : Ps) (l : List Nat), Cut F2 l c → Over F1 l → lp F1 l ≤ fee c := by
    intro c
    induction c with
    | nil =>
      intro l hc _
      rw [← hc.2]
      exact Int.le_of_eq (lp_nil G1)
    | cons q r ih =>
      intro l hc ol
      have hl : l = cs q.1 ++ (r.map fun p => cs p.1).flatten := hc.2.symm
      rw [hl] at ol ⊢
      obtain ⟨h1, h2⟩ := h _ _ (hc.1 q List.mem_cons_self)
      have h3 := ih _ ⟨fun p hp => hc.1 p (List.mem_cons_of_mem _ hp), rfl⟩ ol.right
      have h4 := lp_add G1 ol.left ol.right
      rw [fee_cons]
      omega
  exact go c l hc o1
end
/-- the tariff of a dict -/
def tfD (kvs : List (Key × V)) : Tf := fun z => match valV kvs (Sum.inr z) with | some (.int p) => some p | _ => none
theorem tf_some {kvs : List (Key × V)} {z : Str} {p : Int} : tfD kvs z = some p ↔ valV kvs (Sum.inr z) = some (.int p) := by
  unfold tfD
  constructor
  · intro h
    split at h
    · rename_i q e
      rw [e, Option.some.inj h]
    · cases h
  · intro h
    rw [h]
theorem ks_mem {kvs : List (Key × V)} {z : Str} : z ∈ keyStrs kvs ↔ (Sum.inr z : Key) ∈ kvs.map (·.1) := by
  unfold keyStrs
  rw [List.mem_filterMap, List.mem_map]
  constructor
  · rintro ⟨⟨k, v⟩, h1, h2⟩
    cases k with
    | inl i => cases h2
    | inr y =>
      cases h2
      exact ⟨_, h1, rfl⟩
  · rintro ⟨⟨k, v⟩, h1, h2⟩
    dsimp only at h2
    subst h2
    exact ⟨_, h1, rfl⟩
theorem good_of {kvs : List (Key × V)} (av : arePrices kvs = true) : Good (tfD kvs) := by
  obtain ⟨_, al, _, fs⟩ := ap_parts av
  have key : ∀ {z p}, tfD kvs z = some p → z ∈ keyStrs kvs := fun h => ks_mem.mpr (valV_in (tf_some.mp h))
  refine ⟨fun z p h => ?_, fun z p h => ?_, fun z p h c hc => ?_⟩
  · obtain ⟨h1, h2, h3⟩ := price_of_key al (key h)
    rw [tf_some.mp h] at h1
    have : p = priceIn kvs z := V.int.inj (Option.some.inj h1)
    rw [this]
    exact ⟨h2, h3⟩
  · obtain ⟨h1, h2, _⟩ := keyStrs_piece al z (key h)
    exact ⟨h1, h2⟩
  · have h1 := List.all_eq_true.mp fs c (List.mem_flatten.mpr ⟨cs z, List.mem_map.mpr ⟨z, key h, rfl⟩, hc⟩)
    have h2 : (Sum.inr (ch c) : Key) ∈ kvs.map (·.1) := by
      cases e : valV kvs (Sum.inr (ch c)) with
      | none =>
        rw [e] at h1
        cases h1
      | some v => exact valV_in e
    exact ⟨_, tf_some.mpr (price_of_key al (ks_mem.mpr h2)).1⟩

theorem valV_mem {kvs : List (Key × V)} {k : Key} {v : V} (h : valV kvs k = some v) : (k, v) ∈ kvs := by
  unfold valV at h
  cases e : kvs.find? (fun kv => decide (kv.1 = k)) with
  | none =>
    rw [e] at h
    cases h
  | some kv =>
    rw [e] at h
    have h1 : kv.2 = v := Option.some.inj h
    have h2 : kv.1 = k := by simpa using List.find?_some e
    have h3 := List.mem_of_find?_eq_some e
    rw [← h1, ← h2]
    exact h3
/-- a dict of texts and prices -/
structure Tar (kvs : List (Key × V)) : Prop where
  good : Good (tfD kvs)
  mem : ∀ kv ∈ kvs, ∃ z p, kv = (Sum.inr z, V.int p) ∧ tfD kvs z = some p
  len : kvs.length ≤ 1000
theorem tar_of {kvs : List (Key × V)} (av : arePrices kvs = true) (nd : (kvs.map (·.1)).Nodup) : Tar kvs := by
  obtain ⟨⟨n1, n2⟩, al, _, fs⟩ := ap_parts av
  refine ⟨good_of av, fun kv hkv => ?_, by omega⟩
  have h1 := List.all_eq_true.mp al kv hkv
  rw [Bool.and_eq_true] at h1
  obtain ⟨z, ez, _⟩ := piece_key h1.1
  have h3 := val_nodup nd kv hkv
  rw [ez] at h3
  have hz : z ∈ keyStrs kvs := ks_mem.mpr (List.mem_map.mpr ⟨kv, hkv, ez⟩)
  obtain ⟨h4, _⟩ := price_of_key al hz
  rw [h4] at h3
  refine ⟨z, priceIn kvs z, ?_, tf_some.mpr h4⟩
  rw [Option.some.inj h3, ← ez]
theorem val_fun {g : Str → Int} : ∀ {ys : List Str} {z : Str}, valV (ys.map fun y => ((Sum.inr y : Key), V.int (g y))) (Sum.inr z) = if z ∈ ys then some (.int (g z)) else none
  | [], z => by
    rw [if_neg (List.not_mem_nil)]
    rfl
  | y :: r, z => by
    by_cases h : y = z
    · subst h
      rw [if_pos List.mem_cons_self, List.map_cons, valV_pos rfl]
    · rw [List.map_cons, valV_neg (fun e => h (Sum.inr.inj e)), val_fun]
      by_cases q : z ∈ r
      · rw [if_pos q, if_pos (List.mem_cons_of_mem _ q)]
      · rw [if_neg q, if_neg fun m => ?_]
        rcases List.mem_cons.mp m with e | e
        · exact h e.symm
        · exact q e
theorem kvOf_ps {kvs : List (Key × V)} {ys : List Str} : kvOf (psOf kvs ys) = ys.map fun y => ((Sum.inr y : Key), V.int (priceIn kvs y)) := by
  unfold kvOf psOf
  rw [List.map_map]
  rfl
theorem tf_psOf {kvs : List (Key × V)} {ys : List Str} (al : (kvs.all fun kv => isPiece (kV kv.1) && isPrice kv.2) = true) (pm : ys.Perm (keyStrs kvs)) : tfD (kvOf (psOf kvs ys)) = tfD kvs := by
  funext z
  unfold tfD
  rw [kvOf_ps, val_fun]
  by_cases h : z ∈ ys
  · rw [if_pos h, (price_of_key al (pm.mem_iff.mp h)).1]
  · rw [if_neg h, valV_none fun m => h (pm.mem_iff.mpr (ks_mem.mpr m))]
theorem tar_book {kvs : List (Key × V)} {ys : List Str} (av : arePrices kvs = true) (pm : ys.Perm (keyStrs kvs)) : Tar (kvOf (psOf kvs ys)) := by
  obtain ⟨⟨n1, n2⟩, al, _, fs⟩ := ap_parts av
  have e := tf_psOf al pm
  refine ⟨by rw [e]; exact good_of av, fun kv hkv => ?_, ?_⟩
  · rw [kvOf_ps] at hkv
    obtain ⟨y, hy, rfl⟩ := List.mem_map.mp hkv
    refine ⟨y, _, rfl, ?_⟩
    rw [e]
    exact tf_some.mpr (price_of_key al (pm.mem_iff.mp hy)).1
  · have h := congrArg List.length (keys_of al)
    rw [List.length_map, List.length_map] at h
    rw [kvOf_ps, List.length_map, pm.length_eq]
    omega
/-- a book as Book(prices) made it -/
structure Book1 (C : Addr) (H : Hp) (b : Addr) (kvs : List (Key × V)) : Prop where
  av : arePrices kvs = true
  nd : (kvs.map (·.1)).Nodup
  ex : ∃ ys L M dx d tp ta od, ys.Perm (keyStrs kvs) ∧ sortedS ys = true ∧ BookAt C H b (psOf kvs ys) L M dx d tp ta od
theorem Book1.same {C : Addr} {H H' : Hp} {b : Addr} {kvs : List (Key × V)} (B : Book1 C H b kvs) (s : Same H H') : Book1 C H' b kvs := by
  obtain ⟨ys, L, M, dx, d, tp, ta, od, h1, h2, h3⟩ := B.ex
  exact ⟨B.av, B.nd, ys, L, M, dx, d, tp, ta, od, h1, h2, h3.same s⟩
theorem kvOk_of {K : PySem.W.Frag} {H : Hp} {kvs : List (Key × V)} (al : (kvs.all fun kv => isPiece (kV kv.1) && isPrice kv.2) = true) : KvOk K H kvs := by
  intro kv hkv
  have h1 := List.all_eq_true.mp al kv hkv
  rw [Bool.and_eq_true] at h1
  obtain ⟨z, ez, _, h2, _⟩ := piece_key h1.1
  constructor
  · rw [ez]
    show z.length ≤ 100000
    rw [← cs_len]
    omega
  · have h3 := h1.2
    generalize kv.2 = v at h3
    cases v with
    | int p => exact tydS_int p
    | _ => cases h3
/-- Book(prices), as pe_mk asks -/
theorem made_book {C a x dx : Addr} {K : PySem.W.Frag} {H : Hp} {kvs : List (Key × V)} {Q : VK} {E : XK} (hx : H x = none) (hdx : H dx = none) (ha : H a = some (.dK kvs)) (av : arePrices kvs = true) (nd : (kvs.map (·.1)).Nodup) (q : ∀ H', Same H H' → Book1 C H' x kvs → Q .non H') :
    spBook C K (.ref x :: ([.ref a] ++ [])) (upd (upd H dx (.own x)) x (.ins C dx [])) Q E := by
  refine ⟨x, dx, a, kvs, rfl, upd_same, ?_, kvOk_of (ap_parts av).2.1, av, nd, ?_⟩
  · rw [upd_ne (ne_of_none ha hx), upd_ne (ne_of_none ha hdx)]
    exact ha
  · intro H' ys L M d tp ta od pm so B k
    refine q H' (fun c o e => k c o ?_ (ne_of_none e hx)) ⟨av, nd, ys, L, M, dx, d, tp, ta, od, pm, so, B⟩
    rw [upd_ne (ne_of_none e hx), upd_ne (ne_of_none e hdx)]
    exact e
/-! ### ends of texts -/
theorem ends_iff {x y : Str} : Txt.endswith x y = true ↔ ∃ a, cs x = a ++ cs y := by
  have l1 := cs_len x
  have l2 := cs_len y
  unfold Txt.endswith
  rw [StrLaws.subAt_eq, Nat.zero_add, Bool.and_eq_true, decide_eq_true_eq, beq_iff_eq]
  constructor
  · rintro ⟨h1, h2⟩
    refine ⟨(cs x).take (x.length - y.length), ?_⟩
    have h3 : ((cs x).drop (x.length - y.length)).take y.length = (cs x).drop (x.length - y.length) := List.take_of_length_le (by rw [List.length_drop]; omega)
    have h4 : (cs x).drop (x.length - y.length) = cs y := h3.symm.trans h2
    rw [← h4, List.take_append_drop]
  · rintro ⟨a, h⟩
    have h0 := congrArg List.length h
    rw [List.length_append] at h0
    refine ⟨by omega, ?_⟩
    show ((cs x).drop (x.length - y.length)).take y.length = cs y
    have e : x.length - y.length = a.length := by omega
    rw [h, e, List.drop_left, List.take_of_length_le (by omega)]
/-! ### rows of cheapest prices -/
noncomputable def rowV (F : Tf) (l : List Nat) (n : Nat) : List V := (List.range n).map fun j => V.int (lp F (l.take j))
theorem rowV_len {F : Tf} {l : List Nat} {n : Nat} : (rowV F l n).length = n := by
  unfold rowV
  rw [List.length_map, List.length_range]
theorem rowV_at {F : Tf} {l : List Nat} {n j : Nat} (h : j < n) : (rowV F l n)[j]? = some (.int (lp F (l.take j))) := by
  unfold rowV
  rw [List.getElem?_map, List.getElem?_range h]
  rfl
theorem rowV_succ {F : Tf} {l : List Nat} {n : Nat} : rowV F l (n + 1) = rowV F l n ++ [.int (lp F (l.take n))] := by
  unfold rowV
  rw [List.range_succ, List.map_append]
  rfl
theorem rowV_one {F : Tf} {l : List Nat} (G : Good F) : rowV F l 1 = [.int 0] := by
  show [V.int (lp F (l.take 0))] = _
  rw [List.take_zero, lp_nil G]
theorem atI_last {α : Type} {xs : List α} {v : α} : atI (xs ++ [v]) (-1) = some v := by
  have e : ixN (xs ++ [v]).length (-1) = some xs.length := by
    rw [List.length_append, List.length_singleton]
    unfold ixN
    rw [if_neg (by omega), if_pos (by omega)]
    congr 1
    omega
  unfold atI
  rw [e]
  show (xs ++ [v])[xs.length]? = some v
  simp
noncomputable def candG (F : Tf) (l : List Nat) (e : Nat) (st : Str) : Key × V → Option Int := fun kv => match kv with
  | (.inr y, .int p) => if Txt.endswith st y = true then some (lp F (l.take (e - y.length)) + p) else none
  | _ => none
theorem cand_min {kvs : List (Key × V)} {l : List Nat} {e : Nat} {st : Str} (T : Tar kvs) (ov : Over (tfD kvs) l) (hst : cs st = l.take e) (he : 1 ≤ e) (hel : e ≤ l.length) :
    0 < (kvs.filterMap (candG (tfD kvs) l e st)).length ∧ ∀ m ∈ kvs.filterMap (candG (tfD kvs) l e st), (∀ y ∈ kvs.filterMap (candG (tfD kvs) l e st), m ≤ y) → m = lp (tfD kvs) (l.take e) := by
  have le : (l.take e).length = e := by
    rw [List.length_take]
    omega
  have ne : l.take e ≠ [] := fun q => by
    rw [q] at le
    simp at le
    omega
  have ove : Over (tfD kvs) (l.take e) := ov.take e
  have part : ∀ {a : List Nat} {y : Str}, l.take e = a ++ cs y → a = l.take (e - y.length) := by
    intro a y h
    have h1 := congrArg List.length h
    rw [List.length_append, le, cs_len] at h1
    have h2 : (l.take e).take (e - y.length) = a := by
      rw [h, List.take_append_of_le_length (by omega), List.take_of_length_le (by omega)]
    rw [← h2, List.take_take]
    congr 1
    omega
  have hin : ∀ y ∈ kvs.filterMap (candG (tfD kvs) l e st), ∃ z p a, tfD kvs z = some p ∧ l.take e = a ++ cs z ∧ y = lp (tfD kvs) a + p := by
    intro y hy
    obtain ⟨kv, hkv, g⟩ := List.mem_filterMap.mp hy
    obtain ⟨z, p, rfl, hp⟩ := T.mem kv hkv
    have g' : (if Txt.endswith st z = true then some (lp (tfD kvs) (l.take (e - z.length)) + p) else none) = some y := g
    by_cases q : Txt.endswith st z = true
    · rw [if_pos q] at g'
      obtain ⟨a, ha⟩ := ends_iff.mp q
      rw [hst] at ha
      refine ⟨z, p, a, hp, ha, ?_⟩
      rw [part ha]
      exact (Option.some.inj g').symm
    · rw [if_neg q] at g'
      cases g'
  have hall : ∀ z p a, tfD kvs z = some p → l.take e = a ++ cs z → lp (tfD kvs) a + p ∈ kvs.filterMap (candG (tfD kvs) l e st) := by
    intro z p a hp ha
    refine List.mem_filterMap.mpr ⟨(Sum.inr z, V.int p), valV_mem (tf_some.mp hp), ?_⟩
    show (if Txt.endswith st z = true then some (lp (tfD kvs) (l.take (e - z.length)) + p) else none) = _
    rw [if_pos (ends_iff.mpr ⟨a, by rw [hst]; exact ha⟩), ← part ha]
  constructor
  · obtain ⟨z, p, a, h1, h2, _⟩ := lp_last T.good ove ne
    exact List.length_pos_of_mem (hall z p a h1 h2)
  · intro m hm hl
    exact lp_step T.good ove ne hin hall hm hl
theorem fm_int {α : Type} {g : α → Option Int} {l : List α} : l.filterMap (fun a => (g a).map V.int) = (l.filterMap g).map V.int := by
  rw [List.map_filterMap]
theorem same_mut {H H' : Hp} {a : Addr} {o : HO} (s : Same H H') (h : H a = none) : Same H (upd H' a o) := fun b u e => by
  rw [upd_ne (ne_of_none e h)]
  exact s _ _ e
theorem cs_cutTo {z : Str} {i : Nat} (h : i ≤ z.length) : cs (cutS z none (some (i : Int))) = (cs z).take i := by
  rw [cs_cut, sIx_pos (by omega)]
  show ((cs z).drop 0).take (min (Int.toNat (i : Int)) z.length - 0) = _
  rw [List.drop_zero, Int.toNat_natCast]
  congr 1
  omega
noncomputable def costF (F : Tf) (l : List Nat) (s : Nat) : Option Int := (F (sOf (l.drop s))).map fun p => lp F (l.take s) + p
noncomputable def costs (F : Tf) (l : List Nat) : List Int := (List.range (l.length - (l.length - 5))).filterMap fun i => costF F l (l.length - 5 + i)
theorem cost_min {F : Tf} {l : List Nat} (G : Good F) (o : Over F l) (ne : l ≠ []) : 0 < (costs F l).length ∧ ∀ m ∈ costs F l, (∀ y ∈ costs F l, m ≤ y) → m = lp F l := by
  have hin : ∀ y ∈ costs F l, ∃ z p a, F z = some p ∧ l = a ++ cs z ∧ y = lp F a + p := by
    intro y hy
    obtain ⟨i, hi, g⟩ := List.mem_filterMap.mp hy
    have g' : (F (sOf (l.drop (l.length - 5 + i)))).map (fun p => lp F (l.take (l.length - 5 + i)) + p) = some y := g
    cases e : F (sOf (l.drop (l.length - 5 + i))) with
    | none =>
      rw [e] at g'
      cases g'
    | some p =>
      rw [e] at g'
      exact ⟨_, p, l.take (l.length - 5 + i), e, by rw [cs_sOf, List.take_append_drop], (Option.some.inj g').symm⟩
  have hall : ∀ z p a, F z = some p → l = a ++ cs z → lp F a + p ∈ costs F l := by
    intro z p a hp ha
    obtain ⟨n1, n2⟩ := G.len z p hp
    have hl := congrArg List.length ha
    rw [List.length_append] at hl
    have e1 : l.length - 5 + (a.length - (l.length - 5)) = a.length := by omega
    refine List.mem_filterMap.mpr ⟨a.length - (l.length - 5), List.mem_range.mpr (by omega), ?_⟩
    show costF F l (l.length - 5 + (a.length - (l.length - 5))) = _
    rw [e1]
    unfold costF
    have e2 : l.drop a.length = cs z := by rw [ha, List.drop_left]
    have e3 : l.take a.length = a := by rw [ha, List.take_left]
    rw [e2, e3, sOf_cs, hp]
    rfl
  constructor
  · obtain ⟨z, p, a, h1, h2, _⟩ := lp_last G o ne
    exact List.length_pos_of_mem (hall z p a h1 h2)
  · intro m hm hl
    exact lp_step G o ne hin hall hm hl
theorem tar_val {kvs : List (Key × V)} (T : Tar kvs) (z : Str) : valV kvs (Sum.inr z) = (tfD kvs z).map V.int := by
  cases e : valV kvs (Sum.inr z : Key) with
  | none =>
    unfold tfD
    rw [e]
    rfl
  | some v =>
    obtain ⟨y, p, e1, e2⟩ := T.mem _ (valV_mem e)
    have e3 : z = y := Sum.inr.inj (congrArg Prod.fst e1)
    subst e3
    rw [e2]
    have e4 : v = V.int p := congrArg Prod.snd e1
    rw [e4]
    rfl
theorem cs_cutAB {z : Str} {a b : Nat} (hab : a ≤ b) (hb : b ≤ z.length) : cs (cutS z (some (a : Int)) (some (b : Int))) = ((cs z).take b).drop a := by
  have e1 : min a z.length = a := by omega
  have e2 : min b z.length = b := by omega
  rw [cs_cut, sIx_pos (by omega), sIx_pos (by omega), Int.toNat_natCast, Int.toNat_natCast, List.drop_take, e1, e2]
theorem cs_cutFrom {z : Str} {a : Nat} (h : a ≤ z.length) : cs (cutS z (some (a : Int)) none) = (cs z).drop a := by
  rw [cs_cut, sIx_pos (by omega), Int.toNat_natCast]
  have e : min a z.length = a := by omega
  rw [e]
  show ((cs z).drop a).take (z.length - a) = _
  exact List.take_of_length_le (by rw [List.length_drop, cs_len]; omega)
theorem max0 (n : Nat) : (if (n : Int) - 5 > 0 then (n : Int) - 5 else 0) = ((n - 5 : Nat) : Int) := by split <;> omega
/-- _law_least, of a dict that is locked or not -/
def spLawLeast : Sp := fun vs H Q _ => ∃ d kvs z, vs = [.ref d, .str z] ∧ Rd H d (.dK kvs) ∧ Tar kvs ∧ Over (tfD kvs) (cs z) ∧ z.length ≤ 10000 ∧ ∀ H', Same H H' → Q (.int (lp (tfD kvs) (cs z))) H'
theorem fm_range_succ {α : Type} {g : Nat → Option α} {j : Nat} : (List.range (j + 1)).filterMap g = (List.range j).filterMap g ++ (g j).toList := by
  rw [List.range_succ, List.filterMap_append]
  congr 1
theorem rd_same {H H' : Hp} {d : Addr} {u : HO} (r : Rd H d u) (s : Same H H') : Rd H' d u := by
  rcases r with h | ⟨od, h⟩
  · exact .inl (s _ _ h)
  · exact .inr ⟨od, s _ _ h⟩
/-! ### tables of cheapest prices -/
structure TblOk (F : Tf) (S : Str → Prop) (kf : List (Key × V)) : Prop where
  val : ∀ z, S z → valV kf (Sum.inr z) = some (.int (lp F (cs z)))
  key : ∀ kv ∈ kf, ∃ z, kv.1 = Sum.inr z ∧ S z
theorem TblOk.congr {F : Tf} {S S' : Str → Prop} {kf : List (Key × V)} (T : TblOk F S kf) (h : ∀ z, S z ↔ S' z) : TblOk F S' kf :=
  ⟨fun z hz => T.val z ((h z).mpr hz), fun kv hkv => (T.key kv hkv).imp fun z q => ⟨q.1, (h z).mp q.2⟩⟩
theorem put_mem {kvs : List (Key × V)} {k : Key} {v : V} {kv : Key × V} (h : kv ∈ putK kvs k v) : kv.1 = k ∨ kv ∈ kvs := by
  unfold putK at h
  by_cases q : (kvs.any fun kv => decide (kv.1 = k)) = true
  · rw [if_pos q] at h
    obtain ⟨x, hx, rfl⟩ := List.mem_map.mp h
    by_cases e : x.1 = k
    · rw [if_pos e]
      exact Or.inl e
    · rw [if_neg e]
      exact Or.inr hx
  · rw [if_neg q] at h
    rcases List.mem_append.mp h with h | h
    · exact Or.inr h
    · rw [List.mem_singleton.mp h]
      exact Or.inl rfl
theorem put_len {kvs : List (Key × V)} {k : Key} {v : V} : (putK kvs k v).length ≤ kvs.length + 1 := by
  unfold putK
  split
  · rw [List.length_map]
    omega
  · rw [List.length_append]
    exact Nat.le_refl _
theorem TblOk.put {F : Tf} {S : Str → Prop} {kf : List (Key × V)} (T : TblOk F S kf) (y : Str) : TblOk F (fun z => S z ∨ z = y) (putK kf (Sum.inr y) (.int (lp F (cs y)))) := by
  refine ⟨fun z hz => ?_, fun kv hkv => ?_⟩
  · rw [valV_put]
    by_cases e : z = y
    · subst e
      rw [if_pos rfl]
    · rw [if_neg fun q => e (Sum.inr.inj q)]
      exact T.val z (hz.resolve_right e)
  · rcases put_mem hkv with h | h
    · exact ⟨y, h, Or.inr rfl⟩
    · obtain ⟨z, h1, h2⟩ := T.key kv h
      exact ⟨z, h1, Or.inl h2⟩
def tv (t : List Nat) : V := .str (sOf t)
def grow (sg : List Nat) (ts : List (List Nat)) : List (List Nat) := ts.flatMap fun t => sg.map fun c => t ++ [c]
def layerL (sg : List Nat) : Nat → List (List Nat)
  | 0 => [[]]
  | n + 1 => grow sg (layerL sg n)
theorem grow_len {sg : List Nat} : ∀ {ts : List (List Nat)}, (grow sg ts).length = ts.length * sg.length
  | [] => by simp [grow]
  | t :: r => by
    have ih := grow_len (sg := sg) (ts := r)
    unfold grow at ih ⊢
    rw [List.flatMap_cons, List.length_append, ih, List.length_map, List.length_cons, Nat.add_mul]
    omega
theorem layer_len {sg : List Nat} (n : Nat) : (layerL sg n).length = sg.length ^ n := by
  induction n with
  | zero => rfl
  | succ n ih => rw [layerL, grow_len, ih, Nat.pow_succ]
theorem layer_le {sg : List Nat} {n : Nat} (h4 : sg.length ≤ 4) (h8 : n ≤ 8) : (layerL sg n).length ≤ 65536 := by
  rw [layer_len]
  calc sg.length ^ n ≤ 4 ^ n := Nat.pow_le_pow_left h4 n
    _ ≤ 4 ^ 8 := Nat.pow_le_pow_right (by decide) h8
    _ = 65536 := by decide
theorem layer_mem {sg : List Nat} : ∀ {n : Nat} {t : List Nat}, t ∈ layerL sg n ↔ t.length = n ∧ ∀ c ∈ t, c ∈ sg
  | 0, t => by
    show t ∈ [[]] ↔ _
    rw [List.mem_singleton]
    constructor
    · rintro rfl
      exact ⟨rfl, fun _ h => (List.not_mem_nil h).elim⟩
    · rintro ⟨h, _⟩
      exact List.eq_nil_of_length_eq_zero h
  | n + 1, t => by
    show t ∈ grow sg (layerL sg n) ↔ _
    unfold grow
    rw [List.mem_flatMap]
    constructor
    · rintro ⟨u, hu, h⟩
      obtain ⟨c, hc, rfl⟩ := List.mem_map.mp h
      obtain ⟨h1, h2⟩ := layer_mem.mp hu
      refine ⟨by rw [List.length_append, h1]; rfl, fun d hd => ?_⟩
      rcases List.mem_append.mp hd with q | q
      · exact h2 d q
      · rw [List.mem_singleton.mp q]
        exact hc
    · rintro ⟨h1, h2⟩
      have ne : t ≠ [] := fun e => by
        rw [e] at h1
        cases h1
      refine ⟨t.dropLast, layer_mem.mpr ⟨by rw [List.length_dropLast, h1]; rfl, fun c hc => h2 c (List.dropLast_subset t hc)⟩, List.mem_map.mpr ⟨t.getLast ne, h2 _ (List.getLast_mem ne), List.dropLast_concat_getLast ne⟩⟩
def InAll (sg : List Nat) (n : Nat) (z : Str) : Prop := (cs z).length ≤ n ∧ ∀ c ∈ cs z, c ∈ sg
theorem inAll_zero {F : Tf} {sg : List Nat} (G : Good F) : TblOk F (InAll sg 0) [(Sum.inr (sOf []), .int 0)] := by
  refine ⟨fun z hz => ?_, fun kv hkv => ?_⟩
  · have e : z = sOf [] := str_ext (List.eq_nil_of_length_eq_zero (Nat.le_zero.mp hz.1))
    rw [e, valV_pos rfl, cs_sOf, lp_nil G]
  · rw [List.mem_singleton.mp hkv]
    exact ⟨_, rfl, Nat.le_refl _, fun c h => (List.not_mem_nil (a := c) h).elim⟩
theorem inAll_succ {sg : List Nat} {n : Nat} {z : Str} : InAll sg n z ∨ z ∈ (layerL sg (n + 1)).map sOf ↔ InAll sg (n + 1) z := by
  constructor
  · rintro (⟨h1, h2⟩ | h)
    · exact ⟨by omega, h2⟩
    · obtain ⟨t, ht, rfl⟩ := List.mem_map.mp h
      obtain ⟨h1, h2⟩ := layer_mem.mp ht
      exact ⟨by rw [cs_sOf]; omega, by rw [cs_sOf]; exact h2⟩
  · rintro ⟨h1, h2⟩
    rcases Nat.lt_or_ge n (cs z).length with h | h
    · exact Or.inr (List.mem_map.mpr ⟨cs z, layer_mem.mpr ⟨by omega, h2⟩, sOf_cs z⟩)
    · exact Or.inl ⟨h, h2⟩
theorem grow_take {sg : List Nat} {ts : List (List Nat)} {j : Nat} {t : List Nat} (h : ts[j]? = some t) : grow sg (ts.take (j + 1)) = grow sg (ts.take j) ++ sg.map fun c => t ++ [c] := by
  rw [List.take_add_one, h]
  unfold grow
  rw [List.flatMap_append]
  simp
theorem emp : Str.ofString "" = sOf [] := str_ext (by rfl)
theorem tv_at {ts : List (List Nat)} {j : Nat} {x : V} (h : (ts.map tv)[j]? = some x) : ∃ t, ts[j]? = some t ∧ x = tv t := by
  rw [List.getElem?_map] at h
  cases e : ts[j]? with
  | none =>
    rw [e] at h
    cases h
  | some t =>
    rw [e] at h
    exact ⟨t, rfl, (Option.some.inj h).symm⟩
theorem tv_app (t : List Nat) (c : Nat) : V.str (sOf t ++ ch c) = tv (t ++ [c]) := by
  unfold tv
  congr 1
  exact str_ext (by rw [cs_app, cs_sOf, cs_sOf])
theorem tbl_take {F : Tf} {S : Str → Prop} {kf : List (Key × V)} {ts : List (List Nat)} {j : Nat} {t : List Nat} (h : ts[j]? = some t) (T : TblOk F (fun z => S z ∨ z ∈ (ts.take j).map sOf) kf) :
    TblOk F (fun z => S z ∨ z ∈ (ts.take (j + 1)).map sOf) (putK kf (Sum.inr (sOf t)) (.int (lp F t))) := by
  have h1 := T.put (sOf t)
  rw [cs_sOf] at h1
  refine h1.congr fun z => ?_
  rw [List.take_add_one, h, List.map_append, List.mem_append]
  show (S z ∨ _) ∨ z = sOf t ↔ S z ∨ _ ∨ z ∈ [sOf t]
  rw [List.mem_singleton, or_assoc]
/-- _law_all -/
def spAll (K : PySem.W.Frag) : Sp := fun vs H Q _ => ∃ d kvs sa sg n, vs = [.ref d, .ref sa, .int ((n : Nat) : Int)] ∧ H d = some (.dK kvs) ∧ Tar kvs ∧ SqL K H sa (sg.map chV) ∧ (∀ c ∈ sg, ∃ p, tfD kvs (ch c) = some p) ∧ sg.length ≤ 4 ∧ n ≤ 8 ∧
  ∀ fo kf H', H fo = none → H' fo = some (.dK kf) → TblOk (tfD kvs) (InAll sg n) kf → kf.length ≤ 600000 → Same H H' → Q (.ref fo) H'
/-! ### dicts of prices while they are made -/
theorem keys_nd' {kvs : List (Key × V)} (nd : (kvs.map (·.1)).Nodup) (al : (kvs.all fun kv => isPiece (kV kv.1) && isPrice kv.2) = true) : (keyStrs kvs).Nodup := by
  rw [keys_of al] at nd
  exact nd_of_map nd
structure PrOk (sg : List Nat) (kvs : List (Key × V)) : Prop where
  mem : ∀ kv ∈ kvs, ∃ z p, kv = (Sum.inr z, V.int p) ∧ (1 ≤ (cs z).length ∧ (cs z).length ≤ 5) ∧ (∀ c ∈ cs z, c ∈ sg) ∧ 1 ≤ p ∧ p ≤ 99
  nd : (kvs.map (·.1)).Nodup
theorem PrOk.nil {sg : List Nat} : PrOk sg [] := ⟨fun _ h => (List.not_mem_nil h).elim, List.nodup_nil⟩
theorem put_keys {kvs : List (Key × V)} {k : Key} {v : V} : (putK kvs k v).map (·.1) = if (valV kvs k).isSome = true then kvs.map (·.1) else kvs.map (·.1) ++ [k] := by
  unfold putK
  rw [valV_any]
  split
  · rw [List.map_map]
    refine List.map_congr_left fun kv _ => ?_
    show (if kv.1 = k then (kv.1, v) else kv).1 = kv.1
    split <;> rfl
  · rw [List.map_append]
    rfl
theorem put_val_mem {kvs : List (Key × V)} {k : Key} {v : V} {kv : Key × V} (h : kv ∈ putK kvs k v) : kv = (k, v) ∨ kv ∈ kvs := by
  unfold putK at h
  by_cases q : (kvs.any fun kv => decide (kv.1 = k)) = true
  · rw [if_pos q] at h
    obtain ⟨x, hx, rfl⟩ := List.mem_map.mp h
    by_cases e : x.1 = k
    · rw [if_pos e, e]
      exact Or.inl rfl
    · rw [if_neg e]
      exact Or.inr hx
  · rw [if_neg q] at h
    rcases List.mem_append.mp h with h | h
    · exact Or.inr h
    · exact Or.inl (List.mem_singleton.mp h)
theorem PrOk.put {sg : List Nat} {kvs : List (Key × V)} (P : PrOk sg kvs) {z : Str} {p : Int} (h1 : 1 ≤ (cs z).length ∧ (cs z).length ≤ 5) (h2 : ∀ c ∈ cs z, c ∈ sg) (h3 : 1 ≤ p ∧ p ≤ 99) : PrOk sg (putK kvs (Sum.inr z) (.int p)) := by
  refine ⟨fun kv hkv => ?_, ?_⟩
  · rcases put_val_mem hkv with h | h
    · exact ⟨z, p, h, h1, h2, h3⟩
    · exact P.mem kv h
  · rw [put_keys]
    split
    · exact P.nd
    · rename_i q
      refine List.nodup_append.mpr ⟨P.nd, by simp, fun a ha b hb e => ?_⟩
      rw [List.mem_singleton.mp hb] at e
      rw [e] at ha
      refine q ?_
      cases e2 : valV kvs (Sum.inr z : Key) with
      | none => exact absurd ha (valV_not e2)
      | some v => rfl
theorem PrOk.merge {sg : List Nat} : ∀ {more kvs : List (Key × V)}, PrOk sg kvs → (∀ kv ∈ more, ∃ z p, kv = (Sum.inr z, V.int p) ∧ (1 ≤ (cs z).length ∧ (cs z).length ≤ 5) ∧ (∀ c ∈ cs z, c ∈ sg) ∧ 1 ≤ p ∧ p ≤ 99) →
    PrOk sg (mergeK kvs more) ∧ (mergeK kvs more).length ≤ kvs.length + more.length
  | [], kvs, P, _ => ⟨P, Nat.le_refl _⟩
  | a :: r, kvs, P, h => by
    obtain ⟨z, p, rfl, h1, h2, h3⟩ := h a List.mem_cons_self
    obtain ⟨q1, q2⟩ := PrOk.merge (more := r) (P.put h1 h2 h3) fun kv hkv => h kv (List.mem_cons_of_mem _ hkv)
    refine ⟨q1, Nat.le_trans q2 ?_⟩
    have := put_len (kvs := kvs) (k := Sum.inr z) (v := .int p)
    rw [List.length_cons]
    omega
theorem merge_has {k : Key} : ∀ {more kvs : List (Key × V)}, (k ∈ more.map (·.1) ∨ (valV kvs k).isSome = true) → (valV (mergeK kvs more) k).isSome = true
  | [], kvs, h => by
    rcases h with h | h
    · simp at h
    · exact h
  | a :: r, kvs, h => by
    refine merge_has (more := r) (kvs := putK kvs a.1 a.2) ?_
    rw [valV_put]
    by_cases e : k = a.1
    · exact Or.inr (by rw [if_pos e]; rfl)
    · rw [if_neg e]
      rcases h with h | h
      · rcases List.mem_cons.mp h with h | h
        · exact absurd h e
        · exact Or.inl h
      · exact Or.inr h
theorem nd_sub_len {α : Type} [BEq α] [LawfulBEq α] : ∀ {l1 l2 : List α}, l1.Nodup → (∀ a ∈ l1, a ∈ l2) → l1.length ≤ l2.length
  | [], _, _, _ => Nat.zero_le _
  | a :: r, l2, nd, h => by
    obtain ⟨h1, h2⟩ := List.nodup_cons.mp nd
    have h3 := nd_sub_len (l1 := r) (l2 := l2.erase a) h2 fun b hb => by
      have nb : b ≠ a := fun e => h1 (e ▸ hb)
      exact (List.mem_erase_of_ne nb).mpr (h b (List.mem_cons_of_mem _ hb))
    have h4 := h a List.mem_cons_self
    rw [List.length_erase_of_mem h4] at h3
    have := List.length_pos_of_mem h4
    rw [List.length_cons]
    omega
theorem PrOk.tf {sg : List Nat} {kvs : List (Key × V)} (P : PrOk sg kvs) {z : Str} : z ∈ keyStrs kvs ↔ ∃ p, tfD kvs z = some p := by
  rw [ks_mem]
  constructor
  · intro h
    obtain ⟨kv, hkv, e⟩ := List.mem_map.mp h
    obtain ⟨y, p, rfl, _⟩ := P.mem kv hkv
    have h2 := val_nodup P.nd _ hkv
    dsimp only at e h2
    cases e
    exact ⟨p, tf_some.mpr h2⟩
  · rintro ⟨p, h⟩
    exact valV_in (tf_some.mp h)
/-- a dict of prices over the signs sg, all of them in it -/
theorem PrOk.right {sg : List Nat} {kvs : List (Key × V)} (P : PrOk sg kvs) (hs : ∀ c ∈ sg, (valV kvs (Sum.inr (ch c))).isSome = true) (hl : ∀ c ∈ sg, lett c = true) (n4 : sg.length ≤ 4) (n0 : 1 ≤ sg.length) (n12 : kvs.length ≤ 12) :
    arePrices kvs = true ∧ ∀ c, (∃ p, tfD kvs (ch c) = some p) ↔ c ∈ sg := by
  have al : (kvs.all fun kv => isPiece (kV kv.1) && isPrice kv.2) = true := by
    rw [List.all_eq_true]
    intro kv hkv
    obtain ⟨z, p, rfl, h1, h2, h3⟩ := P.mem kv hkv
    rw [Bool.and_eq_true]
    refine ⟨?_, ?_⟩
    · show isPiece (.str z) = true
      rw [isPiece_of fun c hc => hl c (h2 c hc), decide_eq_true h1.1, decide_eq_true h1.2]
      rfl
    · show (decide (p.natAbs < 10 ^ 60) && (decide (1 ≤ p) && decide (p ≤ 99))) = true
      rw [decide_eq_true (by omega : p.natAbs < 10 ^ 60), decide_eq_true h3.1, decide_eq_true h3.2]
      rfl
  have key : ∀ {z}, z ∈ keyStrs kvs → (∀ c ∈ cs z, c ∈ sg) := by
    intro z hz
    obtain ⟨kv, hkv, e⟩ := List.mem_map.mp (ks_mem.mp hz)
    obtain ⟨y, p, rfl, _, h2, _⟩ := P.mem kv hkv
    dsimp only at e
    cases e
    exact h2
  refine ⟨?_, fun c => ⟨fun ⟨p, h⟩ => key (ks_mem.mpr (valV_in (tf_some.mp h))) c (by simp [cs]), fun h => ?_⟩⟩
  · unfold arePrices
    have e1 : 1 ≤ kvs.length := by
      cases sg with
      | nil => simp at n0
      | cons c r =>
        have := hs c List.mem_cons_self
        cases kvs with
        | nil => cases this
        | cons a r => simp
    have e3 : ((keyStrs kvs).filter fun z => decide ((cs z).length = 1)).length ≤ 4 := by
      refine Nat.le_trans (nd_sub_len (l2 := sg.map ch) ((keys_nd' P.nd al).filter _) fun z hz => ?_) (by rw [List.length_map]; exact n4)
      obtain ⟨h1, h2⟩ := List.mem_filter.mp hz
      obtain ⟨c, rfl⟩ := G.one_sign (z := z) (by simpa using h2)
      exact List.mem_map.mpr ⟨c, key h1 c (by simp [cs]), rfl⟩
    have e4 : (((keyStrs kvs).map cs).flatten.all fun c => (valV kvs (Sum.inr (ch c))).isSome) = true := by
      rw [List.all_eq_true]
      intro c hc
      obtain ⟨l, hl, hcl⟩ := List.mem_flatten.mp hc
      obtain ⟨z, hz, rfl⟩ := List.mem_map.mp hl
      exact hs c (key hz c hcl)
    rw [decide_eq_true (by omega : 1 ≤ (kvs.length : Int)), decide_eq_true (by omega : (kvs.length : Int) ≤ 12), al, decide_eq_true e3, e4]
    rfl
  · have h1 := hs c h
    cases e : valV kvs (Sum.inr (ch c) : Key) with
    | none =>
      rw [e] at h1
      cases h1
    | some v =>
      have h2 := P.tf.mp (ks_mem.mpr (valV_in e))
      exact h2
theorem kp_free {l a : Addr} {H H' : Hp} (k : Kp l H H') (n : a ≠ l) (h : H' a = none) : H a = none := by
  cases e : H a with
  | none => rfl
  | some o =>
    rw [k a o e n] at h
    cases h
theorem paired_of {α β : Type} {F : α → β → Prop} : ∀ {ps : List (α × β)}, (∀ p ∈ ps, F p.1 p.2) → Paired F (ps.map (·.1)) (ps.map (·.2))
  | [], _ => .nil
  | p :: r, h => .cons (h p List.mem_cons_self) (paired_of fun q hq => h q (List.mem_cons_of_mem _ hq))
theorem lift_map {α : Type} {f : α → V} {P : α → Prop} : ∀ {zs : List V}, (∀ v ∈ zs, ∃ w, v = f w ∧ P w) → ∃ ws : List α, zs = ws.map f ∧ ∀ w ∈ ws, P w
  | [], _ => ⟨[], rfl, fun _ h => (List.not_mem_nil h).elim⟩
  | v :: r, h => by
    obtain ⟨w, rfl, hw⟩ := h v List.mem_cons_self
    obtain ⟨ws, rfl, hws⟩ := lift_map (zs := r) fun u hu => h u (List.mem_cons_of_mem _ hu)
    refine ⟨w :: ws, rfl, fun u hu => ?_⟩
    rcases List.mem_cons.mp hu with rfl | hu
    · exact hw
    · exact hws u hu
def PairOk (sg : List Nat) (kv : Key × V) : Prop := ∃ z p, kv = (Sum.inr z, V.int p) ∧ (1 ≤ (cs z).length ∧ (cs z).length ≤ 5) ∧ (∀ c ∈ cs z, c ∈ sg) ∧ 1 ≤ p ∧ p ≤ 99
/-- a word of the menu -/
def Word (sg w : List Nat) : Prop := 2 ≤ w.length ∧ w.length ≤ 5 ∧ ∀ c ∈ w, c ∈ sg
theorem Word.piece {sg w : List Nat} (h : Word sg w) : (1 ≤ (cs (sOf w)).length ∧ (cs (sOf w)).length ≤ 5) ∧ ∀ c ∈ cs (sOf w), c ∈ sg := by
  obtain ⟨h1, h2, h3⟩ := h
  rw [cs_sOf]
  exact ⟨⟨by omega, h2⟩, h3⟩
/-! ### what is sorted -/
theorem so_pw : ∀ {ys : List Str}, sortedS ys = true → ys.Pairwise fun a b => cs a ≤ cs b
  | [], _ => .nil
  | [x], _ => by simp
  | x :: y :: r, h => by
    have h' : (!ltCps y.cps.toList x.cps.toList && risingS y r) = true := h
    rw [Bool.and_eq_true] at h'
    have ih := so_pw (ys := y :: r) h'.2
    have h1 : cs x ≤ cs y := by
      have h2 := h'.1
      rw [ltCps_eq] at h2
      exact List.not_lt.mp (by simpa using h2)
    refine List.Pairwise.cons (fun b hb => ?_) ih
    rcases List.mem_cons.mp hb with rfl | hb
    · exact h1
    · exact List.le_trans h1 ((List.pairwise_cons.mp ih).1 b hb)
theorem so_eq {ys zs : List Str} (h1 : ys.Pairwise fun a b => cs a ≤ cs b) (h2 : zs.Pairwise fun a b => cs a ≤ cs b) (p : ys.Perm zs) : ys = zs := p.eq_of_pairwise (fun a b _ _ h k => str_ext (List.le_antisymm h k)) h1 h2
def SameSigns (F1 F2 : Tf) : Prop := ∀ c, (∃ p, F1 (ch c) = some p) ↔ ∃ p, F2 (ch c) = some p
theorem sgn_ps {kvs : List (Key × V)} {ys : List Str} : sgn (psOf kvs ys) = ys.filter fun z => decide (z.length = 1) := by
  unfold sgn psOf
  rw [List.map_map]
  congr 1
  exact List.map_id' ys
theorem tf_key {kvs : List (Key × V)} {z : Str} (al : (kvs.all fun kv => isPiece (kV kv.1) && isPrice kv.2) = true) : z ∈ keyStrs kvs ↔ ∃ p, tfD kvs z = some p :=
  ⟨fun h => ⟨_, tf_some.mpr (price_of_key al h).1⟩, fun ⟨p, h⟩ => ks_mem.mpr (valV_in (tf_some.mp h))⟩
theorem keys_nd {kvs : List (Key × V)} (al : (kvs.all fun kv => isPiece (kV kv.1) && isPrice kv.2) = true) (nd : (kvs.map (·.1)).Nodup) : (keyStrs kvs).Nodup := by
  rw [keys_of al] at nd
  exact nd_of_map nd
theorem sgn_eq {kvs1 kvs2 : List (Key × V)} {ys1 ys2 : List Str} (al1 : (kvs1.all fun kv => isPiece (kV kv.1) && isPrice kv.2) = true) (al2 : (kvs2.all fun kv => isPiece (kV kv.1) && isPrice kv.2) = true)
    (nd1 : (kvs1.map (·.1)).Nodup) (nd2 : (kvs2.map (·.1)).Nodup) (pm1 : ys1.Perm (keyStrs kvs1)) (pm2 : ys2.Perm (keyStrs kvs2)) (so1 : sortedS ys1 = true) (so2 : sortedS ys2 = true) (ss : SameSigns (tfD kvs1) (tfD kvs2)) :
    sgn (psOf kvs1 ys1) = sgn (psOf kvs2 ys2) := by
  rw [sgn_ps, sgn_ps]
  refine so_eq ((so_pw so1).filter _) ((so_pw so2).filter _) ?_
  refine (List.perm_ext_iff_of_nodup ((pm1.nodup_iff.mpr (keys_nd al1 nd1)).filter _) ((pm2.nodup_iff.mpr (keys_nd al2 nd2)).filter _)).mpr fun z => ?_
  rw [List.mem_filter, List.mem_filter, pm1.mem_iff, pm2.mem_iff, tf_key al1, tf_key al2]
  constructor
  · rintro ⟨h1, h2⟩
    obtain ⟨c, rfl⟩ := one_sign (z := z) (by rw [cs_len]; simpa using h2)
    exact ⟨(ss c).mp h1, h2⟩
  · rintro ⟨h1, h2⟩
    obtain ⟨c, rfl⟩ := one_sign (z := z) (by rw [cs_len]; simpa using h2)
    exact ⟨(ss c).mpr h1, h2⟩
/-! ### tuples of texts as data -/
theorem dpAll_strs {K : PySem.W.Frag} {H : Hp} : ∀ zs : List Str, DpAll K H (zs.map V.str) (zs.map PyData.str)
  | [] => .nil
  | z :: r => .cons (.str z) (dpAll_strs r)
theorem strOk_lett {z : Str} (h : ∀ c ∈ cs z, lett c = true) : PyData.strOk z = true := by
  show z.cps.all (fun c => decide (c < 0x110000)) = true
  rw [Array.all_eq_true_iff_forall_mem]
  intro c hc
  have h1 := h c (by simpa [cs] using hc)
  unfold lett at h1
  rw [Bool.and_eq_true] at h1
  have := of_decide_eq_true h1.2
  exact decide_eq_true (by omega)
theorem shaped_strs {zs : List Str} (h : ∀ z ∈ zs, ∀ c ∈ cs z, lett c = true) : SeqAt.shaped (.tuple (zs.map PyData.str)) = true := by
  have h1 : ∀ l : List Str, (∀ z ∈ l, ∀ c ∈ cs z, lett c = true) → PyData.canLayAll0 (l.map PyData.str) = true := by
    intro l hl
    induction l with
    | nil => rfl
    | cons a r ih => simp [PyData.canLayAll0, PyData.canLay0, strOk_lett (hl a List.mem_cons_self), ih fun z hz => hl z (List.mem_cons_of_mem _ hz)]
  have h2 : ∀ l : List Str, PyData.depthAll (l.map PyData.str) = 0 := by
    intro l
    induction l with
    | nil => simp [PyData.depthAll]
    | cons a r ih => simp [PyData.depthAll, PyData.depth, ih]
  unfold SeqAt.shaped
  rw [Bool.and_eq_true]
  refine ⟨by simpa [PyData.canLay0] using h1 zs h, decide_eq_true ?_⟩
  simp only [PyData.depth, h2]
  omega
theorem eqv_strs {zs : List Str} (h : ∀ z ∈ zs, ∀ c ∈ cs z, lett c = true) : PyData.eqv (.tuple (zs.map PyData.str)) (.tuple (zs.map PyData.str)) = true :=
  SeqAt.eqv_refl _ (SeqAt.canLay_of_shaped (shaped_strs h))
/-! ### promises of cutbehind.base.compared -/
def NoDear (F1 F2 : Tf) : Prop := ∀ z p, F2 z = some p → lp F1 (cs z) ≤ p
/-- what dearer_in returns -/
def DearR (F1 F2 : Tf) (r : V) : Prop := (r = .non ∧ NoDear F1 F2) ∨ ∃ z p, r = .str z ∧ F2 z = some p ∧ p < lp F1 (cs z) ∧ ∀ z' p', F2 z' = some p' → cs z' < cs z → lp F1 (cs z') ≤ p'
def spReqBook (C : Addr) : Sp := fun vs H Q _ => ∃ b dx fs, vs = [.ref b] ∧ H b = some (.ins C dx fs) ∧ Q .non H
def Two (C : Addr) (H : Hp) (vs : List V) (k1 k2 : List (Key × V)) : Prop := ∃ b1 b2, vs = [.ref b1, .ref b2] ∧ Book1 C H b1 k1 ∧ Book1 C H b2 k2 ∧ SameSigns (tfD k1) (tfD k2)
def spReqCmp (C : Addr) : Sp := fun vs H Q _ => ∃ k1 k2, Two C H vs k1 k2 ∧ ∀ H', Same H H' → Q .non H'
def spDearer (C : Addr) : Sp := fun vs H Q _ => ∃ k1 k2, Two C H vs k1 k2 ∧ ∀ r H', Same H H' → DearR (tfD k1) (tfD k2) r → Q r H'
def spNowhere (C : Addr) : Sp := fun vs H Q _ => ∃ k1 k2, Two C H vs k1 k2 ∧ ∀ b H', Same H H' → (b = true ↔ NoDear (tfD k1) (tfD k2)) → Q (.bl b) H'
def spAsCheap (C : Addr) : Sp := fun vs H Q _ => ∃ k1 k2, Two C H vs k1 k2 ∧ ∀ b H', Same H H' → (b = true ↔ NoDear (tfD k1) (tfD k2) ∧ NoDear (tfD k2) (tfD k1)) → Q (.bl b) H'
theorem dear_non {F1 F2 : Tf} {r : V} (d : DearR F1 F2 r) : decide (r = .non) = true ↔ NoDear F1 F2 := by
  rw [decide_eq_true_eq]
  rcases d with ⟨h1, h2⟩ | ⟨z, p, h1, h2, h3, _⟩
  · exact ⟨fun _ => h2, fun _ => h1⟩
  · refine ⟨fun e => ?_, fun n => ?_⟩
    · rw [h1] at e
      cases e
    · have := n z p h2
      omega
theorem SameSigns.symm {F1 F2 : Tf} (h : SameSigns F1 F2) : SameSigns F2 F1 := fun c => (h c).symm
/-! ### lists of texts as data; heaps with a lock -/
theorem shaped_lstrs {zs : List Str} (h : ∀ z ∈ zs, ∀ c ∈ cs z, lett c = true) : SeqAt.shaped (.list (zs.map PyData.str)) = true := by
  have h1 := shaped_strs h
  unfold SeqAt.shaped at h1 ⊢
  simpa [PyData.canLay0, PyData.depth] using h1
theorem eqv_nil (zs : List Str) : PyData.eqv (.list (zs.map PyData.str)) (.list []) = zs.isEmpty := by cases zs <;> simp [PyData.eqv, PyData.eqvAll]
theorem rd_lock {H : Hp} {a b : Addr} {u v : HO} {od : Obj} (h : H a = some u) (k : H b = some v) : Rd (upd H b (.frz od v)) a u := by
  by_cases e : a = b
  · subst e
    rw [h] at k
    cases k
    exact .inr ⟨od, upd_same⟩
  · exact .inl (by rw [upd_ne e]; exact h)
theorem repr_bool {K : PySem.W.Frag} {H : Hp} {b : Bool} {Q : VK} (q : Q (.str (PyData.bool b).shown) H) : rRepr K [.bl b] H Q :=
  ⟨_, .bool b, rfl, .bl b, (shw_bool b).s, (shw_bool b).h, Nat.le_trans (shw_bool b).dp (by omega), Nat.le_trans (shw_bool b).len (fits_sz (by omega)), q⟩
/-- x == [] for a list of texts -/
theorem eq_nil {K : PySem.W.Frag} {H : Hp} {a p : Addr} {zs : List Str} {Q : VK} (h : SqL K H a (zs.map V.str)) (hp : H p = some (.lst [])) (hl : ∀ z ∈ zs, ∀ c ∈ cs z, lett c = true) (q : Q (.bl zs.isEmpty) H) : rEqD K (.ref a) (.ref p) H Q := by
  refine ⟨.list (zs.map PyData.str), .list [], .lst h (dpAll_strs zs), .lst (SqL.of hp) .nil, shaped_lstrs hl, by decide, ?_⟩
  rw [eqv_nil]
  exact q
/-! ### books under changes of lists; which texts are dearer -/
theorem Book1.keep {C : Addr} {H H' : Hp} {b : Addr} {kvs : List (Key × V)} (B : Book1 C H b kvs) (h : ∀ a o, H a = some o → (∀ xs, o ≠ .lst xs) → H' a = some o) : Book1 C H' b kvs := by
  obtain ⟨ys, L, M, dx, d, tp, ta, od, h1, h2, A⟩ := B.ex
  exact ⟨B.av, B.nd, ys, L, M, dx, d, tp, ta, od, h1, h2, h _ _ A.ob (fun _ e => by cases e), h _ _ A.dc (fun _ e => by cases e), h _ _ A.pi (fun _ e => by cases e), h _ _ A.al (fun _ e => by cases e), A.lo, A.de⟩
theorem Book1.updL {C : Addr} {H : Hp} {a b : Addr} {kvs : List (Key × V)} {xs : List V} {o : HO} (B : Book1 C H b kvs) (h : H a = some (.lst xs)) : Book1 C (upd H a o) b kvs :=
  B.keep fun c u e n => by
    rw [upd_ne fun q => ?_]
    · exact e
    · rw [q, h] at e
      exact n xs (Option.some.inj e).symm
theorem Book1.kp {C : Addr} {H H' : Hp} {l b : Addr} {kvs : List (Key × V)} {n : Nat} (B : Book1 C H b kvs) (D : Dice H l n) (k : Kp l H H') : Book1 C H' b kvs := by
  obtain ⟨d0, d1, d2, h, _⟩ := D
  refine B.keep fun c u e n => k c u e fun q => ?_
  rw [q, h] at e
  exact n _ (Option.some.inj e).symm
noncomputable def dearG (F1 F2 : Tf) : Key × V → Option Str := fun kv => match kv.1 with
  | .inr z => if lp F2 (cs z) < lp F1 (cs z) then some z else none
  | .inl _ => none
theorem Tar.mono {k1 k2 : List (Key × V)} (t1 : Tar k1) (t2 : Tar k2) (ss : SameSigns (tfD k1) (tfD k2)) (h : NoDear (tfD k1) (tfD k2)) {l : List Nat} (o : Over (tfD k1) l) : lp (tfD k1) l ≤ lp (tfD k2) l :=
  lp_mono t1.good t2.good (fun z p hz => ⟨fun c hc => (ss c).mpr (t2.good.cov z p hz c hc), h z p hz⟩) o fun c hc => (ss c).mp (o c hc)
theorem dear_iff {k1 k2 kf : List (Key × V)} {S : Str → Prop} (T : TblOk (tfD k1) S kf) (t1 : Tar k1) (t2 : Tar k2) (ss : SameSigns (tfD k1) (tfD k2)) (hS : ∀ z, S z → Over (tfD k1) (cs z)) (hk : ∀ z p, tfD k2 z = some p → S z) :
    kf.filterMap (dearG (tfD k1) (tfD k2)) = [] ↔ NoDear (tfD k1) (tfD k2) := by
  rw [List.filterMap_eq_nil_iff]
  constructor
  · intro h z p hz
    have h1 := h _ (valV_mem (T.val z (hk z p hz)))
    have h2 : (if lp (tfD k2) (cs z) < lp (tfD k1) (cs z) then some z else none) = none := h1
    have h3 := lp_piece t2.good hz
    by_cases q : lp (tfD k2) (cs z) < lp (tfD k1) (cs z)
    · rw [if_pos q] at h2
      cases h2
    · omega
  · intro n kv hkv
    obtain ⟨z, ez, hz⟩ := T.key kv hkv
    unfold dearG
    rw [ez]
    show (if lp (tfD k2) (cs z) < lp (tfD k1) (cs z) then some z else none) = none
    have := t1.mono t2 ss n (hS z hz)
    rw [if_neg (by omega)]
theorem nodear_trans {k0 k1 k2 : List (Key × V)} (t0 : Tar k0) (t1 : Tar k1) (t2 : Tar k2) (s01 : SameSigns (tfD k0) (tfD k1)) (s12 : SameSigns (tfD k1) (tfD k2)) (h : NoDear (tfD k0) (tfD k1)) (k : NoDear (tfD k1) (tfD k2)) : NoDear (tfD k0) (tfD k2) := by
  intro z p hz
  have h1 := k z p hz
  have h2 := t0.mono t1 s01 h (l := cs z) fun c hc => (s01 c).mpr ((s12 c).mpr (t2.good.cov z p hz c hc))
  omega
theorem nodear_self {k : List (Key × V)} (t : Tar k) : NoDear (tfD k) (tfD k) := fun z p hz => lp_piece t.good hz
theorem fm_str {α : Type} {g : α → Option Str} {l : List α} : l.filterMap (fun a => (g a).map V.str) = (l.filterMap g).map V.str := by
  rw [List.map_filterMap]
theorem tandv {ta tb : TE} {σ : L2.St} {H : Hp} {Q : VK} {a b : Bool} (ha : ∀ N : VK, N (.bl a) H → ta σ H N) (hb : ∀ N : VK, N (.bl b) H → tb σ H N) (q : Q (.bl (a && b)) H) : tAndV ta tb σ H Q := by
  refine ha _ ⟨a, rfl, ?_⟩
  refine itB (fun e => hb _ ?_) (fun e => ?_)
  · rw [e] at q
    exact q
  · rw [e] at q
    exact q
/-! ### the row of prices_along -/
theorem best_end {F : Tf} {l : List Nat} {L : Nat} {m : Int} (G : Good F) (o : Over F l) (ne : l ≠ []) (hL : ∀ z p, F z = some p → (cs z).length ≤ L) (hm : ∃ s, s < l.length ∧ costF F l s = some m)
    (hb : ∀ s y, l.length - L ≤ s → s < l.length → costF F l s = some y → m ≤ y) : m = lp F l := by
  refine lp_step G o ne (ys := (List.range l.length).filterMap (costF F l)) ?_ ?_ ?_ ?_
  · intro y hy
    obtain ⟨s, hs, g⟩ := List.mem_filterMap.mp hy
    have g' : (F (sOf (l.drop s))).map (fun p => lp F (l.take s) + p) = some y := g
    cases e : F (sOf (l.drop s)) with
    | none =>
      rw [e] at g'
      cases g'
    | some p =>
      rw [e] at g'
      exact ⟨_, p, l.take s, e, by rw [cs_sOf, List.take_append_drop], (Option.some.inj g').symm⟩
  · intro z p a hp ha
    have hn := (G.len z p hp).1
    have hl := congrArg List.length ha
    rw [List.length_append] at hl
    refine List.mem_filterMap.mpr ⟨a.length, List.mem_range.mpr (by omega), ?_⟩
    unfold costF
    have e2 : l.drop a.length = cs z := by rw [ha, List.drop_left]
    have e3 : l.take a.length = a := by rw [ha, List.take_left]
    rw [e2, e3, sOf_cs, hp]
    rfl
  · obtain ⟨s, hs, e⟩ := hm
    exact List.mem_filterMap.mpr ⟨s, List.mem_range.mpr hs, e⟩
  · intro y hy
    obtain ⟨s, hs, g⟩ := List.mem_filterMap.mp hy
    have hs' := List.mem_range.mp hs
    refine hb s y ?_ hs' g
    have g' : (F (sOf (l.drop s))).map (fun p => lp F (l.take s) + p) = some y := g
    cases e : F (sOf (l.drop s)) with
    | none =>
      rw [e] at g'
      cases g'
    | some p =>
      have := hL _ _ e
      rw [cs_sOf, List.length_drop] at this
      omega
theorem maxN (n m : Nat) : (if (n : Int) - (m : Int) > 0 then (n : Int) - (m : Int) else 0) = ((n - m : Nat) : Int) := by split <;> omega
/-- prices_along -/
def spAlong (C : Addr) : Sp := fun vs H Q _ => ∃ b kvs z, vs = [.ref b, .str z] ∧ Book1 C H b kvs ∧ Over (tfD kvs) (cs z) ∧ z.length ≤ 10000 ∧ ∀ p H', H p = none → H' p = some (.lst (rowV (tfD kvs) (cs z) (z.length + 1))) → Same H H' → Q (.ref p) H'
/-! ### properties -/
structure HasP (P : Program) (w : World) (K : PySem.W.Frag) (mg : Str → Option Value) (base : Heap) (k : Nat) (C : Addr) (f : Str) (sp : Sp) : Prop where
  ex : ∃ p g fd, Cls K C ∧ PropOf K C f p g ∧ FnOk P w K mg base CX0 k g fd ["self"] sp ∧ Binds K fd ["self"] []
theorem pe_prp {X : Cx} {k j : Nat} {C : Addr} {f : Str} {sp : Sp} {e : Expr} {pos : Pos} {ta : TE} (c : HasP X.prog X.w X.K X.mg X.base k C f sp) (hr : Room j X.A) (hk : k + 1 ≤ j) (he : PE X e ta)
    (hab : attributeBase e f X.env (eval e X.env) = eval e X.env := by rfl) : PE X (.Attribute e f pos) (tProp C sp [] C8.E0 ta) := by
  obtain ⟨p, g, fd, hc, hp, F, hb⟩ := c.ex
  exact pe_prop he hc hp F (hr.mono hk) hb .nil pass0 hab
/-! ### texts over a book -/
theorem inV_str {z : Str} : ∀ {zs : List Str}, inV (.str z) (zs.map V.str) = decide (z ∈ zs)
  | [] => by simp [inV]
  | a :: r => by
    have ih := inV_str (z := z) (zs := r)
    unfold inV at ih ⊢
    rw [List.map_cons, List.any_cons, ih]
    have e : eqV (.str a) (.str z) = decide (z = a) := by
      by_cases h : z = a
      · subst h
        simp [eqV]
      · have h' : ¬ a = z := fun q => h q.symm
        simp [eqV, h, h']
    rw [e]
    by_cases h : z = a <;> simp [h]
theorem flat_strs (zs : List Str) : (zs.map V.str).all flatV = true := by
  rw [List.all_map, List.all_eq_true]
  intro z _
  rfl
theorem sgn_mem {kvs : List (Key × V)} {ys : List Str} (al : (kvs.all fun kv => isPiece (kV kv.1) && isPrice kv.2) = true) (pm : ys.Perm (keyStrs kvs)) {c : Nat} : ch c ∈ sgn (psOf kvs ys) ↔ ∃ p, tfD kvs (ch c) = some p := by
  rw [sgn_ps, List.mem_filter, pm.mem_iff, tf_key al]
  exact ⟨fun h => h.1, fun h => ⟨h, rfl⟩⟩
def overB (kvs : List (Key × V)) (z : Str) : Bool := isText (.str z) && (cs z).all fun c => (tfD kvs (ch c)).isSome
theorem overB_true {kvs : List (Key × V)} {z : Str} (h1 : isText (.str z) = true) (h2 : Over (tfD kvs) (cs z)) : overB kvs z = true := by
  unfold overB
  rw [h1, Bool.true_and, List.all_eq_true]
  intro c hc
  obtain ⟨p, hp⟩ := h2 c hc
  rw [hp]
  rfl
/-- is_text_over, accepts -/
def spTextOver (C : Addr) : Sp := fun vs H Q _ => ∃ b kvs z, vs = [.ref b, .str z] ∧ Book1 C H b kvs ∧ z.length ≤ 100000 ∧ ∀ H', Same H H' → Q (.bl (overB kvs z)) H'
/-- require_text -/
def spReqText (C : Addr) : Sp := fun vs H Q _ => ∃ b kvs z, vs = [.ref b, .str z] ∧ Book1 C H b kvs ∧ z.length ≤ 100000 ∧ overB kvs z = true ∧ ∀ H', Same H H' → Q .non H'
/-- prices -/
def spPrices (C : Addr) : Sp := fun vs H Q _ => ∃ b kvs, vs = [.ref b] ∧ Book1 C H b kvs ∧ ∀ p ys H', H p = none → ys.Perm (keyStrs kvs) → sortedS ys = true → H' p = some (.dK (kvOf (psOf kvs ys))) → Same H H' → Q (.ref p) H'
/-- least_price, of a dict that is not changed -/
def spLeastPrice : Sp := fun vs H Q _ => ∃ d od kvs z, vs = [.ref d, .str z] ∧ H d = some (.frz od (.dK kvs)) ∧ Tar kvs ∧ Over (tfD kvs) (cs z) ∧ z.length ≤ 10000 ∧ ∀ H', Same H H' → Q (.int (lp (tfD kvs) (cs z))) H'
theorem rNe_nil {K : PySem.W.Frag} {H : Hp} {a p : Addr} {zs : List Str} {Q : VK} (h : SqL K H a (zs.map V.str)) (hp : H p = some (.lst [])) (hl : ∀ z ∈ zs, ∀ c ∈ cs z, lett c = true) (q : Q (.bl (!zs.isEmpty)) H) : rNeD K (.ref a) (.ref p) H Q := by
  refine ⟨.list (zs.map PyData.str), .list [], .lst h (dpAll_strs zs), .lst (SqL.of hp) .nil, shaped_lstrs hl, by decide, ?_⟩
  rw [eqv_nil]
  exact q
end G
/-! Fronts, in plain Lean. -/
namespace G
open PySem PySem.Spec PyProof.Rows L2
def Wide (F : Tf) (L : Nat) : Prop := (∃ z p, F z = some p ∧ (cs z).length = L) ∧ ∀ z p, F z = some p → (cs z).length ≤ L
def frontW (L : Nat) (l : List Nat) : List Nat := l.drop (l.length - min (L - 1) l.length)
noncomputable def frontD (F : Tf) (L : Nat) (l : List Nat) : List Int := (List.range (min (L - 1) l.length)).map fun i => lp F (l.take (l.length - (i + 1))) - lp F l
def FrontAt (H : Hp) (t : Addr) (l : List Nat) (ds : List Int) : Prop := ∃ td, H t = some (.tup [.str (sOf l), .ref td]) ∧ H td = some (.tup (ds.map V.int))
theorem FrontAt.same {H H' : Hp} {t : Addr} {l : List Nat} {ds : List Int} (f : FrontAt H t l ds) (s : Same H H') : FrontAt H' t l ds := by
  obtain ⟨td, h1, h2⟩ := f
  exact ⟨td, s _ _ h1, s _ _ h2⟩
section
variable {F : Tf} {L : Nat} {l : List Nat} {ds : List Int} {c : Nat} {m : Int}
theorem frontW_len : (frontW L l).length = min (L - 1) l.length := by
  unfold frontW
  rw [List.length_drop]
  omega
theorem frontD_len : (frontD F L l).length = min (L - 1) l.length := by
  unfold frontD
  rw [List.length_map, List.length_range]
theorem frontD_at {i : Nat} (h : i < min (L - 1) l.length) : (frontD F L l)[i]? = some (lp F (l.take (l.length - (i + 1))) - lp F l) := by
  unfold frontD
  rw [List.getElem?_map, List.getElem?_range h]
  rfl
/-- 0 and the differences: what the row says by steps back -/
theorem ahead_at {i : Nat} (h : i ≤ min (L - 1) l.length) : ((0 : Int) :: frontD F L l)[i]? = some (lp F (l.take (l.length - i)) - lp F l) := by
  cases i with
  | zero =>
    show some (0 : Int) = _
    rw [Nat.sub_zero, List.take_length]
    simp
  | succ i =>
    show (frontD F L l)[i]? = _
    exact frontD_at (by omega)
/-- the change at a sign, of any front -/
def StepR (F : Tf) (l : List Nat) (ds : List Int) (c : Nat) (m : Int) : Prop :=
  (∃ z p a y, F z = some p ∧ l ++ [c] = a ++ cs z ∧ ((0 : Int) :: ds)[(cs z).length - 1]? = some y ∧ m = p + y) ∧ ∀ z p a y, F z = some p → l ++ [c] = a ++ cs z → ((0 : Int) :: ds)[(cs z).length - 1]? = some y → m ≤ p + y
theorem StepR.uniq {n : Int} (h : StepR F l ds c m) (k : StepR F l ds c n) : m = n := by
  obtain ⟨⟨z, p, a, y, h1, h2, h3, rfl⟩, h4⟩ := h
  obtain ⟨⟨z', p', a', y', k1, k2, k3, rfl⟩, k4⟩ := k
  have := h4 z' p' a' y' k1 k2 k3
  have := k4 z p a y h1 h2 h3
  omega
def stepW (L : Nat) (l : List Nat) (c : Nat) : List Nat := (l ++ [c]).drop (l.length + 1 - (L - 1))
def stepD (L : Nat) (l : List Nat) (ds : List Int) (c : Nat) (m : Int) : List Int := (((0 : Int) :: ds).map fun x => x - m).take (stepW L l c).length
theorem stepW_len : (stepW L l c).length = min (L - 1) (l.length + 1) := by
  unfold stepW
  rw [List.length_drop, List.length_append]
  show l.length + 1 - _ = _
  omega
/-- a piece at the end of the front's signs is one at the end of the text, and the other way about -/
theorem front_suffix {z : Str} {p : Int} (W : Wide F L) (G : Good F) (hz : F z = some p) : (∃ a, frontW L l ++ [c] = a ++ cs z) ↔ ∃ a, l ++ [c] = a ++ cs z := by
  have n1 := (G.len z p hz).1
  have n2 := W.2 z p hz
  have el : l = l.take (l.length - min (L - 1) l.length) ++ frontW L l := (List.take_append_drop _ _).symm
  constructor
  · rintro ⟨a, h⟩
    refine ⟨l.take (l.length - min (L - 1) l.length) ++ a, ?_⟩
    rw [List.append_assoc, ← h, ← List.append_assoc, ← el]
  · rintro ⟨a, h⟩
    have hl := congrArg List.length h
    rw [List.length_append, List.length_append, List.length_singleton] at hl
    refine ⟨(frontW L l ++ [c]).take (min (L - 1) l.length + 1 - (cs z).length), ?_⟩
    have e1 : (frontW L l ++ [c]) = (l ++ [c]).drop (l.length - min (L - 1) l.length) := by
      rw [List.drop_append_of_le_length (by omega)]
      rfl
    have e2 : (frontW L l ++ [c]).drop (min (L - 1) l.length + 1 - (cs z).length) = cs z := by
      rw [e1, List.drop_drop, h, List.drop_append, List.drop_of_length_le (by omega)]
      have : l.length - min (L - 1) l.length + (min (L - 1) l.length + 1 - (cs z).length) - a.length = 0 := by omega
      rw [this]
      rfl
    conv => lhs; rw [← List.take_append_drop (min (L - 1) l.length + 1 - (cs z).length) (frontW L l ++ [c])]
    rw [e2]
/-- the change of a text's front is what the sign costs more -/
theorem front_change (G : Good F) (W : Wide F L) (o : Over F (l ++ [c])) : StepR F (frontW L l) (frontD F L l) c (lp F (l ++ [c]) - lp F l) := by
  have at' : ∀ {z : Str} {p : Int} {a : List Nat}, F z = some p → l ++ [c] = a ++ cs z → ((0 : Int) :: frontD F L l)[(cs z).length - 1]? = some (lp F a - lp F l) := by
    intro z p a hz h
    have n1 := (G.len z p hz).1
    have n2 := W.2 z p hz
    have hl := congrArg List.length h
    rw [List.length_append, List.length_append, List.length_singleton] at hl
    rw [ahead_at (by omega)]
    have e : l.take (l.length - ((cs z).length - 1)) = a := by
      have h2 : (l ++ [c]).take a.length = a := by rw [h, List.take_left]
      rw [List.take_append_of_le_length (by omega)] at h2
      have : l.length - ((cs z).length - 1) = a.length := by omega
      rw [this, h2]
    rw [e]
  constructor
  · obtain ⟨z, p, a, h1, h2, h3⟩ := lp_last G o (by simp)
    obtain ⟨a', ha'⟩ := (front_suffix (c := c) (l := l) W G h1).mpr ⟨a, h2⟩
    exact ⟨z, p, a', _, h1, ha', at' h1 h2, by omega⟩
  · intro z p a y h1 h2 h3
    obtain ⟨a', ha'⟩ := (front_suffix (c := c) (l := l) W G h1).mp ⟨a, h2⟩
    rw [at' h1 ha'] at h3
    have e := Option.some.inj h3
    have h4 := lp_app G (a := a') (by rw [ha'] at o; exact o.left) h1
    rw [← ha'] at h4
    omega
theorem front_stepW (hL : 1 ≤ L) : stepW L (frontW L l) c = frontW L (l ++ [c]) := by
  have e1 : (frontW L l ++ [c]) = (l ++ [c]).drop (l.length - min (L - 1) l.length) := by
    rw [List.drop_append_of_le_length (by omega)]
    rfl
  unfold stepW
  rw [e1, List.drop_drop]
  show _ = (l ++ [c]).drop ((l ++ [c]).length - min (L - 1) (l ++ [c]).length)
  rw [List.length_append, List.length_singleton, frontW_len]
  congr 1
  omega
theorem front_stepD (hL : 1 ≤ L) : stepD L (frontW L l) (frontD F L l) c (lp F (l ++ [c]) - lp F l) = frontD F L (l ++ [c]) := by
  have ln : (stepW L (frontW L l) c).length = min (L - 1) (l.length + 1) := by
    rw [stepW_len, frontW_len]
    omega
  refine List.ext_getElem? fun i => ?_
  unfold stepD
  rw [ln, List.getElem?_take]
  by_cases h : i < min (L - 1) (l.length + 1)
  · rw [if_pos h, List.getElem?_map, ahead_at (by omega), frontD_at (by rw [List.length_append]; exact h)]
    show some _ = some _
    congr 1
    have e : (l ++ [c]).take ((l ++ [c]).length - (i + 1)) = l.take (l.length - i) := by
      rw [List.length_append, List.length_singleton, List.take_append_of_le_length (by omega)]
      congr 1
      omega
    rw [e]
    dsimp only
    omega
  · rw [if_neg h, List.getElem?_eq_none]
    rw [frontD_len, List.length_append]
    show min (L - 1) (l.length + 1) ≤ i
    omega
end
/-! ### promises -/
theorem wide_of {kvs : List (Key × V)} {ys : List Str} {Ln : Nat} (av : arePrices kvs = true) (pm : ys.Perm (keyStrs kvs)) (h : IsMax (Ln : Int) (lens (psOf kvs ys))) : Wide (tfD kvs) Ln ∧ 1 ≤ Ln ∧ Ln ≤ 5 := by
  obtain ⟨_, al, _, _⟩ := ap_parts av
  obtain ⟨lm, lo⟩ := h
  obtain ⟨q, hq, e⟩ := List.mem_map.mp lm
  obtain ⟨y, hy, rfl⟩ := List.mem_map.mp hq
  have e' : (y.length : Int) = (Ln : Int) := e
  have hk := pm.mem_iff.mp hy
  obtain ⟨p, hp⟩ := (tf_key al).mp hk
  have h1 := keyStrs_piece al y hk
  have h2 := cs_len y
  refine ⟨⟨⟨y, p, hp, by omega⟩, fun z q hz => ?_⟩, by omega, by omega⟩
  have h3 := lo _ (List.mem_map.mpr ⟨(z, priceIn kvs z), List.mem_map.mpr ⟨z, pm.mem_iff.mpr ((tf_key al).mpr ⟨q, hz⟩), rfl⟩, rfl⟩)
  have h4 : (z.length : Int) ≤ (Ln : Int) := h3
  rw [cs_len]
  omega
theorem Wide.uniq {F : Tf} {L M : Nat} (h : Wide F L) (k : Wide F M) : L = M := by
  obtain ⟨⟨z, p, h1, h2⟩, h3⟩ := h
  obtain ⟨⟨y, q, k1, k2⟩, k3⟩ := k
  have := h3 y q k1
  have := k3 z p h1
  omega
/-- front_in, front_of -/
def spFrontIn (C : Addr) : Sp := fun vs H Q _ => ∃ b kvs z, vs = [.ref b, .str z] ∧ Book1 C H b kvs ∧ Over (tfD kvs) (cs z) ∧ z.length ≤ 8000 ∧ isText (.str z) = true ∧
  ∀ L t H', Wide (tfD kvs) L → FrontAt H' t (frontW L (cs z)) (frontD (tfD kvs) L (cs z)) → Same H H' → Q (.ref t) H'
/-- what step_in returns -/
def StepAt (H : Hp) (t : Addr) (l : List Nat) (ds : List Int) (m : Int) : Prop := ∃ u, H t = some (.tup [.ref u, .int m]) ∧ FrontAt H u l ds
/-- step_in, next_front -/
def spStepIn (C : Addr) : Sp := fun vs H Q _ => ∃ (b f : Addr) (kvs : List (Key × V)) (l : List Nat) (ds : List Int) (c L : Nat), vs = [.ref b, .ref f, .str (ch c)] ∧ Book1 C H b kvs ∧ FrontAt H f l ds ∧ Wide (tfD kvs) L ∧ Over (tfD kvs) l ∧ Over (tfD kvs) [c] ∧ l.length < L ∧ ds.length = l.length ∧ (∀ x ∈ l, lett x = true) ∧
  (∀ x ∈ ds, isInteger (.int x) = true) ∧ ∀ t m H', StepR (tfD kvs) l ds c m → StepAt H' t (stepW L l c) (stepD L l ds c m) m → Same H H' → Q (.ref t) H'
theorem cutV_to {xs : List V} {i : Nat} (h : i ≤ xs.length) : cutV xs none (some (i : Int)) = xs.take i := by
  unfold cutV
  rw [show HT.sIx xs.length xs.length (some (i : Int)) = i by rw [sIx_pos (by omega), Int.toNat_natCast]; omega]
  rfl
noncomputable def aheadAt (ds : List Int) (y : Str) : Int := (((0 : Int) :: ds)[(cs y).length - 1]?).getD 0
theorem ends_fm {lg : Str} {ys : List Str} : (ys.filterMap fun y => if Txt.endswith lg y = true then some (V.str y) else none) = (ys.filter fun y => Txt.endswith lg y).map V.str := by
  induction ys with
  | nil => rfl
  | cons a r ih =>
    rw [List.filterMap_cons, List.filter_cons, ih]
    cases Txt.endswith lg a <;> rfl
/-- the least candidate is the change -/
theorem step_min {kvs : List (Key × V)} {ys : List Str} {lg : Str} {l : List Nat} {ds : List Int} {c : Nat} (av : arePrices kvs = true) (pm : ys.Perm (keyStrs kvs)) (hg : cs lg = l ++ [c]) (hds : ds.length = l.length) (oc : Over (tfD kvs) [c]) :
    0 < ((ys.filter fun y => Txt.endswith lg y).map fun y => priceIn kvs y + aheadAt ds y).length ∧ ∀ m ∈ (ys.filter fun y => Txt.endswith lg y).map (fun y => priceIn kvs y + aheadAt ds y), (∀ y ∈ (ys.filter fun y => Txt.endswith lg y).map (fun y => priceIn kvs y + aheadAt ds y), m ≤ y) → StepR (tfD kvs) l ds c m := by
  obtain ⟨_, al, _, _⟩ := ap_parts av
  have good := good_of av
  have price : ∀ {y p}, tfD kvs y = some p → p = priceIn kvs y := fun {y p} h => by
    have h1 := (price_of_key al ((tf_key al).mpr ⟨p, h⟩)).1
    rw [tf_some.mp h] at h1
    exact V.int.inj (Option.some.inj h1)
  have mem : ∀ {y p a}, tfD kvs y = some p → l ++ [c] = a ++ cs y → y ∈ ys.filter fun y => Txt.endswith lg y := fun {y p a} h h2 =>
    List.mem_filter.mpr ⟨pm.mem_iff.mpr ((tf_key al).mpr ⟨p, h⟩), ends_iff.mpr ⟨a, by rw [hg]; exact h2⟩⟩
  have ah : ∀ {y p a}, tfD kvs y = some p → l ++ [c] = a ++ cs y → ((0 : Int) :: ds)[(cs y).length - 1]? = some (aheadAt ds y) := fun {y p a} h h2 => by
    have n1 := (good.len y p h).1
    have h3 := congrArg List.length h2
    rw [List.length_append, List.length_append, List.length_singleton] at h3
    unfold aheadAt
    rw [List.getElem?_eq_getElem (by rw [List.length_cons]; omega)]
    rfl
  constructor
  · rw [List.length_map]
    obtain ⟨p, hp⟩ := oc c List.mem_cons_self
    exact List.length_pos_of_mem (mem (y := ch c) (a := l) hp rfl)
  · intro m hm hle
    constructor
    · obtain ⟨y, hy, rfl⟩ := List.mem_map.mp hm
      obtain ⟨h1, h2⟩ := List.mem_filter.mp hy
      obtain ⟨a, ha⟩ := ends_iff.mp h2
      rw [hg] at ha
      obtain ⟨p, hp⟩ := (tf_key al).mp (pm.mem_iff.mp h1)
      exact ⟨y, p, a, _, hp, ha, ah hp ha, by rw [price hp]⟩
    · intro z p a y hz h2 h3
      have h4 := hle _ (List.mem_map.mpr ⟨z, mem hz h2, rfl⟩)
      rw [ah hz h2] at h3
      rw [price hz, ← Option.some.inj h3]
      exact h4
structure FrontArg (C : Addr) (H : Hp) (b f : Addr) (kvs : List (Key × V)) (l : List Nat) (ds : List Int) (L : Nat) : Prop where
  bk : Book1 C H b kvs
  fr : FrontAt H f l ds
  wd : Wide (tfD kvs) L
  ov : Over (tfD kvs) l
  ln : l.length < L
  dl : ds.length = l.length
  lt : ∀ x ∈ l, lett x = true
  di : ∀ x ∈ ds, isInteger (.int x) = true
theorem FrontArg.same {C : Addr} {H H' : Hp} {b f : Addr} {kvs : List (Key × V)} {l : List Nat} {ds : List Int} {L : Nat} (a : FrontArg C H b f kvs l ds L) (s : Same H H') : FrontArg C H' b f kvs l ds L :=
  ⟨a.bk.same s, a.fr.same s, a.wd, a.ov, a.ln, a.dl, a.lt, a.di⟩
/-- has_front_form, of a front in its form -/
def spForm (C : Addr) : Sp := fun vs H Q _ => ∃ (b f : Addr) (kvs : List (Key × V)) (l : List Nat) (ds : List Int) (L : Nat), vs = [.ref b, .ref f] ∧ FrontArg C H b f kvs l ds L ∧ ∀ H', Same H H' → Q (.bl true) H'
def spReqFront (C : Addr) : Sp := fun vs H Q _ => ∃ (b f : Addr) (kvs : List (Key × V)) (l : List Nat) (ds : List Int) (L : Nat), vs = [.ref b, .ref f] ∧ FrontArg C H b f kvs l ds L ∧ ∀ H', Same H H' → Q .non H'
def spReqSign (C : Addr) : Sp := fun vs H Q _ => ∃ (b : Addr) (kvs : List (Key × V)) (c : Nat), vs = [.ref b, .str (ch c)] ∧ Book1 C H b kvs ∧ Over (tfD kvs) [c] ∧ ∀ H', Same H H' → Q .non H'
def spNext (C : Addr) : Sp := fun vs H Q _ => ∃ (b f : Addr) (kvs : List (Key × V)) (l : List Nat) (ds : List Int) (c L : Nat), vs = [.ref b, .ref f, .str (ch c)] ∧ FrontArg C H b f kvs l ds L ∧ Over (tfD kvs) [c] ∧ lett c = true ∧
  ∀ t m H', StepR (tfD kvs) l ds c m → StepAt H' t (stepW L l c) (stepD L l ds c m) m → Same H H' → Q (.ref t) H'
/-! ### the law's helpers -/
/-- _law_shuffled, of letters -/
def spShuf (K : PySem.W.Frag) : Sp := fun vs H Q _ => ∃ (l a : Addr) (cl : List Nat) (n : Nat), vs = [.ref l, .ref a] ∧ a ≠ l ∧ SqL K H a (cl.map chV) ∧ cl.length ≤ 100 ∧ (∀ c ∈ cl, lett c = true) ∧ Dice H l (n + cl.length) ∧
  ∀ (p : Addr) (zs : List Nat) H', H p = none → p ≠ l → zs.Perm cl → H' p = some (.lst (zs.map chV)) → Kp l H H' → Dice H' l n → Q (.ref p) H'
/-- _law_letters of these laws: some letters -/
def spLett (K : PySem.W.Frag) : Sp := fun vs H Q _ => ∃ (l : Addr) (m n : Nat), vs = [.ref l, .int (m : Int)] ∧ m ≤ 26 ∧ Dice H l (n + 26) ∧
  ∀ (p : Addr) (zs : List Nat) H', H p = none → p ≠ l → zs.length = m → (∀ c ∈ zs, lett c = true) → H' p = some (.lst (zs.map chV)) → Kp l H H' → Dice H' l n → Q (.ref p) H'
theorem chs_strs (l : List Nat) : l.map chV = (l.map ch).map V.str := by
  rw [List.map_map]
  rfl
/-- _law_prices: a right dict over the signs -/
def spPrices20 (K : PySem.W.Frag) : Sp := fun vs H Q _ => ∃ (l sa ma : Addr) (sg : List Nat) (ms : List Int) (n : Nat), vs = [.ref l, .ref sa, .int 6, .int 5, .ref ma] ∧ sa ≠ l ∧ ma ≠ l ∧ SqL K H sa (sg.map chV) ∧ SqL K H ma (ms.map V.int) ∧ 1 ≤ sg.length ∧ sg.length ≤ 4 ∧ (∀ c ∈ sg, lett c = true) ∧
  1 ≤ ms.length ∧ ms.length ≤ 100 ∧ (∀ i ∈ ms, 1 ≤ i ∧ i ≤ 99) ∧ Dice H l (n + 100) ∧
  ∀ (p : Addr) (kvs : List (Key × V)) H', H p = none → p ≠ l → H' p = some (.dK kvs) → arePrices kvs = true → (kvs.map (·.1)).Nodup → (∀ c, (∃ q, tfD kvs (ch c) = some q) ↔ c ∈ sg) → Kp l H H' → Dice H' l n → Q (.ref p) H'
/-- _law_cheap -/
def spCheap : Sp := fun vs H Q _ => ∃ d kvs z, vs = [.ref d, .str z] ∧ H d = some (.dK kvs) ∧ Tar kvs ∧ Over (tfD kvs) (cs z) ∧ z.length ≤ 10000 ∧ ∀ p H', H p = none → H' p = some (.lst (rowV (tfD kvs) (cs z) (z.length + 1))) → Same H H' → Q (.ref p) H'
/-- _law_wide -/
def spWide : Sp := fun vs H Q _ => ∃ d kvs, vs = [.ref d] ∧ H d = some (.dK kvs) ∧ Tar kvs ∧ kvs ≠ [] ∧ ∀ (L : Nat) H', Wide (tfD kvs) L → 1 ≤ L → L ≤ 5 → Same H H' → Q (.int (L : Int)) H'
/-- _law_front -/
def spLawFront : Sp := fun vs H Q _ => ∃ d kvs z, vs = [.ref d, .str z] ∧ H d = some (.dK kvs) ∧ Tar kvs ∧ kvs ≠ [] ∧ Over (tfD kvs) (cs z) ∧ z.length ≤ 10000 ∧ ∀ L t H', Wide (tfD kvs) L → FrontAt H' t (frontW L (cs z)) (frontD (tfD kvs) L (cs z)) → Same H H' → Q (.ref t) H'
/-- _law_step -/
def spLawStep : Sp := fun vs H Q _ => ∃ (d f : Addr) (kvs : List (Key × V)) (l : List Nat) (ds : List Int) (c L : Nat), vs = [.ref d, .ref f, .str (ch c)] ∧ H d = some (.dK kvs) ∧ Tar kvs ∧ kvs ≠ [] ∧ FrontAt H f l ds ∧ Wide (tfD kvs) L ∧ Over (tfD kvs) [c] ∧ l.length < L ∧ ds.length = l.length ∧
  ∀ t m H', StepR (tfD kvs) l ds c m → StepAt H' t (stepW L l c) (stepD L l ds c m) m → Same H H' → Q (.ref t) H'
noncomputable def stepG (ds : List Int) (lg : Str) : Key × V → Option Int := fun kv => match kv with
  | (.inr y, .int p) => if Txt.endswith lg y = true then some (p + aheadAt ds y) else none
  | _ => none
theorem step_minT {kvs : List (Key × V)} {lg : Str} {l : List Nat} {ds : List Int} {c : Nat} (T : Tar kvs) (hg : cs lg = l ++ [c]) (hds : ds.length = l.length) (oc : Over (tfD kvs) [c]) :
    0 < (kvs.filterMap (stepG ds lg)).length ∧ ∀ m ∈ kvs.filterMap (stepG ds lg), (∀ y ∈ kvs.filterMap (stepG ds lg), m ≤ y) → StepR (tfD kvs) l ds c m := by
  have mem : ∀ {y p a}, tfD kvs y = some p → l ++ [c] = a ++ cs y → p + aheadAt ds y ∈ kvs.filterMap (stepG ds lg) := fun {y p a} h h2 => by
    refine List.mem_filterMap.mpr ⟨_, valV_mem (tf_some.mp h), ?_⟩
    show (if Txt.endswith lg y = true then some (p + aheadAt ds y) else none) = _
    rw [if_pos (ends_iff.mpr ⟨a, by rw [hg]; exact h2⟩)]
  have ah : ∀ {y p a}, tfD kvs y = some p → l ++ [c] = a ++ cs y → ((0 : Int) :: ds)[(cs y).length - 1]? = some (aheadAt ds y) := fun {y p a} h h2 => by
    have n1 := (T.good.len y p h).1
    have h3 := congrArg List.length h2
    rw [List.length_append, List.length_append, List.length_singleton] at h3
    unfold aheadAt
    rw [List.getElem?_eq_getElem (by rw [List.length_cons]; omega)]
    rfl
  constructor
  · obtain ⟨p, hp⟩ := oc c List.mem_cons_self
    exact List.length_pos_of_mem (mem (y := ch c) (a := l) hp rfl)
  · intro m hm hle
    constructor
    · obtain ⟨kv, hkv, g⟩ := List.mem_filterMap.mp hm
      obtain ⟨y, p, rfl, hp⟩ := T.mem kv hkv
      have g' : (if Txt.endswith lg y = true then some (p + aheadAt ds y) else none) = some m := g
      by_cases q : Txt.endswith lg y = true
      · rw [if_pos q] at g'
        obtain ⟨a, ha⟩ := ends_iff.mp q
        rw [hg] at ha
        exact ⟨y, p, a, _, hp, ha, ah hp ha, (Option.some.inj g').symm⟩
      · rw [if_neg q] at g'
        cases g'
    · intro z p a y hz h2 h3
      rw [ah hz h2] at h3
      rw [← Option.some.inj h3]
      exact hle _ (mem hz h2)
/-- _law_large -/
def spLarge : Sp := fun vs H Q _ => ∃ (l : Addr) (n : Nat), vs = [.ref l] ∧ Dice H l (n + 2) ∧ ∀ (i : Int) H', isInteger (.int i) = true → Kp l H H' → Dice H' l n → Q (.int i) H'
theorem isI_of {i : Int} (h : i.natAbs < 10 ^ 60) : isInteger (.int i) = true := decide_eq_true h
theorem ten60 : (10 : Int) ^ (60 : Int).toNat = ((10 ^ 60 : Nat) : Int) := by decide +kernel
theorem large60 : 1000 ≤ (10 ^ 60 : Nat) := by decide +kernel
/-! ### fronts as data -/
def dFront (l : List Nat) (ds : List Int) : PyData := .tuple [.str (sOf l), .tuple (ds.map PyData.int)]
def dStep (l : List Nat) (ds : List Int) (m : Int) : PyData := .tuple [dFront l ds, .int m]
theorem dpAll_ints {K : PySem.W.Frag} {H : Hp} : ∀ ds : List Int, DpAll K H (ds.map V.int) (ds.map PyData.int)
  | [] => .nil
  | d :: r => .cons (.int d) (dpAll_ints r)
theorem dp_front {K : PySem.W.Frag} {H : Hp} {t : Addr} {l : List Nat} {ds : List Int} (f : FrontAt H t l ds) : Dp K H (.ref t) (dFront l ds) := by
  obtain ⟨td, h1, h2⟩ := f
  exact .tup (SqT.of h1) (.cons (.str _) (.cons (.tup (SqT.of h2) (dpAll_ints ds)) .nil))
theorem dp_step {K : PySem.W.Frag} {H : Hp} {t : Addr} {l : List Nat} {ds : List Int} {m : Int} (f : StepAt H t l ds m) : Dp K H (.ref t) (dStep l ds m) := by
  obtain ⟨u, h1, h2⟩ := f
  exact .tup (SqT.of h1) (.cons (dp_front h2) (.cons (.int m) .nil))
theorem shw_tuple {ds : List PyData} {k n : Nat} (h : ∀ d ∈ ds, Shw d k n) : Shw (.tuple ds) (k + 1) (ds.length * (n + 2) + 4) := by
  obtain ⟨b1, b2, b3, b4⟩ := shwAll h
  refine ⟨by simpa [PyData.showable] using b1, by simpa [PyData.hasDict] using b2, by simp only [PyData.depth]; omega, ?_⟩
  simp only [PyData.shown]
  unfold tupleText
  rw [strLen_append, strLen_append]
  have c1 : (("(" : String) : Str).length = 1 := by decide +kernel
  have c2 : ((if (PyData.shownAll ds).length == 1 then ",)" else ")" : String) : Str).length ≤ 2 := by split <;> decide +kernel
  have c3 : piled (PyData.shownAll ds) ≤ (PyData.shownAll ds).length * (n + 2) := by
    have gen : ∀ l : List Str, (∀ t ∈ l, t.length ≤ n) → piled l ≤ l.length * (n + 2) := by
      intro l hl
      induction l with
      | nil => simp [piled]
      | cons t r ih =>
        have h1 := hl t List.mem_cons_self
        have h2 := ih fun u hu => hl u (List.mem_cons_of_mem _ hu)
        have e : piled (t :: r) = t.length + 2 + piled r := by simp [piled]
        rw [e, List.length_cons, Nat.add_mul]
        omega
    exact gen _ b4
  have c4 : (Str.join ", " (PyData.shownAll ds)).length ≤ piled (PyData.shownAll ds) := by
    by_cases q : PyData.shownAll ds = []
    · rw [q]
      decide +kernel
    · have := join_length_add _ q
      omega
  have c5 : (PyData.shownAll ds).length = ds.length := by rw [shownAll_map, List.length_map]
  rw [c5] at c3
  omega
theorem shw_str {z : Str} {n : Nat} (h : z.length ≤ n) (hc : ∀ c ∈ cs z, c < 16 ^ 8) : Shw (.str z) 0 (10 * n + 2) :=
  ⟨by simp [PyData.showable], by simp [PyData.hasDict], by simp [PyData.depth], by simp only [PyData.shown]; exact Nat.le_trans (StrLaws.reprText_len z hc) (by omega)⟩
theorem shw_front {l : List Nat} {ds : List Int} (hl : l.length ≤ 5) (hc : ∀ c ∈ l, lett c = true) (hd : ds.length ≤ 5) (hi : ∀ d ∈ ds, d.natAbs < 2 ^ 300) : Shw (dFront l ds) 2 (2 * 9700) := by
  have h1 : Shw (.str (sOf l)) 1 9650 := (shw_str (n := 5) (by rw [sOf_len]; exact hl) fun c h => by
    rw [cs_sOf] at h
    have := hc c h
    unfold lett at this
    rw [Bool.and_eq_true] at this
    have := of_decide_eq_true this.2
    exact Nat.lt_of_le_of_lt this (by decide)).le (by omega) (by omega)
  have h2 : Shw (.tuple (ds.map PyData.int)) 1 9650 := (shw_tuple (k := 0) (n := 1921) fun d hd' => by
    obtain ⟨i, hi', rfl⟩ := List.mem_map.mp hd'
    exact shw_int (log_of (hi i hi'))).le (by omega) (by
      rw [List.length_map]
      have := Nat.mul_le_mul_right (1921 + 2) hd
      omega)
  refine (shw_tuple (k := 1) (n := 9650) fun d hd' => ?_).le (by omega) (by show 2 * (9650 + 2) + 4 ≤ 2 * 9700; omega)
  simp only [List.mem_cons, List.not_mem_nil, or_false] at hd'
  rcases hd' with rfl | rfl
  · exact h1
  · exact h2
theorem shw_step {l : List Nat} {ds : List Int} {m : Int} (hl : l.length ≤ 5) (hc : ∀ c ∈ l, lett c = true) (hd : ds.length ≤ 5) (hi : ∀ d ∈ ds, d.natAbs < 2 ^ 300) (hm : m.natAbs < 2 ^ 300) : Shw (dStep l ds m) 3 40000 := by
  refine (shw_tuple (k := 2) (n := 2 * 9700) fun d hd' => ?_).le (by omega) (by show 2 * (2 * 9700 + 2) + 4 ≤ 40000; omega)
  simp only [List.mem_cons, List.not_mem_nil, or_false] at hd'
  rcases hd' with rfl | rfl
  · exact shw_front hl hc hd hi
  · exact (shw_int (log_of hm)).le (by omega) (by omega)
/-- repr of shown data -/
theorem repr_shw {K : PySem.W.Frag} {H : Hp} {x : V} {d : PyData} {k n : Nat} {Q : VK} (h : Dp K H x d) (s : Shw d k n) (hk : k ≤ 60) (hn : n ≤ 100000) (q : Q (.str d.shown) H) : rRepr K [x] H Q :=
  ⟨x, d, rfl, h, s.s, s.h, Nat.le_trans s.dp hk, Nat.le_trans s.len (fits_sz hn), q⟩
theorem lift_ch {P : Nat → Prop} : ∀ {ys : List Str}, (∀ y ∈ ys, ∃ c, y = ch c ∧ P c) → ∃ sg : List Nat, ys = sg.map ch ∧ ∀ c ∈ sg, P c
  | [], _ => ⟨[], rfl, fun _ h => (List.not_mem_nil h).elim⟩
  | y :: r, h => by
    obtain ⟨c, rfl, hc⟩ := h y List.mem_cons_self
    obtain ⟨sg, rfl, hs⟩ := lift_ch (ys := r) fun z hz => h z (List.mem_cons_of_mem _ hz)
    refine ⟨c :: sg, rfl, fun d hd => ?_⟩
    rcases List.mem_cons.mp hd with rfl | hd
    · exact hc
    · exact hs d hd
/-! ### bounds -/
theorem lp_bound {F : Tf} (G : Good F) : ∀ l, Over F l → 0 ≤ lp F l ∧ lp F l ≤ 99 * (l.length : Int)
  | [], _ => by
    rw [lp_nil G]
    exact ⟨Int.le_refl _, by decide⟩
  | c :: r, o => by
    have o1 : Over F [c] := fun d hd => o d (by rw [List.mem_singleton.mp hd]; exact List.mem_cons_self)
    have o2 : Over F r := fun d hd => o d (List.mem_cons_of_mem _ hd)
    obtain ⟨p, hp⟩ := o c List.mem_cons_self
    have h1 : lp F [c] ≤ p := lp_piece G hp
    have h2 := (G.pos _ _ hp).2
    have h3 := (lp_bound G r o2).2
    have h4 : lp F (c :: r) ≤ lp F [c] + lp F r := lp_add G o1 o2
    obtain ⟨d, hd, e⟩ := lp_cut G o
    have h5 := fee_pos G d hd.1
    rw [List.length_cons]
    omega
theorem front_small {F : Tf} {L : Nat} {l : List Nat} (G : Good F) (o : Over F l) : ∀ d ∈ frontD F L l, d.natAbs ≤ 99 * l.length := fun d hd => by
  unfold frontD at hd
  obtain ⟨i, _, rfl⟩ := List.mem_map.mp hd
  have h1 := lp_bound G _ o
  have h2 := lp_bound G _ (o.take (l.length - (i + 1)))
  have h3 : (l.take (l.length - (i + 1))).length ≤ l.length := by
    rw [List.length_take]
    omega
  omega
theorem frontW_mem {L : Nat} {l : List Nat} {c : Nat} (h : c ∈ frontW L l) : c ∈ l := List.mem_of_mem_drop h
theorem stepW_mem {L : Nat} {l : List Nat} {c d : Nat} (h : d ∈ stepW L l c) : d ∈ l ∨ d = c := by
  have h1 := List.mem_of_mem_drop h
  rcases List.mem_append.mp h1 with h | h
  · exact Or.inl h
  · exact Or.inr (List.mem_singleton.mp h)
theorem stepR_small {F : Tf} {l : List Nat} {ds : List Int} {c B : Nat} {m : Int} (G : Good F) (h : StepR F l ds c m) (hb : ∀ d ∈ ds, d.natAbs ≤ B) : m.natAbs ≤ B + 99 := by
  obtain ⟨⟨z, p, a, y, h1, _, h3, rfl⟩, _⟩ := h
  have h4 := G.pos _ _ h1
  rcases List.mem_cons.mp (List.mem_of_getElem? h3) with rfl | h5
  · omega
  · have := hb y h5
    omega
theorem stepD_small {L : Nat} {l : List Nat} {ds : List Int} {c B : Nat} {m : Int} (hm : m.natAbs ≤ B + 99) (hb : ∀ d ∈ ds, d.natAbs ≤ B) : ∀ d ∈ stepD L l ds c m, d.natAbs ≤ 2 * B + 99 := fun d hd => by
  obtain ⟨x, hx, rfl⟩ := List.mem_map.mp (List.mem_of_mem_take hd)
  rcases List.mem_cons.mp hx with rfl | h5
  · omega
  · have := hb x h5
    omega
theorem stepD_len {L : Nat} {l : List Nat} {ds : List Int} {c : Nat} {m : Int} : (stepD L l ds c m).length ≤ (stepW L l c).length := by
  unfold stepD
  rw [List.length_take]
  omega
/-! ### fronts of given books, worked out -/
def psK (kvs : List (Key × V)) : List (List Nat × Int) := kvs.filterMap fun kv => match kv with | (.inr z, .int p) => some (cs z, p) | _ => none
theorem ps_tf {kvs : List (Key × V)} (nd : (kvs.map (·.1)).Nodup) {z : Str} {p : Int} : tfD kvs z = some p ↔ (cs z, p) ∈ psK kvs := by
  unfold psK
  rw [List.mem_filterMap]
  constructor
  · intro h
    exact ⟨_, valV_mem (tf_some.mp h), rfl⟩
  · rintro ⟨⟨k, v⟩, h1, h2⟩
    have h3 := val_nodup nd _ h1
    rcases k with i | y
    · cases h2
    · cases v
      case int q =>
        have e := Option.some.inj h2
        have e1 : y = z := str_ext (Prod.mk.inj e).1
        have e2 : q = p := (Prod.mk.inj e).2
        subst e1
        subst e2
        exact tf_some.mpr h3
      all_goals cases h2
def candF (ps : List (List Nat × Int)) (w : List Nat) (d : List Int) (c : Nat) : List Int :=
  ps.filterMap fun q => if (w ++ [c]).drop ((w ++ [c]).length - q.1.length) = q.1 then (((0 : Int) :: d)[q.1.length - 1]?).map fun y => q.2 + y else none
def minI : List Int → Option Int
  | [] => none
  | a :: r => match minI r with
    | none => some a
    | some b => some (if a ≤ b then a else b)
theorem minI_none : ∀ {xs : List Int}, minI xs = none → xs = []
  | [], _ => rfl
  | a :: r, h => by
    unfold minI at h
    split at h <;> cases h
theorem minI_spec : ∀ {xs : List Int} {m : Int}, minI xs = some m → m ∈ xs ∧ ∀ y ∈ xs, m ≤ y
  | [], _, h => by cases h
  | a :: r, m, h => by
    unfold minI at h
    split at h
    · rename_i e
      have er := minI_none e
      have em := Option.some.inj h
      subst em
      rw [er]
      exact ⟨List.mem_cons_self, fun y hy => by rw [List.mem_singleton.mp hy]; exact Int.le_refl _⟩
    · rename_i b e
      obtain ⟨h1, h2⟩ := minI_spec e
      have em := Option.some.inj h
      subst em
      constructor
      · split
        · exact List.mem_cons_self
        · exact List.mem_cons_of_mem _ h1
      · intro y hy
        rcases List.mem_cons.mp hy with rfl | hy
        · split <;> omega
        · have := h2 y hy
          split <;> omega
theorem step_of {kvs : List (Key × V)} (nd : (kvs.map (·.1)).Nodup) {w : List Nat} {d : List Int} {c : Nat} {m : Int} (h : minI (candF (psK kvs) w d c) = some m) : StepR (tfD kvs) w d c m := by
  obtain ⟨h1, h2⟩ := minI_spec h
  constructor
  · obtain ⟨q, hq, e⟩ := List.mem_filterMap.mp h1
    split at e
    · rename_i s
      obtain ⟨y, hy, rfl⟩ := Option.map_eq_some_iff.mp e
      refine ⟨sOf q.1, q.2, (w ++ [c]).take ((w ++ [c]).length - q.1.length), y, (ps_tf nd).mpr (by rw [cs_sOf]; exact hq), ?_, by rw [cs_sOf]; exact hy, rfl⟩
      rw [cs_sOf]
      conv => rhs; rw [← s]
      exact (List.take_append_drop _ _).symm.trans (by rw [s])
    · cases e
  · intro z p a y hz hs hy
    refine h2 _ (List.mem_filterMap.mpr ⟨_, (ps_tf nd).mp hz, ?_⟩)
    have e : (w ++ [c]).drop ((w ++ [c]).length - (cs z).length) = cs z := by
      rw [hs, List.length_append, Nat.add_sub_cancel, List.drop_left]
    dsimp only
    rw [if_pos e, hy]
    rfl
def runF (ps : List (List Nat × Int)) (L : Nat) : List Nat → List Nat → List Int → Option (List Nat × List Int)
  | [], w, d => some (w, d)
  | c :: r, w, d => match minI (candF ps w d c) with
    | none => none
    | some m => runF ps L r (stepW L w c) (stepD L w d c m)
theorem run_front {kvs : List (Key × V)} (nd : (kvs.map (·.1)).Nodup) (G : Good (tfD kvs)) {L : Nat} (W : Wide (tfD kvs) L) (hL : 1 ≤ L) : ∀ {r l w : List Nat} {d : List Int} {w' : List Nat} {d' : List Int}, Over (tfD kvs) (l ++ r) → frontW L l = w → frontD (tfD kvs) L l = d →
    runF (psK kvs) L r w d = some (w', d') → frontW L (l ++ r) = w' ∧ frontD (tfD kvs) L (l ++ r) = d'
  | [], l, w, d, w', d', _, hw, hd, h => by
    have e := Option.some.inj h
    rw [List.append_nil, hw, hd]
    exact Prod.mk.inj e
  | c :: r, l, w, d, w', d', o, hw, hd, h => by
    unfold runF at h
    split at h
    · cases h
    · rename_i m e
      have st := step_of nd e
      have o1 : Over (tfD kvs) (l ++ [c]) := fun x hx => o x (by
        rcases List.mem_append.mp hx with h | h
        · exact List.mem_append_left _ h
        · rw [List.mem_singleton.mp h]
          exact List.mem_append_right _ List.mem_cons_self)
      have fc := front_change G W o1
      have em : m = lp (tfD kvs) (l ++ [c]) - lp (tfD kvs) l := (show StepR (tfD kvs) (frontW L l) (frontD (tfD kvs) L l) c m by rw [hw, hd]; exact st).uniq fc
      have e2 : l ++ c :: r = (l ++ [c]) ++ r := by rw [List.append_assoc]; rfl
      rw [e2]
      refine run_front nd G W hL (by rw [← e2]; exact o) ?_ ?_ h
      · rw [← hw, front_stepW hL]
      · rw [← hw, ← hd, em, front_stepD hL]
theorem run_all {kvs : List (Key × V)} (nd : (kvs.map (·.1)).Nodup) (G : Good (tfD kvs)) {L : Nat} (W : Wide (tfD kvs) L) (hL : 1 ≤ L) {r w' : List Nat} {d' : List Int} (o : Over (tfD kvs) r) (h : runF (psK kvs) L r [] [] = some (w', d')) : frontW L r = w' ∧ frontD (tfD kvs) L r = d' :=
  run_front nd G W hL (l := []) (w := []) (d := []) o (by unfold frontW; exact List.drop_nil) (by unfold frontD; rw [List.length_nil, Nat.min_zero]; rfl) h
/-- a front that comes back behind a word -/
theorem run_round {kvs : List (Key × V)} (nd : (kvs.map (·.1)).Nodup) (G : Good (tfD kvs)) {L : Nat} (W : Wide (tfD kvs) L) (hL : 1 ≤ L) {r w : List Nat} {d : List Int} (o : Over (tfD kvs) r) (h1 : runF (psK kvs) L r [] [] = some (w, d)) (h2 : runF (psK kvs) L r w d = some (w, d)) :
    ∀ n : Nat, frontW L (List.replicate (n + 1) r).flatten = w ∧ frontD (tfD kvs) L (List.replicate (n + 1) r).flatten = d
  | 0 => by
    have e : (List.replicate 1 r).flatten = r := by simp
    rw [e]
    exact run_all nd G W hL o h1
  | n + 1 => by
    obtain ⟨i1, i2⟩ := run_round nd G W hL o h1 h2 n
    have e : (List.replicate (n + 1 + 1) r).flatten = (List.replicate (n + 1) r).flatten ++ r := by
      rw [List.replicate_succ', List.flatten_append]
      simp
    rw [e]
    refine run_front nd G W hL (fun c hc => ?_) i1 i2 h2
    rcases List.mem_append.mp hc with h | h
    · obtain ⟨t, ht, hc⟩ := List.mem_flatten.mp h
      rw [(List.mem_replicate.mp ht).2] at hc
      exact o c hc
    · exact o c h
theorem wide_ps {kvs : List (Key × V)} (nd : (kvs.map (·.1)).Nodup) {L : Nat} (h : ((psK kvs).any fun q => decide (q.1.length = L)) = true) (k : ((psK kvs).all fun q => decide (q.1.length ≤ L)) = true) : Wide (tfD kvs) L := by
  constructor
  · obtain ⟨q, hq, e⟩ := List.any_eq_true.mp h
    exact ⟨sOf q.1, q.2, (ps_tf nd).mpr (by rw [cs_sOf]; exact hq), by rw [cs_sOf]; exact of_decide_eq_true e⟩
  · intro z p hz
    exact of_decide_eq_true (List.all_eq_true.mp k _ ((ps_tf nd).mp hz))
theorem over_ps {kvs : List (Key × V)} (nd : (kvs.map (·.1)).Nodup) {l : List Nat} (h : (l.all fun c => (psK kvs).any fun q => decide (q.1 = [c])) = true) : Over (tfD kvs) l := fun c hc => by
  obtain ⟨q, hq, e⟩ := List.any_eq_true.mp (List.all_eq_true.mp h c hc)
  exact ⟨q.2, (ps_tf nd).mpr (by
    show ([c], q.2) ∈ _
    rw [← of_decide_eq_true e]
    exact hq)⟩
end G
/-! sorted(d.items()) of a dict from texts to ints. -/
namespace G
open PySem PySem.W PySem.Spec PyProof.Rows
/-- the text that stands first in a tuple -/
def txK (h : Heap) (v : Value) : Str := DT.txOf (DT.seqAt0 h (DT.refOf (some v)))
def PairTI (h : Heap) (v : Value) (y : Str) (n : Int) : Prop := ∃ a t u, v = .ref a ∧ IsTup h a #[.str y t, .int n u]
theorem PairTI.tx {h : Heap} {v : Value} {y : Str} {n : Int} (x : PairTI h v y n) : txK h v = y := by
  obtain ⟨a, t, u, rfl, i⟩ := x
  have e := DT.seqAt0_of i
  unfold txK
  show DT.txOf (DT.seqAt0 h a) = y
  rw [e]
  rfl
theorem firstsTI {h : Heap} {M : Str → Int} : ∀ vs : List Value, (∀ v ∈ vs, ∃ y, PairTI h v y (M y)) → ∃ fs : List Value, KatTups h vs fs ∧ fs.length = vs.length ∧ ∀ f ∈ fs, ∃ y t, f = Value.str y t
  | [], _ => ⟨[], KatTups.nil, rfl, fun _ z => (List.not_mem_nil z).elim⟩
  | v :: r, x => by
    obtain ⟨fs, k, hl, hi⟩ := firstsTI r fun u hu => x u (List.mem_cons_of_mem _ hu)
    obtain ⟨y, a, t, u, rfl, ⟨o, ho, hc, n, hd⟩⟩ := x v List.mem_cons_self
    refine ⟨.str y t :: fs, KatTups.cons ho hc hd rfl k, congrArg (· + 1) hl, fun f hf => ?_⟩
    rcases List.mem_cons.mp hf with rfl | hf
    · exact ⟨y, t, rfl⟩
    · exact hi f hf
section
variable {prog : Program} {w : World} {A : Around} {E : Value → Shared → Prop} {s : Shared}
theorem kindTI {vs : List Value} {ρ : Str → Int} {M : Str → Int} (h2 : 2 ≤ vs.length) (x : ∀ v ∈ vs, ∃ y, PairTI s.heap v y (M y))
    (hρ : ∀ v ∈ vs, ∀ u ∈ vs, decide ((txK s.heap v).cps.toList < (txK s.heap u).cps.toList) = decide (ρ (txK s.heap v) < ρ (txK s.heap u))) (Q : SortKind → Shared → Prop)
    (h : ∀ κ, _root_.TS.Cmp prog w A s κ (pairsOf vs) (fun v => ρ (txK s.heap v)) → Q κ s) : wpAny (model prog w) A (keyKind' vs.toArray) Q E s := by
  obtain ⟨fs, k, hl, hi⟩ := firstsTI vs x
  refine kat_kind (T := Value.type "str") k (by omega) (fun f hf => ?_) rfl (h _ ?_)
  · obtain ⟨y, t, rfl⟩ := hi f hf
    exact .now
  · have hb : (Value.type "str" != Value.type "tuple") = true := by first | rfl | decide | simp
    rw [hb]
    intro p q hp hq Q' E' hQ
    rw [pairsOf_toList] at hp hq
    have mp := (mem_zip_self hp).2
    have mq := (mem_zip_self hq).2
    obtain ⟨y, py⟩ := x _ mp
    obtain ⟨z, pz⟩ := x _ mq
    have hQ1 : Q' (decide (ρ (txK s.heap p.1) < ρ (txK s.heap q.1))) s := hQ
    rw [← hρ _ mp _ mq, py.tx, pz.tx] at hQ1
    obtain ⟨a, t, u, e1, ⟨o, ho, _, n, hd⟩⟩ := py
    obtain ⟨b, t', u', e2, ⟨o', ho', _, n', hd'⟩⟩ := pz
    rw [e1, e2]
    refine kat_lt ho hd ho' hd' ?_
    show KatLex prog w A true false Q' [(Value.str y t, Value.str z t'), (Value.int (M y) u, Value.int (M z) u')] 0 s
    refine kat_cons (SeqAt.EqAt.str_str y t z t' _ _ _ _ ?_)
    refine kat_go (fun e0 => ?_) (fun e0 => ?_)
    · have e : y = z := by simpa using e0
      subst e
      have irr : decide (y.cps.toList < y.cps.toList) = false := decide_eq_false (List.lt_irrefl _)
      rw [irr] at hQ1
      refine kat_yes (kat_cons (SeqAt.EqAt.int_int (M y) u (M y) u' _ _ _ _ ?_))
      refine kat_go (fun _ => kat_yes (kat_nil hQ1)) (fun e1' => ?_)
      simp at e1'
    · refine kat_no ?_
      show wpAny _ _ (oneLt' true _ _) _ _ _
      exact oneLt_str hQ1
end
/-! ### the rank of a text among some -/
def rankOf (ks : List Str) (y : Str) : Int := (ks.countP fun k => decide (cs k < cs y) : Nat)
theorem countP_le {α : Type} {p q : α → Bool} : ∀ {l : List α}, (∀ a ∈ l, p a = true → q a = true) → l.countP p ≤ l.countP q
  | [], _ => Nat.le_refl _
  | a :: r, h => by
    have ih := countP_le (l := r) fun b hb => h b (List.mem_cons_of_mem _ hb)
    rw [List.countP_cons, List.countP_cons]
    have := h a List.mem_cons_self
    by_cases e : p a = true
    · rw [if_pos e, if_pos (this e)]
      omega
    · rw [if_neg e]
      split <;> omega
theorem countP_lt {α : Type} {p q : α → Bool} {x : α} : ∀ {l : List α}, (∀ a ∈ l, p a = true → q a = true) → x ∈ l → p x = false → q x = true → l.countP p < l.countP q
  | [], _, hx, _, _ => (List.not_mem_nil hx).elim
  | a :: r, h, hx, h1, h2 => by
    have hr : ∀ b ∈ r, p b = true → q b = true := fun b hb => h b (List.mem_cons_of_mem _ hb)
    rw [List.countP_cons, List.countP_cons]
    rcases List.mem_cons.mp hx with rfl | hx
    · have ih := countP_le hr
      rw [if_neg (by rw [h1]; exact Bool.false_ne_true), if_pos h2]
      omega
    · have ih := countP_lt hr hx h1 h2
      have := h a List.mem_cons_self
      by_cases e : p a = true
      · rw [if_pos e, if_pos (this e)]
        omega
      · rw [if_neg e]
        split <;> omega
theorem rank_lt {ks : List Str} {y z : Str} (hy : y ∈ ks) (hz : z ∈ ks) : decide (cs y < cs z) = decide (rankOf ks y < rankOf ks z) := by
  unfold rankOf
  by_cases h : cs y < cs z
  · have h1 := countP_lt (p := fun k => decide (cs k < cs y)) (q := fun k => decide (cs k < cs z)) (l := ks) (fun a _ ha => decide_eq_true (List.lt_trans (of_decide_eq_true ha) h)) hy (decide_eq_false (List.lt_irrefl _)) (decide_eq_true h)
    rw [decide_eq_true h, decide_eq_true (by omega)]
  · have h1 := countP_le (p := fun k => decide (cs k < cs z)) (q := fun k => decide (cs k < cs y)) (l := ks) fun a _ ha => by
      by_cases q : cs a < cs y
      · exact decide_eq_true q
      · exact absurd (List.lt_of_le_of_lt (List.not_lt.mp q) (of_decide_eq_true ha)) h
    rw [decide_eq_false h, decide_eq_false (by omega)]
theorem rank_le {ks : List Str} {y z : Str} (hy : y ∈ ks) (hz : z ∈ ks) (h : rankOf ks y ≤ rankOf ks z) : cs y ≤ cs z := by
  have h1 := rank_lt hz hy
  rw [decide_eq_false (by omega : ¬ rankOf ks z < rankOf ks y)] at h1
  exact List.not_lt.mp (of_decide_eq_false h1)
/-! ### the rule -/
theorem pairs_get {prog : Program} {w : World} {K : Type} [DecidableEq K] {knd : KeyKind prog w K} : ∀ {es : List DictEntry} {kvs : List (K × Value)} {j : Nat} {e : DictEntry}, Pairs knd es kvs → es[j]? = some e → ∃ kv, kvs[j]? = some kv ∧ knd.is kv.1 e.key = true ∧ e.val = kv.2
  | _, _, _, _, .nil, h => by simp at h
  | _, _, 0, _, .cons h1 h2 _, h => by
    cases h
    exact ⟨_, rfl, h1, h2⟩
  | _, _, j + 1, _, .cons _ _ t, h => pairs_get (j := j) t (by simpa using h)
theorem pairs_len {prog : Program} {w : World} {K : Type} [DecidableEq K] {knd : KeyKind prog w K} : ∀ {es : List DictEntry} {kvs : List (K × Value)}, Pairs knd es kvs → es.length = kvs.length
  | _, _, .nil => rfl
  | _, _, .cons _ _ t => congrArg (· + 1) (pairs_len t)
abbrev entS (e : Str × Int) : L2.Key × L2.V := (Sum.inr e.1, L2.V.int e.2)
/-- d.items(), d locked or not -/
theorem mt_itemsK {X : L2.Cx} : L2.MtR X "dict.items" (fun x xs H Q => ∃ d kvs, x = .ref d ∧ xs = [] ∧ L2.Rd H d (.dK kvs) ∧ ∀ r, H r = none → Q (.ref r) (L2.upd H r (L2.DX.itemsO r d))) := by
  intro pins s σ H x xs v us Q I rx rs h
  obtain ⟨d, kvs, rfl, rfl, hd, q⟩ := h
  cases rx
  cases rs
  obtain ⟨_, low, vs, _, o, es, ep, ho, hx, hdat, _⟩ := L2.dk_rd I.hok hd
  refine DT.callItems (es := es) (ep := ep) low ⟨o, ho, hx, hdat⟩ ?_
  exact ⟨.ref s.heap.objs.size, _, I.laid (t' := s.toks) (o := L2.DX.itemsO s.heap.objs.size d) (fun _ _ e => Heap.get?_push_of_some _ e) (Nat.le_refl _) (L2.DX.itemsO_ok (Heap.get?_push_size _ rfl)), rfl, q _ (I.hok.fresh (Nat.le_refl _))⟩
/-- sorted(d.items()), d from texts to ints -/
def rSortTI : List L2.V → L2.Hp → L2.VK → Prop := fun vs H Q => ∃ (p a : Addr) (ks : List (Str × Int)), vs = [.ref p] ∧ H p = some (L2.DX.itemsO p a) ∧ L2.Rd H a (.dK (ks.map entS)) ∧ (ks.map (·.1)).Nodup ∧ ks.length < 64 ∧
  ∀ (H' : L2.Hp) (l : Addr) (ps : List (Addr × Str × Int)), L2.Same H H' → (ps.map (·.2)).Perm ks → (ps.map (·.2)).Pairwise (fun e f => cs e.1 ≤ cs f.1) → H' l = some (.lst (ps.map fun z => L2.V.ref z.1)) → (∀ z ∈ ps, H' z.1 = some (.tup [.str z.2.1, .int z.2.2])) → Q (.ref l) H'
def valS (ks : List (Str × Int)) (y : Str) : Int := ((ks.find? fun e => decide (e.1 = y)).map (·.2)).getD 0
theorem valS_of : ∀ {ks : List (Str × Int)} {e : Str × Int}, (ks.map (·.1)).Nodup → e ∈ ks → valS ks e.1 = e.2
  | [], _, _, h => (List.not_mem_nil h).elim
  | a :: r, e, nd, h => by
    obtain ⟨n1, n2⟩ := List.nodup_cons.mp nd
    unfold valS
    rw [List.find?_cons]
    rcases List.mem_cons.mp h with rfl | h
    · rw [decide_eq_true rfl]
      rfl
    · have ne : ¬ a.1 = e.1 := fun q => n1 (by
      show a.1 ∈ _
      rw [q]
      exact List.mem_map.mpr ⟨e, h, rfl⟩)
      rw [decide_eq_false ne]
      exact valS_of n2 h
open L2 in
theorem cr_sortTI {X : Cx} (hc : X.calm = true) : CallR X (.builtin "sorted") rSortTI := by
  intro pins s σ H xs us Q I r h
  obtain ⟨p, a, ks, rfl, hp, ha, nk, h64, q⟩ := h
  obtain rfl := Vals.ref1 r
  have view : s.heap.IsItemsView p a := (show ObjOk X.prog X.w H s.heap p (DX.itemsO p a) from I.hok p _ hp).1
  obtain ⟨_, low, ws, kv, o, es, ep, ho, hx, hdat, _, prs, _⟩ := dk_rd I.hok ha
  have n1 : ks.length = ws.length := by
    have := Paired.length kv
    rwa [List.length_map] at this
  have n2 : es.size = ws.length := by
    have := pairs_len prs
    rwa [Array.length_toList] at this
  refine DT.sortedI (es := es) (ep := ep) (I.ok.hd hc) view ⟨o, ho, hx, hdat⟩ (by rw [sizeLine_eq]; omega) fun g tk as hk hlt hl hG => ?_
  have nas : as.length = ks.length := by omega
  have nd : as.Nodup := List.Pairwise.imp (fun h => Nat.ne_of_lt h) hG.rise
  have made : ∀ (j : Nat) (b : Addr), as[j]? = some b → ∃ (e : Str × Int) (t u : Tok), ks[j]? = some e ∧ g.get? b = some { cls := .type "tuple", data := .seq #[Value.str e.1 t, Value.int e.2 u] } := by
    intro j b hj
    obtain ⟨en, he, hg⟩ := hG.pairs j b hj
    obtain ⟨kw, hw, h1, h2⟩ := pairs_get (j := j) prs (by rw [Array.getElem?_toList]; exact he)
    obtain ⟨e0, he0, r1, r2⟩ := DX.pget kv hw
    rw [List.getElem?_map] at he0
    cases hkj : ks[j]? with
    | none =>
      rw [hkj] at he0
      cases he0
    | some e =>
      rw [hkj] at he0
      cases he0
      have rk : RelV (kV (Sum.inr e.1)) en.key := relV_key (show keyIs (Sum.inr e.1) en.key = true by rw [show (Sum.inr e.1 : L2.Key) = kw.1 from r1]; exact h1)
      obtain ⟨t, ek⟩ := rk
      have rv : RelV (V.int e.2) en.val := by
        rw [h2]
        exact r2
      obtain ⟨u, ev⟩ := rv
      refine ⟨e, t, u, rfl, ?_⟩
      rw [hg, ek, ev]
  -- the heap while the sort asks
  have lo : (g.push { cls := .type "list", data := .seq (as.map Value.ref).toArray }).get? g.objs.size = some (seqObj "list" (as.map Value.ref).toArray 0) := Heap.get?_push_size _ rfl
  have up : ∀ b o, g.get? b = some o → (g.push { cls := .type "list", data := .seq (as.map Value.ref).toArray }).get? b = some o := fun b o e => Heap.get?_push_of_some _ e
  have off : ∀ b o, g.get? b = some o → b ≠ g.objs.size := fun b o e => Nat.ne_of_lt (Heap.lt_size e)
  generalize g.push { cls := .type "list", data := .seq (as.map Value.ref).toArray } = m at lo up ⊢
  have pin : ∀ (j : Nat) (b : Addr), as[j]? = some b → ∃ e : Str × Int, ks[j]? = some e ∧ PairTI (_root_.TS.midHeap m g.objs.size (as.map Value.ref)) (.ref b) e.1 (valS ks e.1) := by
    intro j b hj
    obtain ⟨e, t, u, he, hg⟩ := made j b hj
    refine ⟨e, he, b, t, u, rfl, ⟨_, _root_.TS.midHeap_old (off _ _ hg) (up _ _ hg), rfl, 0, ?_⟩⟩
    rw [valS_of nk (List.mem_of_getElem? he)]
  have tx : ∀ (j : Nat) (b : Addr) (e : Str × Int), as[j]? = some b → ks[j]? = some e → txK (_root_.TS.midHeap m g.objs.size (as.map Value.ref)) (.ref b) = e.1 := by
    intro j b e hj he
    obtain ⟨e', he', hp'⟩ := pin j b hj
    rw [he] at he'
    cases he'
    exact hp'.tx
  have each : ∀ v ∈ as.map Value.ref, ∃ (j : Nat) (b : Addr) (e : Str × Int), v = .ref b ∧ as[j]? = some b ∧ ks[j]? = some e := by
    intro v hv
    obtain ⟨b, hb, rfl⟩ := List.mem_map.mp hv
    obtain ⟨j, hj⟩ := List.mem_iff_getElem?.mp hb
    obtain ⟨e, _, _, he, _⟩ := made j b hj
    exact ⟨j, b, e, rfl, hj, he⟩
  have inK : ∀ {j : Nat} {e : Str × Int}, ks[j]? = some e → e.1 ∈ ks.map (·.1) := fun h => List.mem_map.mpr ⟨_, List.mem_of_getElem? h, rfl⟩
  refine wpAny_call_entry PyProof.Rows.slot_list_sort ⟨_, lo, rfl⟩ PyProof.Rows.entry_list_sort (SK.plain_sort (s := { s with heap := m, toks := tk })
    (r := fun v => rankOf (ks.map (·.1)) (txK (_root_.TS.midHeap m g.objs.size (as.map Value.ref)) v)) lo (by rw [List.length_map]; omega) (fun two Qk hQk => ?_) fun ps out o1 o2 o3 => ⟨.none, rfl, ?_⟩) (PyProof.Rows.args_list_sort _)
  · refine kindTI (s := { s with heap := _root_.TS.midHeap m g.objs.size (as.map Value.ref), toks := tk }) (ρ := rankOf (ks.map (·.1))) (M := valS ks) two (fun v hv => ?_) (fun v hv u hu => ?_) Qk hQk
    · obtain ⟨j, b, e, rfl, hj, _⟩ := each v hv
      obtain ⟨e', _, hp'⟩ := pin j b hj
      exact ⟨e'.1, hp'⟩
    · obtain ⟨j, b, e, rfl, hj, he⟩ := each v hv
      obtain ⟨j', b', e', rfl, hj', he'⟩ := each u hu
      dsimp only
      rw [tx j b e hj he, tx j' b' e' hj' he']
      exact rank_lt (inK he) (inK he')
  · show EP X pins σ Q (.ref g.objs.size) { s with heap := sortedHeap m g.objs.size (as.map Value.ref) out, toks := tk }
    obtain ⟨zs, pz, ez⟩ := perm_lift (fun z : Addr × Str × Int => (Value.ref z.1, Value.ref z.1)) o2 (as.zip ks) (DX.zip_self Value.ref as ks nas)
    have idx : ∀ z ∈ zs, ∃ j : Nat, as[j]? = some z.1 ∧ ks[j]? = some z.2 := by
      intro z hz
      obtain ⟨j, hj⟩ := List.mem_iff_getElem?.mp (pz.mem_iff.mp hz)
      exact ⟨j, List.getElem?_zip_eq_some.mp hj⟩
    have eout : out.toList = zs.map fun z => Value.ref z.1 := by
      rw [o1, ← ez, List.map_map]
      rfl
    have perm : (zs.map (·.2)).Perm ks := by
      have e := pz.map (·.2)
      rwa [show (as.zip ks).map (·.2) = ks from List.map_snd_zip (by omega)] at e
    have srt : (zs.map (·.2)).Pairwise (fun e f => cs e.1 ≤ cs f.1) := by
      rw [← ez, List.pairwise_map] at o3
      rw [List.pairwise_map]
      refine List.Pairwise.imp_of_mem (fun {x y} hx hy h => ?_) o3
      obtain ⟨j, j1, j2⟩ := idx x hx
      obtain ⟨i, i1, i2⟩ := idx y hy
      dsimp only at h
      rw [tx j _ _ j1 j2, tx i _ _ i1 i2] at h
      exact rank_le (inK j2) (inK i2) h
    have keepM : ∀ b o, b ≠ g.objs.size → m.get? b = some o → (sortedHeap m g.objs.size (as.map Value.ref) out).get? b = some o := fun b o hb e => (PyProof.Rows.sortedHeap_old hb (Heap.lt_size e)).trans e
    have keepS : ∀ b o, s.heap.get? b = some o → (sortedHeap m g.objs.size (as.map Value.ref) out).get? b = some o := fun b o e => keepM b o (off _ _ (hk b o e)) (up _ _ (hk b o e))
    obtain ⟨ce, hce⟩ := PyProof.Rows.sortedHeap_at (vs := as.map Value.ref) (out := out) lo
    have J1 : Inv X pins σ H { s with heap := sortedHeap m g.objs.size (as.map Value.ref) out, toks := tk } := I.kept (t' := tk) keepS
    have free : H g.objs.size = none := I.hok.fresh (Nat.le_of_lt hlt)
    have zlen : (zs.map fun z => V.ref z.1).length ≤ sizeLine := by
      have e := perm.length_eq
      rw [List.length_map] at e
      rw [List.length_map, sizeLine_eq]
      omega
    have J2 : Inv X pins σ (upd H g.objs.size (.lst (zs.map fun z => V.ref z.1))) { s with heap := sortedHeap m g.objs.size (as.map Value.ref) out, toks := tk } :=
      J1.take (h' := sortedHeap m g.objs.size (as.map Value.ref) out) (t' := tk) (fun b ob _ e => e) (I.fpOk (Nat.le_of_lt hlt) free) ⟨zlen, out.toList, ce, by rw [eout]; exact vals_maps (fun z : Addr × Str × Int => V.ref z.1) (fun z => Value.ref z.1) zs fun _ _ => rfl, hce⟩
    obtain ⟨H2, J3, kp, tups⟩ := DX.takeT (P := fun b xs => ∃ (j : Nat) (e : Str × Int), as[j]? = some b ∧ ks[j]? = some e ∧ xs = [V.str e.1, V.int e.2]) I as _ J2 nd fun b hb => by
      obtain ⟨j, hj⟩ := List.mem_iff_getElem?.mp hb
      obtain ⟨e, t, u, he, hg⟩ := made j b hj
      have low' : s.heap.objs.size ≤ b := Nat.le_of_lt (hG.above b hb)
      refine ⟨low', ?_, [V.str e.1, V.int e.2], ⟨j, e, hj, he, rfl⟩, fun H3 => ⟨by show 2 ≤ sizeLine; decide, [Value.str e.1 t, Value.int e.2 u], .cons ⟨t, rfl⟩ (.cons ⟨u, rfl⟩ .nil), ⟨_, keepM _ _ (off _ _ hg) (up _ _ hg), rfl, 0, rfl⟩⟩⟩
      rw [upd_ne (off _ _ hg)]
      exact I.hok.fresh low'
    have same : Same H H2 := fun b o e => kp b o (by rw [upd_ne (ne_of_none e free)]; exact e)
    refine ⟨.ref g.objs.size, H2, J3, rfl, q H2 g.objs.size zs same perm srt (kp _ _ upd_same) fun z hz => ?_⟩
    obtain ⟨i, i1, i2⟩ := idx z hz
    obtain ⟨xs, ⟨j, e, j1, j2, rfl⟩, hH⟩ := tups z.1 (List.mem_of_getElem? i1)
    have eij : i = j := (List.getElem?_inj (List.getElem?_eq_some_iff.mp i1).1 nd).mp (i1.trans j1.symm)
    subst eij
    rw [i2] at j2
    cases j2
    exact hH
/-! ### repr of a dict from texts to ints -/
def dDict (ks : List (Str × Int)) : PyData := .dict (ks.map fun e => (PyData.str e.1, PyData.int e.2))
theorem reads_ks {prog : Program} {w : World} {h : Heap} : ∀ {ks : List (Str × Int)} {es : List DictEntry} {ws : List (L2.Key × Value)}, Pairs (L2.mixKind prog w) es ws → L2.KV (ks.map entS) ws →
    ReadsAll h (es.map (·.key)) (ks.map fun e => PyData.str e.1) [] ∧ ReadsAll h (es.map (·.val)) (ks.map fun e => PyData.int e.2) []
  | [], _, _, .nil, _ => ⟨.nil, .nil⟩
  | [], _, _, .cons _ _ _, kv => by cases kv
  | _ :: _, _, _, .nil, kv => by cases kv
  | e :: r, _, _, .cons h1 h2 t, kv => by
    cases kv with
    | cons hd tl =>
      obtain ⟨i1, i2⟩ := reads_ks (h := h) t tl
      obtain ⟨r1, r2⟩ := hd
      obtain ⟨tk, ek⟩ : L2.RelV (L2.kV (Sum.inr e.1)) _ := L2.relV_key (show L2.keyIs (Sum.inr e.1) _ = true by rw [show (Sum.inr e.1 : L2.Key) = _ from r1]; exact h1)
      obtain ⟨u, ev⟩ : L2.RelV (L2.V.int e.2) _ := by
        rw [← h2] at r2
        exact r2
      refine ⟨?_, ?_⟩
      · rw [List.map_cons, List.map_cons, ek]
        exact ReadsAll.cons (as := []) (bs := []) (.str _ _) i1
      · rw [List.map_cons, List.map_cons, ev]
        exact ReadsAll.cons (as := []) (bs := []) (.int _ _) i2
theorem depth_kv : ∀ ks : List (Str × Int), PyData.depthKv (ks.map fun e => (PyData.str e.1, PyData.int e.2)) = 0
  | [] => by simp [PyData.depthKv]
  | e :: r => by simp [PyData.depthKv, PyData.depth, depth_kv r]
theorem piled_le {n : Nat} : ∀ {ts : List Str}, (∀ t ∈ ts, t.length ≤ n) → piled ts ≤ ts.length * (n + 2)
  | [], _ => by simp [piled]
  | t :: r, h => by
    have h1 := h t List.mem_cons_self
    have h2 := piled_le (ts := r) fun u hu => h u (List.mem_cons_of_mem _ hu)
    have e : piled (t :: r) = t.length + 2 + piled r := by simp [piled]
    rw [e, List.length_cons, Nat.add_mul]
    omega
/-- a dict of pieces and prices may be shown -/
theorem show_dict {ks : List (Str × Int)} (hl : ks.length ≤ 100) (h : ∀ e ∈ ks, e.1.length ≤ 10 ∧ (∀ c ∈ cs e.1, c < 128) ∧ 0 ≤ e.2 ∧ e.2 ≤ 99) : (dDict ks).showable = true ∧ (dDict ks).shown.length ≤ sizeLine := by
  constructor
  · have : ∀ l : List (Str × Int), (∀ e ∈ l, 0 ≤ e.2 ∧ e.2 ≤ 99) → PyData.showableKv (l.map fun e => (PyData.str e.1, PyData.int e.2)) = true := by
      intro l hl
      induction l with
      | nil => simp [PyData.showableKv]
      | cons a r ih =>
        have h1 := hl a List.mem_cons_self
        have h2 : a.2.natAbs.log2 < 1920 := Nat.lt_of_lt_of_le (PySem.Flt.log2_lt_of (k := 7) (by decide) (by omega)) (by decide)
        simp [PyData.showableKv, PyData.showable, h2, ih fun e he => hl e (List.mem_cons_of_mem _ he)]
    unfold dDict
    simp only [PyData.showable]
    exact this ks fun e he => (h e he).2.2
  · have each : ∀ t ∈ PyData.shownKv (ks.map fun e => (PyData.str e.1, PyData.int e.2)), t.length ≤ 2100 := by
      intro t ht
      have gen : ∀ l : List (Str × Int), t ∈ PyData.shownKv (l.map fun e => (PyData.str e.1, PyData.int e.2)) → ∃ e ∈ l, t = reprText e.1 ++ ": " ++ toString e.2 := by
        intro l
        induction l with
        | nil => intro h; simp [PyData.shownKv] at h
        | cons a r ih =>
          intro h
          simp only [List.map_cons, PyData.shownKv, PyData.shown, List.mem_cons] at h
          rcases h with h | h
          · exact ⟨a, List.mem_cons_self, h⟩
          · obtain ⟨e, he, q⟩ := ih h
            exact ⟨e, List.mem_cons_of_mem _ he, q⟩
      obtain ⟨e, he, rfl⟩ := gen ks ht
      obtain ⟨l1, l2, l3, l4⟩ := h e he
      have r1 := StrLaws.reprText_len e.1 fun c hc => Nat.lt_of_lt_of_le (l2 c hc) (by decide)
      have r2 := int_text_len_1921 (i := e.2) (Nat.lt_of_lt_of_le (PySem.Flt.log2_lt_of (k := 7) (by decide) (by omega)) (by decide))
      have r3 : ((": " : String) : Str).length = 2 := by decide +kernel
      rw [strLen_append, strLen_append, r3]
      omega
    unfold dDict
    simp only [PyData.shown]
    unfold dictText
    rw [strLen_append, strLen_append]
    have c1 : (("{" : String) : Str).length = 1 := by decide +kernel
    have c2 : (("}" : String) : Str).length = 1 := by decide +kernel
    have c3 := piled_le each
    have c4 : (PyData.shownKv (ks.map fun e => (PyData.str e.1, PyData.int e.2))).length = ks.length := by
      generalize ks = l
      induction l with
      | nil => simp [PyData.shownKv]
      | cons a r ih => simp [PyData.shownKv, ih]
    rw [c4] at c3
    have c5 : (Str.join ", " (PyData.shownKv (ks.map fun e => (PyData.str e.1, PyData.int e.2)))).length ≤ piled (PyData.shownKv (ks.map fun e => (PyData.str e.1, PyData.int e.2))) := by
      by_cases q : PyData.shownKv (ks.map fun e => (PyData.str e.1, PyData.int e.2)) = []
      · rw [q]
        decide +kernel
      · have := join_length_add _ q
        omega
    have c6 : ks.length * (2100 + 2) ≤ 100 * 2102 := Nat.mul_le_mul_right _ hl
    rw [c1, c2]
    exact Nat.le_trans (by omega : _ ≤ 1000000) (by decide)
def rReprD : List L2.V → L2.Hp → L2.VK → Prop := fun xs H Q => ∃ a ks, xs = [.ref a] ∧ L2.Rd H a (.dK (ks.map entS)) ∧ (dDict ks).showable = true ∧ (dDict ks).shown.length ≤ sizeLine ∧ Q (.str (dDict ks).shown) H
theorem call_reprD {X : L2.Cx} (hg : X.A.guards = some []) (hu : X.A.units + 64 < cLine) : L2.CallR X (.builtin "repr") rReprD := by
  intro pins s σ H xs us Q I r h
  obtain ⟨a, ks, rfl, ha, hs, hz, q⟩ := h
  obtain rfl := L2.Vals.ref1 r
  obtain ⟨_, low, ws, kv, o, es, ep, ho, hx, hdat, _, prs, _⟩ := L2.dk_rd I.hok ha
  obtain ⟨k1, k2⟩ := reads_ks (h := s.heap) prs kv
  have rd : Reads s.heap (.ref a) (dDict ks) [a] := by
    refine Reads.dict (as := []) (bs := []) ho hx.1 hdat ?_ ?_
    · rw [List.map_map]
      exact k1
    · rw [List.map_map]
      exact k2
  have dep : (dDict ks).depth ≤ 10 := by
    unfold dDict
    simp only [PyData.depth, depth_kv]
    omega
  refine repr_of_reads' rd hs (fun _ hm => ?_) hg (by omega) (fun _ _ e => e) (fun h' u tk keeps => ⟨L2.V.str (dDict ks).shown, H, I.kept keeps, ⟨u, rfl⟩, q⟩) hz
  rw [List.mem_singleton.mp hm] at low
  simp at low
/-- dict(pairs) without double keys -/
theorem merge_nd : ∀ {more kvs : List (L2.Key × L2.V)}, ((kvs ++ more).map (·.1)).Nodup → L2.mergeK kvs more = kvs ++ more
  | [], kvs, _ => by rw [List.append_nil]; rfl
  | a :: r, kvs, h => by
    have no : L2.valV kvs a.1 = none := valV_none fun m => by
      rw [List.map_append, List.map_cons] at h
      exact (List.nodup_append.mp h).2.2 _ m _ List.mem_cons_self rfl
    show L2.mergeK (L2.putK kvs a.1 a.2) r = _
    rw [L2.putK_new _ no, merge_nd (by rw [List.append_assoc]; exact h), List.append_assoc]
    rfl
/-- two lists of pairs, both ascending by their texts, with the same pairs -/
theorem pairs_eq {xs ys : List (Str × Int)} (nd : (xs.map (·.1)).Nodup) (hx : xs.Pairwise fun e f => cs e.1 ≤ cs f.1) (hy : ys.Pairwise fun e f => cs e.1 ≤ cs f.1) (p : xs.Perm ys) : xs = ys := by
  refine p.eq_of_pairwise (fun a b ha hb h1 h2 => ?_) hx hy
  have e : a.1 = b.1 := str_ext (List.le_antisymm h1 h2)
  have hb' := p.mem_iff.mpr hb
  have v1 := valS_of nd ha
  have v2 := valS_of nd hb'
  rw [e] at v1
  exact Prod.ext e (v1.symm.trans v2)
theorem lift_ent : ∀ {kvs : List (L2.Key × L2.V)}, (∀ kv ∈ kvs, ∃ z p, kv = (Sum.inr z, L2.V.int p)) → ∃ ks : List (Str × Int), kvs = ks.map entS
  | [], _ => ⟨[], rfl⟩
  | kv :: r, h => by
    obtain ⟨z, p, rfl⟩ := h kv List.mem_cons_self
    obtain ⟨ks, rfl⟩ := lift_ent (kvs := r) fun x hx => h x (List.mem_cons_of_mem _ hx)
    exact ⟨(z, p) :: ks, rfl⟩
theorem keys_ent : ∀ ks : List (Str × Int), keyStrs (ks.map entS) = ks.map (·.1)
  | [] => rfl
  | e :: r => congrArg (e.1 :: ·) (keys_ent r)
theorem nd_ent {ks : List (Str × Int)} (nd : ((ks.map entS).map (·.1)).Nodup) : (ks.map (·.1)).Nodup := by
  have e : (ks.map entS).map (·.1) = (ks.map (·.1)).map (Sum.inr : Str → L2.Key) := by
    rw [List.map_map, List.map_map]
    rfl
  rw [e] at nd
  exact List.Pairwise.imp (fun h q => h (congrArg _ q)) (List.pairwise_map.mp nd)
theorem ps_perm {ks : List (Str × Int)} {ys : List Str} (al : ((ks.map entS).all fun kv => isPiece (L2.kV kv.1) && isPrice kv.2) = true) (nd : ((ks.map entS).map (·.1)).Nodup) (pm : ys.Perm (keyStrs (ks.map entS))) : (psOf (ks.map entS) ys).Perm ks := by
  rw [keys_ent] at pm
  have h1 := pm.map fun y => (y, priceIn (ks.map entS) y)
  refine h1.trans ?_
  rw [List.map_map]
  have h2 : ks.map ((fun y => (y, priceIn (ks.map entS) y)) ∘ (·.1)) = ks := by
    conv => rhs; rw [← List.map_id ks]
    refine List.map_congr_left fun e he => ?_
    have h3 := L2.val_nodup nd _ (List.mem_map.mpr ⟨e, he, rfl⟩)
    have hk : e.1 ∈ keyStrs (ks.map entS) := by
      rw [keys_ent]
      exact List.mem_map.mpr ⟨e, he, rfl⟩
    have h4 := (price_of_key al hk).1
    rw [show L2.valV (ks.map entS) (Sum.inr e.1) = some (L2.V.int e.2) from h3] at h4
    have h5 := L2.V.int.inj (Option.some.inj h4)
    show (e.1, priceIn (ks.map entS) e.1) = e
    rw [← h5]
  rw [h2]
theorem so_ps {kvs : List (L2.Key × L2.V)} {ys : List Str} (h : sortedS ys = true) : (psOf kvs ys).Pairwise fun e f => cs e.1 ≤ cs f.1 := List.pairwise_map.mpr (so_pw h)
theorem ps_keys {kvs : List (L2.Key × L2.V)} {ys : List Str} : (psOf kvs ys).map (·.1) = ys := by
  unfold psOf
  rw [List.map_map]
  exact List.map_id' ys
end G
/-! Own operators: in, ==, | & - of a class's instances, by the promise of the method. -/
namespace G
open PySem PySem.Spec PyProof.Rows L2
open L2 (St)
/-- the promise of a method that returns a truth -/
def backB (Q : VK) : VK := fun r H => ∃ b, r = .bl b ∧ Q (.bl b) H
def rInO (C : Addr) (sp : Sp) : R2 := fun x y H Q => ∃ a dx fs, y = .ref a ∧ H a = some (.ins C dx fs) ∧ sp [.ref a, x] H (backB Q) C8.E0
def rNotInO (C : Addr) (sp : Sp) : R2 := fun x y H Q => ∃ a dx fs, y = .ref a ∧ H a = some (.ins C dx fs) ∧ sp [.ref a, x] H (fun r H' => ∃ b, r = .bl b ∧ Q (.bl (!b)) H') C8.E0
section
variable {X : Cx} {k j : Nat} {C : Addr} {sp : Sp}
theorem met_run {m : Str} {pins : List (Addr × Obj)} {σ : L2.St} {H : Hp} {s : Shared} {Q : VK} {us : List Value} {vs : List V} (c : C8.Met X.prog X.w X.K X.mg X.base k C m sp []) (hr : Room j X.A) (hk : k ≤ j) (I : Inv X pins σ H s) (r : Vals vs us) (h : sp vs H Q C8.E0) :
    ∃ f : Addr, PySem.W.findIn X.K (.ref C) m = some (some (.ref f)) ∧ PySem.W.isFn X.K (.ref f) = true ∧ wpAny (model X.prog X.w) X.A (call (.ref f) us) (EP X pins σ Q) X.xe s := by
  obtain ⟨f, fd, ps, ds, hc, hm, F, b, d⟩ := c.ex
  refine ⟨f, hm.at_, hm.fn, ?_⟩
  have e : vs ++ ([] : List V) = vs := List.append_nil vs
  exact run_fn F (hr.mono hk) b d C8.pass0 I r (by rw [e]; exact h)
theorem op_inO (c : C8.Met X.prog X.w X.K X.mg X.base k C "__contains__" sp []) (hr : Room j X.A) (hk : k ≤ j) : OpR X (compareOp .In) (rInO C sp) := by
  intro pins s σ H x y v u Q I rx ry h
  obtain ⟨a, dx, fs, rfl, ha, q⟩ := h
  cases ry
  obtain ⟨mA, J, _⟩ := ins_get I.hok ha
  obtain ⟨od, J, _⟩ := J.look
  obtain ⟨m, hF⟩ := I.fr
  obtain ⟨f, h1, h2, h3⟩ := met_run (us := [.ref a, v]) (vs := [.ref a, x]) c hr hk I (.cons rfl (.cons rx .nil)) q
  refine PySem.W.in_K hF I.ok.mod.kin J h1 h2 (wpAny_mono h3 (fun r s' hq => ?_) fun _ _ e => e)
  obtain ⟨z, H', I', rz, b, rfl, q⟩ := hq
  cases rz
  exact wpAny_truthy_bool ⟨.bl b, H', I', rfl, q⟩
theorem op_notInO (c : C8.Met X.prog X.w X.K X.mg X.base k C "__contains__" sp []) (hr : Room j X.A) (hk : k ≤ j) : OpR X (compareOp .NotIn) (rNotInO C sp) := by
  intro pins s σ H x y v u Q I rx ry h
  obtain ⟨a, dx, fs, rfl, ha, q⟩ := h
  cases ry
  obtain ⟨mA, J, _⟩ := ins_get I.hok ha
  obtain ⟨od, J, _⟩ := J.look
  obtain ⟨m, hF⟩ := I.fr
  obtain ⟨f, h1, h2, h3⟩ := met_run (us := [.ref a, v]) (vs := [.ref a, x]) c hr hk I (.cons rfl (.cons rx .nil)) q
  refine PySem.W.notIn_K hF I.ok.mod.kin J h1 h2 (wpAny_mono h3 (fun r s' hq => ?_) fun _ _ e => e)
  obtain ⟨z, H', I', rz, b, rfl, q⟩ := hq
  cases rz
  exact wpAny_truthy_bool ⟨.bl (!b), H', I', rfl, q⟩
/-- == of two instances of one class -/
def rEqO (C : Addr) (sp : Sp) : R2 := fun x y H Q => ∃ a dx fs b dy gs, x = .ref a ∧ y = .ref b ∧ H a = some (.ins C dx fs) ∧ H b = some (.ins C dy gs) ∧ sp [.ref a, .ref b] H (backB Q) C8.E0
theorem op_eqO (c : C8.Met X.prog X.w X.K X.mg X.base k C "__eq__" sp []) (hr : Room j X.A) (hk : k ≤ j) (hu : X.A.units < cLine) : OpR X (compareOp .Eq) (rEqO C sp) := by
  intro pins s σ H x y v u Q I rx ry h
  obtain ⟨a, dx, fs, b, dy, gs, rfl, rfl, ha, hb, q⟩ := h
  cases rx
  cases ry
  obtain ⟨_, J, _⟩ := ins_get I.hok ha
  obtain ⟨_, J', _⟩ := ins_get I.hok hb
  obtain ⟨_, J, _⟩ := J.look
  obtain ⟨_, J', _⟩ := J'.look
  obtain ⟨m, hF⟩ := I.fr
  obtain ⟨f, h1, h2, h3⟩ := met_run (us := [.ref a, .ref b]) (vs := [.ref a, .ref b]) c hr hk I (.cons rfl (.cons rfl .nil)) q
  refine PySem.W.cmp_K (op := .Eq) (tb := .ref C) hu hF I.ok.mod.kin J J'.type (by simp [PySem.W.notFirst]) h1 h2 (wpAny_mono h3 (fun r s' hq => ?_) fun _ _ e => e)
  obtain ⟨z, H', I', rz, b', rfl, q⟩ := hq
  cases rz
  exact ⟨.bl b', H', I', rfl, q⟩
end
end G
/-! {**d, k: v}: a dict display that begins with another dict. -/
namespace G
open PySem PyProof.Rows
section
variable {prog : Program} {w : World} {Kt : Type} [DecidableEq Kt] {knd : KeyKind prog w Kt} {A : Around} {E : Value → Shared → Prop} {s : Shared}
theorem put_at {a : Addr} {ks : List (Kt × Value)} {k : Kt} {u v : Value} {Q : Unit → Shared → Prop} (isK : knd.is k u = true) (is : s.heap.DictOf knd a ks) (small : ks.length ≤ sizeLine)
    (q : ∀ g, g.DictOf knd a (stored ks k v) → Heap.SameBut a s.heap g → Q () { s with heap := g }) : wpAny (model prog w) A (dictPut a (knd.hash k) u v) Q E s := by
  obtain ⟨ob, xs, ep, h1, h2, h3, h4, h5, h6⟩ := is
  have few : xs.size ≤ sizeLine := by
    have e := h5.length
    rw [Array.length_toList] at e
    omega
  have ix : (xs.findIdx? fun z => knd.is k z.key) = ks.findIdx? fun y => decide (y.1 = k) := by
    rw [← h5.findIdx k]
    obtain ⟨l⟩ := xs
    simp
  unfold dictPut
  refine wpAny_bind (wpAny_dictFind_of isK h1 h3 h4 ?_)
  cases at_ : xs.findIdx? fun z => knd.is k z.key with
  | some i =>
    have pairs : Pairs knd (xs.modify i fun z => { z with val := v }).toList (stored ks k v) := by
      rw [stored, if_pos (any_of_findIdx_some (ix ▸ at_))]
      have f : (xs.toList.findIdx? fun z => knd.is k z.key) = some i := by
        rw [← at_]
        obtain ⟨l⟩ := xs
        simp
      have m := h5.modify h6 f v
      obtain ⟨l⟩ := xs
      simpa using m
    have nd : ((stored ks k v).map (·.1)).Nodup := by
      rw [stored, if_pos (any_of_findIdx_some (ix ▸ at_)), keys_map_store]
      exact h6
    have fr := Obj.isFreed_of_dict (Obj.data_mapDict h3 fun l => l.modify i fun z => { z with val := v })
    exact wpAny_updateDict h1 h3 (q _ ⟨_, _, ep, Heap.get?_update_self _ h1 fr, h2.mapDict _, Obj.data_mapDict h3 _, h4.modify _ _, pairs, nd⟩ (Heap.SameBut.update ..))
  | none =>
    have out : k ∉ ks.map (·.1) := not_mem_of_findIdx_none (ix ▸ at_)
    have no : ¬ (ks.any fun y => decide (y.1 = k)) = true := fun z => by
      obtain ⟨y, hy, e⟩ := List.any_eq_true.mp z
      exact out (List.mem_map.mpr ⟨y, hy, of_decide_eq_true e⟩)
    have pairs : Pairs knd (xs.push ⟨knd.hash k, u, v⟩).toList (stored ks k v) := by
      rw [stored, if_neg no]
      have m := h5.append isK (knd.hash k) v
      obtain ⟨l⟩ := xs
      simpa using m
    have nd : ((stored ks k v).map (·.1)).Nodup := by
      rw [stored, if_neg no, List.map_append]
      refine List.nodup_append.mpr ⟨h6, by simp, fun y hy z hz e => ?_⟩
      rw [List.mem_singleton.mp hz] at e
      have e' : y = k := e
      rw [← e'] at out
      exact out hy
    have fr := Obj.isFreed_of_dict (Obj.data_mapDictKeys h3 fun l => l.push ⟨knd.hash k, u, v⟩)
    exact wpAny_updateDictKeys (hz := few) h1 h3 (q _ ⟨_, _, ep + 1, Heap.get?_update_self _ h1 fr, h2.mapDictKeys _, Obj.data_mapDictKeys h3 _, h4.push isK _, pairs, nd⟩ (Heap.SameBut.update ..))
theorem merge_at {a b : Addr} {ks more : List (Kt × Value)} {Q : Unit → Shared → Prop} (ne : a ≠ b) (low : (b == sysModules) = false) (ia : s.heap.DictOf knd a ks) (ib : s.heap.DictOf knd b more) (small : ks.length + more.length ≤ sizeLine)
    (noref : ∀ k u, knd.is k u = true → ∀ x, u ≠ Value.ref x) (q : ∀ g, g.DictOf knd a (merged ks more) → g.DictOf knd b more → Heap.SameBut a s.heap g → Q () { s with heap := g }) : wpAny (model prog w) A (mergeMapping a (.ref b) false) Q E s := by
  obtain ⟨oa, xa, pa, a1, a2, a3, a4, a5, a6⟩ := id ia
  obtain ⟨ob, xb, pb, b1, b2, b3, b4, b5, b6⟩ := id ib
  unfold mergeMapping
  refine wpAny_bind (wpAny_isInstance ib.typeIs isSubtype_dict_dict ?_)
  rw [if_pos rfl]
  refine wpAny_bind (wpAny_specialOf ib.typeIs PySem.F.slot_dict_iter.lookup ?_)
  refine wpAny_bind (wpAny_pure ?_)
  rw [show ((some (Value.builtin "dict.__iter__") : Option Value) == some (Value.builtin "dict.__iter__")) = true from by decide]
  dsimp only
  rw [low, if_neg Bool.false_ne_true]
  refine wpAny_bind (wpAny_dictEntries a1 a3 ?_)
  have size : xb.size = more.length := by
    rw [← b5.length, Array.length_toList]
  have rest : wpAny (model prog w) A (do
      let l ← dictEntries b
      let epoch ← dictEpoch b
      forIn (List.range l.size) PUnit.unit fun i _ => do
        let l ← dictEntries b
        match l[i]? with
        | some e => do
          holding [e.key, e.val] (dictPut a e.hash e.key e.val)
          let now ← dictEpoch b
          if (now != epoch) = true then do
            unsupported "dict.changed-during-merge"
            pure (ForInStep.yield PUnit.unit)
          else pure (ForInStep.yield PUnit.unit)
        | _ => do
          unsupported "dict.changed-during-merge"
          pure (ForInStep.yield PUnit.unit)
      pure ()) Q E s := by
    refine wpAny_bind (wpAny_dictEntries b1 b3 ?_)
    refine wpAny_bind (wpAny_dictEpoch b1 b3 ?_)
    refine wpAny_bind (wpAny_forIn_list _ (fun l _ s' => ∃ g i, s' = { s with heap := g } ∧ l = (List.range xb.size).drop i ∧ i ≤ xb.size ∧ g.DictOf knd a (merged ks (more.take i)) ∧ g.get? b = some ob ∧ Heap.SameBut a s.heap g) _ ?_ ?_ _ _
      ⟨s.heap, 0, rfl, rfl, Nat.zero_le _, by simpa [merged] using ia, b1, Heap.SameBut.refl _ _⟩)
    · rintro i l u s' ⟨g, j, rfl, hl, hj, ga, gb, gs⟩
      have jl : j < xb.size := by
        rcases Nat.lt_or_ge j xb.size with h | h
        · exact h
        · rw [List.drop_of_length_le (by rw [List.length_range]; exact h)] at hl
          cases hl
      rw [List.drop_eq_getElem_cons (by rw [List.length_range]; exact jl)] at hl
      obtain ⟨rfl, rfl⟩ := List.cons.inj hl
      rw [List.getElem_range]
      refine wpAny_bind (wpAny_dictEntries gb b3 ?_)
      rw [Array.getElem?_eq_getElem jl]
      obtain ⟨⟨k, v⟩, hkv⟩ : ∃ kv, more[j]? = some kv := ⟨_, List.getElem?_eq_getElem (by omega)⟩
      obtain ⟨isk, isv⟩ := b5.get? (e := xb[j]) (by simp [jl]) hkv
      obtain ⟨k', isk', hh⟩ := b4 xb[j] (Array.getElem_mem jl)
      have ek : k' = k := knd.inj _ _ _ isk' isk
      subst ek
      dsimp only
      rw [hh, isv]
      have lm := merged_length_le ks (more.take j)
      have lt : (more.take j).length ≤ more.length := by
        rw [List.length_take]
        omega
      refine wpAny_bind (wpAny_holding (put_at (s := { s with heap := g }) isk ga (by omega) fun g' ga' gs' => ?_))
      have gb' : g'.get? b = some ob := (gs'.2 b (Ne.symm ne)).trans gb
      refine wpAny_bind (wpAny_dictEpoch gb' b3 ?_)
      rw [if_neg (by simp)]
      exact wpAny_pure ⟨g', j + 1, rfl, rfl, jl, by rw [merged_take_succ ks more j (k', v) hkv]; exact ga', gb', gs.trans gs'⟩
    · rintro u s' ⟨g, j, rfl, hl, hj, ga, gb, gs⟩
      have ej : j = xb.size := by
        rcases Nat.lt_or_ge j xb.size with h | h
        · rw [List.drop_eq_getElem_cons (by rw [List.length_range]; exact h)] at hl
          cases hl
        · omega
      rw [ej, size, List.take_length] at ga
      exact wpAny_pure (q g ga ⟨ob, xb, pb, gb, b2, b3, b4, b5, b6⟩ gs)
  split
  · refine wpAny_bind (wpAny_dictEntries b1 b3 ?_)
    refine wpAny_bind (MeetsSeq2.wpAny_forIn_array _ (fun l _ s' => s' = s ∧ ∀ e ∈ l, e ∈ xb.toList) _ ?_ ?_ _ _ ⟨rfl, fun e h => h⟩)
    · rintro e l u s' ⟨rfl, hl⟩
      obtain ⟨k, hk, _⟩ := b4 e (by simpa using hl e List.mem_cons_self)
      have nr := noref k _ hk
      split
      · rename_i z ez
        exact absurd ez (nr z)
      · exact wpAny_pure ⟨rfl, fun x hx => hl x (List.mem_cons_of_mem _ hx)⟩
    · rintro u s' ⟨rfl, _⟩
      exact rest
  · exact rest
end
section
variable {X : L2.Cx} {de ke ve : Expr} {pos : Pos} {td tk tv : L2.TE}
def tDispU (td tk tv : L2.TE) : L2.TE := fun σ H Q => ∀ p, H p = none → td σ (L2.upd H p (.dK [])) fun x H1 => ∃ d kvs, x = .ref d ∧ d ≠ p ∧ H1 p = some (.dK []) ∧ L2.Rd H1 d (.dK kvs) ∧ (kvs.map (·.1)).Nodup ∧ kvs.length ≤ 100 ∧
  ∀ q, L2.upd H1 p (.dK kvs) q = none → tk σ (L2.upd (L2.upd H1 p (.dK kvs)) q (.dK [])) fun k H2 => tv σ H2 fun v H3 => ∃ y, k = L2.kV y ∧ H3 p = some (.dK kvs) ∧ H3 q = some (.dK []) ∧ Q (.ref p) (L2.upd (L2.upd H3 q (.dK [(y, v)])) p (.dK (L2.putK kvs y v)))
theorem pe_dispU (hd : L2.PE X de td) (hk : L2.PE X ke tk) (hv : L2.PE X ve tv) : L2.PE X (.Dict [none, some ke] [de, ve] pos) (tDispU td tk tv) := by
  refine ⟨fun pins s σ H Q I h => ?_⟩
  rw [arm_eval_Dict]
  refine wpAny_bind (wpAny_standAt ?_)
  show wpAny _ _ (dictDisplay [(none, do let x ← eval de X.env; standAt pos; pure x), (some (eval ke X.env), do let x ← eval ve X.env; standAt pos; pure x)]) _ _ _
  unfold dictDisplay
  dsimp only
  rw [List.forIn_cons]
  dsimp only
  have nor : ∀ (k : L2.Key) (u : Value), (L2.mixKind X.prog X.w).is k u = true → ∀ x, u ≠ Value.ref x := fun k u hk x e => by
    subst e
    have r := L2.relV_key (show L2.keyIs k (.ref x) = true from hk)
    cases k <;> (obtain ⟨_, e⟩ := r; cases e)
  have hn := I.hok.fresh (Nat.le_refl s.heap.objs.size)
  have I1 := I.laid (a := s.heap.objs.size) (o := .dK []) (h' := s.heap.push { cls := .type "dict", data := .dict #[] }) (t' := s.toks) (fun _ _ z => Heap.get?_push_of_some _ z) (Nat.le_refl _) (L2.dk_empty s.heap I.big)
  have h1 := h _ hn
  -- the first part: the other dict
  refine wpAny_bind (wpAny_bind (wpAny_bind ?_))
  rw [if_pos (show ([] : List (Sem Value × Sem Value)).isEmpty = true from rfl)]
  refine wpAny_pure (wpAny_bind (wpAny_alloc (wpAny_bind (wpAny_holding (wpAny_bind (L2.thn (hd.run pins _ σ _ _ I1 h1) fun u s1 ⟨x, H1, I2, rx, q⟩ => wpAny_bind (wpAny_standAt (wpAny_pure ?_))))))))
  obtain ⟨d, kvs, rfl, ndp, ep, ed, nd, len, q⟩ := q
  cases rx
  obtain ⟨_, lowp, v0, r0, dp⟩ := L2.dk_of I2.hok ep
  obtain ⟨_, lowd, more, rm, dd⟩ := L2.dk_rd I2.hok ed
  cases r0
  have ml : more.length = kvs.length := (Paired.length rm).symm
  refine wpAny_bind (wpAny_onRaise (wpAny_tryCatch (wpAny_onRaise (wpAny_holding (merge_at (knd := L2.mixKind X.prog X.w) (Ne.symm ndp) lowd dp dd (by rw [sizeLine_eq]; show 0 + more.length ≤ _; omega) nor fun g gp gd gs => ?_)))))
  have em : L2.mergeK [] kvs = kvs := by
    have e := merge_nd (more := kvs) (kvs := []) (by rw [List.nil_append]; exact nd)
    rwa [List.nil_append] at e
  have rg := L2.KV.merge (kvs := []) (vs := []) rm .nil
  rw [em] at rg
  have hep : ∃ z, g.get? s.heap.objs.size = some z := let ⟨z, _, _, hz, _⟩ := gp; ⟨z, hz⟩
  have I3 : L2.Inv X pins σ (L2.upd H1 s.heap.objs.size (.dK kvs)) { s1 with heap := g, toks := s1.toks } := L2.d_write I2 (by rw [ep]; exact True.intro) gs hep (L2.dk_new (by rw [sizeLine_eq]; omega) lowp rg gp)
  refine wpAny_pure ?_
  dsimp only
  rw [List.forIn_cons]
  dsimp only
  -- the second part: one pair
  refine wpAny_bind ?_
  rw [if_neg (by simp)]
  refine wpAny_pure ?_
  dsimp only
  rw [List.forIn_nil]
  refine wpAny_pure ?_
  dsimp only
  refine wpAny_bind ?_
  rw [if_neg (by simp)]
  have hq := I3.hok.fresh (Nat.le_refl g.objs.size)
  have I4 := I3.laid (a := g.objs.size) (o := .dK []) (h' := g.push { cls := .type "dict", data := .dict #[] }) (t' := s1.toks) (fun _ _ z => Heap.get?_push_of_some _ z) (Nat.le_refl _) (L2.dk_empty g I3.big)
  refine wpAny_bind (wpAny_holding (wpAny_subDict (knd := L2.mixKind X.prog X.w) (by simp) (evalPairs_cons (L2.thn (hk.run pins _ σ _ _ I4 (q _ hq)) fun u2 s2 ⟨k, H2, I5, rk, q5⟩ =>
    wpAny_bind (L2.thn (hv.run pins _ σ _ _ I5 q5) fun u3 s3 ⟨v, H3, I6, rv, q6⟩ => wpAny_bind (wpAny_standAt (wpAny_pure (evalPairs_nil ?_))))))))
  obtain ⟨y, rfl, ep3, eq3, fin⟩ := q6
  obtain ⟨_, lowq, v0, r0, dq⟩ := L2.dk_of I6.hok eq3
  cases r0
  refine ⟨[(y, u3)], ⟨L2.kV_is rk, rfl, True.intro⟩, dq, fun g2 d2 s2' => ?_⟩
  have heq : ∃ z, g2.get? g.objs.size = some z := let ⟨z, _, _, hz, _⟩ := d2; ⟨z, hz⟩
  have rq := L2.KV.merge (more := [(y, v)]) (rs := [(y, u3)]) (kvs := []) (vs := []) (.cons ⟨rfl, rv⟩ .nil) .nil
  have I7 := L2.d_write (t' := s3.toks + [(u2, u3)].length) I6 (by rw [eq3]; exact True.intro) s2' heq (L2.dk_new (by rw [sizeLine_eq]; show 1 ≤ _; omega) lowq rq d2)
  have npq : s.heap.objs.size ≠ g.objs.size := fun e => by
    rw [← e, L2.upd_same] at hq
    cases hq
  have ep4 : L2.upd H3 g.objs.size (.dK (L2.mergeK [] [(y, v)])) s.heap.objs.size = some (.dK kvs) := by
    rw [L2.upd_ne npq]
    exact ep3
  obtain ⟨_, _, vp, rp, dp4⟩ := L2.dk_of I7.hok ep4
  obtain ⟨_, _, vq, rq4, dq4⟩ := L2.dk_of I7.hok (L2.upd_same (H := H3) (a := g.objs.size) (o := .dK (L2.mergeK [] [(y, v)])))
  have lp4 := Paired.length rp
  have lq4 := Paired.length rq4
  have one : (L2.mergeK [] [(y, v)]).length = 1 := rfl
  refine wpAny_bind (wpAny_onRaise (wpAny_holding (merge_at (knd := L2.mixKind X.prog X.w) npq lowq dp4 dq4 (by rw [sizeLine_eq]; omega) nor fun g3 gp3 _ gs3 => ?_)))
  have hep3 : ∃ z, g3.get? s.heap.objs.size = some z := let ⟨z, _, _, hz, _⟩ := gp3; ⟨z, hz⟩
  have rm3 := L2.KV.merge rq4 rp
  have lm3 := L2.length_mergeK (L2.mergeK [] [(y, v)]) kvs
  have I8 := L2.d_write (t' := s3.toks + [(u2, u3)].length) I7 (by rw [ep4]; exact True.intro) gs3 hep3 (L2.dk_new (by rw [sizeLine_eq]; omega) lowp rm3 gp3)
  refine wpAny_pure ?_
  exact wpAny_pure ⟨.ref s.heap.objs.size, _, I8, rfl, fin⟩
end
end G
/-! Needless pieces; books made of parts of books. -/
namespace G
open PySem PySem.Spec PyProof.Rows L2
/-! ### books by their signs -/
structure Sgs (kvs : List (Key × V)) (sg : List Nat) : Prop where
  ok : PrOk sg kvs
  n1 : 1 ≤ sg.length
  n4 : sg.length ≤ 4
  lt : ∀ c ∈ sg, lett c = true
  tf : ∀ c, (∃ q, tfD kvs (ch c) = some q) ↔ c ∈ sg
theorem sgs_of {kvs : List (Key × V)} (av : arePrices kvs = true) (nd : (kvs.map (·.1)).Nodup) : ∃ sg, Sgs kvs sg := by
  obtain ⟨⟨n1, n2⟩, al, n4, _⟩ := ap_parts av
  have tar := tar_of av nd
  have mem : ∀ c, c ∈ (((keyStrs kvs).filter fun z => decide ((cs z).length = 1)).map cs).flatten ↔ ch c ∈ keyStrs kvs := fun c => by
    rw [List.mem_flatten]
    constructor
    · rintro ⟨l, hl, hc⟩
      obtain ⟨z, hz, rfl⟩ := List.mem_map.mp hl
      obtain ⟨h1, h2⟩ := List.mem_filter.mp hz
      obtain ⟨d, rfl⟩ := G.one_sign (z := z) (by simpa using h2)
      have e : c = d := by simpa [cs] using hc
      rw [e]
      exact h1
    · intro h
      exact ⟨[c], List.mem_map.mpr ⟨ch c, List.mem_filter.mpr ⟨h, rfl⟩, rfl⟩, List.mem_cons_self⟩
  have len : (((keyStrs kvs).filter fun z => decide ((cs z).length = 1)).map cs).flatten.length = ((keyStrs kvs).filter fun z => decide ((cs z).length = 1)).length := by
    rw [List.length_flatten, List.map_map]
    have : ∀ l : List Str, (∀ z ∈ l, (cs z).length = 1) → (l.map (List.length ∘ cs)).sum = l.length := by
      intro l h
      induction l with
      | nil => rfl
      | cons a r ih =>
        rw [List.map_cons, List.sum_cons, ih fun z hz => h z (List.mem_cons_of_mem _ hz), List.length_cons]
        have := h a List.mem_cons_self
        show (cs a).length + _ = _
        omega
    exact this _ fun z hz => by simpa using (List.mem_filter.mp hz).2
  have tf : ∀ c, (∃ q, tfD kvs (ch c) = some q) ↔ c ∈ (((keyStrs kvs).filter fun z => decide ((cs z).length = 1)).map cs).flatten := fun c => by
    rw [mem, tf_key al]
  refine ⟨_, ⟨fun kv hkv => ?_, nd⟩, ?_, by rw [len]; exact n4, fun c hc => ?_, tf⟩
  · obtain ⟨z, p, rfl, hp⟩ := tar.mem kv hkv
    exact ⟨z, p, rfl, tar.good.len z p hp, fun c hc => (tf c).mp (tar.good.cov z p hp c hc), tar.good.pos z p hp⟩
  · cases kvs with
    | nil => simp at n1
    | cons a r =>
      obtain ⟨z, p, rfl, hp⟩ := tar.mem a List.mem_cons_self
      have h1 := (tar.good.len z p hp).1
      obtain ⟨c, hc⟩ : ∃ c, c ∈ cs z := by
        cases e : cs z with
        | nil =>
          rw [e] at h1
          simp at h1
        | cons c _ => exact ⟨c, List.mem_cons_self⟩
      exact List.length_pos_of_mem ((tf c).mp (tar.good.cov z p hp c hc))
  · exact (keyStrs_piece al (ch c) ((mem c).mp hc)).2.2 c (by simp [cs])
/-- some of a book's pieces, all signs among them -/
theorem ap_sub {kvs kvs' : List (Key × V)} (av : arePrices kvs = true) (nd : (kvs.map (·.1)).Nodup) (nd' : (kvs'.map (·.1)).Nodup) (sub : ∀ kv ∈ kvs', kv ∈ kvs) (one : ∀ c, (∃ q, tfD kvs (ch c) = some q) → ∃ q, tfD kvs' (ch c) = some q) (len : kvs'.length ≤ 12) :
    arePrices kvs' = true ∧ ∀ c, (∃ q, tfD kvs' (ch c) = some q) ↔ ∃ q, tfD kvs (ch c) = some q := by
  obtain ⟨sg, S⟩ := sgs_of av nd
  have P : PrOk sg kvs' := ⟨fun kv h => S.ok.mem kv (sub kv h), nd'⟩
  obtain ⟨h1, h2⟩ := P.right (fun c hc => by
    obtain ⟨q, hq⟩ := one c ((S.tf c).mpr hc)
    rw [tf_some.mp hq]
    rfl) S.lt S.n4 S.n1 len
  exact ⟨h1, fun c => by rw [h2 c, S.tf c]⟩
theorem tf_put {kvs : List (Key × V)} {z y : Str} {p : Int} : tfD (putK kvs (Sum.inr z) (.int p)) y = if y = z then some p else tfD kvs y := by
  unfold tfD
  rw [valV_put]
  by_cases h : y = z
  · subst h
    rw [if_pos rfl, if_pos rfl]
  · rw [if_neg (fun e => h (Sum.inr.inj e)), if_neg h]
/-- a further piece, or another price -/
theorem ap_put {kvs : List (Key × V)} {z : Str} {p : Int} (av : arePrices kvs = true) (nd : (kvs.map (·.1)).Nodup) (len : kvs.length ≤ 11) (lz : 1 ≤ (cs z).length ∧ (cs z).length ≤ 5) (ov : Over (tfD kvs) (cs z)) (hp : 1 ≤ p ∧ p ≤ 99) :
    arePrices (putK kvs (Sum.inr z) (.int p)) = true ∧ ((putK kvs (Sum.inr z) (.int p)).map (·.1)).Nodup := by
  obtain ⟨sg, S⟩ := sgs_of av nd
  have P : PrOk sg (putK kvs (Sum.inr z) (.int p)) := S.ok.put lz (fun c hc => (S.tf c).mp (ov c hc)) hp
  have h1 := put_len (kvs := kvs) (k := Sum.inr z) (v := .int p)
  refine ⟨(P.right (fun c hc => ?_) S.lt S.n4 S.n1 (by omega)).1, P.nd⟩
  rw [valV_put]
  split
  · rfl
  · obtain ⟨q, hq⟩ := (S.tf c).mpr hc
    rw [tf_some.mp hq]
    rfl
/-! ### needless pieces -/
def remF (F : Tf) (z : Str) : Tf := fun y => if y = z then none else F y
def Needless (F : Tf) (z : Str) : Prop := ∃ p, F z = some p ∧ 1 < (cs z).length ∧ lp (remF F z) (cs z) ≤ p
theorem rem_good {F : Tf} (G : Good F) {z : Str} (hz : 1 < (cs z).length) : Good (remF F z) := by
  have sub : ∀ {y p}, remF F z y = some p → F y = some p := fun {y p} h => by
    unfold remF at h
    split at h
    · cases h
    · exact h
  refine ⟨fun y p h => G.pos y p (sub h), fun y p h => G.len y p (sub h), fun y p h c hc => ?_⟩
  obtain ⟨q, hq⟩ := G.cov y p (sub h) c hc
  refine ⟨q, ?_⟩
  unfold remF
  rw [if_neg fun e => ?_]
  · exact hq
  · rw [← e] at hz
    exact absurd (show 1 < 1 from hz) (by decide)
theorem rem_over {F : Tf} {z : Str} {l : List Nat} (hz : 1 < (cs z).length) (o : Over F l) : Over (remF F z) l := fun c hc => by
  obtain ⟨q, hq⟩ := o c hc
  refine ⟨q, ?_⟩
  unfold remF
  rw [if_neg fun e => ?_]
  · exact hq
  · rw [← e] at hz
    exact absurd (show 1 < 1 from hz) (by decide)
/-! ### dict comprehensions with a test -/
section
variable {α : Type} {J : It} {G : Hp → Prop} {Y : Nat → Hp → V → Hp → Prop}
theorem dcsF (its : List α) (w : Walk J its.length G Y) (keep : α → Bool) (h : α → Key × V) (nd : (its.map fun a => (h a).1).Nodup) {g : TG} {tt : TT} {tk tv : TE} {vs : List Nat} {σ : L2.St} {H1 : Hp} {D : Addr} {Qd : Hp → Prop} (hD : H1 D = none) (hz : its.length ≤ 100000) (hG : ∀ H, Same H1 H → G H)
    (hs : ∀ i a x H H', its[i]? = some a → Same H1 H → Y i H x H' → ∀ (N : V → V → Hp → Prop) (M : Hp → Prop), (∀ H3, keep a = true → Same H H3 → N (kV (h a).1) (h a).2 H3) → (∀ H3, keep a = false → Same H H3 → M H3) →
      g x (wipe σ vs) H' fun σ2 H2 => wipe σ2 vs = wipe σ vs ∧ tt σ2 H2 fun b H3 => if b = true then tk σ2 H3 fun y H4 => tv σ2 H4 fun z H5 => N y z H5 else M H3)
    (hd : ∀ H, Same H1 H → H D = some (.dK ((its.filter keep).map h)) → Qd H) :
    ∃ W : Nat → Nat → Hp → Prop, (∃ m, W 0 m (upd H1 D (.dK []))) ∧ ∀ i m H, W i m H →
      (J.stop i H ∧ Qd H) ∨ (J.go i H ∧ ∃ Nx : Hp → Prop, (∀ H', Nx H' → ∃ m', m' < m ∧ W (i + 1) m' H') ∧ ∀ x H', J.yld i H x H' → g x (wipe σ vs) H' fun σ2 H2 => wipe σ2 vs = wipe σ vs ∧ tt σ2 H2 fun b H3 =>
        if b = true then tk σ2 H3 fun y H4 => tv σ2 H4 fun z H5 => ∃ kvs k, y = kV k ∧ H5 D = some (.dK kvs) ∧ kvs.length < sizeLine ∧ Nx (upd H5 D (.dK (putK kvs k z))) else Nx H3) := by
  refine ⟨fun i m H => m = its.length - i ∧ i ≤ its.length ∧ Same H1 H ∧ H D = some (.dK (((its.take i).filter keep).map h)), ⟨_, rfl, Nat.zero_le _, same_new hD, upd_same⟩, ?_⟩
  rintro i m H ⟨rfl, hi, s, e⟩
  by_cases hlt : i < its.length
  · obtain ⟨a, ha⟩ : ∃ a, its[i]? = some a := ⟨_, List.getElem?_eq_getElem hlt⟩
    refine .inr ⟨w.goes i H hlt (hG H s), fun H' => Same H1 H' ∧ H' D = some (.dK (((its.take (i + 1)).filter keep).map h)), fun H' q => ⟨its.length - (i + 1), by omega, rfl, hlt, q⟩, ?_⟩
    intro x H' y
    have e1 : its.take (i + 1) = its.take i ++ [a] := by
      rw [List.take_add_one, ha]
      rfl
    refine hs i a x H H' ha s (w.yields i H x H' hlt (hG H s) y) _ _ (fun H3 kp s3 => ⟨_, (h a).1, rfl, s3 _ _ e, ?_, fun b o q => ?_, ?_⟩) fun H3 kp s3 => ⟨s.trans s3, ?_⟩
    · have h1 := List.length_filter_le keep (its.take i)
      rw [List.length_take] at h1
      rw [List.length_map]
      exact Nat.lt_of_le_of_lt (by omega : _ ≤ 100000) (by decide)
    · rw [upd_ne (ne_of_none q hD)]
      exact s3 _ _ (s _ _ q)
    · have e2 : valV (((its.take i).filter keep).map h) (h a).1 = none := valV_none fun m => by
        rw [List.map_map] at m
        have nd' : ((its.take (i + 1)).map fun a => (h a).1).Nodup := nd.sublist ((List.take_sublist _ _).map _)
        rw [e1, List.map_append] at nd'
        obtain ⟨b, hb, eb⟩ := List.mem_map.mp m
        exact (List.nodup_append.mp nd').2.2 _ (List.mem_map.mpr ⟨b, (List.mem_filter.mp hb).1, eb⟩) _ (List.mem_singleton.mpr rfl) rfl
      rw [upd_same, putK_new _ e2, e1, List.filter_append, List.map_append]
      have : [a].filter keep = [a] := by simp [kp]
      rw [this]
      rfl
    · have : [a].filter keep = [] := by simp [kp]
      rw [e1, List.filter_append, this, List.append_nil]
      exact s3 _ _ e
  · have ei : i = its.length := by omega
    subst ei
    refine .inl ⟨w.stops H (hG H s), hd H s ?_⟩
    rw [e, List.take_length]
end
noncomputable def needB (kvs : List (Key × V)) (z : Str) : Bool := decide (1 < (cs z).length) && decide (lp (remF (tfD kvs) z) (cs z) ≤ priceIn kvs z)
def others (kvs : List (Key × V)) (ys : List Str) (z : Str) : List (Key × V) := (ys.filter fun y => !decide (y = z)).map fun y => (Sum.inr y, .int (priceIn kvs y))
theorem tf_others {kvs : List (Key × V)} {ys : List Str} {z : Str} (al : (kvs.all fun kv => isPiece (kV kv.1) && isPrice kv.2) = true) (pm : ys.Perm (keyStrs kvs)) : tfD (others kvs ys z) = remF (tfD kvs) z := by
  funext y
  have e := congrFun (tf_psOf al pm) y
  unfold tfD at e ⊢
  rw [kvOf_ps, val_fun] at e
  unfold others remF
  rw [val_fun]
  by_cases h : y = z
  · rw [if_pos h, if_neg (fun q => by simpa [h] using (List.mem_filter.mp q).2)]
  · rw [if_neg h]
    by_cases m : y ∈ ys
    · rw [if_pos m] at e
      rw [if_pos (List.mem_filter.mpr ⟨m, by simp [h]⟩)]
      exact e
    · rw [if_neg m] at e
      rw [if_neg fun q => m (List.mem_filter.mp q).1]
      exact e
theorem tar_others {kvs : List (Key × V)} {ys : List Str} {z : Str} (av : arePrices kvs = true) (pm : ys.Perm (keyStrs kvs)) (ndy : ys.Nodup) (len : ys.length ≤ 1000) (hz : 1 < (cs z).length) : Tar (others kvs ys z) := by
  obtain ⟨_, al, _, _⟩ := ap_parts av
  have e := tf_others (z := z) al pm
  refine ⟨by rw [e]; exact rem_good (good_of av) hz, fun kv hkv => ?_, ?_⟩
  · obtain ⟨y, hy, rfl⟩ := List.mem_map.mp hkv
    refine ⟨y, priceIn kvs y, rfl, ?_⟩
    unfold tfD others
    rw [val_fun, if_pos hy]
  · unfold others
    rw [List.length_map]
    exact Nat.le_trans (List.length_filter_le _ _) len
theorem ne_key {y z : Str} {b : Bool} (q : (!decide (V.str y = kV (Sum.inr z))) = b) : (!decide (y = z)) = b := by
  rw [← q]
  have e : decide (V.str y = kV (Sum.inr z)) = decide (y = z) := decide_eq_decide.mpr ⟨fun h => V.str.inj h, fun h => congrArg V.str h⟩
  rw [e]
def partK (kvs : List (Key × V)) (ys : List Str) (q : Str → Bool) : List (Key × V) := (ys.filter q).map fun y => (Sum.inr y, .int (priceIn kvs y))
theorem tf_part {kvs : List (Key × V)} {ys : List Str} {q : Str → Bool} (al : (kvs.all fun kv => isPiece (kV kv.1) && isPrice kv.2) = true) (pm : ys.Perm (keyStrs kvs)) (z : Str) : tfD (partK kvs ys q) z = if q z = true then tfD kvs z else none := by
  have e := congrFun (tf_psOf al pm) z
  unfold tfD at e ⊢
  rw [kvOf_ps, val_fun] at e
  unfold partK
  rw [val_fun]
  by_cases h : q z = true
  · rw [if_pos h]
    by_cases m : z ∈ ys
    · rw [if_pos m] at e
      rw [if_pos (List.mem_filter.mpr ⟨m, h⟩)]
      exact e
    · rw [if_neg m] at e
      rw [if_neg fun w => m (List.mem_filter.mp w).1]
      exact e
  · rw [if_neg h, if_neg fun w => h (List.mem_filter.mp w).2]
theorem part_book {kvs : List (Key × V)} {ys : List Str} {q : Str → Bool} (av : arePrices kvs = true) (nd : (kvs.map (·.1)).Nodup) (pm : ys.Perm (keyStrs kvs)) (one : ∀ c, (∃ p, tfD kvs (ch c) = some p) → q (ch c) = true) :
    arePrices (partK kvs ys q) = true ∧ ((partK kvs ys q).map (·.1)).Nodup := by
  obtain ⟨⟨_, n2⟩, al, _, _⟩ := ap_parts av
  have ndy : ys.Nodup := pm.nodup_iff.mpr (keys_nd al nd)
  have ly : ys.length ≤ 12 := by
    have h := congrArg List.length (keys_of al)
    rw [List.length_map, List.length_map] at h
    rw [pm.length_eq]
    omega
  have nd' : ((partK kvs ys q).map (·.1)).Nodup := by
    unfold partK
    rw [List.map_map]
    exact List.pairwise_map.mpr (List.Pairwise.imp (R := fun a b : Str => a ≠ b) (fun h e => h (Sum.inr.inj e)) (ndy.filter _))
  refine ⟨(ap_sub av nd nd' (fun kv hkv => ?_) (fun c hc => ?_) ?_).1, nd'⟩
  · obtain ⟨y, hy, rfl⟩ := List.mem_map.mp hkv
    exact valV_mem (price_of_key al (pm.mem_iff.mp (List.mem_filter.mp hy).1)).1
  · obtain ⟨p, hp⟩ := hc
    exact ⟨p, by rw [tf_part al pm, if_pos (one c ⟨p, hp⟩)]; exact hp⟩
  · unfold partK
    rw [List.length_map]
    exact Nat.le_trans (List.length_filter_le _ _) ly
theorem need_sign {F : Tf} {c : Nat} : ¬ Needless F (ch c) := fun ⟨_, _, h, _⟩ => absurd (show 1 < 1 from h) (by decide)
/-! ### promises -/
def spNeedIn (C : Addr) : Sp := fun vs H Q _ => ∃ b kvs, vs = [.ref b] ∧ Book1 C H b kvs ∧ ∀ p (zs : List Str) H', H p = none → H' p = some (.lst (zs.map V.str)) → (∀ z, z ∈ zs ↔ Needless (tfD kvs) z) → (zs.Pairwise (fun y z => cs y ≤ cs z) ∧ zs.Nodup) → Same H H' → Q (.ref p) H'
def spNeed (C : Addr) : Sp := fun vs H Q _ => ∃ b kvs, vs = [.ref b] ∧ Book1 C H b kvs ∧ ∀ p (zs : List Str) H', H p = none → H' p = some (.tup (zs.map V.str)) → (∀ z, z ∈ zs ↔ Needless (tfD kvs) z) → (zs.Pairwise (fun y z => cs y ≤ cs z) ∧ zs.Nodup) → Same H H' → Q (.ref p) H'
def spLeast (C : Addr) : Sp := fun vs H Q _ => ∃ b kvs, vs = [.ref b] ∧ Book1 C H b kvs ∧ ∀ p kvs' H', Book1 C H' p kvs' → (∀ z q, tfD kvs' z = some q ↔ tfD kvs z = some q ∧ ¬ Needless (tfD kvs) z) → Same H H' → Q (.ref p) H'
def spResult (C : Addr) : Sp := fun vs H Q _ => ∃ d kvs, vs = [.ref d] ∧ H d = some (.dK kvs) ∧ arePrices kvs = true ∧ (kvs.map (·.1)).Nodup ∧ ∀ p H', Book1 C H' p kvs → Same H H' → Q (.ref p) H'
def spWith (C : Addr) : Sp := fun vs H Q _ => ∃ b kvs z p, vs = [.ref b, .str z, .int p] ∧ Book1 C H b kvs ∧ kvs.length ≤ 11 ∧ (1 ≤ (cs z).length ∧ (cs z).length ≤ 5) ∧ Over (tfD kvs) (cs z) ∧ (1 ≤ p ∧ p ≤ 99) ∧
  ∀ b' kvs' H', Book1 C H' b' kvs' → (∀ y, tfD kvs' y = if y = z then some p else tfD kvs y) → kvs'.length ≤ kvs.length + 1 → Same H H' → Q (.ref b') H'
/-- own in, of a text -/
def spHasKey (C : Addr) : Sp := fun vs H Q _ => ∃ b kvs z, vs = [.ref b, .str z] ∧ Book1 C H b kvs ∧ z.length ≤ 8000 ∧ ∀ H', Same H H' → Q (.bl (tfD kvs z).isSome) H'
/-! ### name = {k: v for ..}, the name a local -/
section
variable {X : L2.Cx}
abbrev AllBlk (X : L2.Cx) (scope : Scope) (P : L2.Cx → Prop) : Prop := ∀ (s : Shared) (H : L2.Hp) (C : Addr) (cl : List (Str × Addr)) (fp : List Addr), P (X.blk s H scope (compEnvC scope cl C X.env) fp)
theorem ps_setDc {i : Nat} {y : Str} {py : Pos} {kx vx tg iter : Expr} {ifs : List Expr} {scope : Scope} {own : List (Str × Nat)} {pos spos : Pos} {wi : TI} {g : TG} {tt : TT} {tk tv : TE} (hc : X.calm = true) (hN : X.N.Nodup) (hy : X.N[i]? = some y) (hyl : X.env.scope.names.lookup y = some .local)
    (hsw : swapsWith (.DictComp kx vx [⟨tg, iter, ifs, 0⟩] scope pos) (some (.Name y py)) spos.line X.env = pure true) (hi : PI X tg iter wi) (ok : BlkOk X.N X.env.scope scope own)
    (hg : AllBlk X scope fun B => PG B tg g) (ht : AllBlk X scope fun B => PTs B ifs tt) (hk : AllBlk X scope fun B => PE B kx tk) (he : AllBlk X scope fun B => PE B vx tv)
    (hs : ∀ x, foldedSetIterable iter X.env x = pure x := by intro _; rfl) : PS X (.Assign [.Name y py] (.DictComp kx vx [⟨tg, iter, ifs, 0⟩] scope pos) spos) (tAsg (tDc wi g tt tk tv (own.map (·.2))) (gName i)) := by
  refine ⟨fun pins s σ H D I h => ?_⟩
  rw [exec_Assign_Name_used _ _ _ _ hsw]
  refine wpAny_bind (wpAny_standAt (wpAny_bind ?_))
  show wpAny _ X.A (do let _ ← comprehension (.DictComp kx vx [⟨tg, iter, ifs, 0⟩] scope pos) scope X.env (firstIterPos [⟨tg, iter, ifs, 0⟩] pos) newDict false (eval iter X.env) (some (assign (.Name y py) X.env))) _ _ s
  have h : tDc wi g tt tk tv (own.map (·.2)) σ H (fun x H1 => gName i x σ H1 D.nx) := h
  refine wpAny_bind (thn (dc_core (Qf := fun _ s' => SP X pins D .next s') hc hN I hi ok hg ht hk he hs h fun L C s' m H' I' q hn f => ?_) fun _ s' hq => wpAny_pure (wpAny_pure hq))
  show wpAny _ _ (assign (.Name y py) X.env (.ref L)) _ _ _
  refine wpAny_assign_Name (store_ok2 (v := V.ref L) I' hN hy (.inl hyl) rfl (fun s2 I2 ⟨a, sb, ha⟩ => ?_) (.inr hyl))
  obtain ⟨f0, f1, f2, f3, f4, f5⟩ := f
  have other : C ≠ a := by
    rcases ha with z | z
    · rw [z]
      exact f1
    · exact fun e => f4 y a z e.symm
  exact ⟨m, hn.sameBut sb other, fun h3 sb3 => ⟨_, H', I2.turned (t' := s2.toks) (fun b o hb e => (sb3.2 b hb).trans e) f0 f1 f3 f4 f5, q⟩⟩
theorem sw_trueD {kx vx : Expr} {gs : List Comprehension} {scope : Scope} {pos py : Pos} {y : Str} {l : Nat} {env : Env} (hk : env.scope.kind = .function) (hy : env.scope.names.lookup y = some .local) (hl : (py.line == pos.line) = true)
    (ha : (scope.names.any fun (n, k) => n == y && (k == .local || k == .cell)) = false) : swapsWith (.DictComp kx vx gs scope pos) (some (.Name y py)) l env = pure true := by
  have kind : env.kindOf y = some .local := hy
  have fn : env.blockKind = .function := by
    unfold Env.blockKind
    rw [hk]
    rfl
  unfold swapsWith
  simp only [fn, kind, ha, Expr.pos, hl]
  rfl
end
end G
/-! All cuts of a text, as lists of pieces. -/
namespace G
open PySem PySem.Spec PyProof.Rows L2
def IsCut (F : Tf) (l : List Nat) (c : List Str) : Prop := (∀ y ∈ c, ∃ p, F y = some p) ∧ (c.map cs).flatten = l
/-- a list of objects that are just the cuts -/
structure CutsAt (H : Hp) (F : Tf) (l : List Nat) (ws : List (Addr × List Str)) : Prop where
  at_ : ∀ w ∈ ws, H w.1 = some (.tup (w.2.map V.str))
  all : ∀ c, (∃ w ∈ ws, w.2 = c) ↔ IsCut F l c
  len : ws.length ≤ 2 ^ l.length
theorem CutsAt.same {H H' : Hp} {F : Tf} {l : List Nat} {ws : List (Addr × List Str)} (C : CutsAt H F l ws) (s : Same H H') : CutsAt H' F l ws := ⟨fun w hw => s _ _ (C.at_ w hw), C.all, C.len⟩
theorem cut_nil {F : Tf} (G : Good F) {c : List Str} : IsCut F [] c ↔ c = [] := by
  constructor
  · rintro ⟨h1, h2⟩
    cases c with
    | nil => rfl
    | cons y r =>
      obtain ⟨p, hp⟩ := h1 y List.mem_cons_self
      have h3 := (G.len y p hp).1
      have h4 := congrArg List.length h2
      rw [List.map_cons, List.flatten_cons, List.length_append] at h4
      have h5 : (cs y).length + (r.map cs).flatten.length = 0 := h4
      omega
  · rintro rfl
    exact ⟨fun _ h => (List.not_mem_nil h).elim, rfl⟩
/-- the cuts that end with a piece that begins ahead of s -/
def CutTo (F : Tf) (l : List Nat) (s : Nat) (c : List Str) : Prop := ∃ a y, a < s ∧ (∃ p, F y = some p) ∧ (cs y) = l.drop a ∧ ∃ d, IsCut F (l.take a) d ∧ c = d ++ [y]
theorem cut_to {F : Tf} (G : Good F) {l : List Nat} (ne : l ≠ []) {c : List Str} : CutTo F l l.length c ↔ IsCut F l c := by
  constructor
  · rintro ⟨a, y, ha, hy, e, d, ⟨h1, h2⟩, rfl⟩
    refine ⟨fun z hz => ?_, ?_⟩
    · rcases List.mem_append.mp hz with h | h
      · exact h1 z h
      · rw [List.mem_singleton.mp h]
        exact hy
    · rw [List.map_append, List.flatten_append, h2]
      show _ ++ [cs y].flatten = _
      rw [List.flatten_singleton, e, List.take_append_drop]
  · rintro ⟨h1, h2⟩
    have nc : c ≠ [] := fun q => ne (by rw [← h2, q]; rfl)
    obtain ⟨d, y, rfl⟩ : ∃ d y, c = d ++ [y] := ⟨c.dropLast, c.getLast nc, (List.dropLast_concat_getLast nc).symm⟩
    rw [List.map_append, List.flatten_append] at h2
    have h2' : (d.map cs).flatten ++ cs y = l := by
      rw [← h2]
      show _ = _ ++ [cs y].flatten
      rw [List.flatten_singleton]
    obtain ⟨p, hp⟩ := h1 y (List.mem_append_right _ List.mem_cons_self)
    have n1 := (G.len y p hp).1
    have e : l.length = (d.map cs).flatten.length + (cs y).length := by rw [← h2', List.length_append]
    refine ⟨(d.map cs).flatten.length, y, by omega, ⟨p, hp⟩, ?_, d, ⟨fun z hz => h1 z (List.mem_append_left _ hz), ?_⟩, rfl⟩
    · rw [← h2', List.drop_left]
    · rw [← h2', List.take_left]
theorem cut_zero {F : Tf} {l : List Nat} {c : List Str} : ¬ CutTo F l 0 c := fun ⟨_, _, h, _⟩ => absurd h (Nat.not_lt_zero _)
theorem cut_succ {F : Tf} {l : List Nat} {s : Nat} {c : List Str} : CutTo F l (s + 1) c ↔ CutTo F l s c ∨ ∃ y, (∃ p, F y = some p) ∧ cs y = l.drop s ∧ ∃ d, IsCut F (l.take s) d ∧ c = d ++ [y] := by
  constructor
  · rintro ⟨a, y, ha, r⟩
    rcases Nat.lt_or_ge a s with h | h
    · exact Or.inl ⟨a, y, h, r⟩
    · have e : a = s := by omega
      subst e
      exact Or.inr ⟨y, r⟩
  · rintro (⟨a, y, ha, r⟩ | ⟨y, r⟩)
    · exact ⟨a, y, by omega, r⟩
    · exact ⟨s, y, by omega, r⟩
def spCuts : Sp := fun vs H Q _ => ∃ d kvs z, vs = [.ref d, .str z] ∧ H d = some (.dK kvs) ∧ Tar kvs ∧ z.length ≤ 5 ∧
  ∀ p ws H', H' p = some (.lst (ws.map fun w : Addr × List Str => V.ref w.1)) → CutsAt H' (tfD kvs) (cs z) ws → Same H H' → Q (.ref p) H'
/-! ### the cheapest cut -/
def sumOf (F : Tf) (c : List Str) : Int := (c.map fun y => (F y).getD 0).sum
theorem fee_sum {F : Tf} : ∀ {c : Ps}, (∀ p ∈ c, F p.1 = some p.2) → sumOf F (c.map (·.1)) = fee c
  | [], _ => rfl
  | q :: r, h => by
    have h1 := h q List.mem_cons_self
    have ih := fee_sum (c := r) fun p hp => h p (List.mem_cons_of_mem _ hp)
    rw [fee_cons, ← ih]
    show ((F q.1).getD 0 :: (r.map (·.1)).map fun y => (F y).getD 0).sum = _
    rw [List.sum_cons, h1]
    rfl
theorem cut_iff {F : Tf} {l : List Nat} {d : List Str} : IsCut F l d ↔ ∃ c, Cut F l c ∧ c.map (·.1) = d := by
  constructor
  · rintro ⟨h1, h2⟩
    refine ⟨d.map fun y => (y, (F y).getD 0), ⟨fun p hp => ?_, ?_⟩, ?_⟩
    · obtain ⟨y, hy, rfl⟩ := List.mem_map.mp hp
      obtain ⟨q, hq⟩ := h1 y hy
      rw [hq]
      rfl
    · rw [List.map_map]
      exact h2
    · rw [List.map_map]
      exact List.map_id' d
  · rintro ⟨c, ⟨h1, h2⟩, rfl⟩
    refine ⟨fun y hy => ?_, ?_⟩
    · obtain ⟨p, hp, rfl⟩ := List.mem_map.mp hy
      exact ⟨p.2, h1 p hp⟩
    · rw [List.map_map]
      exact h2
/-- the least of all sums is the cheapest price -/
theorem cuts_min {F : Tf} {l : List Nat} {H : Hp} {ws : List (Addr × List Str)} (G : Good F) (o : Over F l) (C : CutsAt H F l ws) : 0 < (ws.map fun w => sumOf F w.2).length ∧ ∀ m, m ∈ ws.map (fun w => sumOf F w.2) → (∀ y ∈ ws.map (fun w => sumOf F w.2), m ≤ y) → m = lp F l := by
  have mem : ∀ c, Cut F l c → fee c ∈ ws.map fun w => sumOf F w.2 := fun c hc => by
    obtain ⟨w, hw, e⟩ := (C.all _).mpr (cut_iff.mpr ⟨c, hc, rfl⟩)
    exact List.mem_map.mpr ⟨w, hw, by rw [e, fee_sum hc.1]⟩
  constructor
  · obtain ⟨c, hc, _⟩ := lp_cut G o
    exact List.length_pos_of_mem (mem c hc)
  · intro m hm hle
    refine (lp_of ⟨?_, fun c hc => hle _ (mem c hc)⟩).symm
    obtain ⟨w, hw, rfl⟩ := List.mem_map.mp hm
    obtain ⟨c, hc, e⟩ := cut_iff.mp ((C.all w.2).mp ⟨w, hw, rfl⟩)
    exact ⟨c, hc, by rw [← e, fee_sum hc.1]⟩
theorem unpaired {α β : Type} {F : α → β → Prop} {as : List α} {bs : List β} (h : Paired F as bs) : ∃ ps : List (α × β), ps.map (·.1) = as ∧ ps.map (·.2) = bs ∧ ∀ p ∈ ps, F p.1 p.2 := by
  induction h with
  | nil => exact ⟨[], rfl, rfl, fun _ h => (List.not_mem_nil h).elim⟩
  | @cons a b as bs h t ih =>
    obtain ⟨ps, h1, h2, h3⟩ := ih
    refine ⟨(a, b) :: ps, by rw [List.map_cons, h1], by rw [List.map_cons, h2], fun p hp => ?_⟩
    rcases List.mem_cons.mp hp with rfl | hp
    · exact h
    · exact h3 p hp
def Upto (kv : List (Key × V)) (up : Int) : Prop := ∀ e ∈ kv, ∀ q, e.2 = V.int q → q ≤ up
theorem Upto.put {kv : List (Key × V)} {up : Int} (h : Upto kv up) {k : Key} {p : Int} (hp : p ≤ up) : Upto (putK kv k (.int p)) up := fun e he q eq => by
  rcases put_val_mem he with e1 | h1
  · subst e1
    have := V.int.inj eq
    omega
  · exact h e h1 q eq
/-- _law_prices of these laws -/
def spPrices6 (K : PySem.W.Frag) : Sp := fun vs H Q _ => ∃ (l sa : Addr) (sg : List Nat) (many : Nat) (up : Int) (n : Nat), vs = [.ref l, .ref sa, .int (many : Int), .int up] ∧ sa ≠ l ∧ SqL K H sa (sg.map chV) ∧ 1 ≤ sg.length ∧ sg.length ≤ 4 ∧ (∀ c ∈ sg, lett c = true) ∧
  many ≤ 8 ∧ 1 ≤ up ∧ up ≤ 99 ∧ Dice H l (n + 100) ∧
  ∀ (p : Addr) (kvs : List (Key × V)) H', H p = none → p ≠ l → H' p = some (.dK kvs) → arePrices kvs = true → (kvs.map (·.1)).Nodup → (∀ c, (∃ q, tfD kvs (ch c) = some q) ↔ c ∈ sg) → kvs.length ≤ sg.length + many → (∀ z q, tfD kvs z = some q → q ≤ up) → Kp l H H' → Dice H' l n → Q (.ref p) H'
theorem g_catA {X : L2.Cx} (K : PySem.W.Frag) (e : X.K = K := by rfl) : OpR X (binaryOp .Add) (rCatA K) := by
  subst e
  exact op_catA
theorem CutsAt.updL {H : Hp} {F : Tf} {l : List Nat} {ws : List (Addr × List Str)} {D : Addr} {ys : List V} {o : HO} (C : CutsAt H F l ws) (h : H D = some (.lst ys)) : CutsAt (upd H D o) F l ws :=
  ⟨fun w hw => by
    have n : w.1 ≠ D := fun e => by
      have := C.at_ w hw
      rw [e, h] at this
      cases this
    rw [upd_ne n]
    exact C.at_ w hw, C.all, C.len⟩
theorem isCut_len {F : Tf} (G : Good F) {l : List Nat} {d : List Str} (h : IsCut F l d) (hl : l.length ≤ 1000) : d.length ≤ 1000 := by
  obtain ⟨h1, h2⟩ := h
  have h3 := congrArg List.length h2
  rw [List.length_flatten, List.map_map] at h3
  have h4 : ∀ l : List Str, (∀ y ∈ l, ∃ p, F y = some p) → l.length ≤ (l.map (List.length ∘ cs)).sum := fun l hl => by
    induction l with
    | nil => exact Nat.le_refl _
    | cons y r ih =>
      obtain ⟨p', hp'⟩ := hl y List.mem_cons_self
      have := (G.len y p' hp').1
      have := ih fun x hx => hl x (List.mem_cons_of_mem _ hx)
      rw [List.map_cons, List.sum_cons, List.length_cons]
      show _ ≤ (cs y).length + _
      omega
  have := h4 d h1
  omega
theorem _root_.G.Dice.ne_of {H : Hp} {l a : Addr} {n : Nat} {kvs : List (Key × V)} (D : Dice H l n) (h : H a = some (.dK kvs)) : a ≠ l := fun e => by
  obtain ⟨_, _, _, h2, _⟩ := D
  rw [e, h2] at h
  cases h
end G
/-! What one further piece, or another price, changes. -/
namespace G
open PySem PySem.Spec PyProof.Rows L2
def putF (F : Tf) (w : Str) (p : Int) : Tf := fun y => if y = w then some p else F y
section
variable {F : Tf} {w : Str} {p : Int} {r : V}
theorem put_at_w : putF F w p w = some p := if_pos rfl
theorem put_ne {y : Str} (h : y ≠ w) : putF F w p y = F y := if_neg h
theorem rem_put (h0 : F w = none) : remF (putF F w p) w = F := by
  funext y
  unfold remF
  by_cases h : y = w
  · rw [if_pos h, h, h0]
  · rw [if_neg h, put_ne h]
theorem fwd_iff (G : Good F) : NoDear F (putF F w p) ↔ lp F (cs w) ≤ p := by
  constructor
  · intro h
    exact h w p put_at_w
  · intro h z q hz
    by_cases e : z = w
    · subst e
      rw [put_at_w] at hz
      have e := Option.some.inj hz
      omega
    · rw [put_ne e] at hz
      exact lp_piece G hz
theorem bwd_all (Gp : Good (putF F w p)) (h0 : F w = none) : NoDear (putF F w p) F := fun z q hz => by
  have e : z ≠ w := fun e => by
    rw [e, h0] at hz
    cases hz
  exact lp_piece Gp (by rw [put_ne e]; exact hz)
theorem need_iff (h0 : F w = none) (hw : 1 < (cs w).length) : Needless (putF F w p) w ↔ lp F (cs w) ≤ p := by
  unfold Needless
  rw [rem_put h0, put_at_w]
  constructor
  · rintro ⟨q, e, _, h⟩
    have := Option.some.inj e
    omega
  · intro h
    exact ⟨p, rfl, hw, h⟩
theorem dear_fwd (G : Good F) (d : DearR F (putF F w p) r) : r = if p < lp F (cs w) then .str w else .non := by
  rcases d with ⟨h1, h2⟩ | ⟨z, q, h1, h2, h3, _⟩
  · have := (fwd_iff G).mp h2
    rw [if_neg (by omega)]
    exact h1
  · have e : z = w := by
      by_cases e : z = w
      · exact e
      · rw [put_ne e] at h2
        have := lp_piece G h2
        omega
    subst e
    rw [put_at_w] at h2
    have e := Option.some.inj h2
    rw [if_pos (by omega)]
    exact h1
theorem dear_bwd (Gp : Good (putF F w p)) (h0 : F w = none) (d : DearR (putF F w p) F r) : r = .non := by
  rcases d with ⟨h1, h2⟩ | ⟨z, q, h1, h2, h3, _⟩
  · exact h1
  · have := bwd_all Gp h0 z q h2
    omega
/-- a sign is cut in one way -/
theorem lp_sign (G : Good F) {c : Nat} {q : Int} (h : F (ch c) = some q) : lp F [c] = q := by
  have o : Over F [c] := fun d hd => ⟨q, by rw [List.mem_singleton.mp hd]; exact h⟩
  obtain ⟨z, p, a, h1, h2, h3⟩ := lp_last G o (by simp)
  have n1 := (G.len z p h1).1
  have hl := congrArg List.length h2
  rw [List.length_append, List.length_singleton] at hl
  have ea : a = [] := List.length_eq_zero_iff.mp (by omega)
  subst ea
  have ez : z = ch c := str_ext h2.symm
  subst ez
  rw [h] at h1
  have := Option.some.inj h1
  rw [h3, lp_nil G]
  omega
theorem sign_fwd (G : Good F) {c : Nat} {q : Int} (h : F (ch c) = some q) : NoDear F (putF F (ch c) p) ↔ q ≤ p := by
  rw [fwd_iff G]
  show lp F [c] ≤ p ↔ _
  rw [lp_sign G h]
theorem put_back {c : Nat} {q : Int} (h : F (ch c) = some q) : putF (putF F (ch c) p) (ch c) q = F := by
  funext y
  by_cases e : y = ch c
  · rw [e, put_at_w, h]
  · rw [put_ne e, put_ne e]
theorem sign_bwd (Gp : Good (putF F (ch c) p)) {q : Int} (h : F (ch c) = some q) : NoDear (putF F (ch c) p) F ↔ p ≤ q := by
  have e := sign_fwd (F := putF F (ch c) p) (p := q) Gp put_at_w
  rwa [put_back h] at e
end
theorem lp_most {F : Tf} (G : Good F) {B : Int} (hb : ∀ z p, F z = some p → p ≤ B) : ∀ l, Over F l → lp F l ≤ B * (l.length : Int)
  | [], _ => by
    rw [lp_nil G]
    exact Int.le_of_eq (by simp)
  | c :: r, o => by
    have o1 : Over F [c] := fun d hd => o d (by rw [List.mem_singleton.mp hd]; exact List.mem_cons_self)
    have o2 : Over F r := fun d hd => o d (List.mem_cons_of_mem _ hd)
    obtain ⟨p, hp⟩ := o c List.mem_cons_self
    have h1 := lp_sign G hp
    have h2 := hb _ _ hp
    have h3 := lp_most G hb r o2
    have h4 : lp F (c :: r) ≤ lp F [c] + lp F r := lp_add G o1 o2
    rw [List.length_cons, Int.natCast_add, Int.mul_add]
    omega
theorem lp_pos {F : Tf} (G : Good F) {l : List Nat} (o : Over F l) (ne : l ≠ []) : 1 ≤ lp F l := by
  obtain ⟨z, p, a, h1, h2, h3⟩ := lp_last G o ne
  have oa : Over F a := fun c hc => o c (by rw [h2]; exact List.mem_append_left _ hc)
  obtain ⟨d, hd, e⟩ := lp_cut G oa
  have := fee_pos G d hd.1
  have := (G.pos z p h1).1
  omega
/-! ### lists of pairs -/
def dPairs (ks : List (Str × Int)) : PyData := .list (ks.map fun e => .tuple [.str e.1, .int e.2])
theorem dp_pairs {K : PySem.W.Frag} {H : Hp} : ∀ {ps : List (Addr × Str × Int)}, (∀ z ∈ ps, H z.1 = some (.tup [.str z.2.1, .int z.2.2])) → DpAll K H (ps.map fun z => V.ref z.1) ((ps.map (·.2)).map fun e => PyData.tuple [.str e.1, .int e.2])
  | [], _ => .nil
  | z :: r, h => .cons (.tup (SqT.of (h z List.mem_cons_self)) (.cons (.str _) (.cons (.int _) .nil))) (dp_pairs fun y hy => h y (List.mem_cons_of_mem _ hy))
theorem neD_same {K : PySem.W.Frag} {H : Hp} {x y : V} {d : PyData} {Q : VK} (hx : Dp K H x d) (hy : Dp K H y d) (s : SeqAt.shaped d = true) (q : Q (.bl false) H) : rNeD K x y H Q := by
  refine ⟨d, d, hx, hy, s, s, ?_⟩
  rw [SeqAt.eqv_refl _ (SeqAt.canLay_of_shaped s)]
  exact q
theorem shaped_pairs {ks : List (Str × Int)} (h : ∀ e ∈ ks, ∀ c ∈ cs e.1, lett c = true) : SeqAt.shaped (dPairs ks) = true := by
  have h1 : ∀ l : List (Str × Int), (∀ e ∈ l, ∀ c ∈ cs e.1, lett c = true) → PyData.canLayAll0 (l.map fun e => PyData.tuple [.str e.1, .int e.2]) = true := by
    intro l hl
    induction l with
    | nil => rfl
    | cons e r ih =>
      have hs := shaped_lstrs (zs := [e.1]) fun z hz => by
        rw [List.mem_singleton.mp hz]
        exact hl e List.mem_cons_self
      have hc := SeqAt.canLay_of_shaped hs
      have h2 : PyData.canLay0 (.str e.1) = true := by
        have h3 : (PyData.canLay0 (.str e.1) && true) = true := hc
        rwa [Bool.and_true] at h3
      show (PyData.canLay0 (.tuple [.str e.1, .int e.2]) && _) = true
      rw [ih fun x hx => hl x (List.mem_cons_of_mem _ hx), Bool.and_true]
      show (PyData.canLay0 (.str e.1) && (true && true)) = true
      rw [h2]
      rfl
  have h2 : ∀ l : List (Str × Int), PyData.depthAll (l.map fun e => PyData.tuple [.str e.1, .int e.2]) ≤ 2 := by
    intro l
    induction l with
    | nil => simp [PyData.depthAll]
    | cons e r ih =>
      simp only [List.map_cons, PyData.depthAll, PyData.depth]
      omega
  unfold SeqAt.shaped dPairs
  rw [Bool.and_eq_true, decide_eq_true_eq]
  refine ⟨h1 ks h, ?_⟩
  have := h2 ks
  simp only [PyData.depth]
  omega
/-- _law_prices_of -/
def spPricesOf (C : Addr) : Sp := fun vs H Q _ => ∃ b kvs, vs = [.ref b] ∧ Book1 C H b kvs ∧ ∀ p (ps : List (Addr × Str × Int)) ys H', ys.Perm (keyStrs kvs) → sortedS ys = true → ps.map (·.2) = psOf kvs ys → H' p = some (.lst (ps.map fun z => V.ref z.1)) → (∀ z ∈ ps, H' z.1 = some (.tup [.str z.2.1, .int z.2.2])) → Same H H' → Q (.ref p) H'
/-- what the laws' parts about one book promise -/
def spPart (ok : List (Key × V) → Str → Prop) : Sp := fun vs H Q _ => ∃ (l pd : Addr) (kvs : List (Key × V)) (w : Str) (n : Nat), vs = [.ref l, .ref pd, .str w] ∧ pd ≠ l ∧ H pd = some (.dK kvs) ∧ arePrices kvs = true ∧ (kvs.map (·.1)).Nodup ∧ ok kvs w ∧ Dice H l (n + 1) ∧ ∀ H', Kp l H H' → Dice H' l n → Q (.bl true) H'
def lessK (kvs : List (Key × V)) (w : Str) : List (Key × V) := kvs.filter fun kv => !decide (kv.1 = Sum.inr w)
theorem tf_less {kvs : List (Key × V)} {w : Str} : tfD (lessK kvs w) = remF (tfD kvs) w := by
  have h : ∀ (l : List (Key × V)) (y : Str), valV (lessK l w) (Sum.inr y) = if y = w then none else valV l (Sum.inr y) := by
    intro l y
    induction l with
    | nil =>
      show (none : Option V) = _
      split <;> rfl
    | cons a r ih =>
      by_cases e : a.1 = Sum.inr w
      · have e1 : lessK (a :: r) w = lessK r w := by
          unfold lessK
          rw [List.filter_cons, if_neg (by simp [e])]
        rw [e1, ih]
        by_cases q : y = w
        · rw [if_pos q, if_pos q]
        · rw [if_neg q, if_neg q]
          unfold valV
          rw [List.find?_cons, decide_eq_false (fun z => q (Sum.inr.inj (z.symm.trans e)))]
      · have e1 : lessK (a :: r) w = a :: lessK r w := by
          unfold lessK
          rw [List.filter_cons, if_pos (by simp [e])]
        rw [e1]
        by_cases z : a.1 = Sum.inr y
        · have q : y ≠ w := fun q => e (by rw [z, q])
          rw [if_neg q]
          unfold valV
          rw [List.find?_cons, List.find?_cons, decide_eq_true z]
        · have h1 : valV (a :: lessK r w) (Sum.inr y) = valV (lessK r w) (Sum.inr y) := by
            unfold valV
            rw [List.find?_cons, decide_eq_false z]
          have h2 : valV (a :: r) (Sum.inr y) = valV r (Sum.inr y) := by
            unfold valV
            rw [List.find?_cons, decide_eq_false z]
          rw [h1, h2, ih]
  funext y
  unfold tfD remF
  rw [h]
  by_cases q : y = w
  · rw [if_pos q, if_pos q]
  · rw [if_neg q, if_neg q]
theorem less_book {kvs : List (Key × V)} {w : Str} (av : arePrices kvs = true) (nd : (kvs.map (·.1)).Nodup) (hw : 1 < (cs w).length) : arePrices (lessK kvs w) = true ∧ ((lessK kvs w).map (·.1)).Nodup := by
  have nd' : ((lessK kvs w).map (·.1)).Nodup := nd.sublist (List.filter_sublist.map _)
  refine ⟨(ap_sub av nd nd' (fun kv h => (List.mem_filter.mp h).1) (fun c hc => ?_) (Nat.le_trans (List.length_filter_le _ _) (ap_parts av).1.2)).1, nd'⟩
  obtain ⟨q, hq⟩ := hc
  refine ⟨q, ?_⟩
  rw [tf_less]
  unfold remF
  rw [if_neg fun e => ?_]
  · exact hq
  · rw [← e] at hw
    exact absurd (show 1 < 1 from hw) (by decide)
theorem bool_iff {b : Bool} {P : Prop} [Decidable P] (h : b = true ↔ P) : b = decide P := by
  by_cases q : P
  · rw [decide_eq_true q, h.mpr q]
  · rw [decide_eq_false q]
    cases b with
    | false => rfl
    | true => exact absurd (h.mp rfl) q
/-- data of a list of truths, a text or None behind them -/
theorem repr_three {K : PySem.W.Frag} {H : Hp} {a : Addr} {b1 b2 : Bool} {x : V} {d : PyData} {Q : VK} (h : H a = some (.lst [.bl b1, .bl b2, x])) (hd : Dp K H x d) (s : Shw d 0 1000) (q : Q (.str (PyData.list [.bool b1, .bool b2, d]).shown) H) : rRepr K [.ref a] H Q := by
  have S : Shw (PyData.list [.bool b1, .bool b2, d]) 1 _ := shw_list (k := 0) (n := 1000) fun e he => by
    simp only [List.mem_cons, List.not_mem_nil, or_false] at he
    rcases he with rfl | rfl | rfl
    · exact (shw_bool b1).le (Nat.le_refl _) (by omega)
    · exact (shw_bool b2).le (Nat.le_refl _) (by omega)
    · exact s
  exact ⟨_, _, rfl, .lst (SqL.of h) (.cons (.bl b1) (.cons (.bl b2) (.cons hd .nil))), S.s, S.h, Nat.le_trans S.dp (by omega), Nat.le_trans S.len (fits_sz (by show _ ≤ 100000; simp)), q⟩
theorem shw_non6 : Shw PyData.none 0 1000 := ⟨by simp [PyData.showable], by simp [PyData.hasDict], by simp [PyData.depth], by simp only [PyData.shown]; decide +kernel⟩
theorem shw_word {z : Str} (h : z.length ≤ 5) (hc : ∀ c ∈ cs z, c < 16 ^ 8) : Shw (.str z) 0 1000 :=
  ⟨by simp [PyData.showable], by simp [PyData.hasDict], by simp [PyData.depth], by simp only [PyData.shown]; exact Nat.le_trans (StrLaws.reprText_len z hc) (by omega)⟩
theorem seq_if_join {tc : TT} {ta tb tr : TS} {D : Ends} {σ : L2.St} {H : Hp} (P : L2.St → Hp → Prop) (h : ∀ N : L2.St → Hp → Prop, (∀ σ' H', P σ' H' → N σ' H') → tIfS tc ta tb { D with nx := N } σ H) (k : ∀ σ' H', P σ' H' → tr D σ' H') : tSeq (tIfS tc ta tb) tr D σ H := h _ k
def longG : Key × V → Option Str := fun kv => match kv.1 with | .inr y => if 1 < y.length then some y else none | .inl _ => none
theorem long_mem {kvs : List (Key × V)} (T : Tar kvs) {z : Str} (h : z ∈ kvs.filterMap longG) : 1 < z.length ∧ ∃ q, tfD kvs z = some q := by
  obtain ⟨kv, hkv, e⟩ := List.mem_filterMap.mp h
  obtain ⟨y, q, rfl, hq⟩ := T.mem kv hkv
  have e' : (if 1 < y.length then some y else none) = some z := e
  split at e'
  · rename_i l
    cases e'
    exact ⟨l, q, hq⟩
  · cases e'
end G
/-! != of instances that have only ==; - and others with a value of another kind. -/
namespace G
open PySem PySem.Spec PyProof.Rows L2
section
variable {prog : Program} {w : World} {A : Around} {E : Value → Shared → Prop} {s : Shared} {K : PySem.W.Frag} {x y C f : Addr} {ox : Obj} {od : Option Obj}
theorem ne_entry {Q : Fin → Shared → Prop} (X : K.In s.heap) (I : PySem.W.InstAt s.heap x ox C od) (hs : PySem.W.findIn K (.ref C) "__eq__" = some (some (.ref f))) (hf : PySem.W.isFn K (.ref f) = true) (hu : A.units < cLine)
    (h : wpAny (model prog w) A (call (.ref f) [.ref x, .ref y]) (fun v s' => ∃ b, v = .bool b ∧ Q (.done (.ret (.bool (!b)))) s') E s) : wpAny (model prog w) A (Builtin.«object.__ne__» ⟨[.ref x, .ref y], []⟩) Q E s := by
  unfold Builtin.«object.__ne__»
  repeat (first
    | with_reducible refine wpAny_cRoomFor hu ?_
    | (refine wpAny_bind (m := callSpecialIfBound? (.ref x) (Str.ofString "__eq__") [.ref y]) (PySem.W.ifBound_K X I hs hf (wpAny_mono h (fun r s' hr => ?_) fun _ _ e => e)))
    | wp_step)
  obtain ⟨b, rfl, hq⟩ := hr
  repeat (first
    | exact hq
    | exact wpAny_pure hq
    | exact wpAny_truthy_bool hq
    | (refine wpAny_bind (m := truthy (.bool _)) (wpAny_truthy_bool ?_))
    | wp_step)
theorem call_ne {Q : Value → Shared → Prop} (X : K.In s.heap) (I : PySem.W.InstAt s.heap x ox C od) (hm : PySem.W.mroIn K C (.type "object") = some true) (hs : PySem.W.findIn K (.ref C) "__eq__" = some (some (.ref f))) (hf : PySem.W.isFn K (.ref f) = true) (hu : A.in1.units < cLine)
    (h : wpAny (model prog w) A.in1 (call (.ref f) [.ref x, .ref y]) (fun v s' => ∃ b, v = .bool b ∧ Q (.bool (!b)) s') E s) : wpAny (model prog w) A (call (.builtin "object.__ne__") [.ref x, .ref y]) Q E s :=
  wpAny_call (codeAny_call_builtin F.cmp_object.ne.plain F.cmpEntry_ne (PySem.W.check_slot F.cmpKind_ne F.cmpSplit_ne (I.type.andThen (PySem.W.looks_mroIn X hm)) (F.cmpArgs_ne _ _) (ne_entry X I hs hf hu h)))
theorem bound_ne {args : List Value} {Q : Option Value → Shared → Prop} {M : Model} (X : K.In s.heap) (I : PySem.W.InstAt s.heap x ox C od) (hs : PySem.W.findIn K (.ref C) "__ne__" = some (some (.builtin "object.__ne__")))
    (h : wpAny M A (call (.builtin "object.__ne__") (.ref x :: args)) (fun v => Q (some v)) E s) : wpAny M A (callSpecialIfBound? (.ref x) "__ne__" args) Q E s := by
  simp only [callSpecialIfBound?, bindSpecialIfBound?]
  refine wpAny_holding (wpAny_bind (wpAny_bind (wpAny_bind (I.type.here ((PySem.W.looks_findIn X hs).here ?_)))))
  have go : wpAny M A (call (.builtin "object.__ne__") ([.ref x] ++ args) >>= fun v => pure (some v)) Q E s := wpAny_bind (wpAny_mono h (fun v s' q => wpAny_pure q) fun _ _ q => q)
  refine wpAny_bind (wpAny_askSetting (wpAny_ite ?_))
  split
  · exact wpAny_bind (wpAny_of_eq (F.cmp_object.ne.bind _) (wpAny_pure (by exact go)))
  · exact wpAny_tryCatch (wpAny_bind (wpAny_of_eq (F.cmp_object.ne.bind _) (wpAny_pure (by exact go))))
end
section
variable {X : L2.Cx} {k j : Nat} {C : Addr} {sp : Sp}
/-- the method run below a built-in -/
theorem met_run1 {m : Str} {pins : List (Addr × Obj)} {σ : L2.St} {H : Hp} {s : Shared} {Q : VK} {us : List Value} {vs : List V} (c : C8.Met X.prog X.w X.K X.mg X.base k C m sp []) (hr : Room j X.A) (hk : k + 1 ≤ j) (I : Inv X pins σ H s) (r : Vals vs us) (h : sp vs H Q C8.E0) :
    ∃ f : Addr, PySem.W.findIn X.K (.ref C) m = some (some (.ref f)) ∧ PySem.W.isFn X.K (.ref f) = true ∧ wpAny (model X.prog X.w) X.A.in1 (call (.ref f) us) (EP X pins σ Q) X.xe s := by
  obtain ⟨f, fd, ps, ds, hc, hm, F, b, d⟩ := c.ex
  refine ⟨f, hm.at_, hm.fn, ?_⟩
  have sb : Sub X k X.A.in1 := (Sub.in1 (n := k) ⟨hr.mono hk, rfl⟩)
  have e0 : Env0 X.prog X.w X.K X.mg X.base X.A.in1 X.stack s H := by
    have e := I.env0
    exact ⟨by rw [sb.fr]; exact e.frames, e.mod, e.bs, e.bsz, e.funs, e.frf, e.hok, e.bare⟩
  have h' : sp (vs ++ []) H Q C8.E0 := by
    rw [List.append_nil]
    exact h
  have r2 : Vals (vs ++ []) (us ++ ds) := r.append d
  have hl : (us ++ ds).length = ps.length := by
    rw [← r2.length]
    exact F.len _ _ _ _ h'
  refine wpAny_call (codeAny_mono (F.run X.A.in1 X.stack s H ⟨us, []⟩ (us ++ ds) (vs ++ []) Q C8.E0 sb.room e0 (b s us I.kIn hl) r2 h') fun r s' hq => ?_)
  cases r with
  | error e => exact C8.pass0 (E := C8.E0) pins σ H s e s' I hq
  | ok fl =>
    cases fl with
    | ret u => exact I.after hq
    | next => exact False.elim hq
    | brk => exact False.elim hq
    | cont => exact False.elim hq
def rNeO (C : Addr) (sp : Sp) : R2 := fun x y H Q => ∃ a dx fs b dy gs, x = .ref a ∧ y = .ref b ∧ H a = some (.ins C dx fs) ∧ H b = some (.ins C dy gs) ∧ sp [.ref a, .ref b] H (fun r H' => ∃ b, r = .bl b ∧ Q (.bl (!b)) H') C8.E0
theorem op_neO (c : C8.Met X.prog X.w X.K X.mg X.base k C "__eq__" sp []) (hr : Room j X.A) (hk : k + 1 ≤ j) (hu : X.A.units + 1 < cLine) (hm : PySem.W.mroIn X.K C (.type "object") = some true) (hne : PySem.W.findIn X.K (.ref C) "__ne__" = some (some (.builtin "object.__ne__"))) : OpR X (compareOp .NotEq) (rNeO C sp) := by
  intro pins s σ H x y v u Q I rx ry h
  obtain ⟨a, dx, fs, b, dy, gs, rfl, rfl, ha, hb, q⟩ := h
  cases rx
  cases ry
  obtain ⟨_, J, _⟩ := ins_get I.hok ha
  obtain ⟨_, J', _⟩ := ins_get I.hok hb
  obtain ⟨_, J, _⟩ := J.look
  obtain ⟨_, J', _⟩ := J'.look
  obtain ⟨m, hF⟩ := I.fr
  have kin := I.kIn
  obtain ⟨f, h1, h2, h3⟩ := met_run1 (us := [.ref a, .ref b]) (vs := [.ref a, .ref b]) c hr hk I (.cons rfl (.cons rfl .nil)) q
  have one : wpAny (model X.prog X.w) X.A (tryCompare (.ref a) "__ne__" (.ref b)) (fun r s' => ∃ v, r = some v ∧ EP X pins σ Q v s') X.xe s := by
    unfold tryCompare
    refine wpAny_bind (bound_ne kin J hne (call_ne kin J hm h1 h2 (show X.A.units + 1 < cLine from hu) (wpAny_mono h3 (fun r s' hq => ?_) fun _ _ e => e)))
    obtain ⟨z, H', I', rz, b', rfl, q'⟩ := hq
    cases rz
    exact ⟨b', rfl, wpAny_pure ⟨_, rfl, .bl (!b'), H', I', rfl, q'⟩⟩
  show wpAny _ _ (richCompare .NotEq (.ref a) (.ref b)) _ _ _
  unfold richCompare
  simp only [oneThing_ref]
  refine wpAny_holding (wpAny_bind (wpAny_cRoomFor (by omega) ?_))
  refine wpAny_bind (J.type.here (wpAny_bind (J'.type.here ?_)))
  split
  · rename_i q
    simp at q
  · refine wpAny_bind (wpAny_pure ?_)
    simp only [Bool.false_eq_true, if_false]
    refine wpAny_bind (wpAny_mono one (fun r s' z => ?_) fun _ _ e => e)
    obtain ⟨v, rfl, hq⟩ := z
    exact wpAny_pure hq
end
section
open PySem.W PySem.Calls
variable {prog : Program} {w : World} {A : Around} {E : Value → Shared → Prop} {s : Shared} {K : Frag} {x C f : Addr} {ox : Obj} {od : Option Obj} {T : String}
/-- an own operator whose right side is of a built-in type, wherever it lies -/
theorem bin_own {op : Operator} {b : Value} {fo ro : Option Value} {Q : Value → Shared → Prop} (X : K.In s.heap) (I : InstAt s.heap x ox C od) (hb : Looks (model prog w) s.heap (typeOf b) (.type T)) (first : selfFirst K C = true)
    (own : findIn K (.ref C) (PySem.dunder op.info.2) = some (some (.ref f))) (fn : isFn K (.ref f) = true) (back : findIn K (.ref C) (dunderR op.info.2) = some none) (tl : findIn K (.type T) (PySem.dunder op.info.2) = some fo) (tr : findIn K (.type T) (dunderR op.info.2) = some ro)
    (apart : subIn K (.type T) (.ref C) = some false) (h : wpAny (model prog w) A (call (.ref f) [.ref x, b]) (PySem.W.CmpBack Q) E s) : wpAny (model prog w) A (binaryOp op (.ref x) b) Q E s := by
  obtain ⟨cd, rest, k1, k2⟩ := ksp_first first
  rcases info : op.info with ⟨sign, nm⟩
  rw [info] at own back tl tr
  dsimp only at own back tl tr
  have go := ksp_try X I own fn h
  obtain ⟨hp, gn, dr, tk, os⟩ := s
  have a1 : Looks (model prog w) hp (typeOf (.ref x)) (.ref C) := I.type
  have a2 : Looks (model prog w) hp (typeOf b) (.type T) := hb
  have a3 : Looks (model prog w) hp (fillsNumberSlot (.ref C) nm) true := fills_K X k1 k2 own
  have a4 := ksp_fillsT (M := model prog w) X tl tr
  have a5 : Looks (model prog w) hp (isSubtype (.type T) (.ref C)) false := looks_subIn X apart
  have a6 : Looks (model prog w) hp (numberSlotInPython (.ref C) nm) true := ksp_inPy X own back (Or.inl rfl)
  have a7 : Looks (model prog w) hp (numberSlotInPython (.type T) nm) false := Looks.of_pure rfl
  have a8 : Looks (model prog w) hp (typeLookup (.type T) (dunderR nm)) ro := looks_findIn X tr
  generalize ((fo.isSome && !isSeqSlot fo) || (ro.isSome && !isSeqSlot ro)) = both at a4
  have differ : (Value.ref C == Value.type T) = false := Bool.eq_false_iff.mpr fun q => by cases beq_iff_eq.mp q
  simp only [binaryOp, info]
  unfold binaryOp1
  refine wpAny_holding (wpAny_bind (wpAny_bind (a1.at (wpAny_bind (a2.at (wpAny_bind (a3.at ?_)))))))
  simp only [differ, Bool.false_eq_true, if_false]
  cases both
  all_goals
    ksp_lk
    refine wpAny_mono go (fun r s' hr' => ?_) fun _ _ e => e
    obtain ⟨v, rfl, hq⟩ := hr'
    ksp_lk
    exact hq
end
section
variable {X : L2.Cx} {k j : Nat} {C : Addr} {sp : Sp}
def rSubO (K : PySem.W.Frag) (C : Addr) (sp : Sp) : R2 := fun x y H Q => ∃ a dx fs t xs, x = .ref a ∧ y = .ref t ∧ H a = some (.ins C dx fs) ∧ SqT K H t xs ∧ sp [.ref a, .ref t] H (fun r H' => (∃ b, r = .ref b) ∧ Q r H') C8.E0
theorem op_subO (K : PySem.W.Frag) (c : C8.Met X.prog X.w X.K X.mg X.base k C "__sub__" sp []) (hr : Room j X.A) (hk : k ≤ j) (first : PySem.W.selfFirst X.K C = true) (back : PySem.W.findIn X.K (.ref C) "__rsub__" = some none)
    (tl : PySem.W.findIn X.K (.type "tuple") "__sub__" = some none) (tr : PySem.W.findIn X.K (.type "tuple") "__rsub__" = some none) (apart : PySem.W.subIn X.K (.type "tuple") (.ref C) = some false) (e : X.K = K := by rfl) : OpR X (binaryOp .Sub) (rSubO K C sp) := by
  subst e
  intro pins s σ H x y v u Q I rx ry h
  obtain ⟨a, dx, fs, t, xs, rfl, rfl, ha, ht, q⟩ := h
  cases rx
  cases ry
  obtain ⟨_, J, _⟩ := ins_get I.hok ha
  obtain ⟨_, J, _⟩ := J.look
  obtain ⟨its, _, p1, _⟩ := I.tuple ht
  obtain ⟨f, h1, h2, h3⟩ := met_run (us := [.ref a, .ref t]) (vs := [.ref a, .ref t]) c hr hk I (.cons rfl (.cons rfl .nil)) q
  obtain ⟨ob, g1, g2, n, g3⟩ := p1
  refine bin_own (op := .Sub) I.kIn J (b := .ref t) (T := "tuple") ?_ first h1 h2 back tl tr apart (wpAny_mono h3 (fun r s' hq => ?_) fun _ _ e => e)
  · intro A Q E s' k q
    exact wpAny_typeOf_ref (k _ _ g1) (by rw [g2]; exact q)
  · obtain ⟨z, H', I', rz, ⟨b, rfl⟩, q⟩ := hq
    cases rz
    exact ⟨.ref b, H', I', rfl, q⟩
end
/-! ### == of dicts with texts and ints, different only in their sizes; not in, of data -/
def rEqDB : R2 := fun x y H Q => ∃ a b ks ls, x = .ref a ∧ y = .ref b ∧ Rd H a (.dK ks) ∧ Rd H b (.dK ls) ∧
  ((ks.length = ls.length ∧ (∀ p ∈ ks, valV ls p.1 = some p.2 ∧ flatB p.2 = true) ∧ Q (.bl true) H) ∨ (ks.length ≠ ls.length ∧ Q (.bl false) H))
section
variable {X : L2.Cx}
theorem op_eqDB (hu : X.A.units + 64 < cLine) : OpR X (compareOp .Eq) rEqDB := by
  intro pins s σ H x y v u Q I rx ry h
  obtain ⟨a, b, ks, ls, rfl, rfl, ea, eb, q⟩ := h
  cases rx
  cases ry
  obtain ⟨_, la, va, ra, da⟩ := dk_rd I.hok ea
  obtain ⟨_, lb, vb, rb, db⟩ := dk_rd I.hok eb
  have na := Paired.length ra
  have nb := Paired.length rb
  rcases q with ⟨hl, hp, q⟩ | ⟨hl, q⟩
  · exact PySem.W.keq_eq (knd := mixKind X.prog X.w) (r := true) la lb da db (by omega) (fun _ => hits_all rb ra hp) (fin_bl I q (by simp [show va.length = vb.length by omega]))
  · exact PySem.W.keq_eq (knd := mixKind X.prog X.w) (r := true) la lb da db (by omega) (fun e => absurd e (by omega)) (fin_bl I q (by simp [show ¬ va.length = vb.length by omega]))
theorem units65 {k : Nat} {A : Around} (r : Room k A) : A.units + 65 < cLine := by
  have := r.un
  omega
theorem g_notInD (K : PySem.W.Frag) (hu : X.A.units + 65 < cLine) (e : X.K = K := by rfl) : OpR X (compareOp .NotIn) (rNotInD K) := by
  subst e
  exact op_notInD hu
end
/-! ### dicts that are equal, their sizes not asked -/
def rNeDS : R2 := fun x y H Q => ∃ a b ks ls, x = .ref a ∧ y = .ref b ∧ Rd H a (.dK ks) ∧ Rd H b (.dK ls) ∧ (∀ p ∈ ks, ∃ v, valV ks p.1 = some v ∧ valV ls p.1 = some v ∧ flatB v = true) ∧ (∀ p ∈ ls, p.1 ∈ ks.map (·.1)) ∧ Q (.bl false) H
theorem kvR_keys : ∀ {ks : List (Key × V)} {vs : List (Key × Value)}, KV ks vs → ks.map (·.1) = vs.map (·.1)
  | [], _, h => by
    cases h
    rfl
  | k :: r, _, h => by
    cases h with
    | cons h1 t => rw [List.map_cons, List.map_cons, kvR_keys t, h1.1]
theorem nd_le {α : Type} [DecidableEq α] {l1 l2 : List α} (nd : l1.Nodup) (h : ∀ a ∈ l1, a ∈ l2) : l1.length ≤ l2.length := @nd_sub_len α instBEqOfDecidableEq inferInstance l1 l2 nd h
theorem op_neDS {X : L2.Cx} (hu : X.A.units + 64 < cLine) : OpR X (compareOp .NotEq) rNeDS := by
  intro pins s σ H x y v u Q I rx ry h
  obtain ⟨a, b, ks, ls, rfl, rfl, ea, eb, h0, h2, q⟩ := h
  cases rx
  cases ry
  obtain ⟨_, la, va, ra, da⟩ := dk_rd I.hok ea
  obtain ⟨_, lb, vb, rb, db⟩ := dk_rd I.hok eb
  have na := Paired.length ra
  have nb := Paired.length rb
  have nda : (ks.map (·.1)).Nodup := by
    rw [kvR_keys ra]
    obtain ⟨_, _, _, _, _, _, _, _, nd⟩ := da
    exact nd
  have ndb : (ls.map (·.1)).Nodup := by
    rw [kvR_keys rb]
    obtain ⟨_, _, _, _, _, _, _, _, nd⟩ := db
    exact nd
  have h1 : ∀ p ∈ ks, valV ls p.1 = some p.2 ∧ flatB p.2 = true := fun p hp => by
    obtain ⟨v, e1, e2, e3⟩ := h0 p hp
    rw [val_nodup nda p hp] at e1
    cases e1
    exact ⟨e2, e3⟩
  have i1 := nd_le (l2 := ls.map (·.1)) nda fun k hk => by
    obtain ⟨p, hp, rfl⟩ := List.mem_map.mp hk
    exact valV_in (h1 p hp).1
  have i2 := nd_le (l2 := ks.map (·.1)) ndb fun k hk => by
    obtain ⟨p, hp, rfl⟩ := List.mem_map.mp hk
    exact h2 p hp
  rw [List.length_map, List.length_map] at i1 i2
  exact PySem.W.keq_ne (knd := mixKind X.prog X.w) (r := true) la lb da db (by omega) (fun _ => hits_all rb ra h1) (fin_bl I q (by simp [show va.length = vb.length by omega]))
end G
/-! Least books, in plain Lean; what more of Book's methods promise. -/
namespace G
open PySem PySem.Spec PyProof.Rows L2
def spAsc1 : Sp := fun vs H Q _ => ∃ t x, vs = [.ref t] ∧ H t = some (.tup [x]) ∧ ∀ H', Same H H' → Q (.bl true) H'
def spPo1 (C : Addr) : Sp := fun vs H Q _ => ∃ b t kvs z q, vs = [.ref b, .ref t] ∧ Book1 C H b kvs ∧ H t = some (.tup [.str z]) ∧ tfD kvs z = some q ∧ ∀ H', Same H H' → Q (.bl true) H'
def spSub1 (C : Addr) : Sp := fun vs H Q _ => ∃ b t kvs z q, vs = [.ref b, .ref t] ∧ Book1 C H b kvs ∧ H t = some (.tup [.str z]) ∧ tfD kvs z = some q ∧ 1 < (cs z).length ∧ ∀ b' kvs' H', Book1 C H' b' kvs' → tfD kvs' = remF (tfD kvs) z → Same H H' → Q (.ref b') H'
def spPieces (C : Addr) : Sp := fun vs H Q _ => ∃ b kvs, vs = [.ref b] ∧ Book1 C H b kvs ∧ ∀ t ys, ys.Perm (keyStrs kvs) → sortedS ys = true → H t = some (.tup (ys.map V.str)) → Q (.ref t) H
def spEqB (C : Addr) : Sp := fun vs H Q _ => ∃ a b k1 k2, vs = [.ref a, .ref b] ∧ Book1 C H a k1 ∧ Book1 C H b k2 ∧ (∀ z q, tfD k1 z = some q → tfD k2 z = some q) ∧ ∀ r, (r = true ↔ tfD k1 = tfD k2) → Q (.bl r) H
theorem nd_full {α : Type} [DecidableEq α] : ∀ {l m : List α}, l.Nodup → (∀ x ∈ l, x ∈ m) → m.length ≤ l.length → ∀ x ∈ m, x ∈ l
  | l, m, nd, inc, len, x, hx => by
    by_cases h : x ∈ l
    · exact h
    · exfalso
      have nd' : (x :: l).Nodup := List.nodup_cons.mpr ⟨h, nd⟩
      have h2 := nd_sub_len (l2 := m) nd' fun y hy => by
        rcases List.mem_cons.mp hy with rfl | hy
        · exact hx
        · exact inc y hy
      rw [List.length_cons] at h2
      omega
/-! ### the least tariff -/
open Classical in
noncomputable def leastF (F : Tf) : Tf := fun z => if Needless F z then none else F z
section
variable {F F' : Tf}
theorem least_sub {z : Str} {q : Int} (h : leastF F z = some q) : F z = some q := by
  unfold leastF at h
  split at h
  · cases h
  · exact h
theorem least_not {z : Str} {q : Int} (h : leastF F z = some q) : ¬ Needless F z := fun n => by
  unfold leastF at h
  rw [if_pos n] at h
  cases h
theorem least_in {z : Str} {q : Int} (h : F z = some q) (n : ¬ Needless F z) : leastF F z = some q := by
  unfold leastF
  rw [if_neg n]
  exact h
theorem least_ext (h : ∀ z q, F' z = some q ↔ F z = some q ∧ ¬ Needless F z) : F' = leastF F := by
  funext z
  cases e : F' z with
  | some q =>
    obtain ⟨h1, h2⟩ := (h z q).mp e
    exact (least_in h1 h2).symm
  | none =>
    cases e2 : leastF F z with
    | none => rfl
    | some q =>
      have := (h z q).mpr ⟨least_sub e2, least_not e2⟩
      rw [e] at this
      cases this
/-- part of a tariff, with all its signs -/
structure Sub1 (F F' : Tf) : Prop where
  sub : ∀ z q, F' z = some q → F z = some q
  one : ∀ c q, F (ch c) = some q → F' (ch c) = some q
theorem Sub1.good (G : Good F) (S : Sub1 F F') : Good F' := ⟨fun z p h => G.pos z p (S.sub z p h), fun z p h => G.len z p (S.sub z p h), fun z p h c hc => by
  obtain ⟨q, hq⟩ := G.cov z p (S.sub z p h) c hc
  exact ⟨q, S.one c q hq⟩⟩
theorem Sub1.over (S : Sub1 F F') {l : List Nat} : Over F' l ↔ Over F l := ⟨fun o c hc => by obtain ⟨q, hq⟩ := o c hc; exact ⟨q, S.sub _ _ hq⟩, fun o c hc => by obtain ⟨q, hq⟩ := o c hc; exact ⟨q, S.one c q hq⟩⟩
theorem Sub1.le (G : Good F) (S : Sub1 F F') {l : List Nat} (o : Over F l) : lp F l ≤ lp F' l :=
  lp_mono G (S.good G) (fun z p h => ⟨G.cov z p (S.sub z p h), lp_piece G (S.sub z p h)⟩) o (S.over.mpr o)
theorem sub_least : Sub1 F (leastF F) := ⟨fun z q h => least_sub h, fun c q h => least_in h need_sign⟩
theorem sub_rem {z : Str} (hz : 1 < (cs z).length) : Sub1 F (remF F z) := ⟨fun y q h => by
  unfold remF at h
  split at h
  · cases h
  · exact h, fun c q h => by
  unfold remF
  rw [if_neg fun e => ?_]
  · exact h
  · rw [← e] at hz
    exact absurd (show 1 < 1 from hz) (by decide)⟩
/-- a cut's pieces that do not reach the whole are shorter -/
theorem cut_short (G : Good F) {l : List Nat} {c : Ps} (h : Cut F l c) {y : Str × Int} (hy : y ∈ c) (ne : cs y.1 ≠ l) : (cs y.1).length < l.length := by
  obtain ⟨a, b, rfl⟩ := List.append_of_mem hy
  have e := h.2
  rw [List.map_append, List.map_cons, List.flatten_append, List.flatten_cons] at e
  have hl := congrArg List.length e
  rw [List.length_append, List.length_append] at hl
  rcases Nat.lt_or_ge (cs y.1).length l.length with h1 | h1
  · exact h1
  · exfalso
    have e1 : (a.map fun p => cs p.1).flatten = [] := List.length_eq_zero_iff.mp (by omega)
    have e2 : (b.map fun p => cs p.1).flatten = [] := List.length_eq_zero_iff.mp (by omega)
    rw [e1, e2, List.nil_append, List.append_nil] at e
    exact ne e
theorem fee_mono {F1 : Tf} {g : Str → Int} : ∀ {c : Ps}, (∀ p ∈ c, g p.1 ≤ p.2) → (c.map fun p => g p.1).sum ≤ fee c
  | [], _ => Int.le_refl _
  | q :: r, h => by
    have h1 := h q List.mem_cons_self
    have h2 := fee_mono (F1 := F1) (c := r) fun p hp => h p (List.mem_cons_of_mem _ hp)
    rw [fee_cons, List.map_cons, List.sum_cons]
    omega
theorem lp_flat (G : Good F) : ∀ {c : Ps}, (∀ p ∈ c, Over F (cs p.1)) → lp F (c.map fun p => cs p.1).flatten ≤ (c.map fun p => lp F (cs p.1)).sum
  | [], _ => by
    rw [List.map_nil, List.flatten_nil, lp_nil G]
    exact Int.le_refl _
  | q :: r, h => by
    have h1 := h q List.mem_cons_self
    have hr := fun p hp => h p (List.mem_cons_of_mem q hp)
    have h2 := lp_flat G (c := r) hr
    rw [List.map_cons, List.flatten_cons, List.map_cons, List.sum_cons]
    have o2 : Over F (r.map fun p => cs p.1).flatten := fun d hd => by
      obtain ⟨l, hl, hd'⟩ := List.mem_flatten.mp hd
      obtain ⟨p, hp, rfl⟩ := List.mem_map.mp hl
      exact hr p hp d hd'
    have h3 := lp_add G h1 o2
    omega
/-- without all needless pieces every piece can be had as cheaply -/
theorem least_piece (G : Good F) : ∀ (n : Nat) (z : Str) (p : Int), (cs z).length ≤ n → F z = some p → lp (leastF F) (cs z) ≤ p
  | 0, z, p, hn, hz => by
    have := (G.len z p hz).1
    omega
  | n + 1, z, p, hn, hz => by
    have Gl := sub_least.good (F := F) G
    by_cases nd : Needless F z
    · obtain ⟨q, hq, h1, h2⟩ := nd
      rw [hz] at hq
      have eq : p = q := Option.some.inj hq
      subst eq
      have Gr := rem_good G h1
      obtain ⟨c, hc, e⟩ := lp_cut Gr (rem_over h1 (G.cov z p hz))
      have each : ∀ y ∈ c, y.1 ≠ z ∧ F y.1 = some y.2 := fun y hy => by
        have := hc.1 y hy
        unfold remF at this
        split at this
        · cases this
        · rename_i ne
          exact ⟨ne, this⟩
      have h3 : ∀ y ∈ c, lp (leastF F) (cs y.1) ≤ y.2 := fun y hy => by
        obtain ⟨ne, hF⟩ := each y hy
        have hs := cut_short Gr hc hy fun e => ne (str_ext e)
        exact least_piece G n y.1 y.2 (by omega) hF
      have h4 := lp_flat Gl (c := c) fun y hy => sub_least.over.mpr (G.cov _ _ (each y hy).2)
      rw [hc.2] at h4
      have h5 := fee_mono (F1 := F) (g := fun y => lp (leastF F) (cs y)) h3
      omega
    · exact lp_piece Gl (least_in hz nd)
theorem least_same (G : Good F) {l : List Nat} (o : Over F l) : lp (leastF F) l = lp F l := by
  have h1 := sub_least.le (F := F) G o
  have h2 := lp_mono (sub_least.good (F := F) G) G (fun z p h => ⟨sub_least.over.mpr (G.cov z p h), least_piece G _ z p (Nat.le_refl _) h⟩) (sub_least.over.mpr o) o
  omega
/-- a part between both is as cheap -/
theorem between (G : Good F) (S : Sub1 F F') (h : ∀ z q, leastF F z = some q → F' z = some q) {l : List Nat} (o : Over F l) : lp F' l = lp F l := by
  have h1 := S.le G o
  have S2 : Sub1 F' (leastF F) := ⟨h, fun c q hq => least_in (S.sub _ _ hq) need_sign⟩
  have h2 := S2.le (S.good G) (S.over.mpr o)
  rw [least_same G o] at h2
  omega
/-- a longer piece of the least book is dearer without it -/
theorem least_tight (G : Good F) {z : Str} {p : Int} (h : leastF F z = some p) (hz : 1 < (cs z).length) (S : Sub1 F F') (no : F' z = none) : p < lp F' (cs z) := by
  have n := least_not h
  have hF := least_sub h
  have h1 : p < lp (remF F z) (cs z) := by
    rcases Int.lt_or_le p (lp (remF F z) (cs z)) with q | q
    · exact q
    · exact absurd ⟨p, hF, hz, q⟩ n
  have S2 : Sub1 (remF F z) F' := ⟨fun y q hq => by
    unfold remF
    rw [if_neg fun e => by
      rw [e, no] at hq
      cases hq]
    exact S.sub y q hq, fun c q hq => S.one c q ((sub_rem hz).sub _ _ hq)⟩
  have h2 := S2.le (rem_good G hz) (rem_over hz (G.cov z p hF))
  omega
/-- what is as cheap has all pieces of the least book, and the other way about -/
theorem choice_iff (G : Good F) (S : Sub1 F F') : NoDear F' F ↔ ∀ z q, leastF F z = some q → F' z = some q := by
  constructor
  · intro h z q hz
    by_cases l1 : 1 < (cs z).length
    · cases e : F' z with
      | some q' =>
        have h1 := S.sub z q' e
        rw [least_sub hz] at h1
        exact h1.symm
      | none =>
        have h1 := least_tight G hz l1 S e
        have h2 := h z q (least_sub hz)
        omega
    · have n1 := (G.len z q (least_sub hz)).1
      obtain ⟨c, rfl⟩ := _root_.G.one_sign (z := z) (by omega)
      exact S.one c q (least_sub hz)
  · intro h z p hz
    rw [between G S h (G.cov z p hz)]
    exact lp_piece G hz
theorem sub_nodear (G : Good F) (S : Sub1 F F') : NoDear F F' := fun z p h => lp_piece G (S.sub z p h)
theorem least_between (G : Good F) (S : Sub1 F F') (h : ∀ z q, leastF F z = some q → F' z = some q) : leastF F' = leastF F := by
  have key : ∀ z q, leastF F' z = some q ↔ leastF F z = some q := fun z q => by
    constructor
    · intro hz
      have h1 := least_sub hz
      have h2 := S.sub z q h1
      refine least_in h2 fun n => least_not hz ?_
      obtain ⟨p, hp, l1, le⟩ := id n
      rw [h2] at hp
      have ep : q = p := Option.some.inj hp
      subst ep
      have S2 : Sub1 (remF F' z) (leastF F) := ⟨fun y r hy => by
        unfold remF
        rw [if_neg fun e => by
          rw [e] at hy
          exact least_not hy n]
        exact h y r hy, fun c r hr => least_in (S.sub _ _ ((sub_rem l1).sub _ _ hr)) need_sign⟩
      have G' := S.good G
      have o := G.cov z q h2
      have h3 := S2.le (rem_good G' l1) (rem_over l1 (S.over.mpr o))
      rw [least_same G o] at h3
      have h4 := lp_piece G h2
      exact ⟨q, h1, l1, by omega⟩
    · intro hz
      have h1 := h z q hz
      refine least_in h1 fun n => ?_
      obtain ⟨p, hp, l1, le⟩ := n
      rw [h1] at hp
      have ep : q = p := Option.some.inj hp
      subst ep
      have S2 : Sub1 F (remF F' z) := ⟨fun y r hy => S.sub y r ((sub_rem l1).sub y r hy), fun c r hr => (sub_rem l1).one c r (S.one c r hr)⟩
      have h2 := least_tight G hz l1 S2 (if_pos rfl)
      omega
  funext z
  cases e : leastF F' z with
  | some q => exact ((key z q).mp e).symm
  | none =>
    cases e2 : leastF F z with
    | none => rfl
    | some q =>
      have := (key z q).mpr e2
      rw [e] at this
      cases this
end
def sizeL (n : Nat) : Nat := if n = 1 then 8 else if n = 2 then 6 else if n = 3 then 4 else 3
theorem sizeL_at {n : Nat} (h1 : 1 ≤ n) (h4 : n ≤ 4) : atI [V.int 8, .int 6, .int 4, .int 3] ((n : Int) - 1) = some (.int ((sizeL n : Nat) : Int)) := by
  have : n = 1 ∨ n = 2 ∨ n = 3 ∨ n = 4 := by omega
  rcases this with rfl | rfl | rfl | rfl <;> rfl
theorem sizeL_le (n : Nat) : sizeL n ≤ 8 := by
  unfold sizeL
  repeat' split
  all_goals omega
/-- _law_same -/
def spSame (K : PySem.W.Frag) : Sp := fun vs H Q _ => ∃ (d1 d2 sa ta : Addr) (k1 k2 : List (Key × V)) (sg : List Nat) (ts : List Str), vs = [.ref d1, .ref d2, .ref sa, .ref ta] ∧ H d1 = some (.dK k1) ∧ H d2 = some (.dK k2) ∧ Tar k1 ∧ Tar k2 ∧ SqL K H sa (sg.map chV) ∧ 1 ≤ sg.length ∧ sg.length ≤ 4 ∧
  (∀ c ∈ sg, (∃ p, tfD k1 (ch c) = some p) ∧ ∃ p, tfD k2 (ch c) = some p) ∧ SqL K H ta (ts.map V.str) ∧ ts.length ≤ 1000 ∧ (∀ t ∈ ts, (cs t).length ≤ 100 ∧ ∀ c ∈ cs t, c ∈ sg) ∧ (∀ l, Over (tfD k1) l → lp (tfD k1) l = lp (tfD k2) l) ∧ ∀ H', Same H H' → Q (.bl true) H'
/-- _law_tight -/
def spTight (C : Addr) : Sp := fun vs H Q _ => ∃ b kvs, vs = [.ref b] ∧ Book1 C H b kvs ∧ (∀ z q, tfD kvs z = some q → 1 < (cs z).length → q < lp (remF (tfD kvs) z) (cs z)) ∧ ∀ H', Same H H' → Q (.bl true) H'
theorem shaped_ints (is : List Int) : SeqAt.shaped (.list (is.map PyData.int)) = true := by
  have h1 : PyData.canLayAll0 (is.map PyData.int) = true := by
    induction is with
    | nil => rfl
    | cons i r ih =>
      show (PyData.canLay0 (.int i) && _) = true
      rw [ih]
      rfl
  have h2 : PyData.depthAll (is.map PyData.int) ≤ 1 := by
    induction is with
    | nil => simp [PyData.depthAll]
    | cons i r ih =>
      have ih' := ih (by
        have h3 : (PyData.canLay0 (.int i) && PyData.canLayAll0 (r.map PyData.int)) = true := h1
        rw [Bool.and_eq_true] at h3
        exact h3.2)
      simp only [List.map_cons, PyData.depthAll, PyData.depth]
      omega
  unfold SeqAt.shaped
  rw [Bool.and_eq_true, decide_eq_true_eq]
  refine ⟨h1, ?_⟩
  simp only [PyData.depth]
  omega
theorem dp_intsL {K : PySem.W.Frag} {H : Hp} : ∀ is : List Int, DpAll K H (is.map V.int) (is.map PyData.int)
  | [] => .nil
  | i :: r => .cons (.int i) (dp_intsL r)
theorem eqD_same {K : PySem.W.Frag} {H : Hp} {x y : V} {d : PyData} {Q : VK} (hx : Dp K H x d) (hy : Dp K H y d) (s : SeqAt.shaped d = true) (q : Q (.bl true) H) : rEqD K x y H Q := by
  refine ⟨d, d, hx, hy, s, s, ?_⟩
  rw [SeqAt.eqv_refl _ (SeqAt.canLay_of_shaped s)]
  exact q
theorem shaped_str {z : Str} (h : ∀ c ∈ cs z, lett c = true) : SeqAt.shaped (.str z) = true := by
  have hs := shaped_lstrs (zs := [z]) fun y hy => by
    rw [List.mem_singleton.mp hy]
    exact h
  have hc := SeqAt.canLay_of_shaped hs
  have h3 : (PyData.canLay0 (.str z) && true) = true := hc
  rw [Bool.and_true] at h3
  unfold SeqAt.shaped
  rw [h3]
  simp [PyData.depth]
theorem put_rem {F : Tf} {z : Str} {q : Int} (h : F z = some q) : putF (remF F z) z q = F := by
  funext y
  by_cases e : y = z
  · rw [e, put_at_w, h]
  · rw [put_ne e]
    exact if_neg e
theorem whole_book {kvs : List (Key × V)} {ys : List Str} (av : arePrices kvs = true) (nd : (kvs.map (·.1)).Nodup) (pm : ys.Perm (keyStrs kvs)) : arePrices (kvOf (psOf kvs ys)) = true ∧ ((kvOf (psOf kvs ys)).map (·.1)).Nodup ∧ tfD (kvOf (psOf kvs ys)) = tfD kvs := by
  have e0 : partK kvs ys (fun _ => true) = kvOf (psOf kvs ys) := by
    unfold partK
    rw [List.filter_eq_self.mpr fun _ _ => rfl, kvOf_ps]
  obtain ⟨h1, h2⟩ := part_book (q := fun _ => true) av nd pm fun _ _ => rfl
  rw [e0] at h1 h2
  exact ⟨h1, h2, tf_psOf (ap_parts av).2.1 pm⟩
theorem no_need {F : Tf} (G : Good F) {z : Str} : ¬ Needless (leastF F) z := fun n => by
  obtain ⟨p, hp, hz, le⟩ := n
  have := least_tight G hp hz (F' := remF (leastF F) z) ⟨fun y q h => least_sub ((sub_rem hz).sub y q h), fun c q h => (sub_rem hz).one c q (sub_least.one c q h)⟩ (if_pos rfl)
  omega
theorem least_twice {F : Tf} (G : Good F) : leastF (leastF F) = leastF F := least_between G sub_least fun z q h => h
theorem least_cheap {F : Tf} (G : Good F) : NoDear F (leastF F) ∧ NoDear (leastF F) F := ⟨sub_nodear G sub_least, (choice_iff G sub_least).mpr fun z q h => h⟩
theorem least_all {F : Tf} : leastF F = F ↔ ∀ z, ¬ Needless F z := by
  constructor
  · intro h z n
    obtain ⟨q, hq, _⟩ := id n
    rw [← h] at hq
    exact least_not hq n
  · intro h
    funext z
    exact if_neg (h z)
/-- a tuple of texts == () -/
theorem eq_nilT {K : PySem.W.Frag} {H : Hp} {a p : Addr} {zs : List Str} {Q : VK} (h : SqT K H a (zs.map V.str)) (hp : H p = some (.tup [])) (hl : ∀ z ∈ zs, ∀ c ∈ cs z, lett c = true) (q : Q (.bl zs.isEmpty) H) : rEqD K (.ref a) (.ref p) H Q := by
  refine ⟨.tuple (zs.map PyData.str), .tuple [], .tup h (dpAll_strs zs), .tup (SqT.of hp) .nil, shaped_strs hl, by decide +kernel, ?_⟩
  have e : PyData.eqv (.tuple (zs.map PyData.str)) (.tuple []) = zs.isEmpty := by
    cases zs with
    | nil => rfl
    | cons z r => rfl
  rw [e]
  exact q
theorem shw_unit : Shw (.tuple []) 1 10 := ⟨by simp [PyData.showable, PyData.showableAll], by simp [PyData.hasDict, PyData.hasDictAll], by simp [PyData.depth, PyData.depthAll], by simp only [PyData.shown]; decide +kernel⟩
def dTold (b : Bool) : PyData := .list [.tuple [], .bool true, .bool true, .bool b]
theorem repr_told {K : PySem.W.Frag} {H : Hp} {a t : Addr} {b : Bool} {Q : VK} (h : H a = some (.lst [.ref t, .bl true, .bl true, .bl b])) (ht : H t = some (.tup [])) (q : Q (.str (dTold b).shown) H) : rRepr K [.ref a] H Q := by
  have S : Shw (dTold b) 2 _ := shw_list (k := 1) (n := 1000) fun e he => by
    simp only [List.mem_cons, List.not_mem_nil, or_false] at he
    rcases he with rfl | rfl | rfl | rfl
    · exact shw_unit.le (Nat.le_refl _) (by omega)
    · exact (shw_bool true).le (by omega) (by omega)
    · exact (shw_bool true).le (by omega) (by omega)
    · exact (shw_bool b).le (by omega) (by omega)
  exact ⟨_, _, rfl, .lst (SqL.of h) (.cons (.tup (SqT.of ht) .nil) (.cons (.bl true) (.cons (.bl true) (.cons (.bl b) .nil)))), S.s, S.h, Nat.le_trans S.dp (by omega), Nat.le_trans S.len (fits_sz (by show _ ≤ 100000; simp)), q⟩
/-! ### pairs in a list -/
theorem shaped_ent {z : Str} {q : Int} (h : ∀ c ∈ cs z, lett c = true) : SeqAt.shaped (.tuple [.str z, .int q]) = true := by
  have hs := shaped_lstrs (zs := [z]) fun y hy => by
    rw [List.mem_singleton.mp hy]
    exact h
  have hc := SeqAt.canLay_of_shaped hs
  have h2 : PyData.canLay0 (.str z) = true := by
    have h3 : (PyData.canLay0 (.str z) && true) = true := hc
    rwa [Bool.and_true] at h3
  unfold SeqAt.shaped
  rw [Bool.and_eq_true, decide_eq_true_eq]
  constructor
  · show (PyData.canLay0 (.str z) && (true && true)) = true
    rw [h2]
    rfl
  · simp only [PyData.depth, PyData.depthAll]
    omega
theorem dp_paired {K : PySem.W.Frag} {H : Hp} : ∀ {ts : List Addr} {ks : List (Str × Int)}, Paired (fun (t : Addr) (q : Key × V) => H t = some (.tup [kV q.1, q.2])) ts (ks.map entS) → DpAll K H (ts.map V.ref) (ks.map fun e => PyData.tuple [.str e.1, .int e.2])
  | [], [], _ => .nil
  | [], _ :: _, h => by cases h
  | _ :: _, [], h => by cases h
  | t :: r, e :: l, h => by
    rcases h with _ | ⟨h1, h2⟩
    exact .cons (.tup (SqT.of h1) (.cons (.str _) (.cons (.int _) .nil))) (dp_paired h2)
theorem dp_pairedS {K : PySem.W.Frag} {H H' : Hp} (s : Same H H') : ∀ {ts : List Addr} {ks : List (Str × Int)}, Paired (fun (t : Addr) (q : Key × V) => H t = some (.tup [kV q.1, q.2])) ts (ks.map entS) → DpAll K H' (ts.map V.ref) (ks.map fun e => PyData.tuple [.str e.1, .int e.2])
  | [], [], _ => .nil
  | [], _ :: _, h => by cases h
  | _ :: _, [], h => by cases h
  | t :: r, e :: l, h => by
    rcases h with _ | ⟨h1, h2⟩
    exact .cons (.tup (SqT.of (s _ _ h1)) (.cons (.str _) (.cons (.int _) .nil))) (dp_pairedS s h2)
theorem any_ent {ks : List (Str × Int)} {e : Str × Int} (h : e ∈ ks) (s : SeqAt.shaped (.tuple [.str e.1, .int e.2]) = true) : (ks.map fun e => PyData.tuple [.str e.1, .int e.2]).any (fun z => PyData.eqv z (.tuple [.str e.1, .int e.2])) = true := by
  rw [List.any_eq_true]
  exact ⟨_, List.mem_map.mpr ⟨e, h, rfl⟩, SeqAt.eqv_refl _ (SeqAt.canLay_of_shaped s)⟩
/-! ### a choice of the pieces -/
def pickK (kvs : List (Key × V)) (S : List Str) : List (Key × V) := S.map fun y => (Sum.inr y, V.int ((tfD kvs y).getD 0))
theorem valV_pick {kvs : List (Key × V)} {z : Str} : ∀ {S : List Str} {ks : List (Key × V)}, valV (mergeK ks (pickK kvs S)) (Sum.inr z) = if z ∈ S then some (V.int ((tfD kvs z).getD 0)) else valV ks (Sum.inr z)
  | [], ks => by
    rw [if_neg (List.not_mem_nil)]
    rfl
  | y :: r, ks => by
    show valV (mergeK (putK ks (Sum.inr y) (V.int ((tfD kvs y).getD 0))) (pickK kvs r)) (Sum.inr z) = _
    rw [valV_pick, valV_put]
    by_cases h1 : z ∈ r
    · rw [if_pos h1, if_pos (List.mem_cons_of_mem _ h1)]
    · rw [if_neg h1]
      by_cases h2 : z = y
      · rw [if_pos (by rw [h2]), if_pos (by rw [h2]; exact List.mem_cons_self), h2]
      · rw [if_neg fun e => h2 (Sum.inr.inj e), if_neg fun e => (List.mem_cons.mp e).elim h2 h1]
theorem tf_pick {kvs : List (Key × V)} {S : List Str} (h : ∀ y ∈ S, ∃ q, tfD kvs y = some q) (z : Str) : tfD (mergeK [] (pickK kvs S)) z = if z ∈ S then tfD kvs z else none := by
  have e := valV_pick (kvs := kvs) (z := z) (S := S) (ks := [])
  by_cases hz : z ∈ S
  · rw [if_pos hz] at e ⊢
    obtain ⟨q, hq⟩ := h z hz
    rw [hq] at e
    rw [tf_some.mpr e, hq]
    rfl
  · rw [if_neg hz] at e ⊢
    unfold tfD
    rw [e]
    rfl
/-- what a choice of the pieces gives -/
theorem pick_book {kvs : List (Key × V)} {S : List Str} {sg : List Nat} (av : arePrices kvs = true) (nd : (kvs.map (·.1)).Nodup) (sgns : ∀ c, (∃ q, tfD kvs (ch c) = some q) ↔ c ∈ sg) (h : ∀ y ∈ S, ∃ q, tfD kvs y = some q) (hs : ∀ c ∈ sg, ch c ∈ S) :
    arePrices (mergeK [] (pickK kvs S)) = true ∧ ((mergeK [] (pickK kvs S)).map (·.1)).Nodup ∧ Sub1 (tfD kvs) (tfD (mergeK [] (pickK kvs S))) ∧ ∀ z q, tfD (mergeK [] (pickK kvs S)) z = some q ↔ z ∈ S ∧ tfD kvs z = some q := by
  have good := good_of av
  have al := (ap_parts av).2.1
  have T := tf_pick h
  have key : ∀ z q, tfD (mergeK [] (pickK kvs S)) z = some q ↔ z ∈ S ∧ tfD kvs z = some q := fun z q => by
    rw [T]
    by_cases hz : z ∈ S
    · rw [if_pos hz]
      exact ⟨fun e => ⟨hz, e⟩, fun e => e.2⟩
    · rw [if_neg hz]
      exact ⟨fun e => (nomatch e), fun e => absurd e.1 hz⟩
  obtain ⟨P, _⟩ := PrOk.merge (sg := sg) (more := pickK kvs S) PrOk.nil fun kv hkv => by
    obtain ⟨y, hy, rfl⟩ := List.mem_map.mp hkv
    obtain ⟨q, hq⟩ := h y hy
    refine ⟨y, q, by rw [hq]; rfl, good.len y q hq, fun c hc => (sgns c).mp (good.cov y q hq c hc), ?_⟩
    have hk := (tf_key al).mpr ⟨q, hq⟩
    obtain ⟨h1, h2, h3⟩ := price_of_key al hk
    rw [tf_some] at hq
    rw [h1] at hq
    cases hq
    exact ⟨h2, h3⟩
  have nd' := P.nd
  refine ⟨(ap_sub av nd nd' (fun kv hkv => ?_) (fun c hc => ?_) ?_).1, nd', ⟨fun z q e => ((key z q).mp e).2, fun c q e => (key _ q).mpr ⟨hs c ((sgns c).mp ⟨q, e⟩), e⟩⟩, key⟩
  · obtain ⟨z, q, rfl, _⟩ := P.mem kv hkv
    have h1 := tf_some.mpr (val_nodup nd' _ hkv)
    exact valV_mem (tf_some.mp ((key z q).mp h1).2)
  · obtain ⟨q, hq⟩ := hc
    exact ⟨q, (key _ q).mpr ⟨hs c ((sgns c).mp ⟨q, hq⟩), hq⟩⟩
  · refine Nat.le_trans (?_ : (mergeK [] (pickK kvs S)).length ≤ kvs.length) (ap_parts av).1.2
    have h1 := nd_le (l2 := kvs.map (·.1)) nd' fun k hk => by
      obtain ⟨kv, hkv, rfl⟩ := List.mem_map.mp hk
      obtain ⟨z, q, rfl, _⟩ := P.mem kv hkv
      have h1 := tf_some.mpr (val_nodup nd' _ hkv)
      exact valV_in (tf_some.mp ((key z q).mp h1).2)
    rwa [List.length_map, List.length_map] at h1
theorem fm_out {S : List Str} : ∀ zs : List Str, (zs.filterMap fun z => if decide (z ∈ S) = true then none else some (V.str z)) = (zs.filter fun z => !decide (z ∈ S)).map V.str
  | [] => rfl
  | z :: r => by
    have ih := fm_out (S := S) r
    by_cases h : z ∈ S
    · rw [List.filterMap_cons, List.filter_cons, if_pos (decide_eq_true h), decide_eq_true h, ih]
      rfl
    · rw [List.filterMap_cons, List.filter_cons, if_neg (by rw [decide_eq_false h]; exact Bool.false_ne_true), decide_eq_false h, ih]
      rfl
theorem out_none {S zs : List Str} : (zs.filter fun z => !decide (z ∈ S)).isEmpty = true ↔ ∀ z ∈ zs, z ∈ S := by
  rw [List.isEmpty_iff, List.filter_eq_nil_iff]
  refine forall_congr' fun z => forall_congr' fun _ => ?_
  by_cases h : z ∈ S
  · simp [h]
  · simp [h]
/-- _law_choices_right -/
def spChoices (K : PySem.W.Frag) (C : Addr) : Sp := fun vs H Q _ => ∃ (l b pd sa la : Addr) (kvs : List (Key × V)) (sg : List Nat) (zs : List Str) (n : Nat), vs = [.ref l, .ref b, .ref pd, .ref sa, .ref la] ∧ pd ≠ l ∧ sa ≠ l ∧ la ≠ l ∧ Book1 C H b kvs ∧ H pd = some (.dK kvs) ∧ H sa = some (.lst (sg.map chV)) ∧
  (∀ c, (∃ q, tfD kvs (ch c) = some q) ↔ c ∈ sg) ∧ sg.length ≤ 4 ∧ H la = some (.lst (zs.map V.str)) ∧ (∀ z, z ∈ zs ↔ ∃ q, leastF (tfD kvs) z = some q) ∧ zs.length ≤ 12 ∧ Dice H l (n + 200) ∧ ∀ H', Kp l H H' → Dice H' l n → Q (.bl true) H'
end G
/-! Keys of dicts that are tuples whose items are texts or tuples of ints. -/
namespace PySem.Nk
open PySem PySem.Spec
inductive It where
  | tx (z : Str)
  | ns (l : List Int)
deriving DecidableEq
section
variable {prog : Program} {w : World} {A : Around} {E : Value → Shared → Prop} {s : Shared}
def ItIs (prog : Program) (w : World) (h : Heap) : It → Value → Prop
  | .tx z, v => (strKind prog w).is z v = true
  | .ns l, v => ∃ a, v = .ref a ∧ IsTupleKey (intKind prog w) h l a
inductive ItsAre (prog : Program) (w : World) (h : Heap) : List It → List Value → Prop
  | nil : ItsAre prog w h [] []
  | cons {k : It} {v : Value} {ks : List It} {vs : List Value} : ItIs prog w h k v → ItsAre prog w h ks vs → ItsAre prog w h (k :: ks) (v :: vs)
def IsNest (prog : Program) (w : World) (h : Heap) (ks : List It) (a : Addr) : Prop := ∃ o items n, h.get? a = some o ∧ o.cls = .type "tuple" ∧ o.data = .seq items n ∧ ItsAre prog w h ks items.toList
theorem ItIs.inj {h : Heap} {x y : It} {v : Value} (hx : ItIs prog w h x v) (hy : ItIs prog w h y v) : x = y := by
  cases x with
  | tx z =>
    cases y with
    | tx z' => rw [(strKind prog w).inj _ _ _ hx hy]
    | ns l =>
      obtain ⟨a, rfl, _⟩ := hy
      have h := (strKind prog w).byValue _ _ hx
      cases h
  | ns l =>
    obtain ⟨a, rfl, hx⟩ := hx
    cases y with
    | tx z =>
      have h := (strKind prog w).byValue _ _ hy
      cases h
    | ns l' =>
      obtain ⟨a', e, hy⟩ := hy
      cases e
      rw [hx.inj hy]
theorem ItsAre.inj {h : Heap} {x y : List It} {vs : List Value} (hx : ItsAre prog w h x vs) (hy : ItsAre prog w h y vs) : x = y := by
  induction hx generalizing y with
  | nil => cases hy; rfl
  | cons h1 _ ih =>
    cases hy with
    | cons h2 t2 => rw [h1.inj h2, ih t2]
theorem IsNest.typeIs {ks : List It} {a : Addr} (x : IsNest prog w s.heap ks a) : s.TypeIs (.ref a) "tuple" := let ⟨o, _, _, ho, hc, _⟩ := x; ⟨o, ho, hc⟩
theorem IsNest.inj {h : Heap} {a : Addr} {x y : List It} (hx : IsNest prog w h x a) (hy : IsNest prog w h y a) : x = y := by
  obtain ⟨o, items, n, ho, _, hd, hi⟩ := hx
  obtain ⟨o', items', n', ho', _, hd', hi'⟩ := hy
  obtain rfl : o = o' := Option.some.inj (ho.symm.trans ho')
  rw [hd] at hd'
  injection hd' with h1 _
  subst h1
  exact hi.inj hi'
theorem ItIs.keeps {h h' : Heap} {k : It} {v : Value} {d : Addr} {o : Obj} {es ep} (x : ItIs prog w h k v) (ho : h.get? d = some o) (hd : o.data = .dict es ep) (hs : Heap.SameBut d h h') : ItIs prog w h' k v := by
  cases k with
  | tx z => exact x
  | ns l =>
    obtain ⟨a, rfl, hx⟩ := x
    exact ⟨a, rfl, hx.keeps ho hd hs⟩
theorem ItsAre.keeps {h h' : Heap} {ks : List It} {vs : List Value} {d : Addr} {o : Obj} {es ep} (x : ItsAre prog w h ks vs) (ho : h.get? d = some o) (hd : o.data = .dict es ep) (hs : Heap.SameBut d h h') : ItsAre prog w h' ks vs := by
  induction x with
  | nil => exact .nil
  | cons h1 _ ih => exact .cons (h1.keeps ho hd hs) ih
theorem IsNest.keeps {h h' : Heap} {ks : List It} {a d : Addr} {o : Obj} {es ep} (x : IsNest prog w h ks a) (ho : h.get? d = some o) (hd : o.data = .dict es ep) (hs : Heap.SameBut d h h') : IsNest prog w h' ks a := by
  obtain ⟨o', items, n, ho', hc, hd', hi⟩ := x
  have hne : a ≠ d := by
    rintro rfl
    obtain rfl : o' = o := Option.some.inj (ho'.symm.trans ho)
    rw [hd] at hd'; exact nomatch hd'
  exact ⟨o', items, n, (hs.2 a hne).trans ho', hc, hd', hi.keeps ho hd hs⟩
def itHash (prog : Program) (w : World) : It → Int
  | .tx z => (strKind prog w).hash z
  | .ns l => tupleKeyHash (intKind prog w) l
def itDraws : It → Nat
  | .tx _ => 1
  | .ns l => l.length + 1
def nestHash (prog : Program) (w : World) (ks : List It) : Int := reduceHash (Builtin.Tuple.tupleHashOf (ks.map (itHash prog w)))
def nestDraws (ks : List It) : Nat := (ks.map itDraws).sum + 1
theorem it_pyHash {k : It} {v : Value} {Q : Int → Shared → Prop} (hu : A.units < cLine) (hk : ItIs prog w s.heap k v) (h : Q (itHash prog w k) { s with toks := s.toks + itDraws k }) : wpAny (model prog w) A (pyHash v) Q E s := by
  cases k with
  | tx z => exact (strKind prog w).pyHash hk h
  | ns l =>
    obtain ⟨a, rfl, hx⟩ := hk
    exact wpAny_pyHash_tuple hu hx h
theorem wp_hash {ks : List It} {a : Addr} {Q : Int → Shared → Prop} (hu : A.units < cLine ∧ A.in1.units < cLine) (hk : IsNest prog w s.heap ks a) (h : Q (nestHash prog w ks) { s with toks := s.toks + nestDraws ks }) :
    wpAny (model prog w) A (pyHash (.ref a)) Q E s := by
  have hT := hk.typeIs
  obtain ⟨o, items, n, ho, _, hd, hi⟩ := hk
  unfold pyHash
  first | unfold pyHashByItsType | skip
  first | refine wpAny_bind (wpAny_cRoomFor_or (.inr hu.1) ?_) | skip
  refine wpAny_bind (wpAny_specialOf hT F.slot_tuple_hash.lookup ?_)
  show wpAny _ _ (if (some (Value.builtin "tuple.__hash__") == some Value.none) = true then _ else _) Q E s
  rw [if_neg (by rw [beq_builtin_none]; exact Bool.false_ne_true)]
  refine wpAny_bind (wpAny_specialOf hT F.slot_tuple_hash.lookup ?_)
  show wpAny _ _ (callSpecialIfBoundUnlessNone? (.ref a) "__hash__" _ >>= _) Q E s
  refine wpAny_bind (wpAny_callSpecialIfBoundUnlessNone?_slot hT F.slot_tuple_hash (wpAny_call_entry F.slot_tuple_hash hT F.entry_tuple_hash ?_ (F.args_tuple_hash_1 _)))
  show wpAny _ _ (Builtin.Tuple.tupleItemsOf (.ref a) >>= _) _ _ s
  refine wpAny_bind (wpAny_tupleItemsOf ho hd ?_)
  refine wpAny_bind ?_
  rw [← Array.forIn_toList]
  refine wpAny_forIn_list _
    (fun rest (b : Array Int) s' => ∃ done left, ks = done ++ left ∧ ItsAre prog w s.heap left rest ∧ b.toList = done.map (itHash prog w) ∧ s' = { s with toks := s.toks + (done.map itDraws).sum })
    _ ?_ ?_ _ _ ⟨[], ks, rfl, hi, rfl, rfl⟩
  · rintro x rest b s' ⟨done, left, rfl, hl, hb, rfl⟩
    cases hl with
    | @cons k _ ks' _ h1 hl' =>
      refine wpAny_bind (it_pyHash hu.2 h1 ?_)
      first
        | exact wpAny_pure ⟨done ++ [k], ks', by simp, hl', by simp [hb], by simp [Nat.add_assoc]⟩
        | exact wpAny_bind (wpAny_pure (wpAny_pure ⟨done ++ [k], ks', by simp, hl', by simp [hb], by simp [Nat.add_assoc]⟩))
  · rintro b s' ⟨done, left, rfl, hl, hb, rfl⟩
    cases hl
    rw [List.append_nil] at h
    show wpAny _ _ (retInt (Builtin.Tuple.tupleHashOf b.toList)) _ _ _
    rw [hb]
    refine wpAny_ret_mkInt ?_
    show wpAny _ _ (if (decide (-(2 : Int) ^ 63 ≤ Builtin.Tuple.tupleHashOf (done.map (itHash prog w))) && decide (Builtin.Tuple.tupleHashOf (done.map (itHash prog w)) < 2 ^ 63)) = true then _ else _) Q E _
    unfold nestHash reduceHash at h
    unfold nestDraws at h
    by_cases hr : (decide (-(2 : Int) ^ 63 ≤ Builtin.Tuple.tupleHashOf (done.map (itHash prog w))) && decide (Builtin.Tuple.tupleHashOf (done.map (itHash prog w)) < 2 ^ 63)) = true
    · rw [if_pos hr]
      rw [if_pos hr] at h
      exact wpAny_pure (by simpa [Nat.add_assoc] using h)
    · rw [if_neg hr]
      rw [if_neg hr] at h
      exact wpAny_bind (wpAny_rule (wpAny_pure (by simpa [Nat.add_assoc] using h)))
theorem it_eq {x y : It} {u v : Value} {Q : Bool → Shared → Prop} (hu : A.units < cLine) (hx : ItIs prog w s.heap x u) (hy : ItIs prog w s.heap y v) (hk : (∃ z, x = .tx z) ↔ (∃ z, y = .tx z)) (h : Q (decide (x = y)) s) : wpAny (model prog w) A (eqBool u v) Q E s := by
  cases x with
  | tx z =>
    obtain ⟨z', rfl⟩ := hk.mp ⟨_, rfl⟩
    refine (strKind prog w).eqBool (a := z) (b := z') hx hy ?_
    simpa using h
  | ns l =>
    cases y with
    | tx z =>
      obtain ⟨_, e⟩ := hk.mpr ⟨_, rfl⟩
      cases e
    | ns l' =>
      obtain ⟨a, rfl, hx⟩ := hx
      obtain ⟨b, rfl, hy⟩ := hy
      refine wpAny_eqBool_tuple hu hx hy ?_
      simpa using h
/-- item by item of one kind, as far as both reach -/
inductive Alike : List It → List It → Prop
  | nil {y : List It} : Alike [] y
  | nil' {x : List It} : Alike x []
  | cons {a b : It} {x y : List It} : ((∃ z, a = .tx z) ↔ (∃ z, b = .tx z)) → Alike x y → Alike (a :: x) (b :: y)
theorem eq_tree {x y : List It} {a b : Addr} {P : Fin → Shared → Prop} (hu : A.units < cLine) (al : Alike x y) (hx : IsNest prog w s.heap x a) (hy : IsNest prog w s.heap y b) (h : P (.done (.ret (.bool (decide (x = y))))) s) :
    wpAny (model prog w) A (Builtin.«tuple.__eq__» ⟨[.ref a, .ref b], []⟩) P E s := by
  have hTb := hy.typeIs
  obtain ⟨oa, xs, na, hoa, _, hda, hia⟩ := hx
  obtain ⟨ob, ys, nb, hob, _, hdb, hib⟩ := hy
  show wpAny _ _ (isInstance (.ref b) (.type "tuple") >>= _) _ _ s
  refine wpAny_bind (wpAny_isInstance hTb isSubtype_tuple_tuple ?_)
  simp only [Bool.not_true, Bool.false_eq_true, if_false]
  refine wpAny_bind (wpAny_tupleItemsOf hoa hda ?_)
  refine wpAny_bind (wpAny_tupleItemsOf hob hdb ?_)
  refine wpAny_bind ?_
  refine wpAny_forIn_list _
    (fun rest r s' => r.1 = none ∧ s' = s ∧ ∃ x' y' xs' ys', rest = List.zip xs' ys' ∧ ItsAre prog w s.heap x' xs' ∧ ItsAre prog w s.heap y' ys' ∧ Alike x' y' ∧ decide (x' = y') = decide (x = y) ∧ (xs'.length == ys'.length) = (xs.size == ys.size))
    _ ?_ ?_ _ _ ⟨rfl, rfl, x, y, xs.toList, ys.toList, rfl, hia, hib, al, rfl, by simp⟩
  · rintro ⟨u, v⟩ rest r s' ⟨hr, rfl, x', y', xs', ys', hz, hx', hy', al', hdec, hlen⟩
    cases hx' with
    | nil => simp at hz
    | @cons k1 u' x'' xs'' h1 hx'' =>
      cases hy' with
      | nil => simp at hz
      | @cons k2 v' y'' ys'' h2 hy'' =>
        cases al' with
        | cons same al'' =>
        simp only [List.zip_cons_cons, List.cons.injEq, Prod.mk.injEq] at hz
        obtain ⟨⟨rfl, rfl⟩, rfl⟩ := hz
        refine wpAny_bind (it_eq hu h1 h2 same ?_)
        by_cases hk : k1 = k2
        · subst hk
          rw [decide_eq_true rfl]
          simp only [Bool.not_true, Bool.false_eq_true, if_false]
          refine wpAny_pure ⟨rfl, rfl, x'', y'', xs'', ys'', rfl, hx'', hy'', al'', ?_, by simpa using hlen⟩
          rw [← hdec]
          by_cases hxy : x'' = y'' <;> simp [hxy]
        · rw [decide_eq_false hk]
          simp only [Bool.not_false, if_true]
          have hf : decide (x = y) = false := by rw [← hdec]; simp [hk]
          rw [hf] at h
          exact wpAny_bind (wpAny_pure (wpAny_pure (wpAny_pure h)))
  · rintro ⟨r1, r2⟩ s' ⟨hr, rfl, x', y', xs', ys', hz, hx', hy', al', hdec, hlen⟩
    simp only at hr
    subst hr
    refine wpAny_pure ?_
    have hfin : (xs.size == ys.size) = decide (x = y) := by
      rw [← hdec, ← hlen]
      cases hx' with
      | nil =>
        cases hy' with
        | nil => simp
        | cons _ _ => simp
      | cons _ _ =>
        cases hy' with
        | nil => simp
        | cons _ _ => simp at hz
    show P (.done (.ret (.bool (xs.size == ys.size)))) s'
    rw [hfin]; exact h
theorem wp_eq {x y : List It} {a b : Addr} {Q : Bool → Shared → Prop} (hu : A.units < cLine ∧ A.in1.units < cLine) (al : Alike x y) (hx : IsNest prog w s.heap x a) (hy : IsNest prog w s.heap y b) (h : Q (decide (x = y)) s) :
    wpAny (model prog w) A (eqBool (.ref a) (.ref b)) Q E s := by
  unfold eqBool
  try with_reducible refine wpAny_holding ?_
  show wpAny _ _ (if (Value.ref a == Value.ref b) = true then _ else _) Q E s
  by_cases hab : (Value.ref a == Value.ref b) = true
  · rw [if_pos hab]
    have e : a = b := by have := eq_of_beq hab; injection this
    subst e
    obtain rfl := hx.inj hy
    exact wpAny_bind (wpAny_rule (wpAny_pure (by simpa using h)))
  · rw [if_neg hab]
    exact wpAny_bind (wpAny_richCompare_same_room (op := .Eq) hx.typeIs hy.typeIs F.slot_tuple_eq
      (wpAny_call_entry F.slot_tuple_eq hx.typeIs F.entry_tuple_eq (eq_tree hu.2 al hx hy ⟨_, rfl, (fun e => nomatch e), wpAny_truthy_bool h⟩) (F.args_tuple_eq_2 _ _)) hu.1)
theorem quiet_tup {K : Type} [DecidableEq K] {knd : KeyKind prog w K} {ks : List K} {a : Addr} {m : Nat} {Q : Bool → Shared → Prop} (hk : IsTupleKey knd s.heap ks a) (h : Q true s) : wpAny (model prog w) A (eqIsQuiet (m + 1) (.ref a)) Q E s := by
  have hT := hk.typeIs
  obtain ⟨o, items, n, ho, _, hd, hi⟩ := hk
  unfold eqIsQuiet
  refine wpAny_bind (wpAny_specialOf hT F.slot_tuple_eq.lookup ?_)
  show wpAny _ _ (isInstance (.ref a) (.type "tuple") >>= _) _ _ s
  refine wpAny_bind (wpAny_isInstance hT isSubtype_tuple_tuple ?_)
  simp only [Bool.not_true, Bool.false_eq_true, if_false]
  refine wpAny_bind (wpAny_seqItems ho hd ?_)
  refine wpAny_bind ?_
  show wpAny _ _ (forIn items _ _) _ _ s
  rw [← Array.forIn_toList]
  refine wpAny_forIn_list _ (fun rest r s' => r.1 = none ∧ s' = s ∧ ∀ v ∈ rest, carriedByValue v = true) _ ?_ ?_ _ _ ⟨rfl, rfl, hi.byValue⟩
  · rintro v rest r s' ⟨hr, rfl, hall⟩
    rw [eqIsQuiet_byValue _ (hall v List.mem_cons_self)]
    refine wpAny_bind (wpAny_pure ?_)
    simp only [Bool.not_true, Bool.false_eq_true, if_false]
    exact wpAny_pure ⟨rfl, rfl, fun u hu' => hall u (List.mem_cons_of_mem _ hu')⟩
  · rintro ⟨r1, r2⟩ s' ⟨hr, rfl, _⟩
    simp only at hr
    subst hr
    exact wpAny_pure h
theorem wp_quiet {ks : List It} {a : Addr} {Q : Bool → Shared → Prop} (hk : IsNest prog w s.heap ks a) (h : Q true s) : wpAny (model prog w) A (eqIsQuiet 8 (.ref a)) Q E s := by
  have hT := hk.typeIs
  obtain ⟨o, items, n, ho, _, hd, hi⟩ := hk
  unfold eqIsQuiet
  refine wpAny_bind (wpAny_specialOf hT F.slot_tuple_eq.lookup ?_)
  show wpAny _ _ (isInstance (.ref a) (.type "tuple") >>= _) _ _ s
  refine wpAny_bind (wpAny_isInstance hT isSubtype_tuple_tuple ?_)
  simp only [Bool.not_true, Bool.false_eq_true, if_false]
  refine wpAny_bind (wpAny_seqItems ho hd ?_)
  refine wpAny_bind ?_
  show wpAny _ _ (forIn items _ _) _ _ s
  rw [← Array.forIn_toList]
  refine wpAny_forIn_list _ (fun rest r s' => r.1 = none ∧ s' = s ∧ ∃ left, ItsAre prog w s.heap left rest) _ ?_ ?_ _ _ ⟨rfl, rfl, ks, hi⟩
  · rintro v rest r s' ⟨hr, rfl, left, hl⟩
    cases hl with
    | @cons k _ ks' _ h1 hl' =>
      have go : ∀ {Q' : Bool → Shared → Prop}, Q' true s' → wpAny (model prog w) A (eqIsQuiet 7 v) Q' E s' := fun {Q'} q => by
        cases k with
        | tx z =>
          rw [eqIsQuiet_byValue _ ((strKind prog w).byValue _ _ h1)]
          exact wpAny_pure q
        | ns l =>
          obtain ⟨b, rfl, hb⟩ := h1
          exact quiet_tup hb q
      refine wpAny_bind (go ?_)
      simp only [Bool.not_true, Bool.false_eq_true, if_false]
      exact wpAny_pure ⟨rfl, rfl, ks', hl'⟩
  · rintro ⟨r1, r2⟩ s' ⟨hr, rfl, _⟩
    simp only at hr
    subst hr
    exact wpAny_pure h
/-- a key: a text and a tuple of ints -/
def frontKind (prog : Program) (w : World) : HeapKind prog w (Str × List Int) where
  is := fun h k a => IsNest prog w h [.tx k.1, .ns k.2] a
  hash := fun k => nestHash prog w [.tx k.1, .ns k.2]
  draws := fun k => nestDraws [.tx k.1, .ns k.2]
  room := fun A => A.units < cLine ∧ A.in1.units < cLine
  inj := fun {h a x y} hx hy => by
    have e := hx.inj hy
    injection e with e1 e2
    injection e1 with e1
    injection e2 with e2 _
    injection e2 with e2
    exact Prod.ext e1 e2
  keeps := fun x ho hd hs => x.keeps ho hd hs
  pyHash := fun hu hk h => wp_hash hu hk h
  eqBool := fun {A E s x y a b Q} hu hx hy h => by
    refine wp_eq hu (.cons ⟨fun _ => ⟨_, rfl⟩, fun _ => ⟨_, rfl⟩⟩ (.cons ⟨fun ⟨_, e⟩ => (nomatch e), fun ⟨_, e⟩ => (nomatch e)⟩ .nil)) hx hy ?_
    have e : decide ([It.tx x.1, It.ns x.2] = [It.tx y.1, It.ns y.2]) = decide (x = y) := decide_eq_decide.mpr ⟨fun e => by
      injection e with e1 e2
      injection e1 with e1
      injection e2 with e2 _
      injection e2 with e2
      exact Prod.ext e1 e2, fun e => by rw [e]⟩
    rw [e]
    exact h
  quiet := fun hk h => wp_quiet hk h
end
end PySem.Nk
/-! Dicts whose keys are pairs of a text and a tuple of ints, as tracked things. -/
namespace G
open PySem PySem.Spec PyProof.Rows L2
abbrev FK := Str × List Int
/-- the tuple at a is the key k -/
def KeyAt (K : PySem.W.Frag) (H : Hp) (k : FK) (a : Addr) : Prop := ∃ b, SqT K H a [.str k.1, .ref b] ∧ SqT K H b (k.2.map V.int)
theorem ints_are {P : Program} {w : World} : ∀ {ds : List Int} {vs : List Value}, Vals (ds.map V.int) vs → ItemsAre (intKind P w) ds vs
  | [], _, h => by cases h; exact .nil
  | d :: r, _, h => by
    cases h with
    | cons r1 t =>
      obtain ⟨tk, rfl⟩ := r1
      exact .cons (intKind_is P w d tk) (ints_are t)
theorem key_of {X : Cx} {pins : List (Addr × Obj)} {σ : L2.St} {H : Hp} {s : Shared} {k : FK} {a : Addr} (I : Inv X pins σ H s) (x : KeyAt X.K H k a) : (Nk.frontKind X.prog X.w).is s.heap k a := by
  obtain ⟨b, ha, hb⟩ := x
  obtain ⟨ia, va, ta, _⟩ := I.tuple ha
  obtain ⟨ib, vb, tb, _⟩ := I.tuple hb
  cases va with
  | cons r1 va =>
    cases va with
    | cons r2 va =>
      cases va
      obtain ⟨tk, rfl⟩ := r1
      cases r2
      obtain ⟨oa, ga, ca, na, da⟩ := ta
      obtain ⟨ob, gb, cb, nb, db⟩ := tb
      exact ⟨oa, _, na, ga, ca, da, .cons (strKind_is _ _ _ _) (.cons ⟨b, rfl, ob, _, nb, gb, cb, db, ints_are vb⟩ .nil)⟩
/-- one entry: the key, where its tuple stands, the value -/
abbrev FE := FK × Addr × V
/-- the dict at a -/
def FD (P : Program) (w : World) (a : Addr) (es : List FE) : HO := .ext fun h => (a == sysModules) = false ∧ es.length ≤ sizeLine ∧ ∃ xs : List (FK × Addr × Value), Paired (fun (p : FE) (q : FK × Addr × Value) => p.1 = q.1 ∧ p.2.1 = q.2.1 ∧ RelV p.2.2 q.2.2) es xs ∧
  ∃ o ds ep, h.get? a = some o ∧ o.ExactDict ∧ o.data = .dict ds ep ∧ ds.toList = xs.map (entryOfKey (Nk.frontKind P w)) ∧ (xs.map (·.1)).Nodup
/-- the keys' tuples stand -/
def KeysAt (K : PySem.W.Frag) (H : Hp) (es : List FE) : Prop := ∀ e ∈ es, KeyAt K H e.1 e.2.1
theorem fd_new {P : Program} {w : World} {H : Hp} {h : Heap} {a : Addr} {es : List FE} {xs : List (FK × Addr × Value)} (hm : (a == sysModules) = false) (hl : es.length ≤ sizeLine) (pr : Paired (fun (p : FE) (q : FK × Addr × Value) => p.1 = q.1 ∧ p.2.1 = q.2.1 ∧ RelV p.2.2 q.2.2) es xs)
    (R : h.DictOfH (Nk.frontKind P w) a xs) : ObjOk P w H h a (FD P w a es) := by
  obtain ⟨o, ds, ep, ho, hc, hd, he, _, hn⟩ := R
  refine ⟨⟨hm, hl, xs, pr, o, ds, ep, ho, hc, hd, he, hn⟩, ⟨o, ho⟩, fun h1 h2 p k => ?_⟩
  obtain ⟨hm, hl, xs, pr, o, ds, ep, ho, r⟩ := p
  exact ⟨hm, hl, xs, pr, o, ds, ep, k o ho, r⟩
theorem paired_mem {α β : Type} {F : α → β → Prop} : ∀ {as : List α} {bs : List β}, Paired F as bs → ∀ b ∈ bs, ∃ a ∈ as, F a b
  | _, _, .nil, _, h => (List.not_mem_nil h).elim
  | _, _, .cons f t, b, h => by
    rcases List.mem_cons.mp h with rfl | h
    · exact ⟨_, List.mem_cons_self, f⟩
    · obtain ⟨a, ha, fa⟩ := paired_mem t b h
      exact ⟨a, List.mem_cons_of_mem _ ha, fa⟩
theorem fd_get {X : Cx} {pins : List (Addr × Obj)} {σ : L2.St} {H : Hp} {s : Shared} {a : Addr} {es : List FE} (I : Inv X pins σ H s) (ha : H a = some (FD X.prog X.w a es)) (ks : KeysAt X.K H es) : (a == sysModules) = false ∧ es.length ≤ sizeLine ∧
    ∃ xs : List (FK × Addr × Value), Paired (fun (p : FE) (q : FK × Addr × Value) => p.1 = q.1 ∧ p.2.1 = q.2.1 ∧ RelV p.2.2 q.2.2) es xs ∧ s.heap.DictOfH (Nk.frontKind X.prog X.w) a xs := by
  obtain ⟨⟨hm, hl, xs, pr, o, ds, ep, ho, hc, hd, he, hn⟩, _⟩ := I.hok a _ ha
  refine ⟨hm, hl, xs, pr, o, ds, ep, ho, hc, hd, he, fun x hx => ?_, hn⟩
  obtain ⟨e, hem, e1, e2, _⟩ := paired_mem pr x hx
  have := key_of I (ks e hem)
  rw [e1, e2] at this
  exact this
/-- what the dict holds under a key -/
def lookF (es : List FE) (k : FK) : Option V := (es.find? fun e => decide (e.1 = k)).map (·.2.2)
theorem look_at {k : FK} : ∀ {es : List FE} {xs : List (FK × Addr × Value)}, Paired (fun (p : FE) (q : FK × Addr × Value) => p.1 = q.1 ∧ p.2.1 = q.2.1 ∧ RelV p.2.2 q.2.2) es xs →
    (lookF es k = none ∧ atKey xs k = none) ∨ ∃ v a u, lookF es k = some v ∧ atKey xs k = some (a, u) ∧ RelV v u
  | [], _, h => by cases h; exact .inl ⟨rfl, rfl⟩
  | e :: r, _, h => by
    cases h with
    | @cons _ q _ ys h1 t =>
      obtain ⟨e1, e2, e3⟩ := h1
      by_cases hk : e.1 = k
      · refine .inr ⟨e.2.2, q.2.1, q.2.2, ?_, ?_, e3⟩
        · unfold lookF
          rw [List.find?_cons_of_pos (by simpa using hk)]
          rfl
        · unfold atKey
          rw [List.find?_cons_of_pos (by rw [← e1]; simpa using hk)]
          rfl
      · have ih := look_at (k := k) t
        unfold lookF atKey at ih ⊢
        rw [List.find?_cons_of_neg (by simpa using hk), List.find?_cons_of_neg (by rw [← e1]; simpa using hk)]
        exact ih
theorem front_room {P : Program} {w : World} {A : Around} (hu : A.units + 64 < cLine) : (Nk.frontKind P w).room A.in1 := by
  have e1 : A.in1.units = A.units + 1 := rfl
  have e2 : A.in1.in1.units = A.units + 2 := rfl
  exact ⟨by omega, by omega⟩
section
variable {X : Cx}
def rFIn (K : PySem.W.Frag) (P : Program) (w : World) (neg : Bool) : V → V → Hp → VK → Prop := fun x y H Q => ∃ (t d : Addr) (k : FK) (es : List FE), x = .ref t ∧ y = .ref d ∧ KeyAt K H k t ∧ H d = some (FD P w d es) ∧ KeysAt K H es ∧ Q (.bl (if neg then !(lookF es k).isSome else (lookF es k).isSome)) H
theorem or_fin (hu : X.A.units + 64 < cLine) : OpR X (compareOp .In) (rFIn X.K X.prog X.w false) := by
  intro pins s σ H x y v u Q I rx ry h
  obtain ⟨t, d, k, es, rfl, rfl, hk, hd, ks, q⟩ := h
  cases rx
  cases ry
  obtain ⟨hm, hl, xs, pr, R⟩ := fd_get I hd ks
  refine wpAny_in_heap (knd := Nk.frontKind X.prog X.w) ?_ (key_of I hk) hm R ?_
  · exact front_room hu
  · have e : (atKey xs k).isSome = (lookF es k).isSome := by
      rcases look_at (k := k) pr with ⟨a, b⟩ | ⟨_, _, _, a, b, _⟩ <;> rw [a, b] <;> rfl
    rw [e]
    exact ⟨.bl _, H, I.tok _, rfl, q⟩
theorem or_fnotin (hu : X.A.units + 64 < cLine) : OpR X (compareOp .NotIn) (rFIn X.K X.prog X.w true) := by
  intro pins s σ H x y v u Q I rx ry h
  obtain ⟨t, d, k, es, rfl, rfl, hk, hd, ks, q⟩ := h
  cases rx
  cases ry
  obtain ⟨hm, hl, xs, pr, R⟩ := fd_get I hd ks
  refine wpAny_notIn_heap (knd := Nk.frontKind X.prog X.w) (front_room hu) (key_of I hk) hm R ?_
  have e : (atKey xs k).isSome = (lookF es k).isSome := by
    rcases look_at (k := k) pr with ⟨a, b⟩ | ⟨_, _, _, a, b, _⟩ <;> rw [a, b] <;> rfl
  rw [e]
  exact ⟨.bl _, H, I.tok _, rfl, q⟩
/-- d[k] -/
def rFGet (K : PySem.W.Frag) (P : Program) (w : World) : R2 := fun x y H Q => ∃ (d t : Addr) (k : FK) (es : List FE) (v : V), x = .ref d ∧ y = .ref t ∧ KeyAt K H k t ∧ H d = some (FD P w d es) ∧ KeysAt K H es ∧ lookF es k = some v ∧ Q v H
/-- d[k] = v -/
def storeF (es : List FE) (k : FK) (a : Addr) (v : V) : List FE := if (lookF es k).isSome = true then es.map (fun e => if e.1 = k then (e.1, e.2.1, v) else e) else es ++ [(k, a, v)]
theorem put_pair {k : FK} {t : Addr} {v : V} {u : Value} (rv : RelV v u) {es : List FE} {xs : List (FK × Addr × Value)} (pr : Paired (fun (p : FE) (q : FK × Addr × Value) => p.1 = q.1 ∧ p.2.1 = q.2.1 ∧ RelV p.2.2 q.2.2) es xs) :
    Paired (fun (p : FE) (q : FK × Addr × Value) => p.1 = q.1 ∧ p.2.1 = q.2.1 ∧ RelV p.2.2 q.2.2) (storeF es k t v) (storedH xs k t u) := by
  have e : (atKey xs k).isSome = (lookF es k).isSome := by
    rcases look_at (k := k) pr with ⟨a, b⟩ | ⟨_, _, _, a, b, _⟩ <;> rw [a, b] <;> rfl
  unfold storeF storedH
  rw [e]
  cases (lookF es k).isSome with
  | false =>
    simp only [Bool.false_eq_true, if_false]
    clear e
    induction pr with
    | nil => exact .cons ⟨rfl, rfl, rv⟩ .nil
    | cons h _ ih => exact .cons h ih
  | true =>
    simp only [if_true]
    clear e
    induction pr with
    | nil => exact .nil
    | @cons p q _ _ h _ ih =>
      refine .cons ?_ ih
      obtain ⟨h1, h2, h3⟩ := h
      unfold putAt
      dsimp only
      rw [← h1]
      by_cases hk : p.1 = k
      · rw [if_pos hk, if_pos hk]
        exact ⟨rfl, h2, rv⟩
      · rw [if_neg hk, if_neg hk]
        exact ⟨h1, h2, h3⟩
def rFPut (K : PySem.W.Frag) (P : Program) (w : World) : TSet := fun o i v H Q => ∃ (d t : Addr) (k : FK) (es : List FE), o = .ref d ∧ i = .ref t ∧ KeyAt K H k t ∧ H d = some (FD P w d es) ∧ KeysAt K H es ∧ es.length < sizeLine ∧ Q (upd H d (FD P w d (storeF es k t v)))
theorem storeF_len {es : List FE} {k : FK} {t : Addr} {v : V} : (storeF es k t v).length ≤ es.length + 1 := by
  unfold storeF
  split
  · rw [List.length_map]
    omega
  · rw [List.length_append]
    exact Nat.le_refl _
theorem set_fd (hu : X.A.units + 64 < cLine) : PSet X (rFPut X.K X.prog X.w) := by
  intro pins s σ H o i v ov iv u Q I ro ri rv h
  obtain ⟨d, t, k, es, rfl, rfl, hk, hd, ks, hl, q⟩ := h
  cases ro
  cases ri
  obtain ⟨hm, hz, xs, pr, R⟩ := fd_get I hd ks
  have hz' : xs.length ≤ sizeLine := by rw [← Paired.length pr]; exact hz
  refine wpAny_setItem_heap (hsz := hz') (knd := Nk.frontKind X.prog X.w) (front_room hu) (key_of I hk) R fun h' R' hs => ?_
  have he : ∃ q, h'.get? d = some q := let ⟨q, _, _, hq, _⟩ := R'; ⟨q, hq⟩
  exact ⟨_, d_write I (by rw [hd]; exact True.intro) hs he (fd_new hm (Nat.le_trans storeF_len hl) (put_pair rv pr) R'), q⟩
theorem ix_fd (hu : X.A.units + 64 < cLine) : IxR X (rFGet X.K X.prog X.w) := by
  intro value slice pins s σ H x y v u Q I rx ry h hs
  obtain ⟨d, t, k, es, z, rfl, rfl, hk, hd, ks, hl, q⟩ := h
  cases rx
  cases ry
  obtain ⟨hm, hz, xs, pr, R⟩ := fd_get I hd ks
  rcases look_at (k := k) pr with ⟨a, b⟩ | ⟨z', p, r, a, b, rv⟩
  · rw [hl] at a
    cases a
  · rw [hl] at a
    cases a
    exact subscriptTail_builtinR (x := r) R.typeIs PySem.F.slot_dict_getitem.lookup
      (wpAny_getItem_heap (knd := Nk.frontKind X.prog X.w) (Q := fun r' s' => r' = r ∧ EP X pins σ Q r' s') (front_room hu) (key_of I hk) R b ⟨rfl, z, H, I.tok _, rv, q⟩) hs
/-- len(d) -/
theorem meets_len {prog : Program} {w : World} (d : Addr) (hd : (d == sysModules) = false) : MeetsIn prog w (Builtin.«dict.__len__» ⟨[.ref d], []⟩) (fun _ R s => ∃ xs : List (FK × Addr × Value), s.heap.DictOfH (Nk.frontKind prog w) d xs ∧ R (.ok (.ret (.int xs.length s.toks))) { s with toks := s.toks + 1 }) :=
  .of_wp fun A R s ⟨xs, hm, h⟩ => by
    obtain ⟨o, es, ep, ho, hc, hdat, he, _, hn⟩ := hm
    show wpAny _ _ (dictSize d >>= _) _ _ s
    unfold dictSize
    refine wpAny_bind (wpAny_bind (wpAny_dictEntries ho hdat (wpAny_pure ?_)))
    show wpAny _ _ (Builtin.Dict.pendingCount d >>= _) _ _ s
    refine wpAny_bind (wpAny_pendingCount_other hd ?_)
    refine wpAny_ret_mkInt ?_
    have : es.size = xs.length := by
      have h2 := congrArg List.length he
      rw [List.length_map] at h2
      simpa using h2
    rw [Nat.add_zero, this]
    exact h
theorem len_body {prog : Program} {w : World} {A : Around} {E : Value → Shared → Prop} {s : Shared} {d : Addr} {xs : List (FK × Addr × Value)} {Q : Value → Shared → Prop} (hd : (d == sysModules) = false) (hm : s.heap.DictOfH (Nk.frontKind prog w) d xs) (hfit : (xs.length : Int) < 2 ^ 63)
    (h : Q (.int xs.length (s.toks + 1)) { s with toks := s.toks + 1 + 1 }) : wpAny (model prog w) A (Builtin.«len» ⟨[.ref d], []⟩) (fun fin s' => ∃ r, fin = .done (.ret r) ∧ Q r s') E s := by
  unfold Builtin.«len»
  refine wpAny_bind (m := oneArg "len" _) (wpAny_pure ?_)
  refine wpAny_bind (m := callSpecial? (.ref d) (Str.ofString "__len__")) (wpAny_callSpecial?_slot (name := Str.ofString "__len__") hm.typeIs F.slot_dict_len
    (call_meetsIn F.slot_dict_len hm.typeIs F.entry_dict_len (F.args_dict_len_1 _) (meets_len d hd) ⟨xs, hm, ?_⟩))
  show wpAny _ _ _ _ _ { s with toks := s.toks + 1 }
  refine wpAny_bind (wpAny_holding (wpAny_pure ?_))
  refine wpAny_bind (wpAny_letGo ?_)
  show wpAny _ _ (if ((xs.length : Nat) : Int) < 0 then _ else _) _ _ _
  rw [if_neg (by omega)]
  show wpAny _ _ (if ((xs.length : Nat) : Int) ≥ 2 ^ 63 then _ else _) _ _ _
  rw [if_neg (by omega)]
  exact wpAny_bind (wpAny_mkInt (wpAny_pure ⟨_, rfl, h⟩))
theorem call_lenFD : CallR X (.builtin "len") (fun xs H Q => ∃ (d : Addr) (es : List FE), xs = [V.ref d] ∧ H d = some (FD X.prog X.w d es) ∧ KeysAt X.K H es ∧ Q (.int (es.length : Int)) H) := by
  intro pins s σ H xs us Q I rs h
  obtain ⟨d, es, rfl, hd, ks, q⟩ := h
  obtain ⟨u, rfl, ru⟩ := vals1 rs
  cases ru
  obtain ⟨hm, hl, ys, pr, R⟩ := fd_get I hd ks
  have el := Paired.length pr
  have hs := sizeLine_eq
  refine Calls.call_function_entry kind_len plain_len entry_len (args_len1 _) (len_body hm R (by omega) ?_)
  exact ⟨.int es.length, H, I.tok _, ⟨_, by rw [← el]⟩, q⟩
end
end G
/-! Dicts of front keys, further: a display with one pair, list(d), sorted(a list of such keys). -/
namespace G
open PySem PySem.Spec PyProof.Rows L2
section
variable {X : Cx}
/-- {k: v} -/
def tDispF (K : PySem.W.Frag) (P : Program) (w : World) (tk tv : TE) : TE := fun σ H Q => ∀ p, H p = none → tk σ (upd H p (FD P w p [])) fun x H1 => tv σ H1 fun y H2 => ∃ (t : Addr) (k : FK), x = .ref t ∧ KeyAt K H2 k t ∧ H2 p = some (FD P w p []) ∧ Q (.ref p) (upd H2 p (FD P w p [(k, t, y)]))
theorem pe_dispF {pos : Pos} {k v : Expr} {tk tv : TE} (hu : X.A.units + 64 < cLine) (hk : PE X k tk) (hv : PE X v tv) : PE X (.Dict [some k] [v] pos) (tDispF X.K X.prog X.w tk tv) := by
  refine ⟨fun pins s σ H Q I q => ?_⟩
  have hn := I.hok.fresh (Nat.le_refl s.heap.objs.size)
  have hm : (s.heap.objs.size == sysModules) = false := beq_eq_false_iff_ne.mpr (Ne.symm (Nat.ne_of_lt I.big))
  have new0 : ObjOk X.prog X.w H (s.heap.push { cls := .type "dict", data := .dict #[] }) s.heap.objs.size (FD X.prog X.w s.heap.objs.size []) := fd_new hm (Nat.zero_le _) .nil (Heap.DictOfH.new s.heap)
  have I1 := I.laid (a := s.heap.objs.size) (o := FD X.prog X.w s.heap.objs.size []) (h' := s.heap.push { cls := .type "dict", data := .dict #[] }) (t' := s.toks) (fun _ _ q => Heap.get?_push_of_some _ q) (Nat.le_refl _) new0
  have room : (Nk.frontKind X.prog X.w).room X.A := by
    have e1 : X.A.in1.units = X.A.units + 1 := rfl
    exact ⟨by omega, by omega⟩
  have hz := zip_pairTrees [some k] [v] X.env pos rfl rfl
  rw [arm_eval_Dict, hz, dictDisplay_pairs (pairTrees [some k] [v] X.env pos) (by intro e; cases e) (by show 1 < 17; decide)]
  refine wpAny_bind (wpAny_standAt (wpAny_bind (wpAny_subDictH (knd := Nk.frontKind X.prog X.w) (Q := fun d s' => wpAny (model X.prog X.w) X.A (pure (Value.ref d)) (EP X pins σ Q) X.xe s') room (by show 1 ≤ 15; decide) ?_)))
  refine pairTrees_cons_walk (thn (hk.run pins _ σ _ _ I1 (q _ hn)) fun u s1 ⟨x, H1, I2, rx, q1⟩ => thn (hv.run pins s1 σ H1 _ I2 q1) fun u2 s2 ⟨y, H2, I3, ry, q2⟩ => pairTrees_nil_walk ?_)
  obtain ⟨t, kk, rfl, hkk, e, q3⟩ := q2
  cases rx
  have ko := key_of I3 hkk
  obtain ⟨hm2, _, xs0, pr0, R0⟩ := fd_get I3 e fun e he => (List.not_mem_nil he).elim
  cases pr0
  refine ⟨[(kk, t, u2)], ⟨rfl, rfl, ko, True.intro⟩, R0, fun h' tk dd' hs => wpAny_pure ⟨.ref s.heap.objs.size, _, ?_, rfl, q3⟩⟩
  have he : ∃ q, h'.get? s.heap.objs.size = some q := let ⟨q, _, _, hq, _⟩ := dd'; ⟨q, hq⟩
  have I4 : Inv X pins σ H2 { s2 with toks := tk } := I3.tok tk
  exact d_write (s := { s2 with toks := tk }) I4 (by rw [e]; exact True.intro) hs he (fd_new (es := [(kk, t, y)]) hm (by show 1 ≤ sizeLine; decide) (.cons ⟨rfl, rfl, ry⟩ .nil) dd')
theorem paired_at {α β : Type} {F : α → β → Prop} : ∀ {as : List α} {bs : List β}, Paired F as bs → ∀ {j : Nat} {a : α} {b : β}, as[j]? = some a → bs[j]? = some b → F a b
  | _, _, .nil, _, _, _, h, _ => by cases h
  | _, _, .cons f t, j, a, b, h, k => by
    cases j with
    | zero =>
      have e1 := Option.some.inj h
      have e2 := Option.some.inj k
      subst e1
      subst e2
      exact f
    | succ j => exact paired_at t h k
theorem refs_vals : ∀ {es : List FE} {us : List Value}, us.length = es.length → (∀ (j : Nat) (v : Value), us[j]? = some v → ∃ e, es[j]? = some e ∧ v = .ref e.2.1) → Vals (es.map fun e => V.ref e.2.1) us
  | [], [], _, _ => .nil
  | e :: r, u :: us, hl, h => by
    obtain ⟨e', h1, rfl⟩ := h 0 u rfl
    have h1' : e = e' := Option.some.inj h1
    subst h1'
    exact .cons rfl (refs_vals (Nat.succ.inj hl) fun j v hv => h (j + 1) v hv)
/-- list(d) -/
theorem call_listFD (hc : X.calm = true) : CallR X (.type "list") (fun xs H Q => ∃ (d : Addr) (es : List FE), xs = [V.ref d] ∧ H d = some (FD X.prog X.w d es) ∧ KeysAt X.K H es ∧ ∀ p, H p = none → Q (.ref p) (upd H p (.lst (es.map fun e => V.ref e.2.1)))) := by
  intro pins s σ H xs us Q I r h
  obtain ⟨d, es, rfl, hd, ks, q⟩ := h
  obtain ⟨u, rfl, ru⟩ := vals1 r
  cases ru
  obtain ⟨hm, hl, ys, pr, R⟩ := fd_get I hd ks
  obtain ⟨ds, ep, raw, sz, at'⟩ := Heap.DictOfH.raw R
  have le := Paired.length pr
  refine PySem.W.kdl_call (KdlSrc.rawDict (ep := ep) hm) (I.ok.hd hc) raw (by rw [sz, ← le]; exact hl) fun h' tk acc c' hk hD hacc => ?_
  have hv : Vals (es.map fun e => V.ref e.2.1) acc.toList := refs_vals (by rw [Array.length_toList, hacc.1, sz, ← le]) fun j v e => by
    obtain ⟨hj, ev⟩ := hacc.2 j v (by rw [← Array.getElem?_toList]; exact e)
    obtain ⟨y, h1, h2, _⟩ := at' j hj
    have lt : j < es.length := by rw [le, ← sz]; exact hj
    refine ⟨es[j], List.getElem?_eq_getElem lt, ?_⟩
    rw [ev, h2, (paired_at pr (List.getElem?_eq_getElem lt) h1).2.1]
  exact ⟨.ref s.heap.objs.size, upd H s.heap.objs.size (.lst (es.map fun e => V.ref e.2.1)), I.laid (t' := tk) hk (Nat.le_refl _)
    (show ObjOk X.prog X.w _ _ _ (.lst (es.map fun e => V.ref e.2.1)) from ⟨by rw [List.length_map]; exact hl, acc.toList, c', hv, by rw [Array.toArray_toList]; exact hD⟩), rfl, q _ (I.hok.fresh (Nat.le_refl _))⟩
end
/-! ### sorting keys -/
def dKey (k : FK) : PyData := .tuple [.str k.1, .tuple (k.2.map PyData.int)]
theorem dpA_ints {K : PySem.W.Frag} {H : Hp} : ∀ ds : List Int, DpAll K H (ds.map V.int) (ds.map PyData.int)
  | [] => .nil
  | d :: r => .cons (.int d) (dpA_ints r)
theorem dp_key {K : PySem.W.Frag} {H : Hp} {k : FK} {a : Addr} (x : KeyAt K H k a) : Dp K H (.ref a) (dKey k) := by
  obtain ⟨b, h1, h2⟩ := x
  exact .tup h1 (.cons (.str _) (.cons (.tup h2 (dpA_ints _)) .nil))
theorem alike_key (a b : FK) : PySem.W.alike (dKey a) (dKey b) = true := by
  have h := PySem.W.alike_ints a.2 b.2
  simp [dKey, PySem.W.alike, PySem.W.alikeAll, h]
theorem depth_key (k : FK) : (dKey k).depth ≤ 4 := by
  have h := PySem.W.depth_ints k.2
  simp only [dKey, PyData.depth, PyData.depthAll, h]
  omega
theorem toks_ints : ∀ {as bs : List Int}, PySem.W.keyToksAll (as.map PyData.int) = PySem.W.keyToksAll (bs.map PyData.int) → as = bs
  | [], [], _ => rfl
  | [], b :: r, h => by
    simp [PySem.W.keyToksAll, PySem.W.keyToks] at h
  | a :: r, [], h => by
    simp [PySem.W.keyToksAll, PySem.W.keyToks] at h
  | a :: r, b :: q, h => by
    simp only [List.map_cons, PySem.W.keyToksAll, PySem.W.keyToks, List.cons_append, List.nil_append, List.cons.injEq, Sum.inl.injEq, true_and] at h
    rw [h.1, toks_ints h.2]
theorem toks_key {a b : FK} (h : PySem.W.keyToks (dKey a) = PySem.W.keyToks (dKey b)) : a = b := by
  unfold dKey at h
  simp only [PySem.W.keyToksAll, PySem.W.keyToks, List.cons_append, List.nil_append, List.cons.injEq, Sum.inr.injEq, true_and] at h
  obtain ⟨h1, h2⟩ := h
  refine Prod.ext (PySem.W.str_of_cps h1) (toks_ints ?_)
  exact List.append_cancel_right h2
def leK : FK → FK → Bool := PySem.W.dataLe false dKey
/-- the keys, ascending -/
def srtK (ks : List FK) : List FK := ks.mergeSort leK
theorem leK_anti (a b : FK) (h1 : leK a b = true) (h2 : leK b a = true) : a = b := by
  refine toks_key ((PyProof.Rows.listOrd PyProof.Rows.itemOrd).total _ _ ?_ ?_)
  · simpa [leK, PySem.W.dataLe, PySem.W.sortLe] using h2
  · simpa [leK, PySem.W.dataLe, PySem.W.sortLe] using h1
theorem leK_total : PySem.W.TotalLe leK := PySem.W.sortLe_total (PyProof.Rows.listOrd PyProof.Rows.itemOrd) false fun b => PySem.W.keyToks (dKey b)
theorem srtK_perm {as bs : List FK} (h : as.Perm bs) : srtK as = srtK bs := by
  have t : ∀ x y, (leK x y || leK y x) = true := fun x y => by
    rw [Bool.or_eq_true]
    exact leK_total.total x y
  exact PySem.W.Srt.the_of_perm leK leK_total.trans t leK_anti ((List.mergeSort_perm as leK).trans h) (List.pairwise_mergeSort leK_total.trans t as)
theorem srtK_mem {ks : List FK} : (srtK ks).Perm ks := List.mergeSort_perm ks leK
section
variable {X : Cx}
/-- sorted(a list of keys) -/
def rSortK (K : PySem.W.Frag) : List V → Hp → VK → Prop := fun vs H Q => ∃ (a : Addr) (ps : List (Addr × FK)), vs = [V.ref a] ∧ SqL K H a (ps.map fun p => V.ref p.1) ∧ (∀ p ∈ ps, KeyAt K H p.2 p.1) ∧
  ∀ q, H q = none → ∀ qs : List (Addr × FK), qs.Perm ps → qs.map (·.2) = srtK (ps.map (·.2)) → Q (.ref q) (upd H q (.lst (qs.map fun p => V.ref p.1)))
theorem vals_refs : ∀ {ps : List (Addr × FK)} {us : List Value}, Vals (ps.map fun p => V.ref p.1) us → PySem.W.EachIs (fun v (b : Addr × FK) => v = .ref b.1) us ps
  | [], _, h => by cases h; exact .nil
  | p :: r, _, h => by
    cases h with
    | cons e t => exact .cons e (vals_refs t)
theorem refs_of : ∀ {ps : List (Addr × FK)} {us : List Value}, PySem.W.EachIs (fun v (b : Addr × FK) => v = .ref b.1) us ps → Vals (ps.map fun p => V.ref p.1) us
  | _, _, .nil => .nil
  | _, _, .cons e t => .cons e (refs_of t)
theorem reads_keys {pins : List (Addr × Obj)} {σ : L2.St} {H : Hp} {s : Shared} (I : Inv X pins σ H s) : ∀ {ps : List (Addr × FK)} {us : List Value}, PySem.W.EachIs (fun v (b : Addr × FK) => v = .ref b.1) us ps → (∀ p ∈ ps, KeyAt X.K H p.2 p.1) →
    PySem.W.EachIs (fun v b => ∃ as, Reads s.heap v (dKey b.2) as) us ps
  | _, _, .nil, _ => .nil
  | _, _, .cons e t, h => .cons (Dp.reads I _ _ _ (dp_key (h _ List.mem_cons_self)) e) (reads_keys I t fun p hp => h p (List.mem_cons_of_mem _ hp))
theorem cr_sortK (K : PySem.W.Frag) (hu : X.A.units + 64 < cLine) (e : X.K = K := by rfl) : CallR X (.builtin "sorted") (rSortK K) := by
  subst e
  intro pins s σ H vs us Q I r h
  obtain ⟨a, ps, rfl, hs, hk, q⟩ := h
  obtain ⟨its, rv, hl, hz⟩ := I.list hs
  rw [Vals.ref1 r]
  have ei := vals_refs rv
  have hz' : ps.length ≤ sizeLine := by
    rw [List.length_map] at hz
    exact hz
  refine PySem.W.sorted_data (enc := fun b : Addr × FK => dKey b.2) (bs := ps) hl.isList ei (reads_keys I ei hk) (PySem.W.AllAlike.of fun b b' => alike_key _ _) (PySem.W.Sortable.tuples fun b => ⟨_, _, rfl⟩) hz' (fun b _ => by
    have := depth_key b.2
    show X.A.units + 2 + (dKey b.2).depth < cLine
    omega) fun out ol eo => ?_
  obtain ⟨ep, he'⟩ := PyProof.Rows.sortedAll_at s.heap its out.toArray
  have pm : (ps.mergeSort (PySem.W.dataLe false fun b : Addr × FK => dKey b.2)).Perm ps := List.mergeSort_perm _ _
  have hlen : ((ps.mergeSort (PySem.W.dataLe false fun b : Addr × FK => dKey b.2)).map fun p => V.ref p.1).length ≤ sizeLine := by
    rw [List.length_map, pm.length_eq]
    exact hz'
  exact ⟨.ref _, upd H (s.heap.objs.size + 1) (.lst ((ps.mergeSort (PySem.W.dataLe false fun b : Addr × FK => dKey b.2)).map fun p => V.ref p.1)), I.laid (t' := s.toks) (fun _ _ => PyProof.Rows.sortedAll_old) (Nat.le_succ _) ⟨hlen, out, ep, refs_of eo, he'⟩, rfl,
    q _ (I.hok.fresh (Nat.le_succ _)) _ pm (PySem.W.sort_maps (fun p : Addr × FK => p.2) fun a _ b _ => rfl)⟩
end
end G
/-! The reached fronts of a book, in plain Lean: the walk from layer to layer. -/
namespace G
open PySem PySem.Spec PyProof.Rows L2
noncomputable def fr (F : Tf) (L : Nat) (l : List Nat) : FK := (sOf (frontW L l), frontD F L l)
section
variable {F : Tf} {L : Nat}
theorem snoc_cases {l : List Nat} (ne : l ≠ []) : ∃ l0 x, l = l0 ++ [x] := by
  rcases List.eq_nil_or_concat l with e | ⟨l0, x, e⟩
  · exact absurd e ne
  · exact ⟨l0, x, by rw [e, List.concat_eq_append]⟩
theorem over_of {l : List Nat} {c : Nat} (o : Over F l) (oc : Over F [c]) : Over F (l ++ [c]) := fun d hd => by
  rcases List.mem_append.mp hd with h | h
  · exact o d h
  · exact oc d h
theorem over_init {l : List Nat} {c : Nat} (o : Over F (l ++ [c])) : Over F l ∧ Over F [c] := ⟨fun d hd => o d (List.mem_append_left _ hd), fun d hd => o d (List.mem_append_right _ hd)⟩
/-- a step's front, by the front alone -/
theorem fr_next (G : Good F) (W : Wide F L) (hL : 1 ≤ L) {l : List Nat} {c : Nat} (o : Over F (l ++ [c])) {m : Int} (h : StepR F (frontW L l) (frontD F L l) c m) : fr F L (l ++ [c]) = (sOf (stepW L (frontW L l) c), stepD L (frontW L l) (frontD F L l) c m) ∧ m = lp F (l ++ [c]) - lp F l := by
  have e := h.uniq (front_change G W o)
  subst e
  exact ⟨by unfold fr; rw [front_stepW hL, front_stepD hL], rfl⟩
theorem fr_inj {l l' : List Nat} (h : fr F L l = fr F L l') : frontW L l = frontW L l' ∧ frontD F L l = frontD F L l' := by
  have h1 := congrArg (fun k : FK => cs k.1) h
  have h2 := congrArg (fun k : FK => k.2) h
  unfold fr at h1 h2
  dsimp only at h1 h2
  rw [cs_sOf, cs_sOf] at h1
  exact ⟨h1, h2⟩
theorem fr_step (G : Good F) (W : Wide F L) (hL : 1 ≤ L) {l l' : List Nat} {c : Nat} (h : fr F L l = fr F L l') (o : Over F (l ++ [c])) (o' : Over F (l' ++ [c])) : fr F L (l ++ [c]) = fr F L (l' ++ [c]) := by
  obtain ⟨h1, h2⟩ := fr_inj h
  have s := front_change G W o
  have s' := s
  rw [h1, h2] at s'
  rw [(fr_next G W hL o s).1, (fr_next G W hL o' s').1, h1, h2]
theorem fr_nil : fr F L [] = (sOf [], []) := by
  unfold fr frontW frontD
  rw [List.drop_nil, List.length_nil, Nat.min_zero]
  rfl
/-- an entry: the front, where its tuple stands, a shortest text -/
abbrev BE := FK × Addr × List Nat
def keysE (E : List BE) : List FK := E.map (·.1)
theorem keysE_app {E E' : List BE} : keysE (E ++ E') = keysE E ++ keysE E' := List.map_append
/-- behind n layers -/
structure Bfs (F : Tf) (L n : Nat) (E lay : List BE) : Prop where
  nd : (keysE E).Nodup
  ok : ∀ e ∈ E, Over F e.2.2 ∧ fr F L e.2.2 = e.1 ∧ e.2.2.length ≤ n ∧ ∀ l, Over F l → fr F L l = e.1 → e.2.2.length ≤ l.length
  all : ∀ l, Over F l → l.length ≤ n → fr F L l ∈ keysE E
  lay1 : ∀ e ∈ E, e.2.2.length = n → ∃ p ∈ lay, p.1 = e.1 ∧ p.2.2 = e.2.2
  lay2 : ∀ p ∈ lay, ∃ e ∈ E, e.1 = p.1 ∧ e.2.2 = p.2.2 ∧ e.2.2.length = n
theorem bfs_start (a b : Addr) : Bfs F L 0 [((sOf [], []), a, [])] [((sOf [], []), b, [])] where
  nd := List.nodup_cons.mpr ⟨List.not_mem_nil, .nil⟩
  ok := fun e he => by
    rw [List.mem_singleton.mp he]
    exact ⟨fun _ h => (List.not_mem_nil h).elim, fr_nil, Nat.le_refl _, fun _ _ _ => Nat.zero_le _⟩
  all := fun l _ h => by
    have e : l = [] := List.length_eq_zero_iff.mp (Nat.le_zero.mp h)
    rw [e, fr_nil]
    exact List.mem_cons_self
  lay1 := fun e he _ => ⟨_, List.mem_cons_self, by rw [List.mem_singleton.mp he], by rw [List.mem_singleton.mp he]⟩
  lay2 := fun p hp => ⟨_, List.mem_cons_self, by rw [List.mem_singleton.mp hp], by rw [List.mem_singleton.mp hp], rfl⟩
/-- within a layer -/
structure Mid (F : Tf) (L n : Nat) (E nw : List BE) : Prop where
  nd : (keysE (E ++ nw)).Nodup
  new : ∀ e ∈ nw, Over F e.2.2 ∧ fr F L e.2.2 = e.1 ∧ e.2.2.length = n + 1
theorem Bfs.mid {n : Nat} {E lay : List BE} (B : Bfs F L n E lay) : Mid F L n E [] := ⟨by rw [List.append_nil]; exact B.nd, fun _ h => (List.not_mem_nil h).elim⟩
theorem Mid.add {n : Nat} {E nw : List BE} (M : Mid F L n E nw) {k : FK} {a : Addr} {t : List Nat} (h : k ∉ keysE (E ++ nw)) (o : Over F t) (e : fr F L t = k) (ln : t.length = n + 1) : Mid F L n E (nw ++ [(k, a, t)]) := by
  refine ⟨?_, fun x hx => ?_⟩
  · rw [← List.append_assoc, keysE_app]
    refine List.nodup_append.mpr ⟨M.nd, List.nodup_cons.mpr ⟨List.not_mem_nil, .nil⟩, fun x hx y hy => ?_⟩
    rw [List.mem_singleton.mp hy]
    intro q
    rw [q] at hx
    exact h hx
  · rcases List.mem_append.mp hx with hx | hx
    · exact M.new x hx
    · rw [List.mem_singleton.mp hx]
      exact ⟨o, e, ln⟩
theorem Mid.next (G : Good F) (W : Wide F L) (hL : 1 ≤ L) {n : Nat} {E lay nw : List BE} (B : Bfs F L n E lay) (M : Mid F L n E nw) (dn : ∀ p ∈ lay, ∀ c, Over F [c] → fr F L (p.2.2 ++ [c]) ∈ keysE (E ++ nw)) : Bfs F L (n + 1) (E ++ nw) nw where
  nd := M.nd
  ok := fun e he => by
    rcases List.mem_append.mp he with h | h
    · obtain ⟨h1, h2, h3, h4⟩ := B.ok e h
      exact ⟨h1, h2, by omega, h4⟩
    · obtain ⟨h1, h2, h3⟩ := M.new e h
      refine ⟨h1, h2, by omega, fun l o q => ?_⟩
      rcases Nat.lt_or_ge n l.length with c | c
      · omega
      · have h5 := B.all l o c
        have nd := M.nd
        rw [keysE_app] at nd
        exact absurd rfl ((List.nodup_append.mp nd).2.2 _ h5 _ (by rw [q]; exact List.mem_map.mpr ⟨e, h, rfl⟩))
  all := fun l o hl => by
    rcases Nat.lt_or_ge l.length (n + 1) with c | c
    · rw [keysE_app]
      exact List.mem_append_left _ (B.all l o (by omega))
    · have ne : l ≠ [] := fun e => by rw [e] at c; exact absurd c (by simp)
      obtain ⟨l0, x, rfl⟩ : ∃ l0 x, l = l0 ++ [x] := snoc_cases ne
      rw [List.length_append, List.length_singleton] at hl c
      obtain ⟨o0, ox⟩ := over_init o
      obtain ⟨e, he, ee⟩ := List.mem_map.mp (B.all l0 o0 (by omega))
      obtain ⟨h1, h2, h3, h4⟩ := B.ok e he
      have st : fr F L (l0 ++ [x]) = fr F L (e.2.2 ++ [x]) := fr_step G W hL (by rw [h2, ee]) o (over_of h1 ox)
      rw [st]
      rcases Nat.lt_or_ge e.2.2.length n with q | q
      · rw [keysE_app]
        exact List.mem_append_left _ (B.all _ (over_of h1 ox) (by rw [List.length_append, List.length_singleton]; omega))
      · obtain ⟨p, hp, _, p2⟩ := B.lay1 e he (by omega)
        have := dn p hp x ox
        rwa [p2] at this
  lay1 := fun e he hl => by
    rcases List.mem_append.mp he with h | h
    · have := (B.ok e h).2.2.1
      omega
    · exact ⟨e, h, rfl, rfl⟩
  lay2 := fun p hp => ⟨p, List.mem_append_right _ hp, rfl, rfl, (M.new p hp).2.2⟩
/-- no layer is left: all fronts are there -/
theorem Bfs.done (G : Good F) (W : Wide F L) (hL : 1 ≤ L) {n : Nat} {E : List BE} (B : Bfs F L n E []) : ∀ (k : Nat) (l : List Nat), l.length ≤ k → Over F l → fr F L l ∈ keysE E := by
  intro k
  induction k with
  | zero => exact fun l h o => B.all l o (by omega)
  | succ k ih =>
    intro l h o
    rcases Nat.lt_or_ge n l.length with c | c
    · have ne : l ≠ [] := fun e => by rw [e] at c; exact absurd c (by simp)
      obtain ⟨l0, x, rfl⟩ : ∃ l0 x, l = l0 ++ [x] := snoc_cases ne
      rw [List.length_append, List.length_singleton] at h c
      obtain ⟨o0, ox⟩ := over_init o
      obtain ⟨e, he, ee⟩ := List.mem_map.mp (ih l0 (by omega) o0)
      obtain ⟨h1, h2, h3, h4⟩ := B.ok e he
      have st : fr F L (l0 ++ [x]) = fr F L (e.2.2 ++ [x]) := fr_step G W hL (by rw [h2, ee]) o (over_of h1 ox)
      rw [st]
      have lt : e.2.2.length < n := by
        rcases Nat.lt_or_ge e.2.2.length n with q | q
        · exact q
        · obtain ⟨p, hp, _⟩ := B.lay1 e he (by omega)
          exact (List.not_mem_nil hp).elim
      exact B.all _ (over_of h1 ox) (by rw [List.length_append, List.length_singleton]; omega)
    · exact B.all l o c
/-- a front that some text has -/
def Rch (F : Tf) (L : Nat) (k : FK) : Prop := ∃ l, Over F l ∧ fr F L l = k
/-- at most so many fronts -/
def Few (F : Tf) (L b : Nat) : Prop := ∃ ks : List FK, ks.length ≤ b ∧ ∀ k, Rch F L k → k ∈ ks
theorem Bfs.count {n b : Nat} {E lay : List BE} (B : Bfs F L n E lay) (fw : Few F L b) : E.length ≤ b := by
  obtain ⟨ks, h1, h2⟩ := fw
  have := nd_sub_len (l1 := keysE E) (l2 := ks) B.nd fun k hk => by
    obtain ⟨e, he, rfl⟩ := List.mem_map.mp hk
    obtain ⟨o, q, _⟩ := B.ok e he
    exact h2 _ ⟨_, o, q⟩
  unfold keysE at this
  rw [List.length_map] at this
  omega
theorem Mid.count {n b : Nat} {E lay nw : List BE} (B : Bfs F L n E lay) (M : Mid F L n E nw) (fw : Few F L b) : (E ++ nw).length ≤ b := by
  obtain ⟨ks, h1, h2⟩ := fw
  have := nd_sub_len (l1 := keysE (E ++ nw)) (l2 := ks) M.nd fun k hk => by
    obtain ⟨e, he, rfl⟩ := List.mem_map.mp hk
    rcases List.mem_append.mp he with h | h
    · obtain ⟨o, q, _⟩ := B.ok e h
      exact h2 _ ⟨_, o, q⟩
    · obtain ⟨o, q, _⟩ := M.new e h
      exact h2 _ ⟨_, o, q⟩
  unfold keysE at this
  rw [List.length_map] at this
  omega
/-- what the walk leaves: each reached front once, with a shortest text -/
structure Whole (F : Tf) (L : Nat) (E : List BE) : Prop where
  nd : (keysE E).Nodup
  ok : ∀ e ∈ E, Over F e.2.2 ∧ fr F L e.2.2 = e.1 ∧ ∀ l, Over F l → fr F L l = e.1 → e.2.2.length ≤ l.length
  all : ∀ l, Over F l → fr F L l ∈ keysE E
theorem Bfs.whole (G : Good F) (W : Wide F L) (hL : 1 ≤ L) {n : Nat} {E : List BE} (B : Bfs F L n E []) : Whole F L E := ⟨B.nd, fun e he => let ⟨h1, h2, _, h4⟩ := B.ok e he; ⟨h1, h2, h4⟩, fun l o => B.done G W hL _ l (Nat.le_refl _) o⟩
theorem Whole.few {E : List BE} {b : Nat} (w : Whole F L E) (h : E.length ≤ b) : Few F L b := ⟨keysE E, by unfold keysE; rw [List.length_map]; exact h, fun k ⟨l, o, e⟩ => e ▸ w.all l o⟩
theorem Whole.mem {E : List BE} (w : Whole F L E) {k : FK} : k ∈ keysE E ↔ Rch F L k := ⟨fun h => by
  obtain ⟨e, he, rfl⟩ := List.mem_map.mp h
  obtain ⟨o, q, _⟩ := w.ok e he
  exact ⟨_, o, q⟩, fun ⟨l, o, e⟩ => e ▸ w.all l o⟩
theorem whole_perm {F' : Tf} {L' : Nat} {E E' : List BE} (w : Whole F L E) (w' : Whole F' L' E') (h : ∀ k, Rch F L k ↔ Rch F' L' k) : (keysE E).Perm (keysE E') :=
  (List.perm_ext_iff_of_nodup w.nd w'.nd).mpr fun k => by rw [w.mem, w'.mem, h]
/-- a list of fronts that holds the first one and all that follow -/
theorem rch_closed (G : Good F) (W : Wide F L) (hL : 1 ≤ L) {ks : List FK} (h0 : (sOf [], []) ∈ ks) (h : ∀ l c, Over F (l ++ [c]) → fr F L l ∈ ks → fr F L (l ++ [c]) ∈ ks) : ∀ (n : Nat) (l : List Nat), l.length ≤ n → Over F l → fr F L l ∈ ks := by
  intro n
  induction n with
  | zero =>
    intro l hl _
    rw [List.length_eq_zero_iff.mp (Nat.le_zero.mp hl), fr_nil]
    exact h0
  | succ n ih =>
    intro l hl o
    by_cases ne : l = []
    · rw [ne, fr_nil]
      exact h0
    · obtain ⟨l0, x, rfl⟩ : ∃ l0 x, l = l0 ++ [x] := snoc_cases ne
      rw [List.length_append, List.length_singleton] at hl
      exact h _ _ o (ih l0 (by omega) (over_init o).1)
/-- the same cheapest prices and letters: the same fronts -/
theorem fr_congr {F' : Tf} {l : List Nat} (h : ∀ l, Over F l → lp F' l = lp F l) (o : Over F l) : fr F' L l = fr F L l := by
  unfold fr frontD
  rw [h l o]
  congr 2
  funext i
  rw [h _ (o.take _)]
theorem rch_congr {F' : Tf} (ov : ∀ l, Over F' l ↔ Over F l) (h : ∀ l, Over F l → lp F' l = lp F l) (k : FK) : Rch F' L k ↔ Rch F L k :=
  ⟨fun ⟨l, o, e⟩ => ⟨l, (ov l).mp o, (fr_congr h ((ov l).mp o)).symm.trans e⟩, fun ⟨l, o, e⟩ => ⟨l, (ov l).mpr o, (fr_congr h o).trans e⟩⟩
/-- a shorter front is a part of the longer one -/
def cutFr (L' : Nat) (k : FK) : FK := (sOf ((cs k.1).drop ((cs k.1).length - (L' - 1))), k.2.take (L' - 1))
theorem fr_cut {L' : Nat} (hl : L' ≤ L) (l : List Nat) : fr F L' l = cutFr L' (fr F L l) := by
  unfold fr cutFr
  dsimp only
  rw [cs_sOf, frontW_len]
  congr 1
  · congr 1
    unfold frontW
    rw [List.drop_drop]
    congr 1
    omega
  · unfold frontD
    rw [← List.map_take, List.take_range]
    congr 2
    omega
theorem few_cut {F' : Tf} {L' b : Nat} (hl : L' ≤ L) (ov : ∀ l, Over F' l ↔ Over F l) (h : ∀ l, Over F l → lp F' l = lp F l) (fw : Few F L b) : Few F' L' b := by
  obtain ⟨ks, h1, h2⟩ := fw
  refine ⟨ks.map (cutFr L'), by rw [List.length_map]; exact h1, fun k ⟨l, o, e⟩ => List.mem_map.mpr ⟨fr F L l, h2 _ ⟨l, (ov l).mp o, rfl⟩, ?_⟩⟩
  rw [← fr_cut hl, ← e]
  exact (fr_congr h ((ov l).mp o)).symm
end
end G
/-! Reached fronts on the heap: the dicts of the walk, the class of the program, its promises; len of an instance. -/
namespace G
open PySem PySem.Spec PyProof.Rows L2
/-! ### keys stand -/
section
variable {K : PySem.W.Frag} {H H' : Hp} {k : FK} {a : Addr}
theorem rd_keep {o : HO} (s : Same H H') (h : Rd H a o) : Rd H' a o := by
  rcases h with h | ⟨q, h⟩
  · exact .inl (s _ _ h)
  · exact .inr ⟨q, s _ _ h⟩
theorem sqt_same {xs : List V} (s : Same H H') (h : SqT K H a xs) : SqT K H' a xs := by
  rcases h with h | h
  · exact .inl (rd_keep s h)
  · exact .inr h
theorem KeyAt.same (x : KeyAt K H k a) (s : Same H H') : KeyAt K H' k a := by
  obtain ⟨b, h1, h2⟩ := x
  exact ⟨b, sqt_same s h1, sqt_same s h2⟩
theorem FrontAt.key {l : List Nat} {ds : List Int} (f : FrontAt H a l ds) : KeyAt K H (sOf l, ds) a := by
  obtain ⟨b, h1, h2⟩ := f
  exact ⟨b, SqT.of h1, SqT.of h2⟩
/-- a thing that is no tuple changes -/
theorem sqt_upd {D : Addr} {o p : HO} {xs : List V} (hD : H D = some o) (no : (∀ ys, o ≠ .tup ys) ∧ ∀ q u, o ≠ .frz q u) (h : SqT K H a xs) : SqT K (upd H D p) a xs := by
  rcases h with h | h
  · rcases h with h | ⟨q, h⟩
    · refine .inl (.inl ?_)
      rw [upd_ne fun e => ?_]
      · exact h
      · rw [e, hD] at h
        exact no.1 _ (Option.some.inj h)
    · refine .inl (.inr ⟨q, ?_⟩)
      rw [upd_ne fun e => ?_]
      · exact h
      · rw [e, hD] at h
        exact no.2 _ _ (Option.some.inj h)
  · exact .inr h
theorem KeyAt.upd {D : Addr} {o p : HO} (x : KeyAt K H k a) (hD : H D = some o) (no : (∀ ys, o ≠ .tup ys) ∧ ∀ q u, o ≠ .frz q u) : KeyAt K (upd H D p) k a := by
  obtain ⟨b, h1, h2⟩ := x
  exact ⟨b, sqt_upd hD no h1, sqt_upd hD no h2⟩
theorem no_lst {ys : List V} : (∀ zs, HO.lst ys ≠ .tup zs) ∧ ∀ q u, HO.lst ys ≠ .frz q u := ⟨fun _ e => (nomatch e), fun _ _ e => (nomatch e)⟩
theorem no_fd {P : Program} {w : World} {d : Addr} {es : List FE} : (∀ zs, FD P w d es ≠ .tup zs) ∧ ∀ q u, FD P w d es ≠ .frz q u := ⟨fun _ e => (nomatch e), fun _ _ e => (nomatch e)⟩
/-- a written tuple -/
def InT (K : PySem.W.Frag) (a : Addr) (xs : List V) : Prop := ∃ (o : Obj) (its : Array Value) (n : Nat), K.lookup a = some o ∧ o.cls = .type "tuple" ∧ o.data = .seq its n ∧ its.size ≤ sizeLine ∧ Vals xs its.toList
def KeyK (K : PySem.W.Frag) (k : FK) (a : Addr) : Prop := ∃ b, InT K a [.str k.1, .ref b] ∧ InT K b (k.2.map V.int)
theorem KeyK.at (x : KeyK K k a) : KeyAt K H k a := by
  obtain ⟨b, h1, h2⟩ := x
  exact ⟨b, .inr h1, .inr h2⟩
theorem keyK_of {aF bF : Addr} {dF dF2 : Option Addr} {iF iF2 : Array Value} {mF mF2 : Nat} {sF sF2 : Array (Option Value)} {tF : Tok} {zF : Str} (l1 : K.lookup aF = some ⟨.type "tuple", dF, .seq iF mF, sF⟩) (e1 : iF.toList = [.str zF tF, .ref bF]) (ez : zF = sOf [])
    (l2 : K.lookup bF = some ⟨.type "tuple", dF2, .seq iF2 mF2, sF2⟩) (e2 : iF2.toList = []) : KeyK K (sOf [], []) aF := by
  subst ez
  refine ⟨bF, ⟨_, iF, mF, l1, rfl, rfl, ?_, ?_⟩, ⟨_, iF2, mF2, l2, rfl, rfl, ?_, ?_⟩⟩
  · rw [← Array.length_toList, e1]
    show 2 ≤ sizeLine
    decide
  · rw [e1]
    exact .cons ⟨tF, rfl⟩ (.cons rfl .nil)
  · rw [← Array.length_toList, e2]
    exact Nat.zero_le _
  · rw [e2]
    exact .nil
end
/-! ### the dicts of the walk -/
def textV (t : List Nat) : V := .str (sOf t)
def sizeV (t : List Nat) : V := .int (t.length : Int)
def feOf (val : List Nat → V) (E : List BE) : List FE := E.map fun e => (e.1, e.2.1, val e.2.2)
section
variable {val : List Nat → V} {E : List BE} {k : FK} {a : Addr} {t : List Nat}
theorem look_in (h : k ∈ keysE E) : (lookF (feOf val E) k).isSome = true := by
  unfold lookF feOf
  rw [Option.isSome_map, List.find?_isSome]
  obtain ⟨e, he, rfl⟩ := List.mem_map.mp h
  exact ⟨_, List.mem_map.mpr ⟨e, he, rfl⟩, by simp⟩
theorem look_out (h : k ∉ keysE E) : lookF (feOf val E) k = none := by
  unfold lookF feOf
  rw [Option.map_eq_none_iff, List.find?_eq_none]
  intro x hx
  obtain ⟨e, he, rfl⟩ := List.mem_map.mp hx
  have : e.1 ≠ k := fun q => h (q ▸ List.mem_map.mpr ⟨e, he, rfl⟩)
  simpa using this
theorem look_iff : (lookF (feOf val E) k).isSome = decide (k ∈ keysE E) := by
  by_cases h : k ∈ keysE E
  · rw [look_in h, decide_eq_true h]
  · rw [look_out h, decide_eq_false h]
    rfl
theorem look_val {e : BE} (nd : (keysE E).Nodup) (h : e ∈ E) : lookF (feOf val E) e.1 = some (val e.2.2) := by
  induction E with
  | nil => cases h
  | cons x r ih =>
    obtain ⟨n1, n2⟩ := List.nodup_cons.mp nd
    unfold lookF feOf
    rw [List.map_cons]
    rcases List.mem_cons.mp h with rfl | h
    · rw [List.find?_cons_of_pos (by simp)]
      rfl
    · have ne : x.1 ≠ e.1 := fun q => n1 (by
        show x.1 ∈ keysE r
        rw [q]
        exact List.mem_map.mpr ⟨e, h, rfl⟩)
      rw [List.find?_cons_of_neg (by simpa using ne)]
      exact ih n2 h
theorem put_new (h : k ∉ keysE E) : storeF (feOf val E) k a (val t) = feOf val (E ++ [(k, a, t)]) := by
  unfold storeF
  rw [look_out h]
  unfold feOf
  simp
theorem feOf_len : (feOf val E).length = E.length := List.length_map _
def StandE (K : PySem.W.Frag) (H : Hp) (E : List BE) : Prop := ∀ e ∈ E, KeyAt K H e.1 e.2.1
theorem StandE.keys {K : PySem.W.Frag} {H : Hp} (h : StandE K H E) : KeysAt K H (feOf val E) := fun x hx => by
  obtain ⟨e, he, rfl⟩ := List.mem_map.mp hx
  exact h e he
theorem StandE.same {K : PySem.W.Frag} {H H' : Hp} (h : StandE K H E) (s : Same H H') : StandE K H' E := fun e he => (h e he).same s
theorem StandE.upd {K : PySem.W.Frag} {H : Hp} {D : Addr} {o p : HO} (h : StandE K H E) (hD : H D = some o) (no : (∀ ys, o ≠ .tup ys) ∧ ∀ q u, o ≠ .frz q u) : StandE K (L2.upd H D p) E := fun e he => (h e he).upd hD no
theorem StandE.add {K : PySem.W.Frag} {H : Hp} {e : BE} (h : StandE K H E) (he : KeyAt K H e.1 e.2.1) : StandE K H (E ++ [e]) := fun x hx => by
  rcases List.mem_append.mp hx with hx | hx
  · exact h x hx
  · rw [List.mem_singleton.mp hx]
    exact he
theorem feOf_keys : (feOf val E).map (fun e => V.ref e.2.1) = E.map fun e => V.ref e.2.1 := by
  unfold feOf
  rw [List.map_map]
  rfl
end
/-! ### the class -/
def frF (b d t : Addr) : List (Str × V) := [("own_book", .ref b), ("own_texts", .ref d), ("own_fronts", .ref t)]
/-- an instance of Fronts, of a book with the prices F -/
structure FrsAt (K : PySem.W.Frag) (P : Program) (w : World) (Cf : Addr) (H : Hp) (p b : Addr) (F : Tf) (L : Nat) (E : List BE) (qs : List (Addr × FK)) (dx d t : Addr) : Prop where
  ob : H p = some (.ins Cf dx (frF b d t))
  dc : H d = some (FD P w d (feOf textV E))
  st : StandE K H E
  tp : H t = some (.tup (qs.map fun q => V.ref q.1))
  pm : qs.Perm (E.map fun e => (e.2.1, e.1))
  so : qs.map (·.2) = srtK (keysE E)
  wh : Whole F L E
theorem FrsAt.same {K : PySem.W.Frag} {P : Program} {w : World} {Cf : Addr} {H H' : Hp} {p b : Addr} {F : Tf} {L : Nat} {E : List BE} {qs : List (Addr × FK)} {dx d t : Addr} (x : FrsAt K P w Cf H p b F L E qs dx d t) (s : Same H H') : FrsAt K P w Cf H' p b F L E qs dx d t :=
  ⟨s _ _ x.ob, s _ _ x.dc, x.st.same s, s _ _ x.tp, x.pm, x.so, x.wh⟩
theorem FrsAt.keys {K : PySem.W.Frag} {P : Program} {w : World} {Cf : Addr} {H : Hp} {p b : Addr} {F : Tf} {L : Nat} {E : List BE} {qs : List (Addr × FK)} {dx d t : Addr} (x : FrsAt K P w Cf H p b F L E qs dx d t) : ∀ q ∈ qs, KeyAt K H q.2 q.1 := fun q hq => by
  obtain ⟨e, he, rfl⟩ := List.mem_map.mp (x.pm.mem_iff.mp hq)
  exact x.st e he
theorem ff_book {b d t : Addr} : (frF b d t).lookup ("own_book" : Str) = some (.ref b) := lk_at
theorem ff_texts {b d t : Addr} : (frF b d t).lookup ("own_texts" : Str) = some (.ref d) := (lk_by (by decide +kernel)).trans lk_at
theorem ff_fronts {b d t : Addr} : (frF b d t).lookup ("own_fronts" : Str) = some (.ref t) := (lk_by (by decide +kernel)).trans ((lk_by (by decide +kernel)).trans lk_at)
/-! ### promises -/
/-- step_in, the front written or made -/
def spStepK (K : PySem.W.Frag) (C : Addr) : Sp := fun vs H Q _ => ∃ (b f : Addr) (kvs : List (Key × V)) (l : List Nat) (ds : List Int) (c L : Nat), vs = [.ref b, .ref f, .str (ch c)] ∧ Book1 C H b kvs ∧ KeyAt K H (sOf l, ds) f ∧ Wide (tfD kvs) L ∧ Over (tfD kvs) l ∧ Over (tfD kvs) [c] ∧ l.length < L ∧ ds.length = l.length ∧ (∀ x ∈ l, lett x = true) ∧
  (∀ x ∈ ds, isInteger (.int x) = true) ∧ ∀ t m H', StepR (tfD kvs) l ds c m → StepAt H' t (stepW L l c) (stepD L l ds c m) m → Same H H' → Q (.ref t) H'
/-- fronts_reached -/
def spReached (C : Addr) (K : PySem.W.Frag) (P : Program) (w : World) : Sp := fun vs H Q _ => ∃ b kvs L, vs = [.ref b] ∧ Book1 C H b kvs ∧ Wide (tfD kvs) L ∧ Few (tfD kvs) L 2000 ∧ ∀ d E H', Whole (tfD kvs) L E → E.length ≤ 2000 → H' d = some (FD P w d (feOf textV E)) → StandE K H' E → Same H H' → Q (.ref d) H'
/-- Fronts.__init__ -/
def spFronts (C Cf : Addr) (K : PySem.W.Frag) (P : Program) (w : World) : Sp := fun vs H Q _ => ∃ p dx b kvs L, vs = [.ref p, .ref b] ∧ H p = some (.ins Cf dx []) ∧ Book1 C H b kvs ∧ Wide (tfD kvs) L ∧ Few (tfD kvs) L 2000 ∧
  ∀ H' E qs d t, FrsAt K P w Cf H' p b (tfD kvs) L E qs dx d t → (∀ c o, H c = some o → c ≠ p → H' c = some o) → Q .non H'
theorem made_fronts {C Cf x dx b : Addr} {K : PySem.W.Frag} {P : Program} {w : World} {H : Hp} {kvs : List (Key × V)} {L : Nat} {Q : VK} {E : XK} (hx : H x = none) (hdx : H dx = none) (B : Book1 C H b kvs) (wd : Wide (tfD kvs) L) (fw : Few (tfD kvs) L 2000)
    (q : ∀ H' E qs d t, FrsAt K P w Cf H' x b (tfD kvs) L E qs dx d t → Same H H' → Q .non H') : spFronts C Cf K P w (.ref x :: ([.ref b] ++ [])) (upd (upd H dx (.own x)) x (.ins Cf dx [])) Q E := by
  have s1 : Same H (upd (upd H dx (.own x)) x (.ins Cf dx [])) := fun c o e => by
    rw [upd_ne (ne_of_none e hx), upd_ne (ne_of_none e hdx)]
    exact e
  refine ⟨x, dx, b, kvs, L, rfl, upd_same, B.same s1, wd, fw, fun H' E qs d t A k => q H' E qs d t A fun c o e => k c o (s1 _ _ e) (ne_of_none e hx)⟩
/-- Fronts.rows -/
def spRows (Cf : Addr) (K : PySem.W.Frag) (P : Program) (w : World) : Sp := fun vs H Q _ => ∃ p b F L E qs dx d t, vs = [.ref p] ∧ FrsAt K P w Cf H p b F L E qs dx d t ∧ Q (.ref t) H
/-- Fronts.__len__ -/
def spLenF (Cf : Addr) (K : PySem.W.Frag) (P : Program) (w : World) : Sp := fun vs H Q _ => ∃ p b F L E qs dx d t, vs = [.ref p] ∧ FrsAt K P w Cf H p b F L E qs dx d t ∧ E.length ≤ 2000 ∧ Q (.int (E.length : Int)) H
/-- _law_signs -/
def spSigns (K : PySem.W.Frag) : Sp := fun vs H Q _ => ∃ (d : Addr) (kvs : List (Key × V)), vs = [.ref d] ∧ H d = some (.dK kvs) ∧ arePrices kvs = true ∧ (kvs.map (·.1)).Nodup ∧ ∀ p (sg : List Nat) H', H p = none → H' p = some (.lst (sg.map chV)) → sg.length ≤ 100 → (∀ c, c ∈ sg ↔ Over (tfD kvs) [c]) → Same H H' → Q (.ref p) H'
/-- _law_fronts -/
def spLawFronts (K : PySem.W.Frag) (P : Program) (w : World) : Sp := fun vs H Q _ => ∃ (d : Addr) (kvs : List (Key × V)) (L m : Nat), vs = [.ref d, .int (m : Int)] ∧ H d = some (.dK kvs) ∧ arePrices kvs = true ∧ (kvs.map (·.1)).Nodup ∧ Wide (tfD kvs) L ∧ m ≤ 2000 ∧
  ∀ p (E : List BE) H', (m < E.length ∨ Whole (tfD kvs) L E) → E.length ≤ 1000000 → H' p = some (FD P w p (feOf sizeV E)) → StandE K H' E → Same H H' → Q (.ref p) H'
/-! ### len of an instance -/
section
variable {X : L2.Cx} {k j : Nat} {C : Addr} {sp : Sp}
def rLenO (C : Addr) (sp : Sp) : List V → Hp → VK → Prop := fun xs H Q => ∃ a dx fs, xs = [.ref a] ∧ H a = some (.ins C dx fs) ∧ sp [.ref a] H (fun r H' => ∃ n : Nat, r = .int (n : Int) ∧ n ≤ 1000000 ∧ Q (.int (n : Int)) H') C8.E0
theorem call_lenO (c : C8.Met X.prog X.w X.K X.mg X.base k C "__len__" sp []) (hr : Room j X.A) (hk : k + 1 ≤ j) : CallR X (.builtin "len") (rLenO C sp) := by
  intro pins s σ H xs us Q I rs h
  obtain ⟨a, dx, fs, rfl, ha, q⟩ := h
  obtain ⟨u, rfl, ru⟩ := vals1 rs
  cases ru
  obtain ⟨_, J, _⟩ := ins_get I.hok ha
  obtain ⟨_, J, _⟩ := J.look
  obtain ⟨f, h1, h2, h3⟩ := met_run1 (us := [.ref a]) (vs := [.ref a]) c hr hk I (.cons rfl .nil) q
  refine Calls.call_function_entry kind_len plain_len entry_len (args_len1 _) ?_
  unfold Builtin.«len»
  refine wpAny_bind (m := oneArg "len" _) (wpAny_pure ?_)
  refine wpAny_bind (m := callSpecial? (.ref a) (Str.ofString "__len__")) (PySem.W.special_fn I.kIn J h1 (beq_iff_eq.mp h2) (wpAny_mono h3 (fun r s' hq => ?_) fun _ _ e => e))
  obtain ⟨z, H', I', rz, n, rfl, hn, q⟩ := hq
  obtain ⟨tk, rfl⟩ := rz
  refine wpAny_bind (wpAny_holding (wpAny_pure ?_))
  refine wpAny_bind (wpAny_letGo ?_)
  show wpAny _ _ (if ((n : Nat) : Int) < 0 then _ else _) _ _ _
  rw [if_neg (by omega)]
  show wpAny _ _ (if ((n : Nat) : Int) ≥ 2 ^ 63 then _ else _) _ _ _
  rw [if_neg (by omega)]
  exact wpAny_bind (wpAny_mkInt (wpAny_pure ⟨_, rfl, .int (n : Int), H', I'.tok _, ⟨_, rfl⟩, q⟩))
end
end G
namespace G
open PySem PySem.Spec PyProof.Rows L2
section
variable {X : L2.Cx}
/-- xs != [] of any list -/
def rNeNil : R2 := fun x y H Q => ∃ a p xs, x = .ref a ∧ y = .ref p ∧ H a = some (.lst xs) ∧ H p = some (.lst []) ∧ Q (.bl (!xs.isEmpty)) H
theorem op_neNil (hu : X.A.units < cLine) : OpR X (compareOp .NotEq) rNeNil := by
  intro pins s σ H x y v u Q I rx ry h
  obtain ⟨a, p, xs, rfl, rfl, ha, hp, q⟩ := h
  cases rx
  cases ry
  obtain ⟨z1, i1, n1, r1, e1⟩ := I.hok a _ ha
  obtain ⟨z2, i2, n2, r2, e2⟩ := I.hok p _ hp
  have hi2 : i2 = [] := List.eq_nil_of_length_eq_zero r2.length.symm
  subst hi2
  have l1 : s.heap.IsList a i1.toArray := ⟨_, e1, rfl, _, rfl⟩
  have l2 : s.heap.IsList p ([] : List Value).toArray := ⟨_, e2, rfl, _, rfl⟩
  cases xs with
  | nil =>
    have hi1 : i1 = [] := List.eq_nil_of_length_eq_zero r1.length.symm
    subst hi1
    exact SeqAt.RcNeAt.lists (e := fun _ => true) l1 l2 rfl hu (fun j h1 => absurd h1 (by simp)) X.prog X.w _ _ ⟨.bl false, H, I, rfl, q⟩
  | cons w r =>
    refine SeqAt.RcNeAt.lists_lengths l1 l2 ?_ hu X.prog X.w _ _ ⟨.bl true, H, I, rfl, q⟩
    have := r1.length
    rw [List.size_toArray, List.size_toArray, ← this, List.length_cons, List.length_nil]
    exact bne_iff_ne.mpr (by omega)
end
end G
namespace G
open PySem PySem.Spec PyProof.Rows L2
/-- Book.longest -/
def spLongest (C : Addr) : Sp := fun vs H Q _ => ∃ b kvs, vs = [.ref b] ∧ Book1 C H b kvs ∧ ∀ L : Nat, Wide (tfD kvs) L → Q (.int (L : Int)) H
/-- _law_prices: a right dict over the signs -/
def spPricesM (K : PySem.W.Frag) : Sp := fun vs H Q _ => ∃ (l sa ma : Addr) (sg : List Nat) (ms : List Int) (n mo sz : Nat), vs = [.ref l, .ref sa, .int (mo : Int), .int (sz : Int), .ref ma] ∧ mo ≤ 6 ∧ 2 ≤ sz ∧ sz ≤ 5 ∧ sa ≠ l ∧ ma ≠ l ∧ SqL K H sa (sg.map chV) ∧ SqL K H ma (ms.map V.int) ∧ 1 ≤ sg.length ∧ sg.length ≤ 4 ∧ (∀ c ∈ sg, lett c = true) ∧
  1 ≤ ms.length ∧ ms.length ≤ 100 ∧ (∀ i ∈ ms, 1 ≤ i ∧ i ≤ 99) ∧ Dice H l (n + 100) ∧
  ∀ (p : Addr) (kvs : List (Key × V)) H', H p = none → p ≠ l → H' p = some (.dK kvs) → arePrices kvs = true → (kvs.map (·.1)).Nodup → (∀ c, (∃ q, tfD kvs (ch c) = some q) ↔ c ∈ sg) → Kp l H H' → Dice H' l n → Q (.ref p) H'
end G
namespace G
open PySem PySem.Spec PyProof.Rows L2
theorem ff2 {x y : V} : L2.putF "own_texts" y [(("own_book" : Str), x)] = [(("own_book" : Str), x), ("own_texts", y)] := by
  rw [pf_by (by decide +kernel)]
  rfl
theorem ff3 {x y z : V} : L2.putF "own_fronts" z [(("own_book" : Str), x), ("own_texts", y)] = [(("own_book" : Str), x), ("own_texts", y), ("own_fronts", z)] := by
  rw [pf_by (by decide +kernel), pf_by (by decide +kernel)]
  rfl
theorem Book1.updI {C b p Cf : Addr} {dx : Addr} {H : Hp} {kvs : List (Key × V)} {fs : List (Str × V)} {o : HO} (B : Book1 C H b kvs) (hp : H p = some (.ins Cf dx fs)) (n : b ≠ p) : Book1 C (L2.upd H p o) b kvs := by
  obtain ⟨ys, L, M, bx, d, tp, ta, od, h1, h2, A⟩ := B.ex
  have ne : ∀ {c : Addr} {u : HO}, H c = some u → (∀ Cf dx fs, u ≠ .ins Cf dx fs) → c ≠ p := fun h no e => by
    rw [e, hp] at h
    exact no _ _ _ (Option.some.inj h).symm
  refine ⟨B.av, B.nd, ys, L, M, bx, d, tp, ta, od, h1, h2, ?_, ?_, ?_, ?_, A.lo, A.de⟩
  · rw [upd_ne n]
    exact A.ob
  · rw [upd_ne (ne A.dc fun _ _ _ e => nomatch e)]
    exact A.dc
  · rw [upd_ne (ne A.pi fun _ _ _ e => nomatch e)]
    exact A.pi
  · rw [upd_ne (ne A.al fun _ _ _ e => nomatch e)]
    exact A.al
theorem no_ins {Cf dx : Addr} {fs : List (Str × V)} : (∀ zs, HO.ins Cf dx fs ≠ .tup zs) ∧ ∀ q u, HO.ins Cf dx fs ≠ .frz q u := ⟨fun _ e => (nomatch e), fun _ _ e => (nomatch e)⟩
end G
namespace G
open PySem PySem.Spec PyProof.Rows L2
/-- a book's signs, as they stand -/
theorem alpha_of {kvs : List (Key × V)} {ys : List Str} (av : arePrices kvs = true) (pm : ys.Perm (keyStrs kvs)) : ∃ sg : List Nat, (sgn (psOf kvs ys)).map V.str = sg.map chV ∧ sg.length ≤ 12 ∧ ∀ c, c ∈ sg ↔ Over (tfD kvs) [c] := by
  obtain ⟨⟨_, n2⟩, al, _, _⟩ := ap_parts av
  have mem : ∀ z, z ∈ sgn (psOf kvs ys) ↔ z ∈ keyStrs kvs ∧ z.length = 1 := fun z => by
    unfold sgn psOf
    rw [List.map_map, List.mem_filter, decide_eq_true_eq]
    have e : ys.map ((fun p : Str × Int => p.1) ∘ fun y => (y, priceIn kvs y)) = ys := by
      show ys.map (fun y => y) = ys
      exact List.map_id _
    rw [e, pm.mem_iff]
  obtain ⟨sg, e, _⟩ := lift_ch (P := fun _ => True) (ys := sgn (psOf kvs ys)) fun z hz => by
    obtain ⟨d, rfl⟩ := G.one_sign (z := z) (by rw [cs_len]; exact ((mem z).mp hz).2)
    exact ⟨d, rfl, trivial⟩
  refine ⟨sg, by rw [e, List.map_map]; rfl, ?_, fun c => ?_⟩
  · have h1 : sg.length = (sgn (psOf kvs ys)).length := by rw [e, List.length_map]
    have h2 : (sgn (psOf kvs ys)).length ≤ ys.length := by
      unfold sgn psOf
      refine Nat.le_trans (List.length_filter_le _ _) ?_
      rw [List.length_map, List.length_map]
      exact Nat.le_refl _
    have h3 := congrArg List.length (keys_of al)
    rw [List.length_map, List.length_map] at h3
    have h4 := pm.length_eq
    omega
  · have h1 : c ∈ sg ↔ ch c ∈ sgn (psOf kvs ys) := by
      rw [e]
      exact ⟨fun h => List.mem_map.mpr ⟨c, h, rfl⟩, fun h => by
        obtain ⟨d, hd, q⟩ := List.mem_map.mp h
        have : d = c := by
          have := congrArg cs q
          simpa [cs] using this
        exact this ▸ hd⟩
    rw [h1, mem, tf_key al]
    exact ⟨fun ⟨h, _⟩ d hd => by rw [List.mem_singleton.mp hd]; exact h, fun h => ⟨h c List.mem_cons_self, rfl⟩⟩
theorem lett_over {kvs : List (Key × V)} (av : arePrices kvs = true) (nd : (kvs.map (·.1)).Nodup) {c : Nat} (o : Over (tfD kvs) [c]) : lett c = true := by
  obtain ⟨sg, S⟩ := sgs_of av nd
  exact S.lt c ((S.tf c).mp (o c List.mem_cons_self))
end G
namespace G
open PySem PySem.Spec PyProof.Rows L2
/-! ### the rules with their parts named -/
section
variable {X : L2.Cx}
theorem g_dispF (K : PySem.W.Frag) (P : Program) (w : World) {pos : Pos} {k v : Expr} {tk tv : TE} (hu : X.A.units + 64 < cLine) (hk : PE X k tk) (hv : PE X v tv) (e1 : X.K = K := by rfl) (e2 : X.prog = P := by rfl) (e3 : X.w = w := by rfl) : PE X (.Dict [some k] [v] pos) (tDispF K P w tk tv) := by
  subst e1; subst e2; subst e3
  exact pe_dispF hu hk hv
theorem g_fin (K : PySem.W.Frag) (P : Program) (w : World) (hu : X.A.units + 64 < cLine) (e1 : X.K = K := by rfl) (e2 : X.prog = P := by rfl) (e3 : X.w = w := by rfl) : OpR X (compareOp .In) (rFIn K P w false) := by
  subst e1; subst e2; subst e3
  exact or_fin hu
theorem g_fnotin (K : PySem.W.Frag) (P : Program) (w : World) (hu : X.A.units + 64 < cLine) (e1 : X.K = K := by rfl) (e2 : X.prog = P := by rfl) (e3 : X.w = w := by rfl) : OpR X (compareOp .NotIn) (rFIn K P w true) := by
  subst e1; subst e2; subst e3
  exact or_fnotin hu
theorem g_ixfd (K : PySem.W.Frag) (P : Program) (w : World) (hu : X.A.units + 64 < cLine) (e1 : X.K = K := by rfl) (e2 : X.prog = P := by rfl) (e3 : X.w = w := by rfl) : IxR X (rFGet K P w) := by
  subst e1; subst e2; subst e3
  exact ix_fd hu
theorem g_setfd (K : PySem.W.Frag) (P : Program) (w : World) (hu : X.A.units + 64 < cLine) (e1 : X.K = K := by rfl) (e2 : X.prog = P := by rfl) (e3 : X.w = w := by rfl) : PSet X (rFPut K P w) := by
  subst e1; subst e2; subst e3
  exact set_fd hu
def rFLen (K : PySem.W.Frag) (P : Program) (w : World) : List V → Hp → VK → Prop := fun xs H Q => ∃ (d : Addr) (es : List FE), xs = [V.ref d] ∧ H d = some (FD P w d es) ∧ KeysAt K H es ∧ Q (.int (es.length : Int)) H
theorem g_lenfd (K : PySem.W.Frag) (P : Program) (w : World) (e1 : X.K = K := by rfl) (e2 : X.prog = P := by rfl) (e3 : X.w = w := by rfl) : CallR X (.builtin "len") (rFLen K P w) := by
  subst e1; subst e2; subst e3
  exact call_lenFD
def rFList (K : PySem.W.Frag) (P : Program) (w : World) : List V → Hp → VK → Prop := fun xs H Q => ∃ (d : Addr) (es : List FE), xs = [V.ref d] ∧ H d = some (FD P w d es) ∧ KeysAt K H es ∧ ∀ p, H p = none → Q (.ref p) (upd H p (.lst (es.map fun e => V.ref e.2.1)))
theorem g_listfd (K : PySem.W.Frag) (P : Program) (w : World) (hc : X.calm = true) (e1 : X.K = K := by rfl) (e2 : X.prog = P := by rfl) (e3 : X.w = w := by rfl) : CallR X (.type "list") (rFList K P w) := by
  subst e1; subst e2; subst e3
  exact call_listFD hc
theorem g_setTx (P : Program) (w : World) (hc : X.calm = true) (e2 : X.prog = P := by rfl) (e3 : X.w = w := by rfl) : CallR X (.type "set") (rSetTx P w) := by
  subst e2; subst e3
  exact cr_setTx hc
theorem g_sortTx (P : Program) (w : World) (hc : X.calm = true) (e2 : X.prog = P := by rfl) (e3 : X.w = w := by rfl) : CallR X (.builtin "sorted") (rSortTx P w) := by
  subst e2; subst e3
  exact cr_sortTx hc
end
end G
namespace G
open PySem PySem.Spec PyProof.Rows L2
theorem joinL_flat : ∀ ls : List (List Nat), TL.joinL [] ls = ls.flatten
  | [] => rfl
  | [a] => by
    show a = [a].flatten
    simp
  | a :: b :: r => by
    show a ++ ([] ++ TL.joinL [] (b :: r)) = _
    rw [joinL_flat (b :: r), List.nil_append]
    rfl
theorem join_flat (zs : List Str) : cs (Txt.join "" zs) = (zs.map cs).flatten := by
  rw [TL.join_eq]
  have h := TL.tl_join "" zs
  exact h.trans (joinL_flat _)
theorem sizes_le {zs : List Str} (h : ∀ z ∈ zs, z.length ≤ 5) : (zs.map (·.length)).sum ≤ 5 * zs.length := by
  induction zs with
  | nil => exact Nat.le_refl _
  | cons a r ih =>
    have h1 := ih fun z hz => h z (List.mem_cons_of_mem _ hz)
    have h2 := h a List.mem_cons_self
    rw [List.map_cons, List.sum_cons, List.length_cons]
    omega
theorem pieces_len {zs : List Str} : ((zs.map cs).flatten).length = (zs.map (·.length)).sum := by
  rw [List.length_flatten, List.map_map]
  congr 1
end G
namespace G
open PySem PySem.Spec PyProof.Rows L2
/-- _law_step, the front written or made -/
def spLawStepK (K : PySem.W.Frag) : Sp := fun vs H Q _ => ∃ (d f : Addr) (kvs : List (Key × V)) (l : List Nat) (ds : List Int) (c L : Nat), vs = [.ref d, .ref f, .str (ch c)] ∧ H d = some (.dK kvs) ∧ Tar kvs ∧ kvs ≠ [] ∧ KeyAt K H (sOf l, ds) f ∧ Wide (tfD kvs) L ∧ Over (tfD kvs) [c] ∧ l.length < L ∧ ds.length = l.length ∧
  ∀ t m H', StepR (tfD kvs) l ds c m → StepAt H' t (stepW L l c) (stepD L l ds c m) m → Same H H' → Q (.ref t) H'
end G
/-! Fronts of a book and of one with needless pieces; bounds of the differences; written books; keys as data. -/
namespace G
open PySem PySem.Spec PyProof.Rows L2
section
variable {F F' : Tf} {L : Nat}
/-- pieces that others make as cheaply change no cheapest price -/
theorem more_same (G : Good F) (G' : Good F') (ov : ∀ l, Over F' l ↔ Over F l) (sub : ∀ z q, F z = some q → F' z = some q) (new : ∀ z q, F' z = some q → lp F (cs z) ≤ q) {l : List Nat} (o : Over F l) : lp F' l = lp F l := by
  have h1 : lp F l ≤ lp F' l := lp_mono G G' (fun z p h => ⟨(ov _).mp (G'.cov z p h), new z p h⟩) o ((ov l).mpr o)
  have h2 : lp F' l ≤ lp F l := lp_mono G' G (fun z p h => ⟨(ov _).mpr (G.cov z p h), lp_piece G' (sub z p h)⟩) ((ov l).mpr o) o
  omega
/-- the prices of signs, added up -/
def feeS (F : Tf) (b : List Nat) : Int := (b.map fun c => (F (ch c)).getD 0).sum
theorem lp_feeS (G : Good F) : ∀ b, Over F b → lp F b ≤ feeS F b
  | [], _ => by
    rw [lp_nil G]
    exact Int.le_refl _
  | c :: r, o => by
    have o1 : Over F [c] := fun d hd => o d (by rw [List.mem_singleton.mp hd]; exact List.mem_cons_self)
    have o2 : Over F r := fun d hd => o d (List.mem_cons_of_mem _ hd)
    obtain ⟨p, hp⟩ := o c List.mem_cons_self
    have h1 := lp_sign G hp
    have h2 : lp F (c :: r) ≤ lp F [c] + lp F r := lp_add G o1 o2
    have h3 := lp_feeS G r o2
    have h4 : feeS F (c :: r) = (F (ch c)).getD 0 + feeS F r := by
      unfold feeS
      rw [List.map_cons, List.sum_cons]
    rw [h4, hp]
    show _ ≤ p + _
    omega
theorem feeS_most {M : Int} (hM : ∀ c p, F (ch c) = some p → p ≤ M) : ∀ b, Over F b → feeS F b ≤ M * (b.length : Int)
  | [], _ => by simp [feeS]
  | c :: r, o => by
    have o2 : Over F r := fun d hd => o d (List.mem_cons_of_mem _ hd)
    obtain ⟨p, hp⟩ := o c List.mem_cons_self
    have h3 := feeS_most hM r o2
    have h5 := hM c p hp
    have h4 : feeS F (c :: r) = p + feeS F r := by
      unfold feeS
      rw [List.map_cons, List.sum_cons, hp]
      rfl
    rw [h4, List.length_cons]
    have e : M * ((r.length + 1 : Nat) : Int) = M * (r.length : Int) + M := by
      rw [Int.natCast_add, Int.mul_add]
      omega
    omega
/-- signs taken away at the end: the rest is at most so much dearer -/
theorem lp_drop (G : Good F) (W : Wide F L) {M : Int} (h0 : 0 ≤ M) (hM : ∀ c p, F (ch c) = some p → p ≤ M) : ∀ (n : Nat) (l a b : List Nat), l.length ≤ n → l = a ++ b → Over F l → lp F a ≤ lp F l + ((L - 1 : Nat) : Int) * M := by
  intro n
  induction n with
  | zero =>
    intro l a b hl e o
    have hn : l = [] := List.length_eq_zero_iff.mp (Nat.le_zero.mp hl)
    rw [hn] at e
    have ha : a = [] := (List.append_eq_nil_iff.mp e.symm).1
    rw [hn, ha]
    have := Int.mul_nonneg (Int.natCast_nonneg (L - 1)) h0
    omega
  | succ n ih =>
    intro l a b hl e o
    have pos := Int.mul_nonneg (Int.natCast_nonneg (L - 1)) h0
    by_cases hn : l = []
    · rw [hn] at e
      have ha : a = [] := (List.append_eq_nil_iff.mp e.symm).1
      rw [hn, ha]
      omega
    obtain ⟨z, p, a', hz, el, ep⟩ := lp_last G o hn
    have z1 := (G.len z p hz).1
    have zL := W.2 z p hz
    have pp := (G.pos z p hz).1
    have o' : Over F a' := by rw [el] at o; exact o.left
    have ln := congrArg List.length el
    rw [List.length_append] at ln
    rcases (Nat.lt_or_ge a'.length a.length).symm with c | c
    · -- the end's piece lies behind
      have ea : a' = a ++ a'.drop a.length := by
        have h := el
        rw [e] at h
        have h2 := congrArg (List.take a.length) h
        rw [List.take_left, List.take_append_of_le_length c] at h2
        conv => lhs; rw [← List.take_append_drop a.length a']
        rw [← h2]
      have := ih a' a (a'.drop a.length) (by omega) ea o'
      omega
    · have ea : a = a' ++ (cs z).take (a.length - a'.length) := by
        have h := el
        rw [e] at h
        have h2 := congrArg (List.take a.length) h
        rw [List.take_left, List.take_append, List.take_of_length_le (Nat.le_of_lt c)] at h2
        exact h2
      have lb : (a ++ b).length = l.length := by rw [e]
      rw [List.length_append] at lb
      by_cases hb : b = []
      · rw [hb, List.append_nil] at e
        rw [e]
        omega
      have b1 : 1 ≤ b.length := by
        rcases b with _ | _
        · exact absurd rfl hb
        · simp
      have oz : Over F ((cs z).take (a.length - a'.length)) := (G.cov z p hz).take _
      have h1 := lp_add G o' oz
      rw [← ea] at h1
      have h2 := lp_feeS G _ oz
      have h3 := feeS_most hM _ oz
      have h4 : (((cs z).take (a.length - a'.length)).length : Int) ≤ ((L - 1 : Nat) : Int) := by
        rw [List.length_take]
        omega
      have h5 : M * (((cs z).take (a.length - a'.length)).length : Int) ≤ ((L - 1 : Nat) : Int) * M := by
        rw [Int.mul_comm]
        exact Int.mul_le_mul_of_nonneg_right h4 h0
      omega
/-- how far a front's differences go -/
theorem front_bnd (G : Good F) (W : Wide F L) {M : Int} (h0 : 0 ≤ M) (hM : ∀ c p, F (ch c) = some p → p ≤ M) {l : List Nat} (o : Over F l) {i : Nat} {d : Int} (h : (frontD F L l)[i]? = some d) : 0 - feeS F ((frontW L l).drop ((frontW L l).length - (i + 1))) ≤ d ∧ d ≤ ((L - 1 : Nat) : Int) * M := by
  have hi : i < min (L - 1) l.length := by
    have := (List.getElem?_eq_some_iff.mp h).1
    rwa [frontD_len] at this
  rw [frontD_at hi] at h
  have e := Option.some.inj h
  have ed : (frontW L l).drop ((frontW L l).length - (i + 1)) = l.drop (l.length - (i + 1)) := by
    rw [frontW_len]
    unfold frontW
    rw [List.drop_drop]
    congr 1
    omega
  have el : l = l.take (l.length - (i + 1)) ++ l.drop (l.length - (i + 1)) := (List.take_append_drop _ _).symm
  have od : Over F (l.drop (l.length - (i + 1))) := fun c hc => o c (List.mem_of_mem_drop hc)
  have h1 := lp_drop G W h0 hM l.length l _ _ (Nat.le_refl _) el o
  have h2 := lp_add G (o.take (l.length - (i + 1))) od
  rw [← el] at h2
  have h3 := lp_feeS G _ od
  rw [ed]
  omega
theorem front_bnd99 (G : Good F) (W : Wide F L) (hL : L ≤ 5) {l : List Nat} (o : Over F l) : ∀ d ∈ frontD F L l, d.natAbs ≤ 400 := fun d hd => by
  obtain ⟨i, hi⟩ := List.getElem?_of_mem hd
  have hM : ∀ c p, F (ch c) = some p → p ≤ 99 := fun c p h => (G.pos _ p h).2
  obtain ⟨h1, h2⟩ := front_bnd G W (M := 99) (by decide) hM o hi
  have od : Over F ((frontW L l).drop ((frontW L l).length - (i + 1))) := fun c hc => o c (frontW_mem (List.mem_of_mem_drop hc))
  have h3 := feeS_most hM _ od
  have h4 : ((frontW L l).drop ((frontW L l).length - (i + 1))).length ≤ 4 := by
    rw [List.length_drop, frontW_len]
    omega
  omega
end
/-! ### keys as data -/
theorem dpA_keys {K : PySem.W.Frag} {H : Hp} : ∀ {qs : List (Addr × FK)}, (∀ q ∈ qs, KeyAt K H q.2 q.1) → DpAll K H (qs.map fun q => V.ref q.1) ((qs.map (·.2)).map dKey)
  | [], _ => .nil
  | _ :: _, h => .cons (dp_key (h _ List.mem_cons_self)) (dpA_keys fun q hq => h q (List.mem_cons_of_mem _ hq))
theorem lay_ints : ∀ ds : List Int, PyData.canLayAll0 (ds.map PyData.int) = true
  | [] => rfl
  | d :: r => by
    have := lay_ints r
    simp [PyData.canLayAll0, PyData.canLay0, this]
theorem lay_str {z : Str} (h : ∀ c ∈ cs z, lett c = true) : (PyData.str z).canLay0 = true := SeqAt.canLay_of_shaped (shaped_str h)
theorem lay_key {k : FK} (h : ∀ c ∈ cs k.1, lett c = true) : (dKey k).canLay0 = true := by
  have h1 := lay_str h
  have h2 := lay_ints k.2
  simp [dKey, PyData.canLay0, PyData.canLayAll0] at h1 ⊢
  exact ⟨h1, h2⟩
theorem shaped_key {k : FK} (h : ∀ c ∈ cs k.1, lett c = true) : SeqAt.shaped (dKey k) = true := by
  unfold SeqAt.shaped
  rw [lay_key h, Bool.true_and]
  exact decide_eq_true (Nat.le_trans (depth_key k) (by decide))
theorem lay_keys : ∀ {ks : List FK}, (∀ k ∈ ks, ∀ c ∈ cs k.1, lett c = true) → PyData.canLayAll0 (ks.map dKey) = true ∧ PyData.depthAll (ks.map dKey) ≤ 4
  | [], _ => ⟨rfl, Nat.zero_le _⟩
  | k :: r, h => by
    obtain ⟨h1, h2⟩ := lay_keys (ks := r) fun x hx => h x (List.mem_cons_of_mem _ hx)
    have h3 := lay_key (h k List.mem_cons_self)
    have h4 := depth_key k
    constructor
    · simp [PyData.canLayAll0, h1, h3]
    · simp only [List.map_cons, PyData.depthAll]
      omega
theorem shaped_keys {ks : List FK} (h : ∀ k ∈ ks, ∀ c ∈ cs k.1, lett c = true) : SeqAt.shaped (.list (ks.map dKey)) = true := by
  obtain ⟨h1, h2⟩ := lay_keys h
  unfold SeqAt.shaped
  rw [Bool.and_eq_true]
  exact ⟨by simpa [PyData.canLay0] using h1, decide_eq_true (by simp only [PyData.depth]; omega)⟩
theorem eqv_ints : ∀ as bs : List Int, PyData.eqvAll (as.map PyData.int) (bs.map PyData.int) = decide (as = bs)
  | [], [] => rfl
  | [], _ :: _ => rfl
  | _ :: _, [] => rfl
  | a :: r, b :: q => by
    have h := eqv_ints r q
    simp only [List.map_cons, PyData.eqvAll, PyData.eqv, h]
    by_cases h1 : a = b <;> by_cases h2 : r = q <;> simp [h1, h2]
theorem eqv_key (a b : FK) : PyData.eqv (dKey a) (dKey b) = decide (a = b) := by
  have h := eqv_ints a.2 b.2
  simp only [dKey, PyData.eqv, PyData.eqvAll, h]
  obtain ⟨a1, a2⟩ := a
  obtain ⟨b1, b2⟩ := b
  by_cases h1 : a1 = b1 <;> by_cases h2 : a2 = b2 <;> simp [h1, h2]
theorem any_key {k : FK} : ∀ {ks : List FK}, ((ks.map dKey).any fun z => PyData.eqv z (dKey k)) = decide (k ∈ ks)
  | [] => by simp
  | x :: r => by
    rw [List.map_cons, List.any_cons, any_key, eqv_key]
    by_cases h : x = k
    · subst h
      simp
    · have h' : k ≠ x := fun e => h e.symm
      simp [h, h']
theorem shw_keys {ks : List FK} (hl : ks.length ≤ 800) (h : ∀ k ∈ ks, (cs k.1).length ≤ 5 ∧ (∀ c ∈ cs k.1, lett c = true) ∧ k.2.length ≤ 5 ∧ ∀ d ∈ k.2, d.natAbs < 2 ^ 300) : Shw (.list (ks.map dKey)) 3 (800 * 19402 + 2) := by
  refine (shw_list (k := 2) (n := 2 * 9700) fun d hd => ?_).le (by omega) (by
    rw [List.length_map]
    have := Nat.mul_le_mul_right (2 * 9700 + 2) hl
    omega)
  obtain ⟨k, hk, rfl⟩ := List.mem_map.mp hd
  obtain ⟨h1, h2, h3, h4⟩ := h k hk
  have e : dKey k = dFront (cs k.1) k.2 := by
    unfold dKey dFront
    rw [sOf_cs]
  rw [e]
  exact shw_front h1 h2 h3 h4
theorem repr_keys {K : PySem.W.Frag} {H : Hp} {x : V} {ks : List FK} {Q : VK} (hx : Dp K H x (.list (ks.map dKey))) (hl : ks.length ≤ 800) (h : ∀ k ∈ ks, (cs k.1).length ≤ 5 ∧ (∀ c ∈ cs k.1, lett c = true) ∧ k.2.length ≤ 5 ∧ ∀ d ∈ k.2, d.natAbs < 2 ^ 300) (q : Q (.str (PyData.list (ks.map dKey)).shown) H) : rRepr K [x] H Q := by
  have s := shw_keys hl h
  exact ⟨x, _, rfl, hx, s.s, s.h, Nat.le_trans s.dp (by decide), Nat.le_trans s.len (by rw [sizeLine_eq]; decide), q⟩
section
variable {X : L2.Cx}
theorem g_inD (K : PySem.W.Frag) (hu : X.A.units + 65 < cLine) (e : X.K = K := by rfl) : OpR X (compareOp .In) (rInD K) := by
  subst e
  exact op_inD hu
end
/-! ### written books -/
def stepC (ps : List (List Nat × Int)) (L : Nat) (k : List Nat × List Int) (c : Nat) : Option (List Nat × List Int) := match minI (candF ps k.1 k.2 c) with
  | none => none
  | some m => some (stepW L k.1 c, stepD L k.1 k.2 c m)
def closedC (ps : List (List Nat × Int)) (L : Nat) (sg : List Nat) (ks : List (List Nat × List Int)) : Bool :=
  ks.contains ([], []) && ks.all fun k => sg.all fun c => match stepC ps L k c with
    | none => false
    | some k' => ks.contains k'
def keyC (k : List Nat × List Int) : FK := (sOf k.1, k.2)
theorem closed_mem {kvs : List (Key × V)} (nd : (kvs.map (·.1)).Nodup) (G : Good (tfD kvs)) {L : Nat} (W : Wide (tfD kvs) L) (hL : 1 ≤ L) {sg : List Nat} (hsg : ∀ c, Over (tfD kvs) [c] → c ∈ sg) {ks : List (List Nat × List Int)} (h : closedC (psK kvs) L sg ks = true) (l : List Nat) (o : Over (tfD kvs) l) : fr (tfD kvs) L l ∈ ks.map keyC := by
  unfold closedC at h
  rw [Bool.and_eq_true] at h
  obtain ⟨h0, h1⟩ := h
  refine rch_closed G W hL (ks := ks.map keyC) (List.mem_map.mpr ⟨([], []), by simpa using h0, rfl⟩) (fun l c o hk => ?_) l.length l (Nat.le_refl _) o
  obtain ⟨k, hk, e⟩ := List.mem_map.mp hk
  have h2 := List.all_eq_true.mp (List.all_eq_true.mp h1 k hk) c (hsg c (over_init o).2)
  have e' : k = (frontW L l, frontD (tfD kvs) L l) := by
    have a1 := congrArg (fun k : FK => cs k.1) e
    have a2 := congrArg (fun k : FK => k.2) e
    unfold keyC fr at a1 a2
    dsimp only at a1 a2
    rw [cs_sOf, cs_sOf] at a1
    exact Prod.ext a1 a2
  unfold stepC at h2
  rw [e'] at h2
  dsimp only at h2
  split at h2
  · cases h2
  · rename_i k' hs
    split at hs
    · cases hs
    · rename_i m hm
      obtain ⟨e2, _⟩ := fr_next G W hL o (step_of nd hm)
      have e3 := Option.some.inj hs
      refine List.mem_map.mpr ⟨k', by simpa using h2, ?_⟩
      rw [e2, ← e3]
      rfl
theorem closed_rch {kvs : List (Key × V)} (nd : (kvs.map (·.1)).Nodup) (G : Good (tfD kvs)) {L : Nat} (W : Wide (tfD kvs) L) (hL : 1 ≤ L) {ws : List (List Nat)} (ow : ∀ w ∈ ws, Over (tfD kvs) w) {ks : List (List Nat × List Int)} (h : ws.map (fun w => runF (psK kvs) L w [] []) = ks.map some) : ∀ k ∈ ks.map keyC, Rch (tfD kvs) L k := by
  intro k hk
  obtain ⟨x, hx, rfl⟩ := List.mem_map.mp hk
  have h1 : some x ∈ ks.map some := List.mem_map.mpr ⟨x, hx, rfl⟩
  rw [← h] at h1
  obtain ⟨w, hw, e⟩ := List.mem_map.mp h1
  obtain ⟨e1, e2⟩ := run_all nd G W hL (ow w hw) (w' := x.1) (d' := x.2) e
  refine ⟨w, ow w hw, ?_⟩
  unfold fr keyC
  rw [e1, e2]
def oneK : List (Key × V) := [(.inr (sOf [97]), .int 1), (.inr (sOf [98]), .int 1)]
def pairK : List (Key × V) := [(.inr (sOf [97]), .int 1), (.inr (sOf [98]), .int 1), (.inr (sOf [97, 98]), .int 2)]
def coinK : List (Key × V) := [(.inr (sOf [97]), .int 5), (.inr (sOf [97, 97, 97, 97]), .int 9)]
theorem one_av : arePrices oneK = true := by decide +kernel
theorem one_nd : (oneK.map (·.1)).Nodup := by decide +kernel
theorem one_wd : Wide (tfD oneK) 1 := wide_ps one_nd (by decide +kernel) (by decide +kernel)
theorem one_good : Good (tfD oneK) := (tar_of one_av one_nd).good
theorem pair_av : arePrices pairK = true := by decide +kernel
theorem pair_nd : (pairK.map (·.1)).Nodup := by decide +kernel
theorem pair_wd : Wide (tfD pairK) 2 := wide_ps pair_nd (by decide +kernel) (by decide +kernel)
theorem pair_good : Good (tfD pairK) := (tar_of pair_av pair_nd).good
theorem coin_av : arePrices coinK = true := by decide +kernel
theorem coin_nd : (coinK.map (·.1)).Nodup := by decide +kernel
theorem coin_wd : Wide (tfD coinK) 4 := wide_ps coin_nd (by decide +kernel) (by decide +kernel)
theorem coin_good : Good (tfD coinK) := (tar_of coin_av coin_nd).good
/-- the signs of a written book -/
theorem signs_ps {kvs : List (Key × V)} (nd : (kvs.map (·.1)).Nodup) {sg : List Nat} (h : ((psK kvs).all fun q => match q.1 with | [c] => sg.contains c | _ => true) = true) (c : Nat) (o : Over (tfD kvs) [c]) : c ∈ sg := by
  obtain ⟨p, hp⟩ := o c List.mem_cons_self
  have h1 := List.all_eq_true.mp h _ ((ps_tf nd).mp hp)
  have e : cs (ch c) = [c] := by simp [cs]
  rw [e] at h1
  simpa using h1
def pairFr : List (List Nat × List Int) := [([], []), ([97], [-1]), ([98], [-1])]
theorem pair_closed : closedC (psK pairK) 2 [97, 98] pairFr = true := by decide +kernel
theorem pair_runs : [[], [97], [98]].map (fun w => runF (psK pairK) 2 w [] []) = pairFr.map some := by decide +kernel
theorem pair_rch (k : FK) : Rch (tfD pairK) 2 k ↔ k ∈ pairFr.map keyC := ⟨fun ⟨l, o, e⟩ => e ▸ closed_mem pair_nd pair_good pair_wd (by decide) (signs_ps pair_nd (by decide +kernel)) pair_closed l o,
  closed_rch pair_nd pair_good pair_wd (by decide) (fun w hw => over_ps pair_nd (by
    simp only [List.mem_cons, List.not_mem_nil, or_false] at hw
    rcases hw with rfl | rfl | rfl <;> decide +kernel)) pair_runs k⟩
theorem rch_one {F : Tf} (k : FK) : Rch F 1 k ↔ k = (sOf [], []) := by
  have e : ∀ l, fr F 1 l = (sOf [], []) := fun l => by
    unfold fr frontW frontD
    rw [show min (1 - 1) l.length = 0 by omega, Nat.sub_zero, List.drop_length]
    rfl
  exact ⟨fun ⟨l, _, h⟩ => h.symm.trans (e l), fun h => ⟨[], fun _ h => (List.not_mem_nil h).elim, (e []).trans h.symm⟩⟩
theorem whole_len {F : Tf} {L : Nat} {E : List BE} (w : Whole F L E) {ks : List FK} (nd : ks.Nodup) (h : ∀ k, Rch F L k ↔ k ∈ ks) : E.length = ks.length := by
  have := ((List.perm_ext_iff_of_nodup w.nd nd).mpr fun k => by rw [w.mem, h]).length_eq
  unfold keysE at this
  rwa [List.length_map] at this
def coinFr : List (List Nat × List Int) := [([], []), ([97], [-5]), ([97, 97], [-5, -10]), ([97, 97, 97], [-5, -10, -15]), ([97, 97, 97], [6, 1, -4]), ([97, 97, 97], [-5, 1, -4]), ([97, 97, 97], [-5, -10, -4])]
theorem coin_closed : closedC (psK coinK) 4 [97] coinFr = true := by decide +kernel
theorem coin_runs : ([0, 1, 2, 3, 4, 5, 6].map fun n => List.replicate n 97).map (fun w => runF (psK coinK) 4 w [] []) = coinFr.map some := by decide +kernel
theorem coin_rch (k : FK) : Rch (tfD coinK) 4 k ↔ k ∈ coinFr.map keyC := ⟨fun ⟨l, o, e⟩ => e ▸ closed_mem coin_nd coin_good coin_wd (by decide) (signs_ps coin_nd (by decide +kernel)) coin_closed l o,
  closed_rch coin_nd coin_good coin_wd (by decide) (fun w hw => over_ps coin_nd (by
    simp only [List.map_cons, List.map_nil, List.mem_cons, List.not_mem_nil, or_false] at hw
    rcases hw with rfl | rfl | rfl | rfl | rfl | rfl | rfl <;> decide +kernel)) coin_runs k⟩
theorem few_of {F : Tf} {L b : Nat} {ks : List FK} (h : ∀ k, Rch F L k ↔ k ∈ ks) (hl : ks.length ≤ b) : Few F L b := ⟨ks, hl, fun k hk => (h k).mp hk⟩
end G
namespace G
open PySem PySem.Spec PyProof.Rows L2
/-- a book's prices with further pieces that others make as cheaply -/
structure MoreOk (sg : List Nat) (kvs kv : List (Key × V)) (L : Nat) : Prop where
  ok : PrOk sg kv
  len : kv.length ≤ 12
  sub : ∀ z q, tfD kvs z = some q → tfD kv z = some q
  new : ∀ z q, tfD kv z = some q → tfD kvs z = some q ∨ (tfD kvs z = none ∧ (cs z).length ≤ L ∧ (lp (tfD kvs) (cs z) ≤ 99 → lp (tfD kvs) (cs z) ≤ q))
section
variable {sg : List Nat} {kvs kv : List (Key × V)} {L : Nat}
theorem more_init (T : Tar kvs) (nd : (kvs.map (·.1)).Nodup) (h12 : kvs.length ≤ 12) (h : ∀ c, (∃ q, tfD kvs (ch c) = some q) ↔ c ∈ sg) : MoreOk sg kvs kvs L where
  ok := ⟨fun e he => by
    obtain ⟨z, p, rfl, hp⟩ := T.mem e he
    exact ⟨z, p, rfl, T.good.len z p hp, fun c hc => (h c).mp (T.good.cov z p hp c hc), T.good.pos z p hp⟩, nd⟩
  len := h12
  sub := fun z q h => h
  new := fun z q h => .inl h
theorem val_tf {z : Str} (h : (valV kv (Sum.inr z : Key)).isSome = false) : tfD kv z = none := by
  unfold tfD
  cases e : valV kv (Sum.inr z : Key) with
  | none => rfl
  | some v =>
    rw [e] at h
    cases h
theorem MoreOk.put (M : MoreOk sg kvs kv L) (G : Good (tfD kvs)) {z : Str} {r : Int} (hz : tfD kv z = none) (hl : kv.length < 12) (h1 : 1 ≤ (cs z).length) (hL : (cs z).length ≤ L) (L5 : L ≤ 5) (hs : ∀ c ∈ cs z, c ∈ sg) (ov : Over (tfD kvs) (cs z)) (hr : 0 ≤ r) :
    MoreOk sg kvs (putK kv (Sum.inr z) (.int (if lp (tfD kvs) (cs z) + r < 99 then lp (tfD kvs) (cs z) + r else 99))) L := by
  have lp1 := lp_pos G ov (fun e => by rw [e] at h1; simp at h1)
  have none' : tfD kvs z = none := by
    cases e : tfD kvs z with
    | none => rfl
    | some q =>
      have := M.sub z q e
      rw [hz] at this
      cases this
  refine ⟨M.ok.put ⟨h1, by omega⟩ hs (by split <;> omega), ?_, fun y q h => ?_, fun y q h => ?_⟩
  · have := put_len (kvs := kv) (k := Sum.inr z) (v := V.int (if lp (tfD kvs) (cs z) + r < 99 then lp (tfD kvs) (cs z) + r else 99))
    omega
  · rw [tf_put]
    by_cases e : y = z
    · rw [e, none'] at h
      cases h
    · rw [if_neg e]
      exact M.sub y q h
  · rw [tf_put] at h
    by_cases e : y = z
    · rw [if_pos e] at h
      subst e
      have e2 := Option.some.inj h
      exact .inr ⟨none', hL, fun h99 => by rw [← e2]; split <;> omega⟩
    · rw [if_neg e] at h
      exact M.new y q h
theorem MoreOk.book (M : MoreOk sg kvs kv L) (h : ∀ c, (∃ q, tfD kvs (ch c) = some q) ↔ c ∈ sg) (hl : ∀ c ∈ sg, lett c = true) (n4 : sg.length ≤ 4) (n0 : 1 ≤ sg.length) : arePrices kv = true ∧ ∀ c, (∃ p, tfD kv (ch c) = some p) ↔ c ∈ sg :=
  M.ok.right (fun c hc => by
    obtain ⟨q, hq⟩ := (h c).mpr hc
    rw [tf_some.mp (M.sub _ _ hq)]
    rfl) hl n4 n0 M.len
end
end G
namespace G
open PySem PySem.Spec PyProof.Rows L2
noncomputable def dearW (kvs : List (Key × V)) (e : Key × V) : Option V := match e.1 with
  | .inr z => if (valV kvs (Sum.inr z : Key)).isSome = false ∧ 99 < lp (tfD kvs) (cs z) then some (V.str z) else none
  | .inl _ => none
section
variable {sg : List Nat} {kvs kv : List (Key × V)} {L : Nat}
theorem MoreOk.cheap (M : MoreOk sg kvs kv L) (T : Tar kvs) (h : kv.filterMap (dearW kvs) = []) (z : Str) (q : Int) (hz : tfD kv z = some q) : lp (tfD kvs) (cs z) ≤ q := by
  rcases M.new z q hz with h1 | ⟨h1, _, h2⟩
  · exact lp_piece T.good h1
  · refine h2 ?_
    have h3 := List.filterMap_eq_nil_iff.mp h _ (valV_mem (tf_some.mp hz))
    unfold dearW at h3
    dsimp only at h3
    have h4 : (valV kvs (Sum.inr z : Key)).isSome = false := by
      cases e : valV kvs (Sum.inr z : Key) with
      | none => rfl
      | some v =>
        obtain ⟨y, p, ey, hp⟩ := T.mem _ (valV_mem e)
        injection ey with e1 _
        have e2 : z = y := Sum.inr.inj e1
        rw [← e2, h1] at hp
        cases hp
    by_cases c : 99 < lp (tfD kvs) (cs z)
    · rw [if_pos ⟨h4, c⟩] at h3
      cases h3
    · omega
theorem over_iff {k1 k2 : List (Key × V)} (h1 : ∀ c, (∃ q, tfD k1 (ch c) = some q) ↔ c ∈ sg) (h2 : ∀ c, (∃ q, tfD k2 (ch c) = some q) ↔ c ∈ sg) (l : List Nat) : Over (tfD k1) l ↔ Over (tfD k2) l :=
  ⟨fun o c hc => (h2 c).mpr ((h1 c).mp (o c hc)), fun o c hc => (h1 c).mpr ((h2 c).mp (o c hc))⟩
theorem MoreOk.wide (M : MoreOk sg kvs kv L) (W : Wide (tfD kvs) L) : Wide (tfD kv) L := by
  obtain ⟨⟨z, p, h1, h2⟩, h3⟩ := W
  refine ⟨⟨z, p, M.sub _ _ h1, h2⟩, fun y q hy => ?_⟩
  rcases M.new y q hy with h | ⟨_, h, _⟩
  · exact h3 y q h
  · exact h
theorem few_congr {F F' : Tf} {b : Nat} (h : ∀ k, Rch F' L k ↔ Rch F L k) (fw : Few F L b) : Few F' L b := let ⟨ks, h1, h2⟩ := fw; ⟨ks, h1, fun k hk => h2 k ((h k).mp hk)⟩
/-- the least book's fronts -/
structure LeanOk (kv kl : List (Key × V)) (L M : Nat) : Prop where
  ov : ∀ l, Over (tfD kl) l ↔ Over (tfD kv) l
  lp : ∀ l, Over (tfD kv) l → G.lp (tfD kl) l = G.lp (tfD kv) l
  wd : Wide (tfD kl) M
  le : M ≤ L
theorem lean_ok (T : Tar kv) (W : Wide (tfD kv) L) {C b : Addr} {H : Hp} {kl : List (Key × V)} (B : Book1 C H b kl) (h : ∀ z q, tfD kl z = some q ↔ tfD kv z = some q ∧ ¬ Needless (tfD kv) z) : ∃ M, LeanOk kv kl L M := by
  obtain ⟨av, nd, ys, Lo, Mo, dx, d, tp, ta, od, pm, so, A⟩ := B
  obtain ⟨Ln, rfl⟩ : ∃ Ln : Nat, Lo = (Ln : Int) := by
    obtain ⟨q, _, e⟩ := List.mem_map.mp A.lo.1
    exact ⟨q.1.length, e.symm⟩
  obtain ⟨wide, l1, l5⟩ := wide_of av pm A.lo
  have e := least_ext h
  refine ⟨Ln, fun l => ⟨fun o c hc => ?_, fun o c hc => ?_⟩, fun l o => ?_, wide, ?_⟩
  · obtain ⟨q, hq⟩ := o c hc
    exact ⟨q, ((h _ _).mp hq).1⟩
  · obtain ⟨q, hq⟩ := o c hc
    exact ⟨q, (h _ _).mpr ⟨hq, need_sign⟩⟩
  · rw [e]
    exact least_same T.good o
  · obtain ⟨⟨z, p, h1, h2⟩, _⟩ := wide
    have := W.2 z p ((h _ _).mp h1).1
    omega
end
end G
namespace G
open PySem PySem.Spec PyProof.Rows L2
theorem whole_le {F : Tf} {L b : Nat} {E : List BE} (w : Whole F L E) (fw : Few F L b) : E.length ≤ b := by
  obtain ⟨ks, h1, h2⟩ := fw
  have := nd_sub_len (l1 := keysE E) (l2 := ks) w.nd fun k hk => h2 k (w.mem.mp hk)
  unfold keysE at this
  rw [List.length_map] at this
  omega
/-- what a book's front is like -/
theorem rch_small {kvs : List (Key × V)} {L : Nat} (av : arePrices kvs = true) (nd : (kvs.map (·.1)).Nodup) (W : Wide (tfD kvs) L) (L5 : L ≤ 5) {k : FK} (h : Rch (tfD kvs) L k) : (cs k.1).length ≤ 5 ∧ (∀ c ∈ cs k.1, lett c = true) ∧ k.2.length ≤ 5 ∧ ∀ d ∈ k.2, d.natAbs < 2 ^ 300 := by
  obtain ⟨l, o, rfl⟩ := h
  have good := (tar_of av nd).good
  unfold fr
  dsimp only
  rw [cs_sOf]
  refine ⟨by rw [frontW_len]; omega, fun c hc => lett_over av nd fun d hd => by rw [List.mem_singleton.mp hd]; exact o c (frontW_mem hc), by rw [frontD_len]; omega, fun d hd => Nat.lt_of_le_of_lt (front_bnd99 good W L5 o d hd) (by decide +kernel)⟩
/-- the ascending fronts, as keys -/
theorem frs_keys {K : PySem.W.Frag} {P : Program} {w : World} {Cf : Addr} {H : Hp} {p b : Addr} {F : Tf} {L : Nat} {E : List BE} {qs : List (Addr × FK)} {dx d t : Addr} (x : FrsAt K P w Cf H p b F L E qs dx d t) : (∀ k, k ∈ qs.map (·.2) ↔ Rch F L k) ∧ (qs.map (·.2)).length = E.length := by
  rw [x.so]
  refine ⟨fun k => srtK_mem.mem_iff.trans x.wh.mem, ?_⟩
  rw [srtK_mem.length_eq]
  unfold keysE
  rw [List.length_map]
theorem frs_same {K : PySem.W.Frag} {P : Program} {w : World} {Cf Cf' : Addr} {H H' : Hp} {p b p' b' : Addr} {F F' : Tf} {L L' : Nat} {E E' : List BE} {qs qs' : List (Addr × FK)} {dx d t dx' d' t' : Addr} (x : FrsAt K P w Cf H p b F L E qs dx d t) (y : FrsAt K P w Cf' H' p' b' F' L' E' qs' dx' d' t') (h : ∀ k, Rch F L k ↔ Rch F' L' k) : qs'.map (·.2) = qs.map (·.2) := by
  rw [x.so, y.so]
  exact (srtK_perm (whole_perm x.wh y.wh h)).symm
end G
namespace G
open PySem PySem.Spec PyProof.Rows L2
theorem Book1.ins {C b : Addr} {H : Hp} {kvs : List (Key × V)} (B : Book1 C H b kvs) : ∃ dx fs, H b = some (.ins C dx fs) := by
  obtain ⟨ys, L, M, dx, d, tp, ta, od, h1, h2, A⟩ := B.ex
  exact ⟨dx, _, A.ob⟩
theorem max_signs {kvs : List (Key × V)} {sg : List Nat} (sgns : ∀ c, (∃ q, tfD kvs (ch c) = some q) ↔ c ∈ sg) {m : Int} (hle : ∀ y ∈ sg.map (fun c => (tfD kvs (ch c)).getD 0), y ≤ m) (c : Nat) (p : Int) (h : tfD kvs (ch c) = some p) : p ≤ m := by
  have := hle _ (List.mem_map.mpr ⟨c, (sgns c).mp ⟨p, h⟩, rfl⟩)
  rw [h] at this
  exact this
end G
namespace G
open PySem PySem.Spec PyProof.Rows L2
theorem Book1.insF {C b : Addr} {H : Hp} {kvs : List (Key × V)} (B : Book1 C H b kvs) : ∃ dx d tp ta L M, H b = some (.ins C dx (bookF d tp ta L M)) := by
  obtain ⟨ys, L, M, dx, d, tp, ta, od, h1, h2, A⟩ := B.ex
  exact ⟨dx, d, tp, ta, L, M, A.ob⟩
theorem frs_srt {K : PySem.W.Frag} {P : Program} {w : World} {Cf : Addr} {H : Hp} {p b : Addr} {F : Tf} {L : Nat} {E : List BE} {qs : List (Addr × FK)} {dx d t : Addr} (x : FrsAt K P w Cf H p b F L E qs dx d t) {ks : List FK} (nd : ks.Nodup) (h : ∀ k, Rch F L k ↔ k ∈ ks) : qs.map (·.2) = srtK ks := by
  rw [x.so]
  exact srtK_perm ((List.perm_ext_iff_of_nodup x.wh.nd nd).mpr fun k => by rw [x.wh.mem, h])
theorem coin_nodup : (coinFr.map keyC).Nodup := by decide +kernel
theorem coin_lett : ∀ k ∈ srtK (coinFr.map keyC), ∀ c ∈ cs k.1, lett c = true := fun k hk => by
  have h : ((coinFr.map keyC).all fun k => (cs k.1).all lett) = true := by decide +kernel
  exact List.all_eq_true.mp (List.all_eq_true.mp h k (srtK_mem.mem_iff.mp hk))
theorem coin_in : (sOf [97, 97, 97], [-5, 1, -4]) ∈ srtK (coinFr.map keyC) ∧ (sOf [97, 97, 97], [6, 1, -4]) ∈ srtK (coinFr.map keyC) := ⟨srtK_mem.mem_iff.mpr (by decide +kernel), srtK_mem.mem_iff.mpr (by decide +kernel)⟩
theorem coin_more {kv : List (Key × V)} (av : arePrices kv = true) (nd : (kv.map (·.1)).Nodup) (h : ∀ y, tfD kv y = if y = sOf [97, 97] then some 10 else tfD coinK y) : Wide (tfD kv) 4 ∧ ∀ k, Rch (tfD kv) 4 k ↔ Rch (tfD coinK) 4 k := by
  have good := (tar_of av nd).good
  have none' : tfD coinK (sOf [97, 97]) = none := by decide +kernel
  have sub : ∀ z q, tfD coinK z = some q → tfD kv z = some q := fun z q hz => by
    rw [h, if_neg fun e => ?_]
    · exact hz
    · rw [e, none'] at hz
      cases hz
  have ne : ∀ c, ch c ≠ sOf [97, 97] := fun c e => by
    have := congrArg (fun z => (cs z).length) e
    simp [cs_sOf, cs] at this
  have ov : ∀ l, Over (tfD kv) l ↔ Over (tfD coinK) l := fun l => ⟨fun o c hc => by
    obtain ⟨q, hq⟩ := o c hc
    rw [h, if_neg (ne c)] at hq
    exact ⟨q, hq⟩, fun o c hc => by
    obtain ⟨q, hq⟩ := o c hc
    exact ⟨q, sub _ _ hq⟩⟩
  have new : ∀ z q, tfD kv z = some q → lp (tfD coinK) (cs z) ≤ q := fun z q hz => by
    rw [h] at hz
    split at hz
    · rename_i e
      have e2 := Option.some.inj hz
      rw [e, cs_sOf, ← e2]
      have o : Over (tfD coinK) [97, 97] := over_ps coin_nd (by decide +kernel)
      have h1 := lp_feeS coin_good _ o
      have h2 : feeS (tfD coinK) [97, 97] = 10 := by decide +kernel
      omega
    · exact lp_piece coin_good hz
  refine ⟨?_, rch_congr ov fun l o => more_same coin_good good ov sub new o⟩
  obtain ⟨⟨z, p, h1, h2⟩, h3⟩ := coin_wd
  refine ⟨⟨z, p, sub _ _ h1, h2⟩, fun y q hy => ?_⟩
  rw [h] at hy
  split at hy
  · rename_i e
    rw [e, cs_sOf]
    decide
  · exact h3 y q hy
theorem pair_lean {kl : List (Key × V)} {M : Nat} (h : ∀ z q, tfD kl z = some q ↔ tfD pairK z = some q ∧ ¬ Needless (tfD pairK) z) (wd : Wide (tfD kl) M) : M = 1 := by
  have need : Needless (tfD pairK) (sOf [97, 98]) := by
    have hz : 1 < (cs (sOf [97, 98])).length := by rw [cs_sOf]; decide
    refine ⟨2, by decide +kernel, hz, ?_⟩
    rw [cs_sOf]
    have o : Over (remF (tfD pairK) (sOf [97, 98])) [97, 98] := rem_over hz (over_ps pair_nd (by decide +kernel))
    have h1 := lp_feeS (rem_good pair_good hz) _ o
    have h2 : feeS (remF (tfD pairK) (sOf [97, 98])) [97, 98] = 2 := by decide +kernel
    omega
  obtain ⟨⟨z, p, h1, h2⟩, h3⟩ := wd
  obtain ⟨h4, h5⟩ := (h z p).mp h1
  have h6 := (ps_tf pair_nd).mp h4
  have h7 : cs z = [97] ∨ cs z = [98] ∨ cs z = [97, 98] := by
    have e : psK pairK = [([97], 1), ([98], 1), ([97, 98], 2)] := by decide +kernel
    rw [e] at h6
    simp only [List.mem_cons, List.not_mem_nil, or_false, Prod.mk.injEq] at h6
    rcases h6 with h | h | h
    · exact .inl h.1
    · exact .inr (.inl h.1)
    · exact .inr (.inr h.1)
  rcases h7 with e | e | e
  · rw [e] at h2
    exact h2.symm
  · rw [e] at h2
    exact h2.symm
  · exact absurd need (by
      have : z = sOf [97, 98] := str_ext (by rw [e, cs_sOf])
      rw [← this]
      exact h5)
theorem litN : Str.ofString "a" = sOf [97] ∧ Str.ofString "b" = sOf [98] ∧ Str.ofString "ab" = sOf [97, 98] ∧ Str.ofString "aaaa" = sOf [97, 97, 97, 97] ∧ Str.ofString "aa" = sOf [97, 97] ∧ Str.ofString "aaa" = sOf [97, 97, 97] := by decide +kernel
end G
namespace G
open PySem PySem.Spec PyProof.Rows L2
/-- a list of fronts, ascending -/
def RowAt (K : PySem.W.Frag) (H : Hp) (r : Addr) (ks : List FK) : Prop := ∃ qs : List (Addr × FK), H r = some (.lst (qs.map fun q => V.ref q.1)) ∧ (∀ q ∈ qs, KeyAt K H q.2 q.1) ∧ qs.map (·.2) = ks
theorem RowAt.same {K : PySem.W.Frag} {H H' : Hp} {r : Addr} {ks : List FK} (x : RowAt K H r ks) (s : Same H H') : RowAt K H' r ks := by
  obtain ⟨qs, h1, h2, h3⟩ := x
  exact ⟨qs, s _ _ h1, fun q hq => (h2 q hq).same s, h3⟩
theorem RowAt.updL {K : PySem.W.Frag} {H : Hp} {r D : Addr} {ks : List FK} {ys : List V} {o : HO} (x : RowAt K H r ks) (hD : H D = some (.lst ys)) (n : r ≠ D) : RowAt K (L2.upd H D o) r ks := by
  obtain ⟨qs, h1, h2, h3⟩ := x
  exact ⟨qs, by rw [upd_ne n]; exact h1, fun q hq => (h2 q hq).upd hD no_lst, h3⟩
theorem RowAt.dp {K : PySem.W.Frag} {H : Hp} {r : Addr} {ks : List FK} (x : RowAt K H r ks) : Dp K H (.ref r) (.list (ks.map dKey)) := by
  obtain ⟨qs, h1, h2, rfl⟩ := x
  exact .lst (SqL.of h1) (dpA_keys h2)
theorem inD_key {K : PySem.W.Frag} {H : Hp} {x y : V} {k : FK} {ks : List FK} {Q : VK} (hx : Dp K H x (dKey k)) (hy : Dp K H y (.list (ks.map dKey))) (hk : k ∈ ks) (hl : ∀ k ∈ ks, ∀ c ∈ cs k.1, lett c = true) (q : Q (.bl true) H) : rInD K x y H Q := by
  refine ⟨_, _, hx, hy, shaped_key (hl k hk), shaped_keys hl, ?_⟩
  rw [any_key, decide_eq_true hk]
  exact q
end G
/-! Own subscripts; the reached fronts' texts; cheapest prices kept in a dict; continuations. -/
namespace G
open PySem PySem.Spec PyProof.Rows L2
section
variable {X : L2.Cx} {k j : Nat} {C : Addr} {sp : Sp}
theorem fn_same {K : PySem.W.Frag} {c : Value} {m : Str} {f g : Addr} {oc : Value} {od : Option Addr} {fd : FuncData} {sl : Array (Option Value)} (a : PySem.W.findIn K c m = some (some (.ref f))) (l : K.lookup f = some ⟨oc, od, .func fd, sl⟩) (e : PySem.W.findIn K c m = some (some (.ref g))) : PySem.W.fnIn K g = true := by
  have h := a.symm.trans e
  cases h
  unfold PySem.W.fnIn
  rw [l]
def rIxO (C : Addr) (sp : Sp) : R2 := fun x y H Q => ∃ a dx fs, x = .ref a ∧ H a = some (.ins C dx fs) ∧ sp [.ref a, y] H Q C8.E0
/-- a[i] of an instance -/
theorem pe_ixO {a b : Expr} {ta tb : TE} {pos : Pos} (c : C8.Met X.prog X.w X.K X.mg X.base k C "__getitem__" sp []) (hr : Room j X.A) (hk : k + 1 ≤ j) (gi : ∀ f, PySem.W.findIn X.K (.ref C) "__getitem__" = some (some (.ref f)) → PySem.W.fnIn X.K f = true)
    (ha : PE X a ta) (hb : PE X b tb) (hs : ∀ o i, subscripted b true o i = runValue (.builtin "lifetime.subscript" ⟨[o, i], []⟩)) : PE X (.Subscript a b pos) (tOp (rIxO C sp) ta tb) := by
  refine ⟨fun pins s σ H Q I h => ?_⟩
  refine Subscript_ (binT ha hb I h fun v u s2 x y H2 I2 rx ry q => ?_)
  obtain ⟨p, dx, fs, rfl, hp, q⟩ := q
  cases rx
  obtain ⟨mA, J, _⟩ := ins_get I2.hok hp
  obtain ⟨od, J, _⟩ := J.look
  obtain ⟨m, hF⟩ := I2.fr
  obtain ⟨f, h1, h2, h3⟩ := met_run1 (us := [.ref p, u]) (vs := [.ref p, y]) c hr hk I2 (.cons rfl (.cons ry .nil)) q
  exact PySem.W.sub_K hF I2.ok.mod.kin J h1 (gi _ h1) h2 h3 (hs _ _)
end
section
variable {K : PySem.W.Frag} {H : Hp} {f : Addr} {xs : List V}
theorem ty_sqt (h : SqT K H f xs) : TyX K H (.ref f) (.type "tuple") := by
  rcases h with (h | ⟨o, h⟩) | ⟨o, _, _, h1, h2, _⟩
  · exact .base (.tup h)
  · exact .fTuple h
  · exact .kTuple h1 h2
end
/-! ### continuations -/
section
variable {F : Tf} {L : Nat}
theorem fr_more (G : Good F) (W : Wide F L) (hL : 1 ≤ L) {l l' : List Nat} (o : Over F l) (o' : Over F l') (h : fr F L l = fr F L l') : ∀ m : List Nat, Over F m → fr F L (l ++ m) = fr F L (l' ++ m) ∧ lp F (l ++ m) - lp F l = lp F (l' ++ m) - lp F l' := by
  have go : ∀ (n : Nat) (m : List Nat), m.length = n → Over F m → fr F L (l ++ m) = fr F L (l' ++ m) ∧ lp F (l ++ m) - lp F l = lp F (l' ++ m) - lp F l' := by
    intro n
    induction n with
    | zero =>
      intro m hm _
      rw [List.length_eq_zero_iff.mp hm, List.append_nil, List.append_nil]
      exact ⟨h, by omega⟩
    | succ n ih =>
    intro m hm om
    have ne : m ≠ [] := fun e => by
      rw [e] at hm
      simp at hm
    obtain ⟨m, c, rfl⟩ := snoc_cases ne
    rw [List.length_append, List.length_singleton] at hm
    obtain ⟨o1, oc⟩ := over_init om
    obtain ⟨h1, h2⟩ := ih m (by omega) o1
    have ov : Over F ((l ++ m) ++ [c]) := over_of (o.app o1) oc
    have ov' : Over F ((l' ++ m) ++ [c]) := over_of (o'.app o1) oc
    have s := front_change G W ov
    have s' := front_change G W ov'
    obtain ⟨w, d⟩ := fr_inj h1
    rw [w, d] at s
    have e := s.uniq s'
    rw [← List.append_assoc, ← List.append_assoc]
    exact ⟨fr_step G W hL h1 ov ov', by omega⟩
  exact fun m om => go _ m rfl om
theorem fst_first (G : Good F) {l : List Nat} (o : Over F l) (ne : l ≠ []) : ∃ z p b, F z = some p ∧ l = cs z ++ b ∧ lp F l = p + lp F b := by
  obtain ⟨c, hc, e⟩ := lp_cut G o
  obtain ⟨q, d, rfl⟩ : ∃ q d, c = q :: d := by
    cases c with
    | nil => exact absurd hc.2.symm ne
    | cons q d => exact ⟨q, d, rfl⟩
  have hq := hc.1 q List.mem_cons_self
  have hl : l = cs q.1 ++ (d.map fun p => cs p.1).flatten := by
    rw [← hc.2, List.map_cons, List.flatten_cons]
  have hd : Cut F (d.map fun p => cs p.1).flatten d := ⟨fun p hp => hc.1 p (List.mem_cons_of_mem _ hp), rfl⟩
  have ob : Over F (d.map fun p => cs p.1).flatten := by
    rw [hl] at o
    exact o.right
  refine ⟨q.1, q.2, _, hq, hl, ?_⟩
  have h1 := lp_le G hd ob
  have h2 := lp_add G (G.cov _ _ hq) ob
  have h3 := lp_piece G hq
  rw [← hl] at h2
  rw [fee_cons] at e
  omega
theorem fst_pre (G : Good F) {z : Str} {b : List Nat} (o : Over F (cs z ++ b)) {p : Int} (h : F z = some p) : lp F (cs z ++ b) ≤ p + lp F b := by
  have h2 := lp_add G (G.cov _ _ h) o.right
  have h3 := lp_piece G h
  omega
/-- the least of the prices of the first pieces and the rests -/
theorem fst_step (G : Good F) {l : List Nat} (o : Over F l) (ne : l ≠ []) {m : Int} {ys : List Int} (hin : ∀ y ∈ ys, ∃ z p b, F z = some p ∧ l = cs z ++ b ∧ y = p + lp F b)
    (hall : ∀ z p b, F z = some p → l = cs z ++ b → p + lp F b ∈ ys) (hm : m ∈ ys) (hl : ∀ y ∈ ys, m ≤ y) : m = lp F l := by
  obtain ⟨z, p, b, h1, h2, h3⟩ := fst_first G o ne
  have h4 := hl _ (hall z p b h1 h2)
  obtain ⟨z', p', b', h5, h6, h7⟩ := hin m hm
  have h8 := fst_pre G (z := z') (b := b') (by rw [← h6]; exact o) h5
  rw [← h6] at h8
  omega
end
/-! ### prices kept in a dict -/
structure Memo (F : Tf) (kf : List (Key × V)) : Prop where
  ex : ∃ S : Str → Prop, TblOk F S kf ∧ S (sOf [])
  nd : (kf.map (·.1)).Nodup
section
variable {F : Tf} {kf kf' : List (Key × V)} {t : List Nat}
theorem Memo.val {z : Str} (m : Memo F kf) (h : (valV kf (Sum.inr z)).isSome = true) : valV kf (Sum.inr z) = some (.int (lp F (cs z))) := by
  obtain ⟨S, T, _⟩ := m.ex
  obtain ⟨v, hv⟩ := Option.isSome_iff_exists.mp h
  have hx : ∃ kv ∈ kf, kv.1 = Sum.inr z := by
    unfold valV at hv
    cases q : kf.find? (fun kv => decide (kv.1 = Sum.inr z)) with
    | none =>
      rw [q] at hv
      cases hv
    | some kv => exact ⟨kv, List.mem_of_find?_eq_some q, by simpa using List.find?_some q⟩
  obtain ⟨kv, h1, h2⟩ := hx
  obtain ⟨y, h3, h4⟩ := T.key kv h1
  rw [h2] at h3
  have e := Sum.inr.inj h3
  subst e
  exact T.val _ h4
theorem Memo.nil (m : Memo F kf) : (valV kf (Sum.inr (sOf []))).isSome = true := by
  obtain ⟨S, T, h⟩ := m.ex
  rw [T.val _ h]
  rfl
theorem Memo.put (m : Memo F kf) (y : Str) : Memo F (putK kf (Sum.inr y) (.int (lp F (cs y)))) := by
  obtain ⟨S, T, h⟩ := m.ex
  refine ⟨⟨_, T.put y, .inl h⟩, ?_⟩
  rw [put_keys]
  split
  · exact m.nd
  · rename_i q
    refine List.nodup_append.mpr ⟨m.nd, List.nodup_cons.mpr ⟨List.not_mem_nil, .nil⟩, fun x hx y' hy' e => ?_⟩
    rw [List.mem_singleton.mp hy'] at e
    subst e
    apply q
    unfold valV
    rw [Option.isSome_map, List.find?_isSome]
    obtain ⟨kv, h1, h2⟩ := List.mem_map.mp hx
    exact ⟨kv, h1, by simpa using h2⟩
/-- only endings of t are new -/
def Grow (t : List Nat) (kf kf' : List (Key × V)) : Prop := ∀ k ∈ kf'.map (·.1), k ∈ kf.map (·.1) ∨ ∃ i, i < t.length ∧ k = Sum.inr (sOf (t.drop i))
theorem Grow.refl : Grow t kf kf := fun _ h => .inl h
theorem Grow.len (g : Grow t kf kf') (nd : (kf'.map (·.1)).Nodup) : kf'.length ≤ kf.length + t.length := by
  have := @nd_sub_len Key instBEqOfDecidableEq inferInstance (l1 := kf'.map (·.1)) (l2 := kf.map (·.1) ++ (List.range t.length).map fun i => (Sum.inr (sOf (t.drop i)) : Key)) nd fun k hk => by
    rcases g k hk with h | ⟨i, hi, rfl⟩
    · exact List.mem_append_left _ h
    · exact List.mem_append_right _ (List.mem_map.mpr ⟨i, List.mem_range.mpr hi, rfl⟩)
  rw [List.length_append, List.length_map, List.length_map, List.length_map, List.length_range] at this
  exact this
theorem Grow.put {v : V} (g : Grow t kf kf') (ne : t ≠ []) : Grow t kf (putK kf' (Sum.inr (sOf t)) v) := fun k hk => by
  rw [put_keys] at hk
  split at hk
  · exact g k hk
  · rcases List.mem_append.mp hk with h | h
    · exact g k h
    · rw [List.mem_singleton.mp h]
      exact .inr ⟨0, List.length_pos_iff.mpr ne, by rw [List.drop_zero]⟩
/-- behind an ending of t -/
theorem Grow.step {kf1 : List (Key × V)} {b : List Nat} {n : Nat} (g : Grow t kf kf1) (e : b = t.drop n) (g' : Grow b kf1 kf') : Grow t kf kf' := fun k hk => by
  rcases g' k hk with h | ⟨i, hi, rfl⟩
  · exact g k h
  · subst e
    rw [List.length_drop] at hi
    exact .inr ⟨n + i, by omega, by rw [List.drop_drop]⟩
end
theorem cs_cutTo' {z : Str} {i : Nat} : cs (cutS z none (some (i : Int))) = (cs z).take i := by
  by_cases h : i ≤ z.length
  · exact cs_cutTo h
  · rw [cs_cut, sIx_pos (by omega)]
    show ((cs z).drop 0).take (min (Int.toNat (i : Int)) z.length - 0) = _
    have := cs_len z
    rw [List.drop_zero, Int.toNat_natCast, List.take_of_length_le (by omega), List.take_of_length_le (by omega)]
theorem lay_le3 {sg : List Nat} (h : sg.length ≤ 3) : ∀ i, (layerL sg i).length ≤ 3 ^ i
  | 0 => Nat.le_refl _
  | i + 1 => by
    show (grow sg (layerL sg i)).length ≤ _
    rw [grow_len, Nat.pow_succ]
    exact Nat.mul_le_mul (lay_le3 h i) h
theorem lay_le81 {sg : List Nat} (h : sg.length ≤ 3) {i : Nat} (hi : i ≤ 4) : (layerL sg i).length ≤ 81 := Nat.le_trans (lay_le3 h i) (Nat.pow_le_pow_right (by decide) hi : 3 ^ i ≤ 3 ^ 4)
/-- the piece with which a text begins -/
def headV (t : List Nat) (kv : Key × V) : Option Str := match kv.1 with | .inr y => if t.take (cs y).length = cs y then some y else none | .inl _ => none
theorem head_app {t : List Nat} {y : Str} (h : t.take (cs y).length = cs y) : t = cs y ++ t.drop (cs y).length := by
  rw [← h]
  have e : (t.take (cs y).length).length = (cs y).length := by rw [h]
  rw [h]
  conv => lhs; rw [← List.take_append_drop (cs y).length t, h]
/-- _law_least with a dict of what is known, texts of fewer than n signs -/
def spLeastN (n : Nat) : Sp := fun vs H Q _ => ∃ (d kn : Addr) (kvs kf : List (Key × V)) (t : List Nat), vs = [.ref d, .str (sOf t), .ref kn] ∧ d ≠ kn ∧ H d = some (.dK kvs) ∧ Tar kvs ∧ Over (tfD kvs) t ∧ t.length < n ∧ t.length ≤ 17 ∧ H kn = some (.dK kf) ∧ Memo (tfD kvs) kf ∧ kf.length + 17 * t.length ≤ 900000 ∧
  ∀ kf' H', H' kn = some (.dK kf') → Memo (tfD kvs) kf' → Grow t kf kf' → Kp kn H H' → Q (.int (lp (tfD kvs) t)) H'
theorem spLeastN_0 {vs : List V} {H : Hp} {Q : VK} {E : XK} (h : spLeastN 0 vs H Q E) : False := by
  obtain ⟨_, _, _, _, _, _, _, _, _, _, q, _⟩ := h
  exact absurd q (Nat.not_lt_zero _)
/-- has_front_form, of a front -/
def spFormK (K : PySem.W.Frag) (C : Addr) : Sp := fun vs H Q _ => ∃ (b f : Addr) (kvs : List (Key × V)) (l : List Nat) (ds : List Int) (L : Nat), vs = [.ref b, .ref f] ∧ Book1 C H b kvs ∧ KeyAt K H (sOf l, ds) f ∧ Wide (tfD kvs) L ∧ Over (tfD kvs) l ∧ l.length < L ∧ ds.length = l.length ∧ (∀ x ∈ l, lett x = true) ∧
  (∀ x ∈ ds, isInteger (.int x) = true) ∧ ∀ H', Same H H' → Q (.bl true) H'
/-- Fronts.__contains__, of a reached front -/
def spHasF (C Cf : Addr) (K : PySem.W.Frag) (P : Program) (w : World) : Sp := fun vs H Q _ => ∃ p b f kvs L E qs dx d t m, vs = [.ref p, .ref f] ∧ Book1 C H b kvs ∧ Wide (tfD kvs) L ∧ FrsAt K P w Cf H p b (tfD kvs) L E qs dx d t ∧ Over (tfD kvs) m ∧ m.length ≤ 2000 ∧ KeyAt K H (fr (tfD kvs) L m) f ∧ ∀ H', Same H H' → Q (.bl true) H'
/-- Fronts.__getitem__, of a reached front -/
def spGetF (C Cf : Addr) (K : PySem.W.Frag) (P : Program) (w : World) : Sp := fun vs H Q _ => ∃ p b f kvs L E qs dx d t m, vs = [.ref p, .ref f] ∧ Book1 C H b kvs ∧ Wide (tfD kvs) L ∧ FrsAt K P w Cf H p b (tfD kvs) L E qs dx d t ∧ Over (tfD kvs) m ∧ m.length ≤ 2000 ∧ KeyAt K H (fr (tfD kvs) L m) f ∧
  ∀ e H', e ∈ E → e.1 = fr (tfD kvs) L m → Same H H' → Q (.str (sOf e.2.2)) H'
/-- _law_texts: all texts of at most four signs over at most three -/
def spTexts (K : PySem.W.Frag) : Sp := fun vs H Q _ => ∃ (sa : Addr) (sg : List Nat), vs = [.ref sa, .int 4] ∧ SqL K H sa (sg.map chV) ∧ sg.length ≤ 3 ∧ ∀ p (ts : List (List Nat)) H', H p = none → H' p = some (.lst (ts.map tv)) → ts.length ≤ 400 → (∀ t ∈ ts, t.length ≤ 4 ∧ ∀ c ∈ t, c ∈ sg) → Same H H' → Q (.ref p) H'
end G
namespace G
open PySem PySem.Spec PyProof.Rows L2
section
variable {K : PySem.W.Frag} {P : Program} {w : World} {Cf : Addr} {H H' : Hp} {p b : Addr} {F : Tf} {L : Nat} {E : List BE} {qs : List (Addr × FK)} {dx d t : Addr}
theorem wide_ex (G : Good F) {z0 : Str} {p0 : Int} (h0 : F z0 = some p0) : ∃ L, Wide F L ∧ 1 ≤ L ∧ L ≤ 5 := by
  have go : ∀ n, (∀ z p, F z = some p → (cs z).length ≤ n) → n ≤ 5 → ∃ L, Wide F L ∧ 1 ≤ L ∧ L ≤ 5 := by
    intro n
    induction n with
    | zero =>
      intro h _
      have h1 := h _ _ h0
      have h2 := (G.len _ _ h0).1
      omega
    | succ n ih =>
      intro h hn
      by_cases q : ∃ z p, F z = some p ∧ (cs z).length = n + 1
      · exact ⟨n + 1, ⟨q, h⟩, by omega, hn⟩
      · refine ih (fun z p hz => ?_) (by omega)
        have h1 := h z p hz
        have h2 : (cs z).length ≠ n + 1 := fun e => q ⟨z, p, hz, e⟩
        omega
  exact go 5 (fun z p hz => (G.len z p hz).2) (Nat.le_refl _)
theorem sqt_keep {a : Addr} {xs : List V} (h : ∀ a o, H a = some o → (∀ xs, o ≠ .lst xs) → (∀ kv, o ≠ .dK kv) → H' a = some o) (q : SqT K H a xs) : SqT K H' a xs := by
  rcases q with (q | ⟨o, q⟩) | q
  · exact .inl (.inl (h _ _ q (fun _ e => nomatch e) (fun _ e => nomatch e)))
  · exact .inl (.inr ⟨o, h _ _ q (fun _ e => nomatch e) (fun _ e => nomatch e)⟩)
  · exact .inr q
theorem KeyAt.keep {k : FK} {a : Addr} (h : ∀ a o, H a = some o → (∀ xs, o ≠ .lst xs) → (∀ kv, o ≠ .dK kv) → H' a = some o) (x : KeyAt K H k a) : KeyAt K H' k a := by
  obtain ⟨b, h1, h2⟩ := x
  exact ⟨b, sqt_keep h h1, sqt_keep h h2⟩
theorem FrsAt.keep (h : ∀ a o, H a = some o → (∀ xs, o ≠ .lst xs) → (∀ kv, o ≠ .dK kv) → H' a = some o) (x : FrsAt K P w Cf H p b F L E qs dx d t) : FrsAt K P w Cf H' p b F L E qs dx d t :=
  ⟨h _ _ x.ob (fun _ e => nomatch e) (fun _ e => nomatch e), h _ _ x.dc (fun _ e => nomatch e) (fun _ e => nomatch e), fun e he => (x.st e he).keep h, h _ _ x.tp (fun _ e => nomatch e) (fun _ e => nomatch e), x.pm, x.so, x.wh⟩
theorem kp_lst {l : Addr} {xs : List V} (hl : H l = some (.lst xs)) (k : Kp l H H') : ∀ a o, H a = some o → (∀ xs, o ≠ .lst xs) → (∀ kv, o ≠ .dK kv) → H' a = some o := fun a o e n _ => k a o e fun q => by
  rw [q, hl] at e
  exact n _ (Option.some.inj e).symm
theorem kp_dict {l : Addr} {kv : List (Key × V)} (hl : H l = some (.dK kv)) (k : Kp l H H') : ∀ a o, H a = some o → (∀ kv, o ≠ .dK kv) → H' a = some o := fun a o e n => k a o e fun q => by
  rw [q, hl] at e
  exact n _ (Option.some.inj e).symm
theorem kp_dict' {l : Addr} {kv : List (Key × V)} (hl : H l = some (.dK kv)) (k : Kp l H H') : ∀ a o, H a = some o → (∀ xs, o ≠ .lst xs) → (∀ kv, o ≠ .dK kv) → H' a = some o := fun a o e _ n => kp_dict hl k a o e n
theorem kp_at {l kn : Addr} {H0 : Hp} (k0 : Kp l H0 H) (h0 : H0 kn = none) (k : Kp kn H H') : Kp l H0 H' := fun c o e n => k _ _ (k0 _ _ e n) (ne_of_none e h0)
end
/-- the run of _law_right behind its texts: only the dict of what is known changes -/
structure RunF (K : PySem.W.Frag) (P : Program) (w : World) (C Cf l : Addr) (H0 H : Hp) (b pd fp tl kn sa : Addr) (kvs : List (Key × V)) (sg : List Nat) (L : Nat) (E : List BE) (qs : List (Addr × FK)) (dx d t : Addr) (ts : List (List Nat)) (kf : List (Key × V)) (B nd : Nat) : Prop where
  k0 : Kp l H0 H
  di : Dice H l nd
  bk : Book1 C H b kvs
  pr : H pd = some (.dK kvs)
  si : H sa = some (.lst (sg.map chV))
  fr : FrsAt K P w Cf H fp b (tfD kvs) L E qs dx d t
  tx : H tl = some (.lst (ts.map tv))
  kn : H kn = some (.dK kf)
  mo : Memo (tfD kvs) kf
  ln : kf.length ≤ B
section
variable {K : PySem.W.Frag} {P : Program} {w : World} {C Cf l : Addr} {H0 H H' : Hp} {b pd fp tl kn sa : Addr} {kvs : List (Key × V)} {sg : List Nat} {L : Nat} {E : List BE} {qs : List (Addr × FK)} {dx d t : Addr} {ts : List (List Nat)} {kf kf' : List (Key × V)} {B nd : Nat}
theorem RunF.same (R : RunF K P w C Cf l H0 H b pd fp tl kn sa kvs sg L E qs dx d t ts kf B nd) (s : Same H H') : RunF K P w C Cf l H0 H' b pd fp tl kn sa kvs sg L E qs dx d t ts kf B nd :=
  ⟨R.k0.trans (.of s), R.di.same s, R.bk.same s, s _ _ R.pr, s _ _ R.si, R.fr.same s, s _ _ R.tx, s _ _ R.kn, R.mo, R.ln⟩
theorem RunF.le {B' : Nat} (R : RunF K P w C Cf l H0 H b pd fp tl kn sa kvs sg L E qs dx d t ts kf B nd) (h : B ≤ B') : RunF K P w C Cf l H0 H b pd fp tl kn sa kvs sg L E qs dx d t ts kf B' nd :=
  ⟨R.k0, R.di, R.bk, R.pr, R.si, R.fr, R.tx, R.kn, R.mo, Nat.le_trans R.ln h⟩
theorem RunF.step {n : Nat} {m : List Nat} {n0 : Nat} (D : Dice H0 l n0) (B0 : Book1 C H0 b kvs) (hk0 : H0 kn = none) (np : pd ≠ kn) (R : RunF K P w C Cf l H0 H b pd fp tl kn sa kvs sg L E qs dx d t ts kf B nd) (k : Kp kn H H') (h : H' kn = some (.dK kf')) (mo : Memo (tfD kvs) kf') (g : Grow m kf kf') (hm : m.length ≤ n) :
    RunF K P w C Cf l H0 H' b pd fp tl kn sa kvs sg L E qs dx d t ts kf' (B + n) nd := by
  have k1 := kp_at R.k0 hk0 k
  have gl := g.len mo.nd
  have ln := R.ln
  refine ⟨k1, ?_, B0.kp D k1, k _ _ R.pr np, kp_dict R.kn k _ _ R.si (fun _ e => nomatch e), R.fr.keep (kp_dict' R.kn k), kp_dict R.kn k _ _ R.tx (fun _ e => nomatch e), h, mo, by omega⟩
  obtain ⟨d0, d1, d2, h1, h2⟩ := R.di
  exact ⟨d0, d1, d2, kp_dict R.kn k _ _ h1 (fun _ e => nomatch e), h2⟩
end
theorem memo_init {F : Tf} (G : Good F) : Memo F [(Sum.inr (sOf []), .int 0)] := ⟨⟨fun z => z = sOf [], ⟨fun z hz => by
  rw [hz]
  show some _ = _
  rw [cs_sOf, lp_nil G], fun kv hkv => by
  rw [List.mem_singleton.mp hkv]
  exact ⟨_, rfl, rfl⟩⟩, rfl⟩, List.nodup_cons.mpr ⟨List.not_mem_nil, .nil⟩⟩
end G
namespace G
open PySem PySem.Spec PyProof.Rows L2
theorem fr_lett {F : Tf} {L : Nat} {z : List Nat} (h : ∀ c ∈ z, lett c = true) : ∀ c ∈ cs (fr F L z).1, lett c = true := fun c hc => by
  have e : cs (fr F L z).1 = frontW L z := by
    unfold fr
    rw [cs_sOf]
  rw [e] at hc
  exact h c (frontW_mem hc)
theorem pick_same {F : Tf} {L : Nat} {t : List Nat} : ∀ {txs : List (List Nat)}, ∃ os0 : List (List Nat), (txs.filterMap fun z => if fr F L z = fr F L t then some (tv z) else none) = os0.map tv ∧ ∀ o ∈ os0, o ∈ txs ∧ fr F L o = fr F L t
  | [] => ⟨[], rfl, fun _ h => (List.not_mem_nil h).elim⟩
  | z :: r => by
    obtain ⟨os, h1, h2⟩ := pick_same (F := F) (L := L) (t := t) (txs := r)
    by_cases q : fr F L z = fr F L t
    · refine ⟨z :: os, ?_, fun o ho => ?_⟩
      · rw [List.filterMap_cons, if_pos q, h1]
        rfl
      · rcases List.mem_cons.mp ho with h | h
        · rw [h]
          exact ⟨List.mem_cons_self, q⟩
        · exact ⟨List.mem_cons_of_mem _ (h2 o h).1, (h2 o h).2⟩
    · refine ⟨os, ?_, fun o ho => ⟨List.mem_cons_of_mem _ (h2 o ho).1, (h2 o ho).2⟩⟩
      rw [List.filterMap_cons, if_neg q, h1]
theorem cutV_take {xs : List V} {i : Nat} : cutV xs none (some (i : Int)) = xs.take i := by
  unfold cutV
  by_cases h : i ≤ xs.length
  · rw [show HT.sIx xs.length xs.length (some (i : Int)) = i by rw [sIx_pos (by omega), Int.toNat_natCast]; omega]
    rfl
  · rw [show HT.sIx xs.length xs.length (some (i : Int)) = xs.length by rw [sIx_pos (by omega), Int.toNat_natCast]; omega]
    show (xs.drop 0).take (xs.length - 0) = _
    rw [List.drop_zero, List.take_of_length_le (by omega), List.take_of_length_le (by omega)]
end G
/-! The law's two written books: fronts of one letter's texts; abba. -/
namespace G
open PySem PySem.Spec PyProof.Rows L2
section
variable {F : Tf} {L : Nat} {E : List BE}
/-- a shortest text has fewer signs than there are fronts -/
theorem whole_short (G : Good F) (W : Wide F L) (hL : 1 ≤ L) (w : Whole F L E) {e : BE} (he : e ∈ E) : e.2.2.length + 1 ≤ E.length := by
  obtain ⟨o, q, mn⟩ := w.ok e he
  have nd : ((List.range (e.2.2.length + 1)).map fun i => fr F L (e.2.2.take i)).Nodup := by
    unfold List.Nodup
    rw [List.pairwise_map]
    refine List.Pairwise.imp_of_mem ?_ (List.pairwise_lt_range (n := e.2.2.length + 1))
    intro i j hi hj lt eq
    have hi' := List.mem_range.mp hi
    have hj' := List.mem_range.mp hj
    obtain ⟨h1, _⟩ := fr_more G W hL (o.take j) (o.take i) eq.symm (e.2.2.drop j) (o.drop j)
    rw [List.take_append_drop, q] at h1
    have h2 := mn _ ((o.take i).app (o.drop j)) h1.symm
    rw [List.length_append, List.length_take, List.length_drop] at h2
    omega
  have := nd_sub_len (l2 := keysE E) nd fun k hk => by
    obtain ⟨i, _, rfl⟩ := List.mem_map.mp hk
    exact w.all _ (o.take i)
  unfold keysE at this
  rw [List.length_map, List.length_map, List.length_range] at this
  exact this
theorem few_sub {b : Nat} {ks : List FK} (h : ∀ l, Over F l → fr F L l ∈ ks) (hl : ks.length ≤ b) : Few F L b := ⟨ks, hl, fun k ⟨l, o, e⟩ => e ▸ h l o⟩
theorem fr_run {kvs : List (Key × V)} (nd : (kvs.map (·.1)).Nodup) (G : Good (tfD kvs)) (W : Wide (tfD kvs) L) (hL : 1 ≤ L) {r : List Nat} {k : List Nat × List Int} (o : Over (tfD kvs) r) (h : runF (psK kvs) L r [] [] = some k) : fr (tfD kvs) L r = keyC k := by
  obtain ⟨e1, e2⟩ := run_all nd G W hL o (w' := k.1) (d' := k.2) h
  unfold fr keyC
  rw [e1, e2]
theorem keyC_inj {a b : List Nat × List Int} (h : keyC a = keyC b) : a = b := by
  have a1 := congrArg (fun k : FK => cs k.1) h
  have a2 := congrArg (fun k : FK => k.2) h
  unfold keyC at a1 a2
  dsimp only at a1 a2
  rw [cs_sOf, cs_sOf] at a1
  exact Prod.ext a1 a2
end
/-! ### one letter -/
def triK : List (Key × V) := [(.inr (sOf [97]), .int 5), (.inr (sOf [97, 97]), .int 3), (.inr (sOf [97, 97, 97]), .int 4)]
theorem tri_av : arePrices triK = true := by decide +kernel
theorem tri_nd : (triK.map (·.1)).Nodup := by decide +kernel
theorem tri_wd : Wide (tfD triK) 3 := wide_ps tri_nd (by decide +kernel) (by decide +kernel)
theorem tri_good : Good (tfD triK) := (tar_of tri_av tri_nd).good
def triFr : List (List Nat × List Int) := [([], []), ([97], [-5]), ([97, 97], [2, -3]), ([97, 97], [-1, 1]), ([97, 97], [-2, -3]), ([97, 97], [-1, -3]), ([97, 97], [-1, -2])]
theorem tri_closed : closedC (psK triK) 3 [97] triFr = true := by decide +kernel
theorem tri_few : Few (tfD triK) 3 2000 := few_sub (fun l o => closed_mem tri_nd tri_good tri_wd (by decide) (signs_ps tri_nd (by decide +kernel)) tri_closed l o) (by decide)
def triT (j : Nat) : List Nat × List Int := (triFr ++ [([97, 97], [-2, -3]), ([97, 97], [-1, -3])]).getD j ([], [])
def triS (j : Nat) : Nat := [0, 1, 2, 3, 4, 5, 6, 4, 5].getD j 0
theorem tri_runs : ∀ j : Fin 9, runF (psK triK) 3 (List.replicate j.1 97) [] [] = some (triT j.1) := by decide +kernel
theorem tri_over (j : Nat) : Over (tfD triK) (List.replicate j 97) := fun c hc => by
  rw [(List.mem_replicate.mp hc).2]
  exact over_ps tri_nd (l := [97]) (by decide +kernel) 97 List.mem_cons_self
theorem tri_fr {j : Nat} (h : j < 9) : fr (tfD triK) 3 (List.replicate j 97) = keyC (triT j) := fr_run tri_nd tri_good tri_wd (by decide) (tri_over j) (tri_runs ⟨j, h⟩)
theorem tri_min : ∀ j m : Fin 9, m.1 ≤ j.1 → triT m.1 = triT j.1 → (∀ q : Fin 9, triT q.1 = triT j.1 → m.1 ≤ q.1) → m.1 = triS j.1 := by decide +kernel
theorem tri_only {l : List Nat} (o : Over (tfD triK) l) : l = List.replicate l.length 97 := by
  refine List.eq_replicate_of_mem fun c hc => ?_
  have := signs_ps tri_nd (sg := [97]) (by decide +kernel) c (fun d hd => by rw [List.mem_singleton.mp hd]; exact o c hc)
  simpa using this
theorem tri_short {E : List BE} (w : Whole (tfD triK) 3 E) {e : BE} (he : e ∈ E) {j : Nat} (h : j < 9) (q : e.1 = fr (tfD triK) 3 (List.replicate j 97)) : e.2.2.length = triS j := by
  obtain ⟨o, f, mn⟩ := w.ok e he
  have l1 := mn _ (tri_over j) q.symm
  rw [List.length_replicate] at l1
  rw [tri_only o, q, tri_fr h, tri_fr (by omega)] at f
  refine tri_min ⟨j, h⟩ ⟨e.2.2.length, by omega⟩ l1 (keyC_inj f) fun r hr => ?_
  have := mn (List.replicate r.1 97) (tri_over _) (by rw [q, tri_fr h, tri_fr r.2, hr])
  rwa [List.length_replicate] at this
/-! ### abba -/
def abK : List (Key × V) := [(.inr (sOf [97]), .int 1), (.inr (sOf [98]), .int 1), (.inr (sOf [97, 98]), .int 1), (.inr (sOf [98, 98, 97]), .int 1)]
theorem ab_av : arePrices abK = true := by decide +kernel
theorem ab_nd : (abK.map (·.1)).Nodup := by decide +kernel
theorem ab_wd : Wide (tfD abK) 3 := wide_ps ab_nd (by decide +kernel) (by decide +kernel)
theorem ab_good : Good (tfD abK) := (tar_of ab_av ab_nd).good
def abFr : List (List Nat × List Int) := [([], []), ([97], [-1]), ([98], [-1]), ([97, 97], [-1, -2]), ([97, 98], [0, -1]), ([98, 97], [-1, -2]), ([98, 98], [-1, -2]), ([98, 97], [-1, -1]), ([98, 98], [-1, -1]), ([98, 97], [1, 0]), ([98, 97], [0, -1]), ([97, 97], [-1, 0]), ([97, 98], [-1, 0]), ([97, 97], [-1, -1]), ([97, 98], [-1, -1])]
theorem ab_closed : closedC (psK abK) 3 [97, 98] abFr = true := by decide +kernel
theorem ab_all {l : List Nat} (o : Over (tfD abK) l) : fr (tfD abK) 3 l ∈ abFr.map keyC := closed_mem ab_nd ab_good ab_wd (by decide) (signs_ps ab_nd (by decide +kernel)) ab_closed l o
theorem ab_few : Few (tfD abK) 3 2000 := few_sub (fun l o => ab_all o) (by decide)
theorem ab_len {E : List BE} (w : Whole (tfD abK) 3 E) : E.length ≤ 15 := by
  have := nd_sub_len (l2 := abFr.map keyC) w.nd fun k hk => by
    obtain ⟨l, o, e⟩ := w.mem.mp hk
    exact e ▸ ab_all o
  unfold keysE at this
  rwa [List.length_map, List.length_map] at this
theorem ab_over {l : List Nat} (h : (l.all fun c => c == 97 || c == 98) = true) : Over (tfD abK) l := fun c hc => by
  have := List.all_eq_true.mp h c hc
  simp at this
  rcases this with rfl | rfl
  · exact over_ps ab_nd (l := [97]) (by decide +kernel) 97 List.mem_cons_self
  · exact over_ps ab_nd (l := [98]) (by decide +kernel) 98 List.mem_cons_self
theorem ab_only {l : List Nat} (o : Over (tfD abK) l) : ∀ c ∈ l, c = 97 ∨ c = 98 := fun c hc => by
  have := signs_ps ab_nd (sg := [97, 98]) (by decide +kernel) c (fun d hd => by rw [List.mem_singleton.mp hd]; exact o c hc)
  simpa using this
theorem ab_lett {l : List Nat} (o : Over (tfD abK) l) : ∀ c ∈ l, lett c = true := fun c hc => by
  rcases ab_only o c hc with rfl | rfl <;> decide +kernel
theorem ab_bba : fr (tfD abK) 3 [98, 98, 97] = keyC ([98, 97], [1, 0]) := fr_run ab_nd ab_good ab_wd (by decide) (ab_over (by decide)) (by decide +kernel)
/-- the only texts of at most three signs with this front -/
theorem ab_at {l : List Nat} (o : Over (tfD abK) l) (hl : l.length ≤ 3) (h : fr (tfD abK) 3 l = keyC ([98, 97], [1, 0])) : l = [98, 98, 97] := by
  have go : ∀ l : List Nat, l ∈ (layerL [97, 98] 0 ++ layerL [97, 98] 1 ++ layerL [97, 98] 2 ++ layerL [97, 98] 3) → (runF (psK abK) 3 l [] [] = some ([98, 97], [1, 0]) → l = [98, 98, 97]) ∧ (runF (psK abK) 3 l [] []).isSome = true := by decide +kernel
  have m : l ∈ (layerL [97, 98] 0 ++ layerL [97, 98] 1 ++ layerL [97, 98] 2 ++ layerL [97, 98] 3) := by
    have hs : ∀ c ∈ l, c ∈ [97, 98] := fun c hc => by rcases ab_only o c hc with rfl | rfl <;> simp
    have : l.length = 0 ∨ l.length = 1 ∨ l.length = 2 ∨ l.length = 3 := by omega
    simp only [List.mem_append]
    rcases this with h | h | h | h
    · exact .inl (.inl (.inl (layer_mem.mpr ⟨h, hs⟩)))
    · exact .inl (.inl (.inr (layer_mem.mpr ⟨h, hs⟩)))
    · exact .inl (.inr (layer_mem.mpr ⟨h, hs⟩))
    · exact .inr (layer_mem.mpr ⟨h, hs⟩)
  obtain ⟨g1, g2⟩ := go l m
  obtain ⟨k, hk⟩ := Option.isSome_iff_exists.mp g2
  rw [fr_run ab_nd ab_good ab_wd (by decide) o hk] at h
  exact g1 (by rw [hk, keyC_inj h])
theorem litG : Str.ofString "a" = sOf [97] ∧ Str.ofString "b" = sOf [98] ∧ Str.ofString "ab" = sOf [97, 98] ∧ Str.ofString "bba" = sOf [98, 98, 97] ∧ Str.ofString "aa" = sOf [97, 97] ∧ Str.ofString "aaa" = sOf [97, 97, 97] ∧ Str.ofString "ba" = sOf [98, 97] ∧ Str.ofString "" = sOf [] := by decide +kernel
end G
namespace G
open PySem PySem.Spec PyProof.Rows L2
section
variable {X : L2.Cx}
/-- a text of one sign, said n times, n from 0 -/
def rMul1 : R2 := fun x y H Q => ∃ (c : Nat) (n : Nat), x = .str (sOf [c]) ∧ y = .int (n : Int) ∧ n ≤ 1000 ∧ Q (.str (sOf (List.replicate n c))) H
theorem op_mul1 : OpR X (binaryOp .Mult) rMul1 := by
  intro pins s σ H x y v u Q I rx ry h
  obtain ⟨c, n, rfl, rfl, h1, q⟩ := h
  obtain ⟨t1, rfl⟩ := rx
  obtain ⟨t2, rfl⟩ := ry
  have hz : sizeLine = 16777216 := sizeLine_eq
  have l1 : (sOf [c]).length = 1 := sOf_len _
  refine PySem.P.mul_str ?_ ?_ ?_ ?_
  · have a : ¬ (n : Int) < -(2 ^ 63 : Int) := by omega
    have b : ¬ (n : Int) ≥ 2 ^ 63 := by omega
    rw [decide_eq_false a, decide_eq_false b]
    rfl
  · intro h0 _ hgt
    rw [l1] at hgt
    have e2 : (1 : Int) ≤ (2 ^ 63 - 1) / (n : Int) := by
      rw [Int.le_ediv_iff_mul_le (by omega)]
      omega
    omega
  · intro _ _
    unfold Builtin.Str.tooLong
    rw [l1]
    have : ¬ (1 * (n : Int).toNat) > sizeLine := by omega
    simpa using this
  · by_cases h0 : (n : Int) < 1
    · rw [if_pos h0]
      have : n = 0 := by omega
      subst this
      exact ⟨by show (0 : Nat) ≤ sizeLine; omega, ⟨V.str _, H, I.tok _, ⟨_, rfl⟩, q⟩⟩
    · rw [if_neg h0]
      by_cases h2 : ((n : Int) == 1 || (sOf [c]).length == 0) = true
      · rw [if_pos h2]
        rw [l1] at h2
        have : n = 1 := by
          simp at h2
          omega
        subst this
        exact ⟨V.str _, H, I, ⟨_, rfl⟩, q⟩
      · rw [if_neg h2]
        have e : sRep (sOf [c]) n = sOf (List.replicate n c) := str_ext (by rw [cs_rep, cs_sOf, cs_sOf]; simp)
        have l2 : (sRep (sOf [c]) n).length = n := by rw [e, sOf_len, List.length_replicate]
        refine ⟨by show (sRep (sOf [c]) n).length ≤ sizeLine; omega, ?_⟩
        refine ⟨V.str (sRep (sOf [c]) n), H, I.tok _, ⟨_, rfl⟩, ?_⟩
        rw [e]
        exact q
end
end G
namespace G
def triDue : List FK := [(sOf [], []), (sOf [97], [-5]), (sOf [97, 97], [2, -3]), (sOf [97, 97], [-1, 1]), (sOf [97, 97], [-2, -3]), (sOf [97, 97], [-1, -3]), (sOf [97, 97], [-1, -2]), (sOf [97, 97], [-2, -3]), (sOf [97, 97], [-1, -3])]
theorem tri_due : (List.range 9).map (fun j => fr (tfD triK) 3 (List.replicate j 97)) = triDue := by
  have : (List.range 9).map (fun j => fr (tfD triK) 3 (List.replicate j 97)) = (List.range 9).map (fun j => keyC (triT j)) := List.map_congr_left fun j hj => tri_fr (List.mem_range.mp hj)
  rw [this]
  rfl
theorem tri_lett : ∀ k ∈ triDue, ∀ c ∈ cs k.1, lett c = true := by decide +kernel
end G
namespace K21
open PySem PySem.Spec PyProof.Rows L2 G
open L2 (St)

def top (i : Nat) : Stmt := PySem.Challenge.pw_cutbehind_k21_whole_fronts_decide_all_co.main.body.getD i (.Pass ⟨0, 0, 0, 0⟩)
abbrev s_is_integer : Stmt := top 4
abbrev s_is_word : Stmt := top 6
abbrev s_is_text : Stmt := top 7
abbrev s_is_piece : Stmt := top 8
abbrev s_is_integer_within : Stmt := top 5
abbrev s_is_price : Stmt := top 23
abbrev s_are_prices : Stmt := top 24
abbrev s_Book___init__ : Stmt := inClass (top 32) 0
abbrev s_is_text_over : Stmt := top 27
abbrev s_require_text : Stmt := top 29
abbrev s_Book_accepts : Stmt := inClass (top 32) 7
abbrev s_require_book : Stmt := top 28
abbrev s_prices_along : Stmt := top 34
abbrev s_front_in : Stmt := top 38
abbrev s_front_of : Stmt := top 42
abbrev s_step_in : Stmt := top 39
abbrev s_fronts_reached : Stmt := top 41
abbrev s_Fronts___init__ : Stmt := inClass (top 43) 0
abbrev s_Fronts_rows : Stmt := inClass (top 43) 1
abbrev s_Fronts___len__ : Stmt := inClass (top 43) 7
abbrev s__law_reel : Stmt := top 45
abbrev s__law_spin : Stmt := top 46
abbrev s__law_pick : Stmt := top 47
abbrev s__law_shuffled : Stmt := top 48
abbrev s__law_letters : Stmt := top 49
abbrev s__law_word : Stmt := top 50
abbrev s__law_prices : Stmt := top 51
abbrev s__law_cheap : Stmt := top 52
abbrev s__law_wide : Stmt := top 53
abbrev s__law_front : Stmt := top 54
abbrev s_has_front_form : Stmt := top 40
abbrev s_Fronts___contains__ : Stmt := inClass (top 43) 6
abbrev s_Fronts___getitem__ : Stmt := inClass (top 43) 4
abbrev s__law_step : Stmt := top 57
abbrev s__law_signs : Stmt := top 55
abbrev s__law_fronts : Stmt := top 58
abbrev s__law_texts : Stmt := top 56
abbrev s__law_least : Stmt := top 59
abbrev s__law_right : Stmt := top 60
abbrev s_law : Stmt := top 61
structure Txt (K : PySem.W.Frag) (mg : Str → Option Value) (C CF AF : Addr) : Prop where
  cl : Cls K C
  ic : C8.InsC K C
  n_own_prices : NoAttr K C "own_prices"
  n_own_pieces : NoAttr K C "own_pieces"
  n_own_alphabet : NoAttr K C "own_alphabet"
  n_own_longest : NoAttr K C "own_longest"
  n_own_dearest : NoAttr K C "own_dearest"
  gC : mg "Book" = some (.ref C)
  clF : Cls K CF
  f_own_book : NoAttr K CF "own_book"
  f_own_texts : NoAttr K CF "own_texts"
  f_own_fronts : NoAttr K CF "own_fronts"
  gF : mg "Fronts" = some (.ref CF)
  ff : mg "FIRST_FRONT" = some (.ref AF)
  fk : KeyK K (sOf [], []) AF
  gi : ∀ f, PySem.W.findIn K (.ref CF) "__getitem__" = some (some (.ref f)) → PySem.W.fnIn K f = true
  b_abs : mg "abs" = none
  b_all : mg "all" = none
  b_bool : mg "bool" = none
  b_dict : mg "dict" = none
  b_int : mg "int" = none
  b_isinstance : mg "isinstance" = none
  b_len : mg "len" = none
  b_list : mg "list" = none
  b_max : mg "max" = none
  b_min : mg "min" = none
  b_range : mg "range" = none
  b_set : mg "set" = none
  b_sorted : mg "sorted" = none
  b_str : mg "str" = none
  b_tuple : mg "tuple" = none
  g_MAX_ALPHABET : ∃ t, mg "MAX_ALPHABET" = some (.int 4 t)
  g_MAX_FRONTS : ∃ t, mg "MAX_FRONTS" = some (.int 2000 t)
  g_MAX_PIECES : ∃ t, mg "MAX_PIECES" = some (.int 12 t)
  g_MAX_PRICE : ∃ t, mg "MAX_PRICE" = some (.int 99 t)
  g_PIECE_SIGNS : ∃ t, mg "PIECE_SIGNS" = some (.int 5 t)
  g_TEXT_SIGNS : ∃ t, mg "TEXT_SIGNS" = some (.int 8000 t)

section
variable {P : Program} {w : World} {K : PySem.W.Frag} {mg : Str → Option Value} {base : Heap} {C CF AF : Addr}
theorem sc_is_integer : FnScope ["value"] ["value"] (defScope s_is_integer) := ⟨rfl, rfl, rfl, by decide +kernel, rfl, by decide +kernel, by decide +kernel⟩
theorem ok_is_integer {f : Addr} {fd : FuncData} (F : Fun K "is_integer" "is_integer" s_is_integer f fd) (T : Txt K mg C CF AF) : FnOk P w K mg base CX0 1 f fd ["value"] (spIsI K isInteger) := by
  refine F.ok sc_is_integer (fun vs H Q E h => ?_) (fun cdv A outer s H vs Q E hr h => ?_)
  · obtain ⟨x, rfl, _⟩ := h
    rfl
  · have hu := hu_of hr
    obtain ⟨x, rfl, ty, k⟩ := h
    obtain ⟨t, ht, hs, hi, hb⟩ := id ty
    have k0 := k H (Same.refl H)
    refine ⟨_, (pss_cons (ps_if (PW.pt (pw_or (pt_val (pe_callB (g_isi K) (by rfl) T.b_isinstance (by decide +kernel) (pa_cons (pv 0) (pa_cons (pe_bltn (v := .ty "bool") rfl T.b_bool (by decide +kernel) rfl) pa_nil)))) (pw_or1 (pt_not (pt_val (pe_callB (g_isi K) (by rfl) T.b_isinstance (by decide +kernel) (pa_cons (pv 0) (pa_cons (pe_bltn (v := .ty "int") rfl T.b_int (by decide +kernel) rfl) pa_nil)))))))) (pss_one (ps_ret pe_bl)) pss_nil)
      (pss_one (ps_ret (pe_cmpR op_lt (pe_callB call_abs (by rfl) T.b_abs (by decide +kernel) (pa_cons (pv 0) pa_nil)) (pe_op op_powW pe_int pe_int) (nomark _))))), ?_⟩
    cases x with
    | bl b =>
      refine ⟨_, rfl, _, _, _, _, _, rfl, .ty _, ht, hb, _, rfl, ?_⟩
      exact k0
    | int i =>
      refine ⟨_, rfl, _, _, _, _, _, rfl, .ty _, ht, hb, _, rfl, ?_⟩
      refine ⟨_, rfl, _, _, _, _, _, rfl, .ty _, ht, hi, _, rfl, ?_⟩
      refine ⟨_, rfl, _, rfl, _, _, rfl, rfl, ⟨by decide, by decide +kernel⟩, _, _, rfl, rfl, ?_⟩
      have e : decide ((if i < 0 then -i else i) < (10 : Int) ^ (60 : Int).toNat) = isInteger (.int i) := abs_lt i
      rw [← e] at k0
      exact k0
    | _ =>
      refine ⟨_, rfl, _, _, _, _, _, rfl, .ty _, ht, hb, _, rfl, ?_⟩
      refine ⟨_, rfl, _, _, _, _, _, rfl, .ty _, ht, hi, _, rfl, ?_⟩
      exact k0
theorem sc_is_word : FnScope ["value", "letter"] ["value"] (defScope s_is_word) := ⟨rfl, rfl, rfl, by decide +kernel, rfl, by decide +kernel, by decide +kernel⟩
theorem ok_is_word {f : Addr} {fd : FuncData} (F : Fun K "is_word" "is_word" s_is_word f fd) (T : Txt K mg C CF AF) : FnOk P w K mg base CX0 1 f fd ["value"] (spIs K isWord) := by
  refine F.ok sc_is_word (fun vs H Q E h => ?_) (fun cdv A outer s H vs Q E hr h => ?_)
  · obtain ⟨x, rfl, _⟩ := h
    rfl
  · have hu := hu_of hr
    obtain ⟨x, rfl, ty, sz, k⟩ := h
    obtain ⟨t, ht, hs, hi, hb⟩ := id ty
    have k0 := k H (Same.refl H)
    refine ⟨_, (pss_one (ps_ret (pe_and (pe_callB (g_isi K) (by rfl) T.b_isinstance (by decide +kernel) (pa_cons (pv 0) (pa_cons (pe_bltn (v := .ty "str") rfl T.b_str (by decide +kernel) rfl) pa_nil))) (pe_and (pe_cmpR op_ne (pv 0) pe_str (nomark _)) (pe_one (pe_callB (g_all K rfl) (by rfl) T.b_all (by decide +kernel) (pa_cons (pe_lc (own := [("letter", 1)]) rfl sc_is_word.nd (pi_str (pv 0)) (blkOk_by (own := [("letter", 1)]) (N := ["value", "letter"]) (sc := defScope s_is_word) (by decide +kernel)) (fun _ _ _ _ _ => (pg_name (i := 1) sc_is_word.nd rfl (Or.inl rfl))) (fun _ _ _ _ _ => pts_nil) (fun _ _ _ _ _ => (pe_chain op_le_str op_le_str pe_str (pv 1) pe_str))) pa_nil))))))), ?_⟩
    cases x with
    | str z =>
      have sz' : z.length ≤ sizeLine := fits_sz sz
      refine ⟨_, rfl, _, _, _, _, _, rfl, .ty _, ht, hs, _, rfl, ?_⟩
      refine ⟨_, rfl, rfl, _, rfl, ?_⟩
      rw [v_str_ne]
      refine itB (fun e1 => ?_) (fun e1 => ?_)
      · refine ⟨_, rfl, _, rfl, fun D hD => ?_⟩
        refine lcp_str (fun c => .bl (lett c)) sz' (fun c acc N hc hN => ?_) ?_
        · refine ⟨_, rfl, _, _, rfl, rfl, _, rfl, ?_⟩
          show if (!decide (([c] : List Nat) < [97])) = true then _ else _
          rw [(lett_eq c).1]
          refine itB (fun e2 => ?_) (fun e2 => ?_)
          · refine ⟨_, _, rfl, rfl, ?_⟩
            show N (.bl (!decide (([122] : List Nat) < [c]))) _
            rw [(lett_eq c).2, ← lett_of e2]
            exact hN
          · rw [lett_no e2] at hN
            exact hN
        · refine ⟨_, (cs z).map lett, rfl, SqL.of (by rw [upd_same, List.map_map]; rfl), ?_⟩
          have e4 : ((cs z).map lett).all id = isWord (.str z) := by
            show _ = (!(cs z).isEmpty && (cs z).all lett)
            rw [e1, List.all_map]
            rfl
          rw [e4]
          exact k _ (same_new hD)
      · have e4 : isWord (.str z) = false := by
          show (!(cs z).isEmpty && (cs z).all lett) = false
          rw [e1]
          rfl
        rw [e4] at k0
        exact k0
    | _ =>
      refine ⟨_, rfl, _, _, _, _, _, rfl, .ty _, ht, hs, _, rfl, ?_⟩
      exact k0
theorem sc_is_text : FnScope ["value"] ["value"] (defScope s_is_text) := ⟨rfl, rfl, rfl, by decide +kernel, rfl, by decide +kernel, by decide +kernel⟩
theorem ok_is_text {f : Addr} {fd : FuncData} (F : Fun K "is_text" "is_text" s_is_text f fd) (T : Txt K mg C CF AF) (c_is_word : HasO P w K mg base CX0 1 "is_word" ["value"] (spIs K isWord)) : FnOk P w K mg base CX0 2 f fd ["value"] (spIs K isText) := by
  refine F.ok sc_is_text (fun vs H Q E h => ?_) (fun cdv A outer s H vs Q E hr h => ?_)
  · obtain ⟨x, rfl, _⟩ := h
    rfl
  · have hu := hu_of hr
    obtain ⟨x, rfl, ty, sz, k⟩ := h
    obtain ⟨t, ht, hs, hi, hb⟩ := id ty
    have k0 := k H (Same.refl H)
    refine ⟨_, (pss_cons (ps_if (PW.pt (pw_or (pt_not (pt_val (pe_callB (g_isi K) (by rfl) T.b_isinstance (by decide +kernel) (pa_cons (pv 0) (pa_cons (pe_bltn (v := .ty "str") rfl T.b_str (by decide +kernel) rfl) pa_nil))))) (pw_or1 (pt_cmpR op_gt (pe_callB call_len_str (by rfl) T.b_len (by decide +kernel) (pa_cons (pv 0) pa_nil)) (pe_glob (v := .int 8000) rfl T.g_TEXT_SIGNS.choose_spec ⟨_, rfl⟩) (nomark _))))) (pss_one (ps_ret pe_bl)) pss_nil)
      (pss_one (ps_ret (pe_or (pe_cmpR op_eq (pv 0) pe_str (nomark _)) (pe_one (pe_hasO c_is_word (hr.mono (by decide)) pass0 (pa_cons (pv 0) pa_nil))))))), ?_⟩
    cases x with
    | str z =>
      have sz' : z.length ≤ sizeLine := fits_sz sz
      refine ⟨_, rfl, _, _, _, _, _, rfl, .ty _, ht, hs, _, rfl, ?_⟩
      refine ⟨_, rfl, _, rfl, sz', _, _, rfl, rfl, _, rfl, ?_⟩
      refine itB (fun e1 => ?_) (fun e1 => ?_)
      · have e2 := of_decide_eq_true e1
        have e4 : isText (.str z) = false := by
          show (decide ((cs z).length ≤ 8000) && (cs z).all lett) = false
          rw [cs_len, decide_eq_false (by omega)]
          rfl
        rw [e4] at k0
        exact k0
      · have e2 := of_decide_eq_false e1
        have e4 : isText (.str z) = (cs z).all lett := by
          show (decide ((cs z).length ≤ 8000) && (cs z).all lett) = _
          rw [cs_len, decide_eq_true (by omega)]
          rfl
        refine ⟨_, rfl, rfl, _, rfl, ?_⟩
        rw [v_str_eq]
        refine itB (fun e3 => ?_) (fun e3 => ?_)
        · have e5 : isText (.str z) = true := by
            rw [e4]
            cases hz : cs z with
            | nil => rfl
            | cons a l =>
              rw [hz] at e3
              cases e3
          rw [e5] at k0
          exact k0
        · refine ⟨_, rfl, _, rfl, ty, sz, fun H' s' => ?_⟩
          have e5 : isWord (.str z) = isText (.str z) := by
            rw [e4]
            show (!(cs z).isEmpty && (cs z).all lett) = _
            rw [e3]
            rfl
          rw [e5]
          exact k _ s'
    | _ =>
      refine ⟨_, rfl, _, _, _, _, _, rfl, .ty _, ht, hs, _, rfl, ?_⟩
      exact k0
theorem sc_is_piece : FnScope ["value"] ["value"] (defScope s_is_piece) := ⟨rfl, rfl, rfl, by decide +kernel, rfl, by decide +kernel, by decide +kernel⟩
theorem ok_is_piece {f : Addr} {fd : FuncData} (F : Fun K "is_piece" "is_piece" s_is_piece f fd) (T : Txt K mg C CF AF) (c_is_word : HasO P w K mg base CX0 1 "is_word" ["value"] (spIs K isWord)) : FnOk P w K mg base CX0 2 f fd ["value"] (spIs K isPiece) := by
  refine F.ok sc_is_piece (fun vs H Q E h => ?_) (fun cdv A outer s H vs Q E hr h => ?_)
  · obtain ⟨x, rfl, _⟩ := h
    rfl
  · have hu := hu_of hr
    obtain ⟨x, rfl, ty, sz, k⟩ := h
    obtain ⟨t, ht, hs, hi, hb⟩ := id ty
    have k0 := k H (Same.refl H)
    refine ⟨_, (pss_one (ps_ret (pe_and (pe_callB (g_isi K) (by rfl) T.b_isinstance (by decide +kernel) (pa_cons (pv 0) (pa_cons (pe_bltn (v := .ty "str") rfl T.b_str (by decide +kernel) rfl) pa_nil))) (pe_and (pe_chain op_le op_le pe_int (pe_callB call_len_str (by rfl) T.b_len (by decide +kernel) (pa_cons (pv 0) pa_nil)) (pe_glob (v := .int 5) rfl T.g_PIECE_SIGNS.choose_spec ⟨_, rfl⟩)) (pe_one (pe_hasO c_is_word (hr.mono (by decide)) pass0 (pa_cons (pv 0) pa_nil))))))), ?_⟩
    cases x with
    | str z =>
      have sz' : z.length ≤ sizeLine := fits_sz sz
      refine ⟨_, rfl, _, _, _, _, _, rfl, .ty _, ht, hs, _, rfl, ?_⟩
      refine ⟨_, rfl, _, rfl, sz', _, _, rfl, rfl, _, rfl, ?_⟩
      refine itB (fun e1 => ?_) (fun e1 => ?_)
      · have e1' := of_decide_eq_true e1
        refine ⟨_, _, rfl, rfl, _, rfl, ?_⟩
        refine itB (fun e2 => ?_) (fun e2 => ?_)
        · have e2' := of_decide_eq_true e2
          refine ⟨_, rfl, _, rfl, ty, sz, fun H' s' => ?_⟩
          have e5 : isWord (.str z) = isPiece (.str z) := by
            show (!(cs z).isEmpty && (cs z).all lett) = (decide (1 ≤ (cs z).length) && decide ((cs z).length ≤ 5) && (cs z).all lett)
            rw [cs_len, decide_eq_true (by omega), decide_eq_true (by omega)]
            have : (cs z).isEmpty = false := by
              cases hz : cs z with
              | nil =>
                have := cs_len z
                rw [hz] at this
                simp at this
                omega
              | cons a l => rfl
            rw [this]
            rfl
          rw [e5]
          exact k _ s'
        · have e2' := of_decide_eq_false e2
          have e4 : isPiece (.str z) = false := by
            show (decide (1 ≤ (cs z).length) && decide ((cs z).length ≤ 5) && (cs z).all lett) = false
            rw [cs_len, decide_eq_false (by omega : ¬ z.length ≤ 5), Bool.and_false]
            rfl
          rw [e4] at k0
          exact k0
      · have e1' := of_decide_eq_false e1
        have e4 : isPiece (.str z) = false := by
          show (decide (1 ≤ (cs z).length) && decide ((cs z).length ≤ 5) && (cs z).all lett) = false
          rw [cs_len, decide_eq_false (by omega : ¬ 1 ≤ z.length)]
          rfl
        rw [e4] at k0
        exact ⟨_, rfl, k0⟩
    | _ =>
      refine ⟨_, rfl, _, _, _, _, _, rfl, .ty _, ht, hs, _, rfl, ?_⟩
      exact k0
theorem sc_is_integer_within : FnScope ["value", "least", "most"] ["value", "least", "most"] (defScope s_is_integer_within) := ⟨rfl, rfl, rfl, by decide +kernel, rfl, by decide +kernel, by decide +kernel⟩
theorem ok_is_integer_within {f : Addr} {fd : FuncData} (F : Fun K "is_integer_within" "is_integer_within" s_is_integer_within f fd) (T : Txt K mg C CF AF) (c_is_integer : HasO P w K mg base CX0 1 "is_integer" ["value"] (spIsI K isInteger)) : FnOk P w K mg base CX0 2 f fd ["value", "least", "most"] (spWithin K) := by
  refine F.ok sc_is_integer_within (fun vs H Q E h => ?_) (fun cdv A outer s H vs Q E hr h => ?_)
  · obtain ⟨x, a, b, rfl, _⟩ := h
    rfl
  · have hu := hu_of hr
    obtain ⟨x, a, b, rfl, ty, k⟩ := h
    refine ⟨_, (pss_one (ps_ret (pe_and (pe_hasO c_is_integer (hr.mono (by decide)) pass0 (pa_cons (pv 0) pa_nil)) (pe_one (pe_chain op_le op_le (pv 1) (pv 0) (pv 2)))))), ?_⟩
    refine ⟨_, rfl, _, rfl, ty, fun H1 s1 => ⟨_, rfl, ?_⟩⟩
    have k1 := k H1 s1
    cases x with
    | int i =>
      refine itB (fun e => ?_) (fun e => ?_)
      · have e' : decide (i.natAbs < 10 ^ 60) = true := e
        have e2 : inRange (.int i) a b = (decide (a ≤ i) && decide (i ≤ b)) := by
          show (decide (i.natAbs < 10 ^ 60) && (decide (a ≤ i) && decide (i ≤ b))) = _
          rw [e']
          rfl
        rw [e2] at k1
        exact chain_le (a := a) (b := i) (c := b) (fun N hN => ⟨_, rfl, hN⟩) (fun N hN => ⟨_, rfl, hN⟩) (fun N hN => ⟨_, rfl, hN⟩) k1
      · have e' : decide (i.natAbs < 10 ^ 60) = false := e
        have e2 : inRange (.int i) a b = false := by
          show (decide (i.natAbs < 10 ^ 60) && (decide (a ≤ i) && decide (i ≤ b))) = _
          rw [e']
          rfl
        rw [e2] at k1
        exact k1
    | _ => exact k1
theorem sc_is_price : FnScope ["value"] ["value"] (defScope s_is_price) := ⟨rfl, rfl, rfl, by decide +kernel, rfl, by decide +kernel, by decide +kernel⟩
theorem ok_is_price {f : Addr} {fd : FuncData} (F : Fun K "is_price" "is_price" s_is_price f fd) (T : Txt K mg C CF AF) (c_is_integer_within : HasO P w K mg base CX0 2 "is_integer_within" ["value", "least", "most"] (spWithin K)) : FnOk P w K mg base CX0 3 f fd ["value"] (spIsI K isPrice) := by
  refine F.ok sc_is_price (fun vs H Q E h => ?_) (fun cdv A outer s H vs Q E hr h => ?_)
  · obtain ⟨x, rfl, _⟩ := h
    rfl
  · have hu := hu_of hr
    obtain ⟨x, rfl, ty, k⟩ := h
    refine ⟨_, (pss_one (ps_ret (pe_hasO c_is_integer_within (hr.mono (by decide)) pass0 (pa_cons (pv 0) (pa_cons pe_int (pa_cons (pe_glob (v := .int 99) rfl T.g_MAX_PRICE.choose_spec ⟨_, rfl⟩) pa_nil)))))), ?_⟩
    exact ⟨_, rfl, x, 1, 99, rfl, ty, k⟩
theorem sc_are_prices : FnScope ["value", "piece", "sign", "price"] ["value"] (defScope s_are_prices) := ⟨rfl, rfl, rfl, by decide +kernel, rfl, by decide +kernel, by decide +kernel⟩
theorem ok_are_prices {f : Addr} {fd : FuncData} (F : Fun K "are_prices" "are_prices" s_are_prices f fd) (T : Txt K mg C CF AF) (c_is_piece : HasO P w K mg base CX0 2 "is_piece" ["value"] (spIs K isPiece)) (c_is_price : HasO P w K mg base CX0 3 "is_price" ["value"] (spIsI K isPrice)) : FnOk P w K mg base CX0 4 f fd ["value"] (spArePrices K) := by
  refine F.ok sc_are_prices (fun vs H Q E h => ?_) (fun cdv A outer s H vs Q E hr h => ?_)
  · obtain ⟨x, rfl, _⟩ := h
    rfl
  · have hu := hu_of hr
    obtain ⟨x, rfl, hx⟩ := h
    refine ⟨_, (pss_cons (ps_if (PW.pt (pw_or (pt_not (pt_val (pe_callB (g_isi K) (by rfl) T.b_isinstance (by decide +kernel) (pa_cons (pv 0) (pa_cons (pe_bltn (v := .ty "dict") rfl T.b_dict (by decide +kernel) rfl) pa_nil))))) (pw_or1 (pt_not (pt_chain op_le op_le pe_int (pe_callB call_lenF (by rfl) T.b_len (by decide +kernel) (pa_cons (pv 0) pa_nil)) (pe_glob (v := .int 12) rfl T.g_MAX_PIECES.choose_spec ⟨_, rfl⟩)))))) (pss_one (ps_ret pe_bl)) pss_nil)
      (pss_cons (ps_if (pt_not (pt_val (pe_callB (g_all K rfl) (by rfl) T.b_all (by decide +kernel) (pa_cons (pe_lock (by exact (pe_lc (own := [("piece", 1), ("price", 3)]) rfl sc_are_prices.nd (pi_items (pv 0)) (blkOk_by (own := [("piece", 1), ("price", 3)]) (N := ["value", "piece", "sign", "price"]) (sc := defScope s_are_prices) (by decide +kernel)) (fun _ _ _ _ _ => (g_tup K (n := 2) rfl (pgs_cons (pg_name (i := 1) sc_are_prices.nd rfl (Or.inl rfl)) (pgs_cons (pg_name (i := 3) sc_are_prices.nd rfl (Or.inl rfl)) pgs_nil)))) (fun _ _ _ _ _ => pts_nil) (fun _ _ _ _ _ => (pe_and (pe_hasO c_is_piece (hr.mono (by decide)) pass0 (pa_cons (pv 1) pa_nil)) (pe_one (pe_hasO c_is_price (hr.mono (by decide)) pass0 (pa_cons (pv 3) pa_nil)))))))) pa_nil)))) (pss_one (ps_ret pe_bl)) pss_nil)
      (pss_cons (ps_if (pt_cmpR op_gt (pe_callB (g_len_seq K) (by rfl) T.b_len (by decide +kernel) (pa_cons (pe_lock (by exact (pe_lc (own := [("piece", 1)]) rfl sc_are_prices.nd (pi_keys (pv 0)) (blkOk_by (own := [("piece", 1)]) (N := ["value", "piece", "sign", "price"]) (sc := defScope s_are_prices) (by decide +kernel)) (fun _ _ _ _ _ => (pg_name (i := 1) sc_are_prices.nd rfl (Or.inl rfl))) (fun _ _ _ _ _ => (pts_one (pt_cmpR op_eq (pe_callB call_len_str (by rfl) T.b_len (by decide +kernel) (pa_cons (pv 1) pa_nil)) pe_int (nomark _)))) (fun _ _ _ _ _ => (pv 1))))) pa_nil)) (pe_glob (v := .int 4) rfl T.g_MAX_ALPHABET.choose_spec ⟨_, rfl⟩) (nomark _)) (pss_one (ps_ret pe_bl)) pss_nil)
      (pss_one (ps_ret (pe_callB (g_all K rfl) (by rfl) T.b_all (by decide +kernel) (pa_cons (pe_lock (by exact (pe_lc2 (own := [("piece", 1), ("sign", 2)]) (vs1 := [2]) rfl sc_are_prices.nd (pi_keys (pv 0)) (blkOk_by (own := [("piece", 1), ("sign", 2)]) (N := ["value", "piece", "sign", "price"]) (sc := defScope s_are_prices) (by decide +kernel)) (by decide) (fun _ _ _ _ _ => (pg_name (i := 1) sc_are_prices.nd rfl (Or.inl rfl))) (fun _ _ _ _ _ => pts_nil) (fun _ _ _ _ _ => (pi_str (pv 1))) (fun _ _ _ _ _ => (pg_name (i := 2) sc_are_prices.nd rfl (Or.inl rfl))) (fun _ _ _ _ _ => pts_nil) (fun _ _ _ _ _ => (pe_cmp (pc_din hu (pv 2) (pv 0))))))) pa_nil))))))), ?_⟩
    rcases hx with ⟨t, ht, hdict, k⟩ | ⟨a, kvs, rfl, ha, hn, ok, k⟩
    · refine ⟨_, rfl, _, _, _, _, _, rfl, .ty _, ht, hdict, _, rfl, ?_⟩
      exact k H (Same.refl H)
    refine ⟨_, rfl, _, _, _, _, _, rfl, .ty _, .base (.dK ha), kit_ty (show kitB "dict" "dict" = some true by decide +kernel), _, rfl, ?_⟩
    refine ⟨_, rfl, _, _, rfl, .inl ha, _, _, rfl, rfl, _, rfl, ?_⟩
    have k0 := k H (Same.refl H)
    have fz : ∀ od, (upd H a (.frz od (.dK kvs))) a = some (.frz od (.dK kvs)) := fun od => upd_same
    unfold arePrices at k k0
    -- 1 <= len(value) <= MAX_PIECES
    cases e1 : decide (1 ≤ (kvs.length : Int)) with
    | false =>
      rw [e1] at k0
      exact ⟨_, rfl, k0⟩
    | true =>
    rw [e1] at k k0
    refine ⟨_, _, rfl, rfl, _, rfl, ?_⟩
    cases e2 : decide ((kvs.length : Int) ≤ 12) with
    | false =>
      rw [e2] at k0
      exact k0
    | true =>
    rw [e2] at k k0
    -- the pieces and the prices
    refine ⟨a, _, ha, trivial, fun od => ?_⟩
    refine ⟨_, rfl, a, od, kvs, rfl, upd_same, fun D hD => ?_⟩
    have nDa := lock_ne hD
    refine lcs kvs walk_kv (fun kv => some (.bl (isPiece (kV kv.1) && isPrice kv.2))) hD (by omega) (fun H' s => s _ _ (fz od)) ?_ ?_
    · rintro i kv x H2 H3 hi s ⟨T, k', v', e, rfl, hT, rfl⟩ N M hN hM
      have ekv : kv = (k', v') := Option.some.inj (hi.symm.trans e)
      subst ekv
      obtain ⟨sz, tyv⟩ := ok _ (List.mem_of_getElem? hi)
      have sH : ∀ {H'}, Same H2 H' → Same (upd H a (.frz od (.dK kvs))) H' := fun z => s.trans z
      refine ⟨T, _, rfl, SqT.of upd_same, rfl, _, _, rfl, _, _, rfl, rfl, rfl, ?_⟩
      have sT : Same H2 (upd H2 T (.tup [kV k', v'])) := same_new hT
      refine ⟨_, rfl, _, rfl, tyd_key _, sz, fun H4 s4 => ⟨_, rfl, ?_⟩⟩
      refine itB (fun p1 => ?_) (fun p1 => ?_)
      · refine ⟨_, rfl, _, rfl, tyv _ (((Sim.lock ha).then s).then (sT.trans s4)), fun H5 s5 => ?_⟩
        refine hN _ _ ?_ (sT.trans (s4.trans s5))
        show some (V.bl (isPiece (kV k') && isPrice v')) = _
        rw [p1]
        rfl
      · refine hN _ _ ?_ (sT.trans s4)
        show some (V.bl (isPiece (kV k') && isPrice v')) = _
        rw [p1]
        rfl
    rintro H2 s2 e2'
    have S2 : Same H (upd H2 a (.dK kvs)) := unlock ha s2
    refine ⟨s2 _ _ (fz od), _, kvs.map (fun kv => isPiece (kV kv.1) && isPrice kv.2), rfl, SqL.of (by rw [upd_ne nDa, e2', List.map_map, List.filterMap_eq_map']; rfl), _, rfl, ?_⟩
    have k2 := k _ S2
    have a2 : (upd H2 a (.dK kvs)) a = some (.dK kvs) := upd_same
    generalize upd H2 a (.dK kvs) = H3 at S2 k2 a2 ⊢
    have e3' : ((kvs.map fun kv => isPiece (kV kv.1) && isPrice kv.2).all id) = (kvs.all fun kv => isPiece (kV kv.1) && isPrice kv.2) := by
      rw [List.all_map]
      rfl
    rw [e3']
    clear e3' e2' s2 H2 hD nDa k0 fz od D
    cases e3 : (kvs.all fun kv => isPiece (kV kv.1) && isPrice kv.2) with
    | false =>
      rw [e3] at k2
      exact k2
    | true =>
    rw [e3] at k k2
    have hk := keys_of e3
    have hp := keyStrs_piece e3
    have ln : (keyStrs kvs).length = kvs.length := by
      have h := congrArg List.length hk
      rw [List.length_map, List.length_map] at h
      exact h.symm
    -- how many single signs
    refine ⟨a, _, a2, trivial, fun od => ?_⟩
    refine ⟨_, rfl, a, od, rfl, .inl ⟨kvs, upd_same, fun D hD => ?_⟩⟩
    have nDa := lock_ne hD
    refine lcs kvs walk_keys (fun kv => match kv.1 with | .inr z => if decide ((cs z).length = 1) = true then some (.str z) else none | .inl _ => none) hD (by omega) (fun H' s => s _ _ upd_same) ?_ ?_
    · rintro i kv x H4 H5 hi s ⟨rfl, k', v', e, rfl⟩ N M hN hM
      have ekv : kv = (k', v') := Option.some.inj (hi.symm.trans e)
      subst ekv
      obtain ⟨z, hz⟩ : ∃ z, k' = Sum.inr z := by
        have h1 := congrArg (fun l => l[i]?) hk
        simp only [List.getElem?_map, hi] at h1
        cases h2 : (keyStrs kvs)[i]? with
        | none => rw [h2] at h1; cases h1
        | some z => rw [h2] at h1; exact ⟨z, Option.some.inj h1⟩
      subst hz
      have zs := (ok _ (List.mem_of_getElem? hi)).1
      refine ⟨rfl, _, rfl, _, rfl, fits_sz zs, rfl, _, rfl, ?_⟩
      rw [v_len_eq1]
      refine itB (fun q1 => ?_) (fun q1 => ?_)
      · refine ⟨_, rfl, hN _ _ ?_ (Same.refl _)⟩
        show (if decide ((cs z).length = 1) = true then some (V.str z) else none) = _
        rw [if_pos q1]
        rfl
      · refine hM _ ?_ (Same.refl _)
        show (if decide ((cs z).length = 1) = true then some (V.str z) else none) = _
        rw [if_neg (by rw [q1]; exact Bool.false_ne_true)]
    rintro H4 s4 e4
    have e5 : (kvs.filterMap fun kv => match kv.1 with | .inr z => if decide ((cs z).length = 1) = true then some (V.str z) else none | .inl _ => none) = ((keyStrs kvs).filter fun z => decide ((cs z).length = 1)).map V.str := singles kvs
    rw [e5] at e4
    have S4 : Same H (upd H4 a (.dK kvs)) := S2.trans (unlock a2 s4)
    refine ⟨s4 _ _ upd_same, _, _, rfl, .inl (SqL.of (by rw [upd_ne nDa]; exact e4)), _, _, rfl, rfl, _, rfl, ?_⟩
    have k4 := k _ S4
    have a4 : (upd H4 a (.dK kvs)) a = some (.dK kvs) := upd_same
    generalize upd H4 a (.dK kvs) = H5 at S4 k4 a4 ⊢
    clear e4 e5 s4 H4 hD nDa od D S2 k2 a2 H3
    rw [List.length_map]
    cases e6 : decide (((keyStrs kvs).filter fun z => decide ((cs z).length = 1)).length ≤ 4) with
    | false =>
      rw [e6] at k4
      refine itT (decide_eq_true (by have := of_decide_eq_false e6; omega)) ?_
      exact k4
    | true =>
    rw [e6] at k k4
    refine itF (decide_eq_false (by have := of_decide_eq_true e6; omega)) ?_
    -- each sign of each piece
    have fl := flat_len (zs := keyStrs kvs) fun z hz => (hp z hz).2.1
    refine ⟨a, _, a4, trivial, fun od => ?_⟩
    refine ⟨_, rfl, a, od, rfl, .inl ⟨kvs, upd_same, fun D hD => ?_⟩⟩
    have nDa := lock_ne hD
    refine lc2_ks (zs := keyStrs kvs) hk (fun c => .bl (valV kvs (Sum.inr (ch c))).isSome) upd_same hD (by omega) (fun _ => rfl) (fun _ _ => rfl) (fun _ => rfl) ?_ ?_
    · intro z hz c hc H6 s6 N hN
      exact ⟨_, rfl, _, rfl, a, _, rfl, Or.inl ⟨kvs, Sum.inr (ch c), Or.inr ⟨od, s6 _ _ upd_same⟩, rfl, rfl⟩, hN _ (Same.refl _)⟩
    rintro H6 s6 e7
    refine ⟨s6 _ _ upd_same, _, ((keyStrs kvs).map cs).flatten.map (fun c => (valV kvs (Sum.inr (ch c))).isSome), rfl, SqL.of (by rw [upd_ne nDa, e7, List.map_map]; rfl), ?_⟩
    rw [List.all_map]
    exact k _ (S4.trans (unlock a4 s6))
theorem sc_Book___init__ : FnScope ["self", "prices", "piece"] ["self", "prices"] (defScope s_Book___init__) := ⟨rfl, rfl, rfl, by decide +kernel, rfl, by decide +kernel, by decide +kernel⟩
theorem ok_Book___init__ {f : Addr} {fd : FuncData} (F : Fun K "__init__" "Book.__init__" s_Book___init__ f fd) (T : Txt K mg C CF AF) (c_are_prices : HasO P w K mg base CX0 4 "are_prices" ["value"] (spArePrices K)) : FnOk P w K mg base CX0 5 f fd ["self", "prices"] (spBook C K) := by
  refine F.ok sc_Book___init__ (fun vs H Q E h => ?_) (fun cdv A outer s H vs Q E hr h => ?_)
  · obtain ⟨b, dx, a, kvs, rfl, _⟩ := h
    rfl
  · have hu := hu_of hr
    obtain ⟨b, dx, a, kvs, rfl, hb, ha, ok, av, nd, k⟩ := h
    refine ⟨_, (pss_frz (pss_cons (ps_if (pt_not (pt_val (pe_hasO c_are_prices (hr.mono (by decide)) pass0 (pa_cons (pv 1) pa_nil)))) (pss_one ps_never) pss_nil)
      (pss_cons (ps_fld (pv 0) (pe_dc (own := [("piece", 2)]) rfl sc_Book___init__.nd (g_list K (pe_callB (g_sortedS K) (by rfl) T.b_sorted (by decide +kernel) (pa_cons (pe_callTy (call_listD rfl) (by rfl) T.b_list (by decide +kernel) (pa_cons (pv 1) pa_nil)) pa_nil))) (blkOk_by (own := [("piece", 2)]) (N := ["self", "prices", "piece"]) (sc := defScope s_Book___init__) (by decide +kernel)) (fun _ _ _ _ _ => (pg_name (i := 2) sc_Book___init__.nd rfl (Or.inl rfl))) (fun _ _ _ _ _ => pts_nil) (fun _ _ _ _ _ => (pv 2)) (fun _ _ _ _ _ => (pe_dget hu (pv 1) (pv 2) (fun _ _ => rfl)))) rfl)
      (pss_cons (ps_fld (pv 0) (pe_callTy (g_tuple_of K) (by rfl) T.b_tuple (by decide +kernel) (pa_cons (pe_callTy (call_listD rfl) (by rfl) T.b_list (by decide +kernel) (pa_cons (g_fld K (pv 0)) pa_nil)) pa_nil)) rfl)
      (pss_cons (ps_fld (pv 0) (pe_callTy (g_tuple_of K) (by rfl) T.b_tuple (by decide +kernel) (pa_cons (pe_lc (own := [("piece", 2)]) rfl sc_Book___init__.nd (g_tuple K (g_fld K (pv 0))) (blkOk_by (own := [("piece", 2)]) (N := ["self", "prices", "piece"]) (sc := defScope s_Book___init__) (by decide +kernel)) (fun _ _ _ _ _ => (pg_name (i := 2) sc_Book___init__.nd rfl (Or.inl rfl))) (fun _ _ _ _ _ => (pts_one (pt_cmpR op_eq (pe_callB call_len_str (by rfl) T.b_len (by decide +kernel) (pa_cons (pv 2) pa_nil)) pe_int (nomark _)))) (fun _ _ _ _ _ => (pv 2))) pa_nil)) rfl)
      (pss_cons (ps_fld (pv 0) (pe_callB (g_max K rfl) (by rfl) T.b_max (by decide +kernel) (pa_cons (pe_lc (own := [("piece", 2)]) rfl sc_Book___init__.nd (g_tuple K (g_fld K (pv 0))) (blkOk_by (own := [("piece", 2)]) (N := ["self", "prices", "piece"]) (sc := defScope s_Book___init__) (by decide +kernel)) (fun _ _ _ _ _ => (pg_name (i := 2) sc_Book___init__.nd rfl (Or.inl rfl))) (fun _ _ _ _ _ => pts_nil) (fun _ _ _ _ _ => (pe_callB call_len_str (by rfl) T.b_len (by decide +kernel) (pa_cons (pv 2) pa_nil)))) pa_nil)) rfl)
      (pss_one (ps_fld (pv 0) (pe_callB (g_max K rfl) (by rfl) T.b_max (by decide +kernel) (pa_cons (pe_callTy (call_listVw rfl) (by rfl) T.b_list (by decide +kernel) (pa_cons (g_bm0 K PySem.F.plainAttrs_dict PySem.F.slot_dict_values PySem.F.type_dict_values mt_values (g_fld K (pv 0))) pa_nil)) pa_nil)) rfl)))))))), ?_⟩
    obtain ⟨⟨n1, n2⟩, al, f4, fs⟩ := ap_parts av
    have nb : b ≠ a := fun e => by
      rw [e, ha] at hb
      cases hb
    refine ⟨_, rfl, _, rfl, .inr ⟨a, kvs, rfl, ha, by omega, ok, fun H1 s1 => ⟨_, congrArg V.bl av, ?_⟩⟩⟩
    have hk := keys_of al
    have hkV : (kvs.map fun kv => kV kv.1) = (keyStrs kvs).map V.str := by
      have h := congrArg (List.map kV) hk
      rw [List.map_map, List.map_map] at h
      exact h
    have ln : (keyStrs kvs).length = kvs.length := by
      have h := congrArg List.length hk
      rw [List.length_map, List.length_map] at h
      exact h.symm
    -- the prices
    refine ⟨_, rfl, a, kvs, rfl, .inl (s1 _ _ ha), fun p hp => ?_⟩
    refine ⟨p, keyStrs kvs, rfl, SqL.of (by rw [upd_same, hkV]), by omega, fun ys p2 pm so hp2 => ?_⟩
    refine ⟨p2, rfl, ⟨_, SqL.of upd_same⟩, fun D hD => ?_⟩
    have ly : ys.length = kvs.length := by rw [pm.length_eq, ln]
    have ndk : (keyStrs kvs).Nodup := by
      rw [hk] at nd
      exact nd_of_map nd
    have ndy : ys.Nodup := pm.nodup_iff.mpr ndk
    have s2 : Same H (upd (upd H1 p (.lst (kvs.map fun kv => kV kv.1))) p2 (.lst (ys.map V.str))) := (s1.trans (same_new hp)).trans (same_new hp2)
    have l2 : (upd (upd H1 p (.lst (kvs.map fun kv => kV kv.1))) p2 (.lst (ys.map V.str))) p2 = some (.lst (ys.map V.str)) := upd_same
    generalize (upd (upd H1 p (.lst (kvs.map fun kv => kV kv.1))) p2 (.lst (ys.map V.str))) = H2 at s2 l2 hD ⊢
    have nDb : D ≠ b := (ne_of_none (s2 _ _ hb) hD).symm
    have hDn := not_there s2 hD
    refine dcs ys (walk_listF (K := K) V.str ys) (fun z => (Sum.inr z, .int (priceIn kvs z))) (nd_map (f := fun z : Str => (Sum.inr z : Key)) (fun _ _ h => Sum.inr.inj h) ndy) hD (by omega) (fun H' s => SqL.of (s _ _ l2)) ?_ ?_
    · rintro i z x H3 H4 hi s3 ⟨rfl, z', ez, rfl⟩ N M hN
      have e1 : z = z' := Option.some.inj (hi.symm.trans ez)
      subst e1
      exact ⟨wipe_set, _, rfl, _, rfl, _, rfl, a, _, rfl, .inl ⟨kvs, Sum.inr z, .inl (s3 _ _ (s2 _ _ ha)), rfl, (price_of_key al (pm.mem_iff.mp (List.mem_of_getElem? hi))).1.symm⟩, hN _ (Same.refl _)⟩
    rintro H3 s3 e3
    have e3' : H3 D = some (.dK (kvOf (psOf kvs ys))) := by
      rw [e3]
      unfold kvOf psOf
      rw [List.map_map]
      rfl
    have b3 := s3 _ _ (s2 _ _ hb)
    have hps : (psOf kvs ys).map (fun p => V.str p.1) = ys.map V.str := by
      unfold psOf
      rw [List.map_map]
      rfl
    refine ⟨_, rfl, b, C, dx, [], rfl, b3, T.cl, T.n_own_prices, by decide, ?_⟩
    have k3 : Kp b H (upd H3 b (.ins C dx (putF "own_prices" (.ref D) []))) := (Kp.of (s2.trans s3)).trans Kp.upd
    have d3 : upd H3 b (.ins C dx (putF "own_prices" (.ref D) [])) D = some (.dK (kvOf (psOf kvs ys))) := by
      rw [upd_ne nDb]
      exact e3'
    have o3 : upd H3 b (.ins C dx (putF "own_prices" (.ref D) [])) b = some (.ins C dx [(("own_prices" : Str), .ref D)]) := upd_same
    generalize upd H3 b (.ins C dx (putF "own_prices" (.ref D) [])) = H4 at k3 d3 o3 ⊢
    clear e3 e3' b3 s3 s2 l2 hD
    -- the pieces
    refine ⟨_, rfl, b, C, dx, _, _, rfl, o3, T.cl, T.n_own_prices, lk_at, D, _, rfl, .inl d3, fun p3 hp3 => ?_⟩
    refine ⟨p3, _, rfl, .inl ⟨SqL.of upd_same, fun tp htp => ?_⟩⟩
    rw [kv_keys, hps] at htp ⊢
    have npb : p3 ≠ b := (ne_of_none o3 hp3).symm
    have ntb : tp ≠ b := (ne_of_none ((same_new hp3) _ _ o3) htp).symm
    have o4' := (same_new hp3 (o := .lst (ys.map V.str))).trans (same_new htp (o := .tup (ys.map V.str)))
    refine ⟨_, rfl, b, C, dx, _, rfl, o4' _ _ o3, T.cl, T.n_own_pieces, by simp, ?_⟩
    rw [pf2]
    have k4 := (k3.trans (.of o4')).trans (Kp.upd (o := .ins C dx [(("own_prices" : Str), .ref D), ("own_pieces", .ref tp)]))
    have d4 : (upd (upd (upd H4 p3 (.lst (ys.map V.str))) tp (.tup (ys.map V.str))) b (.ins C dx [(("own_prices" : Str), .ref D), ("own_pieces", .ref tp)])) D = some (.dK (kvOf (psOf kvs ys))) := by
      rw [upd_ne nDb]
      exact o4' _ _ d3
    have t4 : (upd (upd (upd H4 p3 (.lst (ys.map V.str))) tp (.tup (ys.map V.str))) b (.ins C dx [(("own_prices" : Str), .ref D), ("own_pieces", .ref tp)])) tp = some (.tup (ys.map V.str)) := by
      rw [upd_ne ntb]
      exact upd_same
    have o4 : (upd (upd (upd H4 p3 (.lst (ys.map V.str))) tp (.tup (ys.map V.str))) b (.ins C dx [(("own_prices" : Str), .ref D), ("own_pieces", .ref tp)])) b = some (.ins C dx [(("own_prices" : Str), .ref D), ("own_pieces", .ref tp)]) := upd_same
    generalize (upd (upd (upd H4 p3 (.lst (ys.map V.str))) tp (.tup (ys.map V.str))) b (.ins C dx [(("own_prices" : Str), .ref D), ("own_pieces", .ref tp)])) = H5 at k4 d4 t4 o4 ⊢
    clear o4' htp hp3 npb k3 d3 o3
    -- the alphabet
    refine ⟨_, rfl, b, C, dx, _, _, rfl, o4, T.cl, T.n_own_pieces, (lk_by (by decide +kernel)).trans lk_at, tp, rfl, ⟨_, SqT.of t4⟩, fun L hL => ?_⟩
    have nLb : L ≠ b := (ne_of_none o4 hL).symm
    refine lcs ys (walk_tupF (K := K) V.str ys) (fun z => if decide ((cs z).length = 1) = true then some (V.str z) else none) hL (by omega) (fun H' s => SqT.of (s _ _ t4)) ?_ ?_
    · rintro i z x H6 H7 hi s6 ⟨rfl, z', ez, rfl⟩ N M hN hM
      have e1 : z = z' := Option.some.inj (hi.symm.trans ez)
      subst e1
      have hz := (keyStrs_piece al z (pm.mem_iff.mp (List.mem_of_getElem? hi))).2.1
      refine ⟨wipe_set, _, rfl, _, rfl, fits_sz (by rw [← cs_len]; omega), rfl, _, rfl, ?_⟩
      rw [v_len_eq1]
      refine itB (fun q1 => ?_) (fun q1 => ?_)
      · exact ⟨_, rfl, hN _ _ (if_pos q1) (Same.refl _)⟩
      · exact hM _ (if_neg (by rw [q1]; exact Bool.false_ne_true)) (Same.refl _)
    rintro H6 s6 e6
    rw [sgn_fm kvs ys] at e6
    refine ⟨L, _, rfl, .inl ⟨SqL.of e6, fun ta hta => ?_⟩⟩
    have nab : ta ≠ b := (ne_of_none (s6 _ _ o4) hta).symm
    have o6 := s6.trans (same_new hta (o := .tup ((sgn (psOf kvs ys)).map V.str)))
    refine ⟨_, rfl, b, C, dx, _, rfl, o6 _ _ o4, T.cl, T.n_own_alphabet, by simp, ?_⟩
    rw [pf3]
    have k6 := (k4.trans (.of o6)).trans (Kp.upd (o := .ins C dx [(("own_prices" : Str), .ref D), ("own_pieces", .ref tp), ("own_alphabet", .ref ta)]))
    have d6 : (upd (upd H6 ta (.tup ((sgn (psOf kvs ys)).map V.str))) b (.ins C dx [(("own_prices" : Str), .ref D), ("own_pieces", .ref tp), ("own_alphabet", .ref ta)])) D = some (.dK (kvOf (psOf kvs ys))) := by
      rw [upd_ne nDb]
      exact o6 _ _ d4
    have t6 : (upd (upd H6 ta (.tup ((sgn (psOf kvs ys)).map V.str))) b (.ins C dx [(("own_prices" : Str), .ref D), ("own_pieces", .ref tp), ("own_alphabet", .ref ta)])) tp = some (.tup (ys.map V.str)) := by
      rw [upd_ne ntb]
      exact o6 _ _ t4
    have a6 : (upd (upd H6 ta (.tup ((sgn (psOf kvs ys)).map V.str))) b (.ins C dx [(("own_prices" : Str), .ref D), ("own_pieces", .ref tp), ("own_alphabet", .ref ta)])) ta = some (.tup ((sgn (psOf kvs ys)).map V.str)) := by
      rw [upd_ne nab]
      exact upd_same
    have o6' : (upd (upd H6 ta (.tup ((sgn (psOf kvs ys)).map V.str))) b (.ins C dx [(("own_prices" : Str), .ref D), ("own_pieces", .ref tp), ("own_alphabet", .ref ta)])) b = some (.ins C dx [(("own_prices" : Str), .ref D), ("own_pieces", .ref tp), ("own_alphabet", .ref ta)]) := upd_same
    generalize (upd (upd H6 ta (.tup ((sgn (psOf kvs ys)).map V.str))) b (.ins C dx [(("own_prices" : Str), .ref D), ("own_pieces", .ref tp), ("own_alphabet", .ref ta)])) = H7 at k6 d6 t6 a6 o6' ⊢
    clear o6 e6 s6 hta hL k4 d4 t4 o4
    -- the longest
    refine ⟨_, rfl, b, C, dx, _, _, rfl, o6', T.cl, T.n_own_pieces, (lk_by (by decide +kernel)).trans lk_at, tp, rfl, ⟨_, SqT.of t6⟩, fun L hL => ?_⟩
    refine lcs ys (walk_tupF (K := K) V.str ys) (fun z => some (V.int (z.length : Int))) hL (by omega) (fun H' s => SqT.of (s _ _ t6)) ?_ ?_
    · rintro i z x H8 H9 hi s8 ⟨rfl, z', ez, rfl⟩ N M hN hM
      have e1 : z = z' := Option.some.inj (hi.symm.trans ez)
      subst e1
      have hz := (keyStrs_piece al z (pm.mem_iff.mp (List.mem_of_getElem? hi))).2.1
      exact ⟨wipe_set, _, rfl, _, rfl, fits_sz (by rw [← cs_len]; omega), hN _ _ rfl (Same.refl _)⟩
    rintro H8 s8 e8
    have ll : (ys.filterMap fun z => some (V.int (z.length : Int))) = (lens (psOf kvs ys)).map V.int := by
      rw [fm_some]
      unfold lens psOf
      rw [List.map_map, List.map_map]
      rfl
    rw [ll] at e8
    refine ⟨L, _, rfl, SqL.of e8, by unfold lens psOf; rw [List.length_map, List.length_map]; omega, fun lo lo1 lo2 => ?_⟩
    refine ⟨_, rfl, b, C, dx, _, rfl, s8 _ _ o6', T.cl, T.n_own_longest, by simp, ?_⟩
    rw [pf4]
    have k8 := (k6.trans (.of s8)).trans (Kp.upd (o := .ins C dx [(("own_prices" : Str), .ref D), ("own_pieces", .ref tp), ("own_alphabet", .ref ta), ("own_longest", .int lo)]))
    have d8 : (upd H8 b (.ins C dx [(("own_prices" : Str), .ref D), ("own_pieces", .ref tp), ("own_alphabet", .ref ta), ("own_longest", .int lo)])) D = some (.dK (kvOf (psOf kvs ys))) := by
      rw [upd_ne nDb]
      exact s8 _ _ d6
    have t8 : (upd H8 b (.ins C dx [(("own_prices" : Str), .ref D), ("own_pieces", .ref tp), ("own_alphabet", .ref ta), ("own_longest", .int lo)])) tp = some (.tup (ys.map V.str)) := by
      rw [upd_ne ntb]
      exact s8 _ _ t6
    have a8 : (upd H8 b (.ins C dx [(("own_prices" : Str), .ref D), ("own_pieces", .ref tp), ("own_alphabet", .ref ta), ("own_longest", .int lo)])) ta = some (.tup ((sgn (psOf kvs ys)).map V.str)) := by
      rw [upd_ne nab]
      exact s8 _ _ a6
    have o8 : (upd H8 b (.ins C dx [(("own_prices" : Str), .ref D), ("own_pieces", .ref tp), ("own_alphabet", .ref ta), ("own_longest", .int lo)])) b = some (.ins C dx [(("own_prices" : Str), .ref D), ("own_pieces", .ref tp), ("own_alphabet", .ref ta), ("own_longest", .int lo)]) := upd_same
    generalize (upd H8 b (.ins C dx [(("own_prices" : Str), .ref D), ("own_pieces", .ref tp), ("own_alphabet", .ref ta), ("own_longest", .int lo)])) = H9 at k8 d8 t8 a8 o8 ⊢
    clear s8 e8 hL k6 d6 t6 a6 o6'
    have ntD : tp ≠ D := fun e => by
      rw [e, d8] at t8
      cases t8
    have naD : ta ≠ D := fun e => by
      rw [e, d8] at a8
      cases a8
    -- the dearest
    refine ⟨_, rfl, b, C, dx, _, _, rfl, o8, T.cl, T.n_own_prices, lk_at, .inr (.inr (.inl ⟨rfl, .inl ⟨_, d8⟩⟩)), D, _, rfl, rfl, .inl d8, fun r hr => ?_⟩
    refine ⟨r, D, _, rfl, upd_same, .inl (same_new hr _ _ d8), fun q hq => ?_⟩
    rw [kv_vals] at *
    refine ⟨q, _, rfl, SqL.of upd_same, by unfold fees psOf; rw [List.length_map, List.length_map]; omega, fun de de1 de2 => ?_⟩
    have s9 := (same_new hr (o := vwV D r)).trans (same_new hq (o := .lst ((fees (psOf kvs ys)).map V.int)))
    refine ⟨_, rfl, b, C, dx, _, rfl, s9 _ _ o8, T.cl, T.n_own_dearest, by simp, ?_⟩
    rw [pf5]
    have k9 := (k8.trans (.of s9)).trans (Kp.upd (o := .ins C dx (bookF D tp ta lo de)))
    refine ⟨D, _, (upd_ne nDb).trans (s9 _ _ d8), trivial, fun od => ?_⟩
    refine k _ ys lo de D tp ta od pm so ⟨?_, upd_same, ?_, ?_, ⟨lo1, lo2⟩, ⟨de1, de2⟩⟩ ?_
    · exact (upd_ne nDb.symm).trans upd_same
    · rw [upd_ne ntD, upd_ne ntb, hps]
      exact s9 _ _ t8
    · rw [upd_ne naD, upd_ne nab]
      exact s9 _ _ a8
    · intro c o e n
      rw [upd_ne (ne_of_none e hDn)]
      exact k9 _ _ e n
theorem sc_is_text_over : FnScope ["book", "value", "sign"] ["book", "value"] (defScope s_is_text_over) := ⟨rfl, rfl, rfl, by decide +kernel, rfl, by decide +kernel, by decide +kernel⟩
theorem ok_is_text_over {f : Addr} {fd : FuncData} (F : Fun K "is_text_over" "is_text_over" s_is_text_over f fd) (T : Txt K mg C CF AF) (c_is_text : HasO P w K mg base CX0 2 "is_text" ["value"] (spIs K isText)) : FnOk P w K mg base CX0 3 f fd ["book", "value"] (spTextOver C) := by
  refine F.ok sc_is_text_over (fun vs H Q E h => ?_) (fun cdv A outer s H vs Q E hr h => ?_)
  · obtain ⟨b, kvs, z, rfl, _⟩ := h
    rfl
  · have hu := hu_of hr
    obtain ⟨b, kvs, z, rfl, B, hz, k⟩ := h
    refine ⟨_, (pss_one (ps_ret (pe_and (pe_hasO c_is_text (hr.mono (by decide)) pass0 (pa_cons (pv 1) pa_nil)) (pe_one (pe_callB (g_all K rfl) (by rfl) T.b_all (by decide +kernel) (pa_cons (pe_lc (own := [("sign", 2)]) rfl sc_is_text_over.nd (pi_str (pv 1)) (blkOk_by (own := [("sign", 2)]) (N := ["book", "value", "sign"]) (sc := defScope s_is_text_over) (by decide +kernel)) (fun _ _ _ _ _ => (pg_name (i := 2) sc_is_text_over.nd rfl (Or.inl rfl))) (fun _ _ _ _ _ => pts_nil) (fun _ _ _ _ _ => (pe_cmpR (g_in_seq K) (pv 2) (g_fld K (pv 0)) (by rfl)))) pa_nil)))))), ?_⟩
    obtain ⟨av, nd, ys, L, M, dx, d, tp, ta, od, pm, so, A⟩ := id B
    obtain ⟨_, al, _, _⟩ := ap_parts av
    
    refine ⟨_, rfl, .str z, rfl, tyd_str z, hz, fun H1 s1 => ⟨_, rfl, ?_⟩⟩
    refine itB (fun e1 => ?_) (fun e1 => ?_)
    · refine ⟨_, rfl, z, rfl, fun D hD => ?_⟩
      refine lcp_str (fun c => .bl (tfD kvs (ch c)).isSome) (fits_sz hz) (fun c acc N hc hN => ?_) ?_
      · have s2 : Same H (upd H1 D (.lst acc)) := s1.trans (same_new hD)
        refine ⟨_, rfl, _, rfl, b, C, dx, _, _, rfl, s2 _ _ A.ob, T.cl, T.n_own_alphabet, bf_alphabet, ta, _, rfl, .inr (SqT.of (s2 _ _ A.al)), rfl, flat_strs _, ?_⟩
        rw [if_neg Bool.false_ne_true, inV_str]
        have e : decide (ch c ∈ sgn (psOf kvs ys)) = (tfD kvs (ch c)).isSome := by
          rw [Bool.eq_iff_iff, decide_eq_true_eq, sgn_mem al pm, Option.isSome_iff_exists]
        rw [e]
        exact hN
      · refine ⟨D, (cs z).map fun c => (tfD kvs (ch c)).isSome, rfl, SqL.of (by rw [upd_same, List.map_map]; rfl), ?_⟩
        have e : ((cs z).map fun c => (tfD kvs (ch c)).isSome).all id = overB kvs z := by
          unfold overB
          rw [e1, List.all_map]
          rfl
        rw [e]
        exact k _ (s1.trans (same_new hD))
    · have e : overB kvs z = false := by
        unfold overB
        rw [e1]
        rfl
      have k1 := k _ s1
      rw [e] at k1
      exact k1
theorem sc_require_text : FnScope ["book", "value"] ["book", "value"] (defScope s_require_text) := ⟨rfl, rfl, rfl, by decide +kernel, rfl, by decide +kernel, by decide +kernel⟩
theorem ok_require_text {f : Addr} {fd : FuncData} (F : Fun K "require_text" "require_text" s_require_text f fd) (T : Txt K mg C CF AF) (c_is_text_over : HasO P w K mg base CX0 3 "is_text_over" ["book", "value"] (spTextOver C)) : FnOk P w K mg base CX0 4 f fd ["book", "value"] (spReqText C) := by
  refine F.ok sc_require_text (fun vs H Q E h => ?_) (fun cdv A outer s H vs Q E hr h => ?_)
  · obtain ⟨b, kvs, z, rfl, _⟩ := h
    rfl
  · have hu := hu_of hr
    obtain ⟨b, kvs, z, rfl, B, hz, ok, k⟩ := h
    refine ⟨_, (pss_one (ps_if (pt_not (pt_val (pe_hasO c_is_text_over (hr.mono (by decide)) pass0 (pa_cons (pv 0) (pa_cons (pv 1) pa_nil))))) (pss_one ps_never) pss_nil)), ?_⟩
    exact ⟨_, rfl, _, rfl, b, kvs, z, rfl, B, hz, fun H1 s1 => ⟨true, congrArg V.bl ok, k _ s1⟩⟩
theorem sc_Book_accepts : FnScope ["self", "value"] ["self", "value"] (defScope s_Book_accepts) := ⟨rfl, rfl, rfl, by decide +kernel, rfl, by decide +kernel, by decide +kernel⟩
theorem ok_Book_accepts {f : Addr} {fd : FuncData} (F : Fun K "accepts" "Book.accepts" s_Book_accepts f fd) (T : Txt K mg C CF AF) (c_is_text_over : HasO P w K mg base CX0 3 "is_text_over" ["book", "value"] (spTextOver C)) : FnOk P w K mg base CX0 4 f fd ["self", "value"] (spTextOver C) := by
  refine F.ok sc_Book_accepts (fun vs H Q E h => ?_) (fun cdv A outer s H vs Q E hr h => ?_)
  · obtain ⟨b, kvs, z, rfl, _⟩ := h
    rfl
  · have hu := hu_of hr
    obtain ⟨b, kvs, z, rfl, B, hz, k⟩ := h
    refine ⟨_, (pss_one (ps_ret (pe_hasO c_is_text_over (hr.mono (by decide)) pass0 (pa_cons (pv 0) (pa_cons (pv 1) pa_nil))))), ?_⟩
    exact ⟨_, rfl, _, rfl, b, kvs, z, rfl, B, hz, k⟩
theorem sc_require_book : FnScope ["value"] ["value"] (defScope s_require_book) := ⟨rfl, rfl, rfl, by decide +kernel, rfl, by decide +kernel, by decide +kernel⟩
theorem ok_require_book {f : Addr} {fd : FuncData} (F : Fun K "require_book" "require_book" s_require_book f fd) (T : Txt K mg C CF AF) : FnOk P w K mg base CX0 1 f fd ["value"] (spReqBook C) := by
  refine F.ok sc_require_book (fun vs H Q E h => ?_) (fun cdv A outer s H vs Q E hr h => ?_)
  · obtain ⟨b, dx, fs, rfl, _⟩ := h
    rfl
  · have hu := hu_of hr
    obtain ⟨b, dx, fs, rfl, hb, k⟩ := h
    refine ⟨_, (pss_one (ps_if (pt_not (pt_val (pe_callB (C8.call_isC T.ic) (by rfl) T.b_isinstance (by decide +kernel) (pa_cons (pv 0) (pa_cons (pe_glob (v := .ref C) rfl T.gC rfl) pa_nil))))) (pss_one ps_never) pss_nil)), ?_⟩
    exact ⟨_, rfl, b, dx, fs, rfl, hb, true, rfl, k⟩
theorem sc_prices_along : FnScope ["book", "text", "found", "stop", "best", "start", "price"] ["book", "text"] (defScope s_prices_along) := ⟨rfl, rfl, rfl, by decide +kernel, rfl, by decide +kernel, by decide +kernel⟩
theorem ok_prices_along {f : Addr} {fd : FuncData} (F : Fun K "prices_along" "prices_along" s_prices_along f fd) (T : Txt K mg C CF AF) : FnOk P w K mg base CX0 2 f fd ["book", "text"] (spAlong C) := by
  refine F.ok sc_prices_along (fun vs H Q E h => ?_) (fun cdv A outer s H vs Q E hr h => ?_)
  · obtain ⟨b, kvs, z, rfl, _⟩ := h
    rfl
  · have hu := hu_of hr
    obtain ⟨b, kvs, z, rfl, B, ov, hz, k⟩ := h
    refine ⟨_, (pss_cons (ps_set (i := 2) sc_prices_along.nd rfl (Or.inl rfl) (pe_lst (pa_cons pe_int pa_nil)))
      (pss_cons (ps_for PassesOwn.never rfl (pi_range2 (by rfl) T.b_range (pa_cons pe_int (pa_cons (pe_op op_add (pe_callB call_len_str (by rfl) T.b_len (by decide +kernel) (pa_cons (pv 1) pa_nil)) pe_int) pa_nil))) (pg_name (i := 3) sc_prices_along.nd rfl (Or.inl rfl)) (pss_cons (ps_set (i := 4) sc_prices_along.nd rfl (Or.inl rfl) (pe_op op_add (pe_ix (g_ix_list K) (pv 2) (pe_un un_neg pe_int) (fun _ _ => rfl)) (pe_dget hu (g_fld K (pv 0)) (pe_ix ix_str (pv 1) (pe_op op_sub (pv 3) pe_int) (fun _ _ => rfl)) (fun _ _ => rfl))))
      (pss_cons (ps_for PassesOwn.never rfl (pi_range2 (by rfl) T.b_range (pa_cons (pe_callB (call_max2 rfl) (by rfl) T.b_max (by decide +kernel) (pa_cons pe_int (pa_cons (pe_op op_sub (pv 3) (g_fld K (pv 0))) pa_nil))) (pa_cons (pe_op op_sub (pv 3) pe_int) pa_nil))) (pg_name (i := 5) sc_prices_along.nd rfl (Or.inl rfl)) (pss_cons (ps_set (i := 6) sc_prices_along.nd rfl (Or.inl rfl) (pe_dget1 hu (g_fld K (pv 0)) (pe_slice sl_str (pv 1) (po_some (pv 5)) (po_some (pv 3))) ⟨by rfl, by rfl, by rfl, by rfl⟩))
      (pss_one (ps_if (PW.pt (pw_and (pt_cmpR op_notN (pv 6) pe_non (nomark _)) (pw_and1 (pt_cmpR op_lt (pe_op op_add (pe_ix (g_ix_list K) (pv 2) (pv 5) (fun _ _ => rfl)) (pv 6)) (pv 4) (nomark _))))) (pss_one (ps_set (i := 4) sc_prices_along.nd rfl (Or.inl rfl) (pe_op op_add (pe_ix (g_ix_list K) (pv 2) (pv 5) (fun _ _ => rfl)) (pv 6)))) pss_nil))))
      (pss_one (ps_expr (g_bm K PySem.F.plainAttrs_list PySem.F.slot_list_append PySem.F.type_list_append mt_append (pv 2) (pa_cons (pv 4) pa_nil)))))))
      (pss_one (ps_ret (pv 2))))), ?_⟩
    obtain ⟨av, nd, ys, L, M, dx, d, tp, ta, od, pm, so, A⟩ := id B
    obtain ⟨_, al, _, _⟩ := ap_parts av
    have tar := tar_of av nd
    have good := tar.good
    have ef := tf_psOf al pm
    have lz := cs_len z
    obtain ⟨lm, lo⟩ := A.lo
    have hLz : ∀ y p, tfD kvs y = some p → ((cs y).length : Int) ≤ L := fun y p hy => by
      rw [cs_len]
      refine lo _ (List.mem_map.mpr ⟨(y, priceIn kvs y), List.mem_map.mpr ⟨y, pm.mem_iff.mpr ((tf_key al).mpr ⟨p, hy⟩), rfl⟩, rfl⟩)
    obtain ⟨Ln, rfl⟩ : ∃ Ln : Nat, L = (Ln : Int) := by
      obtain ⟨q, _, e⟩ := List.mem_map.mp lm
      exact ⟨q.1.length, e.symm⟩
    have hLn : ∀ y p, tfD kvs y = some p → (cs y).length ≤ Ln := fun y p hy => by have := hLz y p hy; omega
    have hL5 : Ln ≤ 5 ∧ 1 ≤ Ln := by
      obtain ⟨q, hq, e⟩ := List.mem_map.mp lm
      obtain ⟨y, hy, rfl⟩ := List.mem_map.mp hq
      have h1 := keyStrs_piece al y (pm.mem_iff.mp hy)
      have h2 := cs_len y
      have e' : (y.length : Int) = (Ln : Int) := e
      omega
    have at' : ∀ {H'} {y : Str}, Same H H' → DGet H' d (.str y) ((tfD kvs y).map V.int) := fun s => .inl ⟨_, Sum.inr _, .inr ⟨od, s _ _ A.dc⟩, rfl, by rw [tar_val (tar_book av pm), ef]⟩
    refine ⟨(by show 1 ≤ sizeLine; decide), fun fo hfo => ?_⟩
    refine ⟨_, rfl, z, rfl, fits_sz (by omega), _, _, rfl, rfl, 1, _, rfl, ⟨by omega, by omega, by omega, by omega⟩, for_range (lo := 1) (Pv := fun i σ H' => ∃ x3 x4 x5 x6, σ = [some (.ref b), some (.str z), some (.ref fo), x3, x4, x5, x6] ∧ Same H H' ∧ H' fo = some (.lst (rowV (tfD kvs) (cs z) (i + 1))))
      ⟨_, _, _, _, rfl, same_new hfo, by rw [upd_same, rowV_one good]⟩ ?_ ?_⟩
    · rintro i σ H1 hi ⟨x3, x4, x5, x6, rfl, s1, f1⟩
      have hi' : i < z.length := by omega
      have e1 : (1 : Int) + (i : Int) = ((i + 1 : Nat) : Int) := by omega
      rw [e1]
      have hl : ((cs z).take (i + 1)).length = i + 1 := by rw [List.length_take]; omega
      have ovl := ov.take (i + 1)
      obtain ⟨c, hc⟩ : ∃ c, (cs z)[i]? = some c := ⟨_, List.getElem?_eq_getElem (by omega)⟩
      obtain ⟨p, hp⟩ := ov c (List.mem_of_getElem? hc)
      have ob1 := s1 _ _ A.ob
      have hdrop : ((cs z).take (i + 1)).drop i = [c] := by
        rw [List.take_add_one, hc, List.drop_append, List.drop_of_length_le (by rw [List.length_take]; omega), List.length_take, Nat.min_eq_left (by omega), Nat.sub_self]
        rfl
      have htake : ∀ s, s ≤ i + 1 → ((cs z).take (i + 1)).take s = (cs z).take s := fun s hs => by rw [List.take_take, Nat.min_eq_left hs]
      have c0 : costF (tfD kvs) ((cs z).take (i + 1)) i = some (lp (tfD kvs) ((cs z).take i) + p) := by
        unfold costF
        rw [hdrop, htake i (by omega), show sOf [c] = ch c from rfl, hp]
        rfl
      refine ⟨_, rfl, _, rfl, fo, _, _, _, rfl, rfl, SqL.of f1, by rw [rowV_succ]; exact atI_last, _, rfl, b, C, dx, _, _, rfl, ob1, T.cl, T.n_own_prices, bf_prices, _, rfl, _, rfl, _, _, rfl, rfl, z, _, c, rfl, rfl, fits_sz (by omega), by rw [show ((i + 1 : Nat) : Int) - 1 = ((i : Nat) : Int) by omega]; exact atI_nat hc, d, .int p, rfl, by rw [show some (V.int p) = (tfD kvs (ch c)).map V.int by rw [hp]; rfl]; exact at' s1, _, _, rfl, rfl, ?_⟩
      refine ⟨_, rfl, _, rfl, b, C, dx, _, _, rfl, ob1, T.cl, T.n_own_longest, bf_longest, _, _, rfl, rfl, _, _, rfl, _, rfl, _, _, rfl, rfl, ((i + 1 - Ln : Nat) : Int), _, congrArg (fun t => [V.int t, V.int (((i + 1 : Nat) : Int) - 1)]) (maxN (i + 1) Ln), ⟨by omega, by omega, by omega, by omega⟩, ?_⟩
      have e2 : ((((i + 1 : Nat) : Int) - 1) - ((i + 1 - Ln : Nat) : Int)).toNat = i - (i + 1 - Ln) := by omega
      rw [e2]
      refine for_range (lo := ((i + 1 - Ln : Nat) : Int)) (Pv := fun j σ H' => ∃ m x5 x6, σ = [some (.ref b), some (.str z), some (.ref fo), some (.int ((i + 1 : Nat) : Int)), some (.int m), x5, x6] ∧ Same H H' ∧ H' fo = some (.lst (rowV (tfD kvs) (cs z) (i + 1))) ∧
        (∃ s, s < i + 1 ∧ costF (tfD kvs) ((cs z).take (i + 1)) s = some m) ∧ ∀ s y, (s = i ∨ (i + 1 - Ln ≤ s ∧ s < i + 1 - Ln + j)) → costF (tfD kvs) ((cs z).take (i + 1)) s = some y → m ≤ y)
        ⟨_, _, _, rfl, s1, f1, ⟨i, by omega, c0⟩, fun s y hs hy => ?_⟩ ?_ ?_
      · rcases hs with rfl | ⟨h1, h2⟩
        · rw [c0] at hy
          exact Int.le_of_eq (Option.some.inj hy)
        · omega
      · rintro j σ H2 hj ⟨m, y5, y6, rfl, s2, f2, hm, hb⟩
        have e3 : ((i + 1 - Ln : Nat) : Int) + (j : Int) = ((i + 1 - Ln + j : Nat) : Int) := by omega
        have hs' : i + 1 - Ln + j < i := by omega
        obtain ⟨st, hst⟩ : ∃ st, st = i + 1 - Ln + j := ⟨_, rfl⟩
        rw [e3, ← hst]
        rw [← hst] at hs'
        have hcut : cutS z (some (st : Int)) (some ((i + 1 : Nat) : Int)) = sOf (((cs z).take (i + 1)).drop st) := str_ext (by rw [cs_cutAB (by omega) (by omega), cs_sOf])
        refine ⟨_, rfl, b, C, dx, _, _, rfl, s2 _ _ A.ob, T.cl, T.n_own_prices, bf_prices, d, rfl, .inl ⟨_, .inr ⟨od, s2 _ _ A.dc⟩⟩, _, rfl, _, rfl, _, rfl, _, rfl, _, rfl, z, rfl, fits_sz (by omega), _, by rw [hcut]; exact at' s2, ?_⟩
        have next : ∀ (m' : Int), (∃ s, s < i + 1 ∧ costF (tfD kvs) ((cs z).take (i + 1)) s = some m') → m' ≤ m → (∀ y, costF (tfD kvs) ((cs z).take (i + 1)) st = some y → m' ≤ y) → ∀ s y, (s = i ∨ (i + 1 - Ln ≤ s ∧ s < i + 1 - Ln + (j + 1))) → costF (tfD kvs) ((cs z).take (i + 1)) s = some y → m' ≤ y := by
          intro m' _ hle hy' s y hs hy
          by_cases e : s = st
          · subst e
            exact hy' y hy
          · have := hb s y (by omega) hy
            omega
        cases e4 : tfD kvs (sOf (((cs z).take (i + 1)).drop st)) with
        | none =>
          refine ⟨_, rfl, rfl, false, rfl, ?_⟩
          refine itF rfl ?_
          refine ⟨m, _, _, rfl, s2, f2, hm, next m hm (Int.le_refl _) fun y hy => ?_⟩
          unfold costF at hy
          rw [e4] at hy
          cases hy
        | some p' =>
          have cy : costF (tfD kvs) ((cs z).take (i + 1)) st = some (lp (tfD kvs) ((cs z).take st) + p') := by
            unfold costF
            rw [e4, htake st (by omega)]
            rfl
          refine ⟨_, rfl, rfl, true, rfl, ?_⟩
          refine itT rfl ?_
          refine ⟨_, rfl, _, rfl, fo, _, _, _, rfl, rfl, SqL.of f2, at_of (j := st) rfl (rowV_at (by omega)), _, rfl, _, _, rfl, rfl, _, rfl, _, _, rfl, rfl, _, rfl, ?_⟩
          refine itB (fun q => ?_) (fun q => ?_)
          · have q' := of_decide_eq_true q
            refine ⟨_, rfl, _, rfl, fo, _, _, _, rfl, rfl, SqL.of f2, at_of (j := st) rfl (rowV_at (by omega)), _, rfl, _, _, rfl, rfl, ?_⟩
            refine ⟨_, _, _, rfl, s2, f2, ⟨st, by omega, cy⟩, next _ ⟨st, by omega, cy⟩ (Int.le_of_lt q') fun y hy => ?_⟩
            rw [cy] at hy
            exact Int.le_of_eq (Option.some.inj hy)
          · have q' := of_decide_eq_false q
            refine ⟨m, _, _, rfl, s2, f2, hm, next m hm (Int.le_refl _) fun y hy => ?_⟩
            rw [cy] at hy
            have := Option.some.inj hy
            omega
      · rintro σ H2 ⟨m, y5, y6, rfl, s2, f2, hm, hb⟩
        have em : m = lp (tfD kvs) ((cs z).take (i + 1)) := best_end good ovl (fun q => by rw [q] at hl; simp at hl) hLn (by rw [hl]; exact hm) fun s y h1 h2 hy => hb s y (by rw [hl] at h1 h2; omega) hy
        subst em
        refine ⟨_, rfl, .inl ⟨rfl, _, SqL.of f2⟩, _, rfl, fo, _, _, rfl, rfl, f2, by rw [rowV_len]; exact small1000' (by omega), ?_⟩
        refine ⟨_, _, _, _, rfl, same_mut s2 hfo, ?_⟩
        rw [upd_same, rowV_succ (n := i + 1)]
    · rintro σ H1 ⟨x3, x4, x5, x6, rfl, s1, f1⟩
      have e1 : ((z.length : Int) + 1 - 1).toNat = z.length := by omega
      rw [e1] at f1
      exact ⟨_, rfl, k fo H1 hfo f1 s1⟩
theorem sc_front_in : FnScope ["book", "text", "prices", "many", "back"] ["book", "text"] (defScope s_front_in) := ⟨rfl, rfl, rfl, by decide +kernel, rfl, by decide +kernel, by decide +kernel⟩
theorem ok_front_in {f : Addr} {fd : FuncData} (F : Fun K "front_in" "front_in" s_front_in f fd) (T : Txt K mg C CF AF) (c_prices_along : HasO P w K mg base CX0 2 "prices_along" ["book", "text"] (spAlong C)) : FnOk P w K mg base CX0 3 f fd ["book", "text"] (spFrontIn C) := by
  refine F.ok sc_front_in (fun vs H Q E h => ?_) (fun cdv A outer s H vs Q E hr h => ?_)
  · obtain ⟨b, kvs, z, rfl, _⟩ := h
    rfl
  · have hu := hu_of hr
    obtain ⟨b, kvs, z, rfl, B, ov, hz, hx, k⟩ := h
    refine ⟨_, (pss_cons (ps_set (i := 2) sc_front_in.nd rfl (Or.inr rfl) (pe_hasO c_prices_along (hr.mono (by decide)) pass0 (pa_cons (pv 0) (pa_cons (pv 1) pa_nil))))
      (pss_cons (ps_set (i := 3) sc_front_in.nd rfl (Or.inl rfl) (pe_callB (g_min K rfl) (by rfl) T.b_min (by decide +kernel) (pa_cons (pe_lst (pa_cons (pe_op op_sub (g_fld K (pv 0)) pe_int) (pa_cons (pe_callB call_len_str (by rfl) T.b_len (by decide +kernel) (pa_cons (pv 1) pa_nil)) pa_nil))) pa_nil)))
      (pss_one (ps_ret (pe_tup (pa_cons (pe_slice sl_str (pv 1) (po_some (pe_op op_sub (pe_callB call_len_str (by rfl) T.b_len (by decide +kernel) (pa_cons (pv 1) pa_nil)) (pv 3))) po_none) (pa_cons (pe_callTy (g_tuple_of K) (by rfl) T.b_tuple (by decide +kernel) (pa_cons (pe_lc (own := [("back", 4)]) rfl sc_front_in.nd (pi_range2 (by rfl) T.b_range (pa_cons pe_int (pa_cons (pe_op op_add (pv 3) pe_int) pa_nil))) (blkOk_by (own := [("back", 4)]) (N := ["book", "text", "prices", "many", "back"]) (sc := defScope s_front_in) (by decide +kernel)) (fun _ _ _ _ _ => (pg_name (i := 4) sc_front_in.nd rfl (Or.inl rfl))) (fun _ _ _ _ _ => pts_nil) (fun _ _ _ _ _ => (pe_op op_sub (pe_ix (g_ix_list K) (pv 2) (pe_op op_sub (pe_un un_neg pe_int) (pv 4)) (fun _ _ => rfl)) (pe_ix (g_ix_list K) (pv 2) (pe_un un_neg pe_int) (fun _ _ => rfl))))) pa_nil)) pa_nil))))))), ?_⟩
    obtain ⟨av, nd, ys, Lo, M, dx, d, tp, ta, od, pm, so, A⟩ := id B
    obtain ⟨_, al, _, _⟩ := ap_parts av
    have tar := tar_of av nd
    obtain ⟨Ln, rfl⟩ : ∃ Ln : Nat, Lo = (Ln : Int) := by
      obtain ⟨q, _, e⟩ := List.mem_map.mp A.lo.1
      exact ⟨q.1.length, e.symm⟩
    obtain ⟨wide, l1, l5⟩ := wide_of av pm A.lo
    
    have lz := cs_len z
    refine ⟨_, rfl, _, rfl, b, kvs, z, rfl, B, ov, by omega, fun ro H1 hro r1 s1 => ?_⟩
    refine ⟨_, rfl, b, C, dx, _, _, rfl, s1 _ _ A.ob, T.cl, T.n_own_longest, bf_longest, _, _, rfl, rfl, _, rfl, z, rfl, fits_sz (by omega), by show 2 ≤ sizeLine; decide, fun ml hml => ?_⟩
    refine ⟨ml, [(Ln : Int) - 1, (z.length : Int)], rfl, SqL.of upd_same, by simp, fun m hm hle => ?_⟩
    have em : m = ((min (Ln - 1) z.length : Nat) : Int) := by
      have h1 := hle _ List.mem_cons_self
      have h2 := hle _ (List.mem_cons_of_mem _ List.mem_cons_self)
      have h3 : m = (Ln : Int) - 1 ∨ m = (z.length : Int) := by simpa using hm
      omega
    subst em
    have s2 : Same H (upd H1 ml (.lst [(fun i j : Int => V.int (i - j)) (Ln : Int) 1, V.int (z.length : Int)])) := s1.trans (same_new hml)
    have r2 := same_new hml (o := .lst [(fun i j : Int => V.int (i - j)) (Ln : Int) 1, V.int (z.length : Int)]) _ _ r1
    generalize (upd H1 ml (.lst [(fun i j : Int => V.int (i - j)) (Ln : Int) 1, V.int (z.length : Int)])) = H2 at s2 r2 ⊢
    have ecut : (z.length : Int) - ((min (Ln - 1) z.length : Nat) : Int) = ((z.length - min (Ln - 1) z.length : Nat) : Int) := by omega
    have hcut : cutS z (some ((z.length : Int) - ((min (Ln - 1) z.length : Nat) : Int))) none = sOf (frontW Ln (cs z)) := str_ext (by rw [ecut, cs_cutFrom (by omega), cs_sOf]; unfold frontW; rw [lz])
    refine ⟨_, rfl, _, rfl, z, rfl, fits_sz (by omega), _, rfl, _, _, rfl, rfl, _, rfl, z, rfl, fits_sz (by omega), ?_⟩
    rw [hcut]
    refine ⟨_, rfl, _, _, rfl, rfl, 1, _, rfl, ⟨by omega, by omega, by omega, by omega⟩, fun D hD => ?_⟩
    have e3 : (((min (Ln - 1) z.length : Nat) : Int) + 1 - 1).toNat = min (Ln - 1) z.length := by omega
    rw [e3]
    have hD0 : H D = none := s2.free hD
    refine lc_range (fun i H' => Same H H' ∧ H' ro = some (.lst (rowV (tfD kvs) (cs z) (z.length + 1))) ∧ H' D = some (.lst (((List.range i).map fun i => lp (tfD kvs) ((cs z).take (z.length - (i + 1))) - lp (tfD kvs) (cs z)).map V.int))) ⟨s2.trans (same_new hD), same_new hD _ _ r2, upd_same⟩ ?_ ?_
    · rintro i H3 hi ⟨s3, r3, d3⟩
      have nrD : ro ≠ D := ne_of_none r2 hD
      have full : (cs z).take z.length = cs z := List.take_of_length_le (by omega)
      refine ⟨wipe_set, _, rfl, _, rfl, _, rfl, _, _, rfl, rfl, ro, _, _, .int (lp (tfD kvs) ((cs z).take (z.length - (i + 1)))), rfl, rfl, SqL.of r3, ?_, _, rfl, _, rfl, ro, _, _, .int (lp (tfD kvs) (cs z)), rfl, rfl, SqL.of r3, by rw [rowV_succ, full]; exact atI_last, _, _, rfl, rfl, ?_⟩
      · have e5 : -(1 : Int) - (1 + (i : Int)) = -((i + 1 : Nat) : Int) - 1 := by omega
        rw [e5, atI_neg (by rw [rowV_len]; omega), rowV_len, rowV_at (by omega)]
        have e6 : z.length + 1 - 1 - (i + 1) = z.length - (i + 1) := by omega
        rw [e6]
      · refine ⟨_, d3, by rw [List.length_map, List.length_map, List.length_range]; exact small1000' (by omega), same_mut s3 hD0, by rw [upd_ne nrD]; exact r3, ?_⟩
        rw [upd_same, List.range_succ, List.map_append, List.map_append]
        rfl
    rintro H3 ⟨s3, r3, d3⟩
    refine ⟨D, _, rfl, .inl ⟨SqL.of d3, fun td htd => ?_⟩⟩
    refine ⟨by show 2 ≤ sizeLine; decide, fun t ht => ?_⟩
    refine k Ln t _ wide ⟨td, upd_same, ?_⟩ ((s3.trans (same_new htd)).trans (same_new ht))
    refine same_new ht _ _ ?_
    rw [upd_same]
    unfold frontD
    rw [lz]
theorem sc_front_of : FnScope ["book", "text"] ["book", "text"] (defScope s_front_of) := ⟨rfl, rfl, rfl, by decide +kernel, rfl, by decide +kernel, by decide +kernel⟩
theorem ok_front_of {f : Addr} {fd : FuncData} (F : Fun K "front_of" "front_of" s_front_of f fd) (T : Txt K mg C CF AF) (c_require_book : HasO P w K mg base CX0 1 "require_book" ["value"] (spReqBook C)) (c_require_text : HasO P w K mg base CX0 4 "require_text" ["book", "value"] (spReqText C)) (c_front_in : HasO P w K mg base CX0 3 "front_in" ["book", "text"] (spFrontIn C)) : FnOk P w K mg base CX0 5 f fd ["book", "text"] (spFrontIn C) := by
  refine F.ok sc_front_of (fun vs H Q E h => ?_) (fun cdv A outer s H vs Q E hr h => ?_)
  · obtain ⟨b, kvs, z, rfl, _⟩ := h
    rfl
  · have hu := hu_of hr
    obtain ⟨b, kvs, z, rfl, B, ov, hz, hx, k⟩ := h
    refine ⟨_, (pss_cons (ps_expr (pe_hasO c_require_book (hr.mono (by decide)) pass0 (pa_cons (pv 0) pa_nil)))
      (pss_cons (ps_expr (pe_hasO c_require_text (hr.mono (by decide)) pass0 (pa_cons (pv 0) (pa_cons (pv 1) pa_nil))))
      (pss_one (ps_ret (pe_hasO c_front_in (hr.mono (by decide)) pass0 (pa_cons (pv 0) (pa_cons (pv 1) pa_nil))))))), ?_⟩
    obtain ⟨av, nd, ys, Lo, M, dx, d, tp, ta, od, pm, so, A⟩ := id B
    obtain ⟨_, al, _, _⟩ := ap_parts av
    have tar := tar_of av nd
    obtain ⟨Ln, rfl⟩ : ∃ Ln : Nat, Lo = (Ln : Int) := by
      obtain ⟨q, _, e⟩ := List.mem_map.mp A.lo.1
      exact ⟨q.1.length, e.symm⟩
    obtain ⟨wide, l1, l5⟩ := wide_of av pm A.lo
    
    refine ⟨_, rfl, b, dx, _, rfl, A.ob, ?_⟩
    refine ⟨_, rfl, _, rfl, b, kvs, z, rfl, B, by omega, overB_true hx ov, fun H1 s1 => ?_⟩
    refine ⟨_, rfl, _, rfl, b, kvs, z, rfl, B.same s1, ov, hz, hx, fun L t H2 wL fr s2 => ?_⟩
    exact k L t H2 wL fr (s1.trans s2)
theorem sc_step_in : FnScope ["book", "front", "sign", "signs", "differences", "longer", "ahead", "ends", "change", "kept", "moved", "piece", "one"] ["book", "front", "sign"] (defScope s_step_in) := ⟨rfl, rfl, rfl, by decide +kernel, rfl, by decide +kernel, by decide +kernel⟩
theorem ok_step_in {f : Addr} {fd : FuncData} (F : Fun K "step_in" "step_in" s_step_in f fd) (T : Txt K mg C CF AF) : FnOk P w K mg base CX0 2 f fd ["book", "front", "sign"] (spStepK K C) := by
  refine F.ok sc_step_in (fun vs H Q E h => ?_) (fun cdv A outer s H vs Q E hr h => ?_)
  · obtain ⟨b, f, kvs, l, ds, c, L, rfl, _⟩ := h
    rfl
  · have hu := hu_of hr
    obtain ⟨b, f, kvs, l, ds, c, L, rfl, B, fr, wL, ol, oc, hlL, hds, hll, hdi, k⟩ := h
    refine ⟨_, (pss_cons (ps_asg (pv 1) (g_tup K (n := 2) rfl (pgs_cons (pg_name (i := 3) sc_step_in.nd rfl (Or.inl rfl)) (pgs_cons (pg_name (i := 4) sc_step_in.nd rfl (Or.inl rfl)) pgs_nil))))
      (pss_cons (ps_asg (pe_tup (pa_cons (pe_op op_add_str (pv 3) (pv 2)) (pa_cons (pe_tup (pa_cons pe_int (StX.pa_star (pv 4) pa_nil))) pa_nil))) (g_tup K (n := 2) rfl (pgs_cons (pg_name (i := 5) sc_step_in.nd rfl (Or.inr rfl)) (pgs_cons (pg_name (i := 6) sc_step_in.nd rfl (Or.inr rfl)) pgs_nil))))
      (pss_cons (ps_setLc (i := 7) (own := [("piece", 11)]) rfl sc_step_in.nd rfl rfl (sw_true rfl rfl rfl (by decide +kernel)) (g_tuple K (g_fld K (pv 0))) (blkOk_by (own := [("piece", 11)]) (N := ["book", "front", "sign", "signs", "differences", "longer", "ahead", "ends", "change", "kept", "moved", "piece", "one"]) (sc := defScope s_step_in) (by decide +kernel)) (fun _ _ _ _ _ => (pg_name (i := 11) sc_step_in.nd rfl (Or.inl rfl))) (fun _ _ _ _ _ => (pts_one (pt_val (pe_m1 PySem.F.slot_str_endswith PySem.F.type_str_endswith mt_endswith (pv 5) (pv 11))))) (fun _ _ _ _ _ => (pv 11)))
      (pss_cons (ps_set (i := 8) sc_step_in.nd rfl (Or.inr rfl) (pe_callB (g_min K rfl) (by rfl) T.b_min (by decide +kernel) (pa_cons (pe_lc (own := [("piece", 11)]) rfl sc_step_in.nd (g_list K (pv 7)) (blkOk_by (own := [("piece", 11)]) (N := ["book", "front", "sign", "signs", "differences", "longer", "ahead", "ends", "change", "kept", "moved", "piece", "one"]) (sc := defScope s_step_in) (by decide +kernel)) (fun _ _ _ _ _ => (pg_name (i := 11) sc_step_in.nd rfl (Or.inl rfl))) (fun _ _ _ _ _ => pts_nil) (fun _ _ _ _ _ => (pe_op op_add (pe_dget hu (g_fld K (pv 0)) (pv 11) (fun _ _ => rfl)) (pe_ix (g_ix_tup K) (pv 6) (pe_op op_sub (pe_callB call_len_str (by rfl) T.b_len (by decide +kernel) (pa_cons (pv 11) pa_nil)) pe_int) (fun _ _ => rfl))))) pa_nil)))
      (pss_cons (ps_set (i := 9) sc_step_in.nd rfl (Or.inl rfl) (pe_slice sl_str (pv 5) (po_some (pe_callB (g_max K rfl) (by rfl) T.b_max (by decide +kernel) (pa_cons (pe_lst (pa_cons pe_int (pa_cons (pe_op op_add (pe_op op_sub (pe_callB call_len_str (by rfl) T.b_len (by decide +kernel) (pa_cons (pv 5) pa_nil)) (g_fld K (pv 0))) pe_int) pa_nil))) pa_nil))) po_none))
      (pss_cons (ps_setLc (i := 10) (own := [("one", 12)]) rfl sc_step_in.nd rfl rfl (sw_true rfl rfl rfl (by decide +kernel)) (g_tuple K (pv 6)) (blkOk_by (own := [("one", 12)]) (N := ["book", "front", "sign", "signs", "differences", "longer", "ahead", "ends", "change", "kept", "moved", "piece", "one"]) (sc := defScope s_step_in) (by decide +kernel)) (fun _ _ _ _ _ => (pg_name (i := 12) sc_step_in.nd rfl (Or.inl rfl))) (fun _ _ _ _ _ => pts_nil) (fun _ _ _ _ _ => (pe_op op_sub (pv 12) (pv 8))))
      (pss_one (ps_ret (pe_tup (pa_cons (pe_tup (pa_cons (pv 9) (pa_cons (pe_callTy (g_tuple_of K) (by rfl) T.b_tuple (by decide +kernel) (pa_cons (pe_slice (g_sl_list K) (pv 10) po_none (po_some (pe_callB call_len_str (by rfl) T.b_len (by decide +kernel) (pa_cons (pv 9) pa_nil)))) pa_nil)) pa_nil))) (pa_cons (pv 8) pa_nil))))))))))), ?_⟩
    obtain ⟨av, nd, ys, Lo, M, dx, d, tp, ta, od, pm, so, A⟩ := id B
    obtain ⟨_, al, _, _⟩ := ap_parts av
    have tar := tar_of av nd
    obtain ⟨Ln, rfl⟩ : ∃ Ln : Nat, Lo = (Ln : Int) := by
      obtain ⟨q, _, e⟩ := List.mem_map.mp A.lo.1
      exact ⟨q.1.length, e.symm⟩
    obtain ⟨wide, l1, l5⟩ := wide_of av pm A.lo
    
    have eL := wide.uniq wL
    subst eL
    obtain ⟨fd, fr1, fr2⟩ := fr
    refine ⟨_, rfl, f, _, rfl, fr1, rfl, _, _, rfl, _, _, rfl, rfl, ?_⟩
    have lgl : (sOf l ++ ch c) = sOf (l ++ [c]) := str_ext (by rw [cs_app, cs_sOf, cs_sOf])
    refine ⟨_, rfl, _, rfl, sOf l, ch c, rfl, rfl, by rw [sOf_len]; exact fits_sz (by show l.length + 1 ≤ 100000; omega), ?_⟩
    rw [lgl]
    refine ⟨_, rfl, fd, _, rfl, .inl (fr2), by show (ds.map V.int ++ []).length + 1 ≤ sizeLine; rw [List.append_nil, List.length_map]; exact fits_sz (by omega), fun aa haa => ?_⟩
    have ea : V.int 0 :: (ds.map V.int ++ []) = ((0 : Int) :: ds).map V.int := by rw [List.append_nil]; rfl
    refine ⟨by show 2 ≤ sizeLine; decide, fun t1 ht1 => ?_⟩
    refine ⟨t1, _, rfl, SqT.of upd_same, rfl, _, _, rfl, _, _, rfl, rfl, ?_⟩
    have s1 : Same H (upd (upd H aa (.tup (V.int 0 :: (ds.map V.int ++ [])))) t1 (.tup [.str (sOf (l ++ [c])), .ref aa])) := (same_new haa).trans (same_new ht1)
    have a1 : (upd (upd H aa (.tup (V.int 0 :: (ds.map V.int ++ [])))) t1 (.tup [.str (sOf (l ++ [c])), .ref aa])) aa = some (.tup (((0 : Int) :: ds).map V.int)) := by
      rw [← ea]
      exact same_new ht1 _ _ upd_same
    generalize (upd (upd H aa (.tup (V.int 0 :: (ds.map V.int ++ [])))) t1 (.tup [.str (sOf (l ++ [c])), .ref aa])) = H1 at s1 a1 ⊢
    have clg : cs (sOf (l ++ [c])) = l ++ [c] := cs_sOf _
    have llg : (sOf (l ++ [c])).length = l.length + 1 := by rw [sOf_len, List.length_append]; rfl
    generalize sOf (l ++ [c]) = lg at clg llg ⊢
    have pi : H tp = some (.tup (ys.map V.str)) := by
      rw [A.pi]
      unfold psOf
      rw [List.map_map]
      rfl
    have ly : ys.length ≤ 12 := by
      obtain ⟨⟨_, n2⟩, _⟩ := ap_parts av
      have h := congrArg List.length (keys_of al)
      rw [List.length_map, List.length_map] at h
      rw [pm.length_eq]
      omega
    -- the pieces at the end
    refine ⟨_, rfl, b, C, dx, _, _, rfl, s1 _ _ A.ob, T.cl, T.n_own_pieces, bf_pieces, tp, rfl, ⟨_, SqT.of (s1 _ _ pi)⟩, fun D hD => ?_⟩
    refine lcs ys (walk_tupF (K := K) V.str ys) (fun y => if Txt.endswith lg y = true then some (V.str y) else none) hD (by omega) (fun H' s => SqT.of (s _ _ (s1 _ _ pi))) ?_ ?_
    · rintro i y x H3 H4 hi s3 ⟨rfl, y', ey, rfl⟩ N M' hN hM
      have e1 : y = y' := Option.some.inj (hi.symm.trans ey)
      subst e1
      refine ⟨wipe_set, _, rfl, ⟨_, rfl⟩, _, rfl, _, _, rfl, rfl, _, rfl, ?_⟩
      refine itB (fun q => ?_) (fun q => ?_)
      · exact ⟨_, rfl, hN _ _ (if_pos q) (Same.refl _)⟩
      · exact hM _ (if_neg (by rw [q]; exact Bool.false_ne_true)) (Same.refl _)
    rintro H2 s2 e2
    rw [ends_fm] at e2
    have s02 := s1.trans s2
    obtain ⟨mpos, mmin⟩ := step_min (ds := ds) av pm clg hds oc
    have eys : ∀ y ∈ ys.filter (fun y => Txt.endswith lg y), y ∈ ys ∧ (cs y).length ≤ l.length + 1 ∧ 1 ≤ (cs y).length := fun y hy => by
      obtain ⟨h1, h2⟩ := List.mem_filter.mp hy
      obtain ⟨a, ha⟩ := ends_iff.mp h2
      have h3 := congrArg List.length ha
      rw [clg, List.length_append, List.length_append, List.length_singleton] at h3
      exact ⟨h1, by omega, (keyStrs_piece al y (pm.mem_iff.mp h1)).1⟩
    have elen : (ys.filter fun y => Txt.endswith lg y).length ≤ 12 := Nat.le_trans (List.length_filter_le _ _) ly
    generalize (ys.filter fun y => Txt.endswith lg y) = es at e2 mpos mmin eys elen
    -- the change
    refine ⟨_, rfl, D, rfl, ⟨_, SqL.of e2⟩, fun D2 hD2 => ?_⟩
    refine lcs es (walk_listF (K := K) V.str es) (fun y => some (V.int (priceIn kvs y + aheadAt ds y))) hD2 (by omega) (fun H' s => SqL.of (s _ _ e2)) ?_ ?_
    · rintro i y x H3 H4 hi s3 ⟨rfl, y', ey, rfl⟩ N M' hN hM
      have e1 : y = y' := Option.some.inj (hi.symm.trans ey)
      subst e1
      obtain ⟨y1, y2, y3⟩ := eys y (List.mem_of_getElem? hi)
      have yl := cs_len y
      have hv : valV (kvOf (psOf kvs ys)) (Sum.inr y) = some (.int (priceIn kvs y)) := by
        rw [kvOf_ps, val_fun, if_pos y1]
      have ha : ((0 : Int) :: ds)[(cs y).length - 1]? = some (aheadAt ds y) := by
        unfold aheadAt
        rw [List.getElem?_eq_getElem (by rw [List.length_cons]; omega)]
        rfl
      refine ⟨wipe_set, _, rfl, b, C, dx, _, _, rfl, (s02.trans s3) _ _ A.ob, T.cl, T.n_own_prices, bf_prices, _, rfl, d, _, rfl, .inl ⟨_, Sum.inr y, .inr ⟨od, (s02.trans s3) _ _ A.dc⟩, rfl, hv.symm⟩, _, rfl, _, rfl, y, rfl, fits_sz (by omega), _, _, rfl, rfl, aa, _, _, .int (aheadAt ds y), rfl, rfl, SqT.of ((s2.trans s3) _ _ a1), at_of (j := (cs y).length - 1) (by omega) (by rw [List.getElem?_map, ha]; rfl), _, _, rfl, rfl, hN _ _ rfl (Same.refl _)⟩
    rintro H3 s3 e3
    have em : (es.filterMap fun y => some (V.int (priceIn kvs y + aheadAt ds y))) = (es.map fun y => priceIn kvs y + aheadAt ds y).map V.int := by
      rw [fm_some, List.map_map]
      rfl
    rw [em] at e3
    refine ⟨D2, _, rfl, SqL.of e3, mpos, fun m hm hle => ?_⟩
    have stp := mmin m hm hle
    have s03 := s02.trans s3
    have a3 := s3 _ _ (s2 _ _ a1)
    -- what is kept
    refine ⟨_, rfl, _, rfl, lg, rfl, fits_sz (by omega), _, rfl, b, C, dx, _, _, rfl, s03 _ _ A.ob, T.cl, T.n_own_longest, bf_longest, _, _, rfl, rfl, _, _, rfl, rfl, by show 2 ≤ sizeLine; decide, fun ml hml => ?_⟩
    refine ⟨ml, [0, (lg.length : Int) - (Ln : Int) + 1], rfl, SqL.of upd_same, by simp, fun q hq hqle => ?_⟩
    have eq' : q = ((l.length + 1 - (Ln - 1) : Nat) : Int) := by
      have h1 := hqle _ List.mem_cons_self
      have h2 := hqle _ (List.mem_cons_of_mem _ List.mem_cons_self)
      have h3 : q = 0 ∨ q = (lg.length : Int) - (Ln : Int) + 1 := by simpa using hq
      omega
    subst eq'
    refine ⟨_, rfl, lg, rfl, fits_sz (by omega), ?_⟩
    have hcut : cutS lg (some ((l.length + 1 - (Ln - 1) : Nat) : Int)) none = sOf (stepW Ln l c) := str_ext (by rw [cs_cutFrom (by omega), cs_sOf, clg]; rfl)
    rw [hcut]
    have s04 := s03.trans (same_new hml (o := .lst [V.int 0, (fun i j : Int => V.int (i + j)) ((lg.length : Int) - (Ln : Int)) 1]))
    have a4 := same_new hml (o := .lst [V.int 0, (fun i j : Int => V.int (i + j)) ((lg.length : Int) - (Ln : Int)) 1]) _ _ a3
    -- all moved by the change
    refine ⟨_, rfl, aa, rfl, ⟨_, SqT.of a4⟩, fun D3 hD3 => ?_⟩
    refine lcs ((0 : Int) :: ds) (walk_tupF (K := K) V.int ((0 : Int) :: ds)) (fun x => some (V.int (x - m))) hD3 (by rw [List.length_cons]; omega) (fun H' s => SqT.of (s _ _ a4)) ?_ ?_
    · rintro i y x H5 H6 hi s5 ⟨rfl, y', ey, rfl⟩ N M' hN hM
      have e1 : y = y' := Option.some.inj (hi.symm.trans ey)
      subst e1
      exact ⟨wipe_set, _, rfl, _, rfl, _, _, rfl, rfl, hN _ _ rfl (Same.refl _)⟩
    rintro H5 s5 e5
    have emv : (((0 : Int) :: ds).filterMap fun x => some (V.int (x - m))) = (((0 : Int) :: ds).map fun x => x - m).map V.int := by
      rw [fm_some, List.map_map]
      rfl
    rw [emv] at e5
    have s05 := s04.trans s5
    have swl : (sOf (stepW Ln l c)).length = (stepW Ln l c).length := sOf_len _
    have swle : (stepW Ln l c).length ≤ l.length + 1 := by rw [stepW_len]; omega
    refine ⟨_, rfl, _, rfl, _, rfl, _, rfl, fits_sz (by rw [swl]; omega), _, rfl, D3, _, rfl, SqL.of e5, fun q1 hq1 => ?_⟩
    refine ⟨q1, _, rfl, .inl ⟨SqL.of upd_same, fun td htd => ?_⟩⟩
    have ecut : cutV ((((0 : Int) :: ds).map fun x => x - m).map V.int) none (some ((sOf (stepW Ln l c)).length : Int)) = (stepD Ln l ds c m).map V.int := by
      rw [cutV_to (by rw [swl, List.length_map, List.length_map, List.length_cons]; omega), swl, ← List.map_take]
      rfl
    rw [ecut] at htd ⊢
    refine ⟨by show 2 ≤ sizeLine; decide, fun u hu => ?_⟩
    refine ⟨_, rfl, by show 2 ≤ sizeLine; decide, fun t ht => ?_⟩
    refine k t m _ stp ⟨u, upd_same, td, same_new ht _ _ upd_same, same_new ht _ _ (same_new hu _ _ upd_same)⟩ ((((s05.trans (same_new hq1)).trans (same_new htd)).trans (same_new hu)).trans (same_new ht))
theorem sc_fronts_reached : FnScope ["book", "found", "layer", "later", "front", "sign", "after", "change"] ["book"] (defScope s_fronts_reached) := ⟨rfl, rfl, rfl, by decide +kernel, rfl, by decide +kernel, by decide +kernel⟩
theorem ok_fronts_reached {f : Addr} {fd : FuncData} (F : Fun K "fronts_reached" "fronts_reached" s_fronts_reached f fd) (T : Txt K mg C CF AF) (c_step_in : HasO P w K mg base CX0 2 "step_in" ["book", "front", "sign"] (spStepK K C)) : FnOk P w K mg base CX0 6 f fd ["book"] (spReached C K P w) := by
  refine F.ok sc_fronts_reached (fun vs H Q E h => ?_) (fun cdv A outer s H vs Q E hr h => ?_)
  · obtain ⟨b, kvs, L, rfl, _⟩ := h
    rfl
  · have hu := hu_of hr
    obtain ⟨b, kvs, L, rfl, B, wd, fw, k⟩ := h
    refine ⟨_, (pss_cons (ps_par (i := 1) (j := 2) (by rfl) sc_fronts_reached.nd rfl rfl (by decide) rfl rfl (pa_cons (g_dispF K P w hr.units (pe_glob (v := .ref AF) rfl T.ff rfl) pe_str) (pa_cons (pe_lst (pa_cons (pe_glob (v := .ref AF) rfl T.ff rfl) pa_nil)) pa_nil)) (by rfl))
      (pss_cons (ps_while PassesOwn.never (pt_cmpR (op_neNil hr.units0) (pv 2) (pe_lst pa_nil) (nomark _)) (pss_cons (ps_set (i := 3) sc_fronts_reached.nd rfl (Or.inl rfl) (pe_lst pa_nil))
      (pss_cons (ps_for PassesOwn.never rfl (g_list K (pv 2)) (pg_name (i := 4) sc_fronts_reached.nd rfl (Or.inl rfl)) (pss_one (ps_for PassesOwn.never rfl (g_tuple K (g_fld K (pv 0))) (pg_name (i := 5) sc_fronts_reached.nd rfl (Or.inl rfl)) (pss_cons (ps_asg (pe_hasO c_step_in (hr.mono (by decide)) pass0 (pa_cons (pv 0) (pa_cons (pv 4) (pa_cons (pv 5) pa_nil)))) (g_tup K (n := 2) rfl (pgs_cons (pg_name (i := 6) sc_fronts_reached.nd rfl (Or.inl rfl)) (pgs_cons (pg_name (i := 7) sc_fronts_reached.nd rfl (Or.inl rfl)) pgs_nil))))
      (pss_one (ps_if (pt_cmpR (g_fnotin K P w hr.units) (pv 6) (pv 1) (by rfl)) (pss_cons (ps_asg (pe_op op_add_str (pe_ix (g_ixfd K P w hr.units) (pv 1) (pv 4) (fun _ _ => rfl)) (pv 5)) (pg_sub (pv 1) (pv 6) (g_setfd K P w hr.units)))
      (pss_one (ps_expr (g_bm K PySem.F.plainAttrs_list PySem.F.slot_list_append PySem.F.type_list_append mt_append (pv 3) (pa_cons (pv 6) pa_nil))))) pss_nil))))))
      (pss_cons (ps_if (pt_cmpR op_gt (pe_callB (g_lenfd K P w) (by rfl) T.b_len (by decide +kernel) (pa_cons (pv 1) pa_nil)) (pe_glob (v := .int 2000) rfl T.g_MAX_FRONTS.choose_spec ⟨_, rfl⟩) (nomark _)) (pss_one ps_never) pss_nil)
      (pss_one (ps_set (i := 2) sc_fronts_reached.nd rfl (Or.inl rfl) (pe_callTy (g_list_of K) (by rfl) T.b_list (by decide +kernel) (pa_cons (pv 3) pa_nil))))))))
      (pss_one (ps_ret (pv 1))))), ?_⟩
    obtain ⟨av, nd, ys, Lo, M, bx, bd, tp, ta, od, pm, so, A⟩ := id B
    have tar := tar_of av nd
    have good := tar.good
    obtain ⟨L1, L5⟩ : 1 ≤ L ∧ L ≤ 5 := by
      obtain ⟨⟨z, p, h1, h2⟩, _⟩ := wd
      have := good.len z p h1
      omega
    obtain ⟨sg, al, sg12, sgo⟩ := alpha_of av pm
    refine fun d hd0 => ⟨AF, (sOf [], []), rfl, T.fk.at, upd_same, ?_⟩
    have d1 : (upd (upd H d (FD P w d [])) d (FD P w d [((sOf [], []), AF, V.str (Str.ofString ""))])) d = some (FD P w d (feOf textV [((sOf [], []), AF, [])])) := upd_same
    have s1 : Same H (upd (upd H d (FD P w d [])) d (FD P w d [((sOf [], []), AF, V.str (Str.ofString ""))])) := same_mut (same_new hd0) hd0
    generalize (upd (upd H d (FD P w d [])) d (FD P w d [((sOf [], []), AF, V.str (Str.ofString ""))])) = H1 at d1 s1 ⊢
    refine ⟨by show 1 ≤ sizeLine; decide, fun la hla => ?_⟩
    have s2 := s1.trans (same_new hla (o := .lst [V.ref AF]))
    have d2 := same_new hla (o := .lst [V.ref AF]) _ _ d1
    have l2 : (upd H1 la (.lst [V.ref AF])) la = some (.lst (([((sOf [], []), AF, [])] : List BE).map fun e => V.ref e.2.1)) := upd_same
    generalize (upd H1 la (.lst [V.ref AF])) = H2 at s2 d2 l2 ⊢
    refine ⟨_, _, rfl, ?_⟩
    refine ⟨fun m' σ H' => ∃ n E lay la y3 y4 y5 y6 y7, m' = (if lay = [] then 0 else 2002 - E.length) ∧ σ = [some (.ref b), some (.ref d), some (.ref la), y3, y4, y5, y6, y7] ∧ Same H H' ∧ H' d = some (FD P w d (feOf textV E)) ∧ H' la = some (.lst (lay.map fun e : BE => V.ref e.2.1)) ∧ StandE K H' E ∧ StandE K H' lay ∧ Bfs (tfD kvs) L n E lay ∧ n + (if lay = [] then 0 else 1) ≤ E.length,
      ⟨_, 0, [((sOf [], []), AF, [])], [((sOf [], []), AF, [])], la, _, _, _, _, _, rfl, rfl, s2, d2, l2, fun e he => by rw [List.mem_singleton.mp he]; exact T.fk.at, fun e he => by rw [List.mem_singleton.mp he]; exact T.fk.at, bfs_start AF AF, Nat.le_refl _⟩, ?_⟩
    clear d1 d2 l2 s1 s2 hla H1 H2
    rintro m' σ H1 ⟨n, E, lay, la, y3, y4, y5, y6, y7, rfl, rfl, s1, d1, l1, stE, stL, Bf, cn⟩
    refine ⟨_, rfl, by show 0 ≤ sizeLine; decide, fun p hp => ?_⟩
    refine ⟨la, p, _, rfl, rfl, same_new hp _ _ l1, upd_same, _, rfl, ?_⟩
    have s1' := s1.trans (same_new hp (o := .lst []))
    have d1' := same_new hp (o := .lst []) _ _ d1
    have l1' := same_new hp (o := .lst []) _ _ l1
    have stE' := stE.same (same_new hp (o := .lst []))
    have stL' := stL.same (same_new hp (o := .lst []))
    generalize upd H1 p (.lst []) = H2 at s1' d1' l1' stE' stL' ⊢
    clear s1 d1 l1 stE stL hp
    have el := Bf.count fw
    by_cases hlay : lay = []
    · subst hlay
      refine itF rfl ?_
      exact ⟨_, rfl, k d E H2 (Bf.whole good wd L1) el d1' stE' s1'⟩
    rw [if_neg hlay] at cn
    refine itT (by cases lay with | nil => exact absurd rfl hlay | cons x r => rfl) ⟨fun σ' H' => ∃ nw lr y4 y5 y6 y7 y8, σ' = [some (.ref b), some (.ref d), some (.ref lr), y4, y5, y6, y7, y8] ∧ Same H H' ∧ H' d = some (FD P w d (feOf textV (E ++ nw))) ∧ H' lr = some (.lst (nw.map fun e : BE => V.ref e.2.1)) ∧ StandE K H' (E ++ nw) ∧ Bfs (tfD kvs) L (n + 1) (E ++ nw) nw, ?_, ?_⟩
    · rintro σ' H' ⟨nw, lr, z4, z5, z6, z7, z8, rfl, h1, h2, h3, h4, h5⟩
      have el' := h5.count fw
      have ln : (E ++ nw).length = E.length + nw.length := List.length_append
      refine ⟨_, ?_, n + 1, E ++ nw, nw, lr, _, _, _, _, _, rfl, rfl, h1, h2, h3, h4, fun e he => h4 e (List.mem_append_right _ he), h5, ?_⟩
      · rw [if_neg hlay]
        split
        · omega
        · rename_i q
          have := List.length_pos_iff.mpr q
          omega
      · split
        · omega
        · rename_i q
          have := List.length_pos_iff.mpr q
          omega
    refine ⟨by show 0 ≤ sizeLine; decide, fun lr hlr => ?_⟩
    have hlr0 : H lr = none := s1'.free hlr
    have ndr : d ≠ lr := ne_of_none d1' hlr
    have nlr : la ≠ lr := ne_of_none l1' hlr
    have s3 := same_new hlr (o := .lst [])
    refine ⟨_, rfl, la, rfl, ⟨_, SqL.of (s3 _ _ l1')⟩, for_list (K := K) (xs := lay.map fun e : BE => V.ref e.2.1) (fun j σ H' => ∃ z4 z5 z6 z7 nw, σ = [some (.ref b), some (.ref d), some (.ref la), some (.ref lr), z4, z5, z6, z7] ∧ Same H H' ∧ H' d = some (FD P w d (feOf textV (E ++ nw))) ∧ H' la = some (.lst (lay.map fun e : BE => V.ref e.2.1)) ∧ H' lr = some (.lst (nw.map fun e : BE => V.ref e.2.1)) ∧ StandE K H' (E ++ nw) ∧ StandE K H' lay ∧ Mid (tfD kvs) L n E nw ∧
      ∀ p ∈ lay.take j, ∀ c, Over (tfD kvs) [c] → fr (tfD kvs) L (p.2.2 ++ [c]) ∈ keysE (E ++ nw)) ⟨_, _, _, _, [], rfl, s1'.trans s3, by rw [List.append_nil]; exact s3 _ _ d1', s3 _ _ l1', upd_same, by rw [List.append_nil]; exact stE'.same s3, stL'.same s3, Bf.mid, fun _ h => (List.not_mem_nil h).elim⟩ (fun j σ H' _ q => by obtain ⟨_, _, _, _, _, _, _, _, q, _⟩ := q; exact SqL.of q) ?_ ?_⟩
    · rintro j x σ H3 hx ⟨z4, z5, z6, z7, nw, rfl, s4, d4, l4, r4, stE4, stL4, Md, dn⟩
      obtain ⟨e, he, rfl⟩ : ∃ e, lay[j]? = some e ∧ x = V.ref e.2.1 := by
        rw [List.getElem?_map] at hx
        cases q : lay[j]? with
        | none =>
          rw [q] at hx
          cases hx
        | some e =>
          rw [q] at hx
          exact ⟨e, rfl, (Option.some.inj hx).symm⟩
      have eL := List.mem_of_getElem? he
      obtain ⟨e', he', ek, et, en⟩ := Bf.lay2 e eL
      obtain ⟨ov, fe, tn, _⟩ := Bf.ok e' he'
      rw [et] at ov fe tn
      rw [ek] at fe
      have al1 : H ta = some (.tup (sg.map chV)) := by
        rw [A.al, al]
      refine ⟨_, rfl, b, C, bx, _, _, rfl, s4 _ _ A.ob, T.cl, T.n_own_alphabet, bf_alphabet, ta, rfl, ⟨_, SqT.of (s4 _ _ al1)⟩, for_tup (K := K) (xs := sg.map chV) (fun i σ H' => ∃ z5 z6 z7 nw, σ = [some (.ref b), some (.ref d), some (.ref la), some (.ref lr), some (.ref e.2.1), z5, z6, z7] ∧ Same H H' ∧ H' d = some (FD P w d (feOf textV (E ++ nw))) ∧ H' la = some (.lst (lay.map fun e : BE => V.ref e.2.1)) ∧ H' lr = some (.lst (nw.map fun e : BE => V.ref e.2.1)) ∧ StandE K H' (E ++ nw) ∧ StandE K H' lay ∧ Mid (tfD kvs) L n E nw ∧
        (∀ p ∈ lay.take j, ∀ c, Over (tfD kvs) [c] → fr (tfD kvs) L (p.2.2 ++ [c]) ∈ keysE (E ++ nw)) ∧ ∀ c ∈ sg.take i, fr (tfD kvs) L (e.2.2 ++ [c]) ∈ keysE (E ++ nw)) ⟨_, _, _, nw, rfl, s4, d4, l4, r4, stE4, stL4, Md, dn, fun _ h => (List.not_mem_nil h).elim⟩ (fun j σ H' _ q => by obtain ⟨_, _, _, _, _, q, _⟩ := q; exact SqT.of (q _ _ al1)) ?_ ?_⟩
      · clear s4 d4 l4 r4 stE4 stL4 Md dn
        rintro i x σ H4 hx ⟨z5, z6, z7, nw, rfl, s5, d5, l5, r5, stE5, stL5, Md, dn, dc⟩
        obtain ⟨c, hc, rfl⟩ : ∃ c, sg[i]? = some c ∧ x = chV c := by
          rw [List.getElem?_map] at hx
          cases q : sg[i]? with
          | none =>
            rw [q] at hx
            cases hx
          | some c =>
            rw [q] at hx
            exact ⟨c, rfl, (Option.some.inj hx).symm⟩
        have oc : Over (tfD kvs) [c] := (sgo c).mp (List.mem_of_getElem? hc)
        have ovc := over_of ov oc
        have cnt := Md.count Bf fw
        have fsm := front_small (L := L) good ov
        have tn' : e.2.2.length ≤ 2000 := by omega
        have ke : KeyAt K H4 (sOf (frontW L e.2.2), frontD (tfD kvs) L e.2.2) e.2.1 := by
          have := stL5 e eL
          rw [← fe] at this
          exact this
        refine ⟨_, rfl, _, rfl, _, rfl, b, e.2.1, kvs, frontW L e.2.2, frontD (tfD kvs) L e.2.2, c, L, rfl, B.same s5, ke, wd, fun x hx => ov x (frontW_mem hx), oc, by rw [frontW_len]; omega, by rw [frontW_len, frontD_len], fun x hx => lett_over av nd fun y hy => by rw [List.mem_singleton.mp hy]; exact ov x (frontW_mem hx), fun x hx => isI_of (Nat.lt_of_le_of_lt (by have := fsm x hx; omega : x.natAbs ≤ 198000) (by decide +kernel)), fun t m H5 st sa s6 => ?_⟩
        obtain ⟨u, t5, fu⟩ := sa
        obtain ⟨fn, _⟩ := fr_next good wd L1 ovc st
        have ku := fu.key (K := K)
        rw [← fn] at ku
        refine ⟨t, _, rfl, SqT.of t5, rfl, _, _, rfl, _, _, rfl, rfl, ?_⟩
        have d6 := s6 _ _ d5
        have stE6 := stE5.same s6
        have stL6 := stL5.same s6
        have keE : e.1 ∈ keysE (E ++ nw) := by
          rw [keysE_app]
          exact List.mem_append_left _ (List.mem_map.mpr ⟨e', he', ek⟩)
        refine ⟨_, rfl, _, rfl, u, d, _, feOf textV (E ++ nw), rfl, rfl, ku, d6, stE6.keys, _, rfl, ?_⟩
        have take1 : sg.take (i + 1) = sg.take i ++ [c] := by rw [List.take_add_one, hc]; rfl
        by_cases hk : fr (tfD kvs) L (e.2.2 ++ [c]) ∈ keysE (E ++ nw)
        · refine itF (by show (!(lookF _ _).isSome) = false; rw [look_in hk]; rfl) ?_
          refine ⟨_, _, _, nw, rfl, s5.trans s6, d6, s6 _ _ l5, s6 _ _ r5, stE6, stL6, Md, dn, fun x hx => ?_⟩
          rw [take1] at hx
          rcases List.mem_append.mp hx with h | h
          · exact dc x h
          · rw [List.mem_singleton.mp h]
            exact hk
        · refine itT (by show (!(lookF _ _).isSome) = true; rw [look_out hk]; rfl) ?_
          have lv : lookF (feOf textV (E ++ nw)) e.1 = some (textV e.2.2) := by
            have := look_val (val := textV) (E := E ++ nw) (e := e') Md.nd (List.mem_append_left _ he')
            rw [ek, et] at this
            exact this
          refine ⟨_, rfl, _, rfl, d, e.2.1, e.1, _, textV e.2.2, rfl, rfl, stL6 e eL, d6, stE6.keys, lv, _, rfl, sOf e.2.2, ch c, rfl, rfl, by rw [sOf_len]; exact fits_sz (by show e.2.2.length + 1 ≤ 100000; omega), ?_⟩
          refine ⟨_, rfl, _, rfl, d, u, _, _, rfl, rfl, ku, d6, stE6.keys, by rw [feOf_len]; exact Nat.lt_of_le_of_lt cnt (by decide), ?_⟩
          have ev : V.str (sOf e.2.2 ++ ch c) = textV (e.2.2 ++ [c]) := congrArg V.str (str_ext (by rw [cs_app, cs_sOf, cs_sOf]))
          rw [ev, put_new hk, List.append_assoc]
          have r6 := s6 _ _ r5
          have l6 := s6 _ _ l5
          have nlad : la ≠ d := fun q => by
            rw [q, d6] at l6
            cases l6
          have s7 : Same H (upd H5 d (FD P w d (feOf textV (E ++ (nw ++ [(fr (tfD kvs) L (e.2.2 ++ [c]), u, e.2.2 ++ [c])]))))) := same_mut (s5.trans s6) hd0
          have d7 : (upd H5 d (FD P w d (feOf textV (E ++ (nw ++ [(fr (tfD kvs) L (e.2.2 ++ [c]), u, e.2.2 ++ [c])]))))) d = some (FD P w d (feOf textV (E ++ (nw ++ [(fr (tfD kvs) L (e.2.2 ++ [c]), u, e.2.2 ++ [c])])))) := upd_same
          have r7 : (upd H5 d (FD P w d (feOf textV (E ++ (nw ++ [(fr (tfD kvs) L (e.2.2 ++ [c]), u, e.2.2 ++ [c])]))))) lr = some (.lst (nw.map fun e : BE => V.ref e.2.1)) := by rw [upd_ne ndr.symm]; exact r6
          have l7 : (upd H5 d (FD P w d (feOf textV (E ++ (nw ++ [(fr (tfD kvs) L (e.2.2 ++ [c]), u, e.2.2 ++ [c])]))))) la = some (.lst (lay.map fun e : BE => V.ref e.2.1)) := by rw [upd_ne nlad]; exact l6
          have stE7 := (stE6.add (e := (fr (tfD kvs) L (e.2.2 ++ [c]), u, e.2.2 ++ [c])) ku).upd (p := FD P w d (feOf textV (E ++ (nw ++ [(fr (tfD kvs) L (e.2.2 ++ [c]), u, e.2.2 ++ [c])])))) d6 no_fd
          have stL7 := stL6.upd (p := FD P w d (feOf textV (E ++ (nw ++ [(fr (tfD kvs) L (e.2.2 ++ [c]), u, e.2.2 ++ [c])])))) d6 no_fd
          rw [List.append_assoc] at stE7
          generalize (upd H5 d (FD P w d (feOf textV (E ++ (nw ++ [(fr (tfD kvs) L (e.2.2 ++ [c]), u, e.2.2 ++ [c])]))))) = H7 at s7 d7 r7 l7 stE7 stL7 ⊢
          refine ⟨_, rfl, .inl ⟨rfl, _, SqL.of r7⟩, _, rfl, lr, _, .ref u, rfl, rfl, r7, by rw [List.length_map]; exact Nat.lt_of_le_of_lt (by rw [List.length_append] at cnt; omega) (by decide : 2000 < sizeLine), ?_⟩
          have grow : ∀ k, k ∈ keysE (E ++ nw) → k ∈ keysE (E ++ (nw ++ [(fr (tfD kvs) L (e.2.2 ++ [c]), u, e.2.2 ++ [c])])) := fun k h => by
            rw [← List.append_assoc, keysE_app]
            exact List.mem_append_left _ h
          refine ⟨_, _, _, nw ++ [(fr (tfD kvs) L (e.2.2 ++ [c]), u, e.2.2 ++ [c])], rfl, same_mut s7 hlr0, by rw [upd_ne ndr]; exact d7, by rw [upd_ne nlr]; exact l7, by rw [upd_same, List.map_append]; rfl, stE7.upd r7 no_lst, stL7.upd r7 no_lst, Md.add hk ovc rfl ?_, fun p hp x hx => grow _ (dn p hp x hx), fun x hx => ?_⟩
          · rw [List.length_append, List.length_singleton, ← et, en]
          · rw [take1] at hx
            rcases List.mem_append.mp hx with h | h
            · exact grow _ (dc x h)
            · rw [List.mem_singleton.mp h, ← List.append_assoc, keysE_app]
              exact List.mem_append_right _ List.mem_cons_self
      · rintro σ H5 ⟨z5', z6', z7', nw, rfl, s5, d5, l5, r5, stE5, stL5, Md, dn, dc⟩
        rw [List.length_map, List.take_length] at dc
        refine ⟨_, _, _, _, nw, rfl, s5, d5, l5, r5, stE5, stL5, Md, fun p hp c oc => ?_⟩
        rw [List.take_add_one, he] at hp
        rcases List.mem_append.mp hp with h | h
        · exact dn p h c oc
        · rw [List.mem_singleton.mp h]
          exact dc c ((sgo c).mpr oc)
    rintro σ H3 ⟨z4, z5, z6, z7, nw, rfl, s4, d4, l4, r4, stE4, stL4, Md, dn⟩
    rw [List.length_map, List.take_length] at dn
    have cnt := Md.count Bf fw
    have Bn := Md.next good wd L1 Bf dn
    refine ⟨_, rfl, d, _, rfl, d4, stE4.keys, _, _, rfl, rfl, _, rfl, ?_⟩
    refine itF (decide_eq_false (by rw [feOf_len]; omega)) ?_
    refine ⟨_, rfl, lr, _, rfl, .inl (SqL.of r4), fun lz hlz => ?_⟩
    have s8 := same_new hlz (o := .lst (nw.map fun e : BE => V.ref e.2.1))
    exact ⟨nw, lz, _, _, _, _, _, rfl, s4.trans s8, s8 _ _ d4, upd_same, stE4.same s8, Bn⟩
theorem sc_Fronts___init__ : FnScope ["self", "book"] ["self", "book"] (defScope s_Fronts___init__) := ⟨rfl, rfl, rfl, by decide +kernel, rfl, by decide +kernel, by decide +kernel⟩
theorem ok_Fronts___init__ {f : Addr} {fd : FuncData} (F : Fun K "__init__" "Fronts.__init__" s_Fronts___init__ f fd) (T : Txt K mg C CF AF) (c_require_book : HasO P w K mg base CX0 1 "require_book" ["value"] (spReqBook C)) (c_fronts_reached : HasO P w K mg base CX0 6 "fronts_reached" ["book"] (spReached C K P w)) : FnOk P w K mg base CX0 8 f fd ["self", "book"] (spFronts C CF K P w) := by
  refine F.ok sc_Fronts___init__ (fun vs H Q E h => ?_) (fun cdv A outer s H vs Q E hr h => ?_)
  · obtain ⟨p, dx, b, kvs, L, rfl, _⟩ := h
    rfl
  · have hu := hu_of hr
    obtain ⟨p, dx, b, kvs, L, rfl, hp, B, wd, fw, k⟩ := h
    refine ⟨_, (pss_cons (ps_expr (pe_hasO c_require_book (hr.mono (by decide)) pass0 (pa_cons (pv 1) pa_nil)))
      (pss_cons (ps_fld (pv 0) (pv 1) rfl)
      (pss_cons (ps_fld (pv 0) (pe_hasO c_fronts_reached (hr.mono (by decide)) pass0 (pa_cons (pv 1) pa_nil)) rfl)
      (pss_one (ps_fld (pv 0) (pe_callTy (g_tuple_of K) (by rfl) T.b_tuple (by decide +kernel) (pa_cons (pe_callB (cr_sortK K hr.units) (by rfl) T.b_sorted (by decide +kernel) (pa_cons (pe_callTy (g_listfd K P w rfl) (by rfl) T.b_list (by decide +kernel) (pa_cons (g_fld K (pv 0)) pa_nil)) pa_nil)) pa_nil)) rfl))))), ?_⟩
    obtain ⟨av, nd, ys, Lo, M, bx, bd, tp, ta, od, pm, so, A⟩ := id B
    have np : b ≠ p := fun e => by
      have := A.ob
      rw [e, hp] at this
      cases this
    refine ⟨_, rfl, b, bx, _, rfl, A.ob, ?_⟩
    refine ⟨_, rfl, _, rfl, p, CF, dx, [], rfl, hp, T.clF, T.f_own_book, by decide, ?_⟩
    have B1 := B.updI (o := .ins CF dx (L2.putF "own_book" (.ref b) [])) hp np
    have o1 : (L2.upd H p (.ins CF dx (L2.putF "own_book" (.ref b) []))) p = some (.ins CF dx [(("own_book" : Str), .ref b)]) := upd_same
    have k1 : Kp p H (L2.upd H p (.ins CF dx (L2.putF "own_book" (.ref b) []))) := Kp.upd
    generalize (L2.upd H p (.ins CF dx (L2.putF "own_book" (.ref b) []))) = H1 at B1 o1 k1 ⊢
    refine ⟨_, rfl, b, kvs, L, rfl, B1, wd, fw, fun d E H2 wh el hd st s2 => ?_⟩
    have o2 := s2 _ _ o1
    refine ⟨_, rfl, p, CF, dx, _, rfl, o2, T.clF, T.f_own_texts, by simp, ?_⟩
    rw [ff2]
    have nd : d ≠ p := fun e => by
      rw [e, o2] at hd
      cases hd
    have d3 : (L2.upd H2 p (.ins CF dx [(("own_book" : Str), .ref b), ("own_texts", .ref d)])) d = some (FD P w d (feOf textV E)) := by
      rw [upd_ne nd]
      exact hd
    have st3 : StandE K (L2.upd H2 p (.ins CF dx [(("own_book" : Str), .ref b), ("own_texts", .ref d)])) E := st.upd o2 no_ins
    have o3 : (L2.upd H2 p (.ins CF dx [(("own_book" : Str), .ref b), ("own_texts", .ref d)])) p = some (.ins CF dx [(("own_book" : Str), .ref b), ("own_texts", .ref d)]) := upd_same
    have k3 := (k1.trans (.of s2)).trans (Kp.upd (o := .ins CF dx [(("own_book" : Str), .ref b), ("own_texts", .ref d)]))
    generalize (L2.upd H2 p (.ins CF dx [(("own_book" : Str), .ref b), ("own_texts", .ref d)])) = H3 at d3 st3 o3 k3 ⊢
    refine ⟨_, rfl, p, CF, dx, _, _, rfl, o3, T.clF, T.f_own_texts, (lk_by (by decide +kernel)).trans lk_at, d, _, rfl, d3, st3.keys, fun l1 hl1 => ?_⟩
    rw [feOf_keys]
    have e4 : (L2.upd H3 l1 (.lst (E.map fun e => V.ref e.2.1))) l1 = some (.lst ((E.map fun e => (e.2.1, e.1)).map fun q : Addr × FK => V.ref q.1)) := by
      rw [upd_same, List.map_map]
      rfl
    have s4 := same_new hl1 (o := .lst (E.map fun e => V.ref e.2.1))
    generalize (L2.upd H3 l1 (.lst (E.map fun e => V.ref e.2.1))) = H4 at e4 s4 ⊢
    refine ⟨l1, E.map fun e => (e.2.1, e.1), rfl, SqL.of e4, fun q hq => ?_, fun l2 hl2 qs pq sq => ?_⟩
    · obtain ⟨e, he, rfl⟩ := List.mem_map.mp hq
      exact (st3 e he).same s4
    have s5 := s4.trans (same_new hl2 (o := .lst (qs.map fun q => V.ref q.1)))
    have e5 : (L2.upd H4 l2 (.lst (qs.map fun q => V.ref q.1))) l2 = some (.lst (qs.map fun q => V.ref q.1)) := upd_same
    generalize (L2.upd H4 l2 (.lst (qs.map fun q => V.ref q.1))) = H5 at s5 e5 ⊢
    refine ⟨l2, _, rfl, .inl ⟨SqL.of e5, fun t ht => ?_⟩⟩
    have s6 := s5.trans (same_new ht (o := .tup (qs.map fun q => V.ref q.1)))
    have e6 : (L2.upd H5 t (.tup (qs.map fun q => V.ref q.1))) t = some (.tup (qs.map fun q => V.ref q.1)) := upd_same
    generalize (L2.upd H5 t (.tup (qs.map fun q => V.ref q.1))) = H6 at s6 e6 ⊢
    have o6 := s6 _ _ o3
    refine ⟨_, rfl, p, CF, dx, _, rfl, o6, T.clF, T.f_own_fronts, by simp, ?_⟩
    rw [ff3]
    have d6 := s6 _ _ d3
    have ntp : t ≠ p := fun e => by
      rw [e, o6] at e6
      cases e6
    refine k _ E qs d t ⟨upd_same, by rw [upd_ne nd]; exact d6, (st3.same s6).upd o6 no_ins, by rw [upd_ne ntp]; exact e6, pq, ?_, wh⟩ fun c o hc n => ?_
    · rw [sq]
      unfold keysE
      rw [List.map_map]
      rfl
    · rw [upd_ne n]
      exact s6 _ _ (k3 _ _ hc n)
theorem sc_Fronts_rows : FnScope ["self"] ["self"] (defScope s_Fronts_rows) := ⟨rfl, rfl, rfl, by decide +kernel, rfl, by decide +kernel, by decide +kernel⟩
theorem ok_Fronts_rows {f : Addr} {fd : FuncData} (F : Fun K "rows" "Fronts.rows" s_Fronts_rows f fd) (T : Txt K mg C CF AF) : FnOk P w K mg base CX0 1 f fd ["self"] (spRows CF K P w) := by
  refine F.ok sc_Fronts_rows (fun vs H Q E h => ?_) (fun cdv A outer s H vs Q E hr h => ?_)
  · obtain ⟨p, b, F, L, E, qs, dx, d, t, rfl, _⟩ := h
    rfl
  · have hu := hu_of hr
    obtain ⟨p, b, F, L, E, qs, dx, d, t, rfl, A, k⟩ := h
    refine ⟨_, (pss_one (ps_ret (g_fld K (pv 0)))), ?_⟩
    exact ⟨_, rfl, p, CF, dx, _, _, rfl, A.ob, T.clF, T.f_own_fronts, ff_fronts, k⟩
theorem sc_Fronts___len__ : FnScope ["self"] ["self"] (defScope s_Fronts___len__) := ⟨rfl, rfl, rfl, by decide +kernel, rfl, by decide +kernel, by decide +kernel⟩
theorem ok_Fronts___len__ {f : Addr} {fd : FuncData} (F : Fun K "__len__" "Fronts.__len__" s_Fronts___len__ f fd) (T : Txt K mg C CF AF) : FnOk P w K mg base CX0 1 f fd ["self"] (spLenF CF K P w) := by
  refine F.ok sc_Fronts___len__ (fun vs H Q E h => ?_) (fun cdv A outer s H vs Q E hr h => ?_)
  · obtain ⟨p, b, F, L, E, qs, dx, d, t, rfl, _⟩ := h
    rfl
  · have hu := hu_of hr
    obtain ⟨p, b, F, L, E, qs, dx, d, t, rfl, A, el, k⟩ := h
    refine ⟨_, (pss_one (ps_ret (pe_callB (g_len_seq K) (by rfl) T.b_len (by decide +kernel) (pa_cons (g_fld K (pv 0)) pa_nil)))), ?_⟩
    have e : (qs.map fun q => V.ref q.1).length = E.length := by rw [List.length_map, A.pm.length_eq, List.length_map]
    refine ⟨_, rfl, p, CF, dx, _, _, rfl, A.ob, T.clF, T.f_own_fronts, ff_fronts, t, _, rfl, .inr (SqT.of A.tp), ?_⟩
    rw [e]
    exact k
theorem sc__law_reel : FnScope ["script", "spot", "cell", "great", "blend"] ["script", "spot"] (defScope s__law_reel) := ⟨rfl, rfl, rfl, by decide +kernel, rfl, by decide +kernel, by decide +kernel⟩
theorem ok__law_reel {f : Addr} {fd : FuncData} (F : Fun K "_law_reel" "_law_reel" s__law_reel f fd) (T : Txt K mg C CF AF) : FnG P w K mg base CX0 1 f fd ["script", "spot"] (spDice K) := by
  refine fn_g0 F sc__law_reel (fun vs H Q E h => ?_) (fun cdv A outer s H vs Q E hg hr h => ?_)
  · obtain ⟨a, ns, s, rfl, _⟩ := h
    rfl
  · have hu := hu_of hr
    obtain ⟨a, ns, s, rfl, hS, hn, hs0, hs1, k⟩ := h
    refine ⟨_, (pss_cons (ps_set (i := 2) sc__law_reel.nd rfl (Or.inl rfl) (pe_ifExp (pt_cmpR op_lt (pv 1) (pe_callB (g_len_seq K) (by rfl) T.b_len (by decide +kernel) (pa_cons (pv 0) pa_nil)) (nomark _)) (pe_ix (g_ix_list K) (pv 0) (pv 1) (fun _ _ => rfl)) (pe_op op_add (pe_op op_mulW pe_int (pv 1)) pe_int)))
      (pss_cons (ps_set (i := 3) sc__law_reel.nd rfl (Or.inl rfl) (pe_op op_mod (pe_callTy call_int1 (by rfl) T.b_int (by decide +kernel) (pa_cons (pe_callB call_abs (by rfl) T.b_abs (by decide +kernel) (pa_cons (pv 2) pa_nil)) pa_nil)) (pe_op op_powW (pe_op op_powW pe_int pe_int) pe_int)))
      (pss_cons (ps_set (i := 4) sc__law_reel.nd rfl (Or.inl rfl) (pe_op op_add (pe_op op_add (pe_op op_add (pe_op op_mulW (pv 3) pe_int) (pe_op op_mulW pe_int (pv 1))) (pe_op op_mulW pe_int (pe_callTy call_int1 (by rfl) T.b_int (by decide +kernel) (pa_cons (pe_cmpR op_lt (pv 2) pe_int (nomark _)) pa_nil)))) pe_int))
      (pss_one (ps_ret (pe_lst (pa_cons (pe_callB (call_max2 rfl) (by rfl) T.b_max (by decide +kernel) (pa_cons pe_int (pa_cons (pe_op op_sub (pv 3) (pe_op op_powW pe_int pe_int)) pa_nil))) (pa_cons (pe_op op_mod (pe_callTy call_int1 (by rfl) T.b_int (by decide +kernel) (pa_cons (pv 4) pa_nil)) pe_int) (pa_cons pe_int pa_nil))))))))), ?_⟩
    refine tif_int (c := decide (s < ((ns.map V.int).length : Int))) (fun _ => True) (fun N hN => ?_) (fun e N hN => ?_) (fun e N hN => ?_) (fun cell _ => ?_)
    · exact ⟨_, rfl, _, rfl, _, _, rfl, .inl hS, _, _, rfl, rfl, _, rfl, hN⟩
    · have e1 : s.toNat < ns.length := by
        have := of_decide_eq_true e
        rw [List.length_map] at this
        omega
      refine ⟨_, rfl, _, rfl, _, _, _, _, rfl, rfl, hS, at_of (j := s.toNat) (by omega) (by rw [List.getElem?_map, List.getElem?_eq_getElem e1]; rfl), ?_⟩
      exact hN _ trivial
    · refine ⟨_, rfl, _, _, rfl, rfl, wide_mul (a := 8) (b := 8) (by decide) (by omega) (by decide) (by decide) (by decide), _, _, rfl, rfl, ?_⟩
      exact hN _ trivial
    · refine ⟨_, rfl, _, rfl, .inl ⟨_, rfl, _, _, rfl, rfl, ⟨by decide, by decide +kernel⟩, _, _, rfl, rfl, ⟨by decide, by decide +kernel⟩, _, _, rfl, rfl, (show (0 : Int) < ((10 : Int) ^ (57 : Int).toNat) ^ (10 : Int).toNat by decide +kernel), ?_⟩⟩
      have wb := big_mod (x := if cell < 0 then -cell else cell) (m := ((10 : Int) ^ (57 : Int).toNat) ^ (10 : Int).toNat) (by decide +kernel) (by decide +kernel)
      dsimp only [gName, tRet, tLst, tCons]
      generalize (if cell < 0 then -cell else cell) % ((10 : Int) ^ (57 : Int).toNat) ^ (10 : Int).toNat = great at wb ⊢
      obtain ⟨w0, w1⟩ := wb
      refine ⟨_, rfl, _, _, rfl, rfl, wide_mul (a := 2420) (b := 40) w1 (by decide) (by decide) (by decide) (by decide), _, rfl, _, _, rfl, rfl, wide_mul (a := 20) (b := 8) (by decide) (by omega) (by decide) (by decide) (by decide), _, _, rfl, rfl, _, rfl, _, _, rfl, rfl, .inr ⟨_, rfl, _, _, rfl, rfl, wide_mul (a := 8) (b := 8) (by decide) (by split <;> decide) (by decide) (by decide) (by decide), _, _, rfl, rfl, _, _, rfl, rfl, ?_⟩⟩
      dsimp only [gName, tRet, tLst, tCons]
      generalize great * 998244353 + 104729 * s + 29 * (if decide (cell < 0) = true then (1 : Int) else 0) + 5 = blend
      refine ⟨_, rfl, _, _, rfl, rfl, ⟨by decide, by decide +kernel⟩, _, _, rfl, rfl, _, _, rfl, _, rfl, .inl ⟨_, rfl, _, _, rfl, rfl, (show (0 : Int) < 2305843009213693921 by decide), ?_⟩⟩
      refine ⟨(by show 3 ≤ sizeLine; decide), fun p hp => ?_⟩
      obtain ⟨m0, m1⟩ := big_mod (x := blend) (m := 2305843009213693921) (by decide) (by decide +kernel)
      exact k p _ hp (same_new hp) ⟨_, _, _, upd_same, big_cut w0 w1 (by decide +kernel), big_of m0 m1, Int.le_refl _, by omega⟩
theorem sc__law_spin : FnScope ["reel", "many", "found", "one", "two"] ["reel", "many"] (defScope s__law_spin) := ⟨rfl, rfl, rfl, by decide +kernel, rfl, by decide +kernel, by decide +kernel⟩
theorem ok__law_spin {f : Addr} {fd : FuncData} (F : Fun K "_law_spin" "_law_spin" s__law_spin f fd) (T : Txt K mg C CF AF) : FnG P w K mg base CX0 1 f fd ["reel", "many"] (spRoll) := by
  refine fn_g0 F sc__law_spin (fun vs H Q E h => ?_) (fun cdv A outer s H vs Q E hg hr h => ?_)
  · obtain ⟨l, u, n, rfl, _⟩ := h
    rfl
  · have hu := hu_of hr
    obtain ⟨l, u, n, rfl, hu0, hu1, ⟨d0, d1, d2, hD, b0, b1, p2, q2⟩, k⟩ := h
    refine ⟨_, (pss_cons (ps_if (pt_cmpR op_gt (pe_ix (g_ix_list K) (pv 0) pe_int (fun _ _ => rfl)) pe_int (nomark _)) (pss_cons (ps_set (i := 2) sc__law_spin.nd rfl (Or.inl rfl) (pe_op op_mod (pe_callTy call_int1 (by rfl) T.b_int (by decide +kernel) (pa_cons (pe_ix (g_ix_list K) (pv 0) pe_int (fun _ _ => rfl)) pa_nil)) (pv 1)))
      (pss_cons (ps_asg (pe_op op_fdivW (pe_ix (g_ix_list K) (pv 0) pe_int (fun _ _ => rfl)) (pv 1)) (pg_sub (pv 0) pe_int set_list))
      (pss_one (ps_ret (pv 2))))) pss_nil)
      (pss_cons (ps_asg (pe_op op_add (pe_ix (g_ix_list K) (pv 0) pe_int (fun _ _ => rfl)) pe_int) (pg_sub (pv 0) pe_int set_list))
      (pss_cons (ps_set (i := 3) sc__law_spin.nd rfl (Or.inl rfl) (pe_op op_mod (pe_callTy call_int1 (by rfl) T.b_int (by decide +kernel) (pa_cons (pe_op op_add (pe_ix (g_ix_list K) (pv 0) pe_int (fun _ _ => rfl)) (pe_op op_mulW pe_int (pe_ix (g_ix_list K) (pv 0) pe_int (fun _ _ => rfl)))) pa_nil)) pe_int))
      (pss_cons (ps_set (i := 4) sc__law_spin.nd rfl (Or.inl rfl) (pe_op op_mod (pe_callTy call_int1 (by rfl) T.b_int (by decide +kernel) (pa_cons (pe_op op_add (pe_op op_mulW (pv 3) (pv 3)) (pe_op op_mulW pe_int (pe_ix (g_ix_list K) (pv 0) pe_int (fun _ _ => rfl)))) pa_nil)) pe_int))
      (pss_one (ps_ret (pe_op op_mod (pe_callTy call_int1 (by rfl) T.b_int (by decide +kernel) (pa_cons (pe_op op_fdivW (pe_op op_mod (pe_callTy call_int1 (by rfl) T.b_int (by decide +kernel) (pa_cons (pe_op op_mulW (pv 4) (pv 3)) pa_nil)) pe_int) pe_int) pa_nil)) (pv 1)))))))), ?_⟩
    refine ⟨_, rfl, _, _, _, _, rfl, rfl, SqL.of hD, rfl, _, _, rfl, rfl, _, rfl, ?_⟩
    have u0 : 0 < u := by omega
    refine itB (fun e => ?_) (fun e => ?_)
    · refine ⟨_, rfl, _, _, _, _, rfl, rfl, SqL.of hD, rfl, .inl ⟨_, rfl, _, rfl, _, _, rfl, rfl, u0, ?_⟩⟩
      refine ⟨_, rfl, _, _, _, _, rfl, rfl, SqL.of hD, rfl, _, rfl, _, _, rfl, rfl, wide_div (b := 64) u0 (by omega) (by decide) (by decide), ?_⟩
      refine ⟨_, rfl, _, _, _, _, rfl, rfl, hD, rfl, ?_⟩
      refine ⟨_, rfl, ?_⟩
      exact k _ _ (Int.emod_nonneg _ (by omega)) (Int.emod_lt_of_pos _ u0) Kp.upd ⟨_, _, _, upd_same, big_div b0 hu0, b1, p2, by omega⟩
    · refine ⟨_, rfl, _, _, _, _, rfl, rfl, SqL.of hD, rfl, _, _, rfl, rfl, _, rfl, _, _, _, _, rfl, rfl, hD, rfl, ?_⟩
      have hD2 : upd H l (.lst [.int d0, .int d1, .int (d2 + 1)]) l = some (.lst [.int d0, .int d1, .int (d2 + 1)]) := upd_same
      refine ⟨_, rfl, _, _, _, _, rfl, rfl, SqL.of hD2, rfl, _, rfl, _, _, _, _, rfl, rfl, SqL.of hD2, rfl, _, _, rfl, rfl, wide_mul (a := 40) (b := 64) (by decide) (by omega) (by decide) (by decide) (by decide), _, _, rfl, rfl, .inl ⟨_, rfl, _, _, rfl, rfl, (show (0 : Int) < 1152921504606846869 by decide), ?_⟩⟩
      have o1 := Int.emod_nonneg (d1 + 1000000087 * (d2 + 1)) (by decide : (1152921504606846869 : Int) ≠ 0)
      have o2 := Int.emod_lt_of_pos (d1 + 1000000087 * (d2 + 1)) (by decide : (0 : Int) < 1152921504606846869)
      dsimp only
      generalize (d1 + 1000000087 * (d2 + 1)) % 1152921504606846869 = one' at o1 o2 ⊢
      refine ⟨_, rfl, _, rfl, _, _, rfl, rfl, wide_mul (a := 64) (b := 64) (by omega) (by omega) (by decide) (by decide) (by decide), ?_⟩
      refine ⟨_, rfl, _, _, _, _, rfl, rfl, SqL.of hD2, rfl, _, _, rfl, rfl, wide_mul (a := 20) (b := 64) (by decide) (by omega) (by decide) (by decide) (by decide), _, _, rfl, rfl, .inl ⟨_, rfl, _, _, rfl, rfl, (show (0 : Int) < 2305843009213693907 by decide), ?_⟩⟩
      have t1 := Int.emod_nonneg (one' * one' + 7919 * (d2 + 1)) (by decide : (2305843009213693907 : Int) ≠ 0)
      have t2 := Int.emod_lt_of_pos (one' * one' + 7919 * (d2 + 1)) (by decide : (0 : Int) < 2305843009213693907)
      dsimp only
      generalize (one' * one' + 7919 * (d2 + 1)) % 2305843009213693907 = two' at t1 t2 ⊢
      refine ⟨_, rfl, _, rfl, _, _, rfl, rfl, wide_mul (a := 64) (b := 64) (by omega) (by omega) (by decide) (by decide) (by decide), .inl ⟨_, rfl, ?_⟩⟩
      refine ⟨_, _, rfl, rfl, (show (0 : Int) < 1125899906842589 by decide), _, _, rfl, rfl, wide_div (b := 64) (by decide) (by decide) (by decide) (by decide), .inl ⟨_, rfl, _, rfl, _, _, rfl, rfl, u0, ?_⟩⟩
      exact k _ _ (Int.emod_nonneg _ (by omega)) (Int.emod_lt_of_pos _ u0) Kp.upd ⟨_, _, _, hD2, b0, b1, by omega, by omega⟩
theorem sc__law_pick : FnScope ["reel", "items"] ["reel", "items"] (defScope s__law_pick) := ⟨rfl, rfl, rfl, by decide +kernel, rfl, by decide +kernel, by decide +kernel⟩
theorem ok__law_pick {f : Addr} {fd : FuncData} (F : Fun K "_law_pick" "_law_pick" s__law_pick f fd) (T : Txt K mg C CF AF) (c__law_spin : Has P w K mg base CX0 1 "_law_spin" ["reel", "many"] (spRoll)) : FnG P w K mg base CX0 2 f fd ["reel", "items"] (spPick K) := by
  refine fn_g0 F sc__law_pick (fun vs H Q E h => ?_) (fun cdv A outer s H vs Q E hg hr h => ?_)
  · obtain ⟨l, x, ys, n, rfl, _⟩ := h
    rfl
  · have hu := hu_of hr
    obtain ⟨l, x, ys, n, rfl, S, ne, hl, D, k⟩ := h
    have hpos : 0 < ys.length := List.length_pos_iff.mpr ne
    refine ⟨_, (pss_one (ps_ret (pe_ix (g_ix_seq K) (pv 1) (pe_has c__law_spin hg (hr.mono (by decide)) pass0 (pa_cons (pv 0) (pa_cons (pe_callB (g_len K) (by rfl) T.b_len (by decide +kernel) (pa_cons (pv 1) pa_nil)) pa_nil))) (fun _ _ => rfl)))), ?_⟩
    have hlen : LenV K x H ys.length := by
      cases S with
      | lst _ h => exact .inl ⟨_, h, rfl⟩
      | tup _ h => exact .inr ⟨_, h, rfl⟩
      | str h e => exact ⟨fits_sz (by omega), by rw [e, signsV_len]⟩
    refine ⟨_, rfl, _, rfl, _, rfl, _, _, rfl, hlen, l, _, n, rfl, by omega, by omega, D, fun r H' r0 r1 kp D' => ?_⟩
    have hr1 : r.toNat < ys.length := by omega
    have hat : ys[r.toNat]? = some ys[r.toNat] := List.getElem?_eq_getElem hr1
    have hmem : ys[r.toNat] ∈ ys := List.getElem_mem hr1
    cases S with
    | lst n h => exact .inl ⟨_, _, _, _, rfl, rfl, kp.seq n h, at_of (j := r.toNat) (by omega) hat, k _ _ hmem kp D'⟩
    | tup n h => exact .inr (.inl ⟨_, _, _, _, rfl, rfl, kp.tup n h, at_of (j := r.toNat) (by omega) hat, k _ _ hmem kp D'⟩)
    | @str z _ h e =>
      subst e
      have hc : ∃ c, (cs z)[r.toNat]? = some c := ⟨_, List.getElem?_eq_getElem (by rw [cs_len, ← signsV_len]; exact hr1)⟩
      obtain ⟨c, hc⟩ := hc
      have e2 : atI (cs z) r = some c := by
        have : r = ((r.toNat : Nat) : Int) := by omega
        rw [this]
        exact atI_nat hc
      refine .inr (.inr ⟨_, _, _, rfl, rfl, fits_sz (by omega), e2, ?_⟩)
      refine k _ _ ?_ kp D'
      unfold signsV
      exact List.mem_map.mpr ⟨c, List.mem_of_getElem? hc, rfl⟩
theorem sc__law_shuffled : FnScope ["reel", "items", "left", "found"] ["reel", "items"] (defScope s__law_shuffled) := ⟨rfl, rfl, rfl, by decide +kernel, rfl, by decide +kernel, by decide +kernel⟩
theorem ok__law_shuffled {f : Addr} {fd : FuncData} (F : Fun K "_law_shuffled" "_law_shuffled" s__law_shuffled f fd) (T : Txt K mg C CF AF) (c__law_spin : Has P w K mg base CX0 1 "_law_spin" ["reel", "many"] (spRoll)) : FnG P w K mg base CX0 2 f fd ["reel", "items"] (spShuf K) := by
  refine fn_g0 F sc__law_shuffled (fun vs H Q E h => ?_) (fun cdv A outer s H vs Q E hg hr h => ?_)
  · obtain ⟨l, a, cl, n, rfl, _⟩ := h
    rfl
  · have hu := hu_of hr
    obtain ⟨l, a, cl, n, rfl, na, ha, hl, hlt, D, k⟩ := h
    refine ⟨_, (pss_cons (ps_par (i := 2) (j := 3) (by rfl) sc__law_shuffled.nd rfl rfl (by decide) rfl rfl (pa_cons (pe_callTy (g_list_of K) (by rfl) T.b_list (by decide +kernel) (pa_cons (pv 1) pa_nil)) (pa_cons (pe_lst pa_nil) pa_nil)) (by rfl))
      (pss_cons (ps_while PassesOwn.never (pt_cmpR (g_neD K hr.units) (pv 2) (pe_lst pa_nil) (nomark _)) (pss_one (ps_expr (g_bm K PySem.F.plainAttrs_list PySem.F.slot_list_append PySem.F.type_list_append mt_append (pv 3) (pa_cons (g_bm K PySem.F.plainAttrs_list PySem.F.slot_list_pop PySem.F.type_list_pop mt_popAt (pv 2) (pa_cons (pe_has c__law_spin hg (hr.mono (by decide)) pass0 (pa_cons (pv 0) (pa_cons (pe_callB (g_len_seq K) (by rfl) T.b_len (by decide +kernel) (pa_cons (pv 2) pa_nil)) pa_nil))) pa_nil)) pa_nil)))))
      (pss_one (ps_ret (pv 3))))), ?_⟩
    refine ⟨_, rfl, a, _, rfl, .inl ha, fun lf hlf => ?_⟩
    refine ⟨by show 0 ≤ sizeLine; decide, fun fo hfo => ?_⟩
    have nlf : lf ≠ l := D.ne hlf
    have nfo : fo ≠ l := (D.new hlf).ne hfo
    have nff : lf ≠ fo := ne_of_none upd_same hfo
    have hfo0 : H fo = none := (same_new hlf).free hfo
    refine ⟨_, _, rfl, ?_⟩
    refine ⟨fun m' σ H' => ∃ zs rest : List Nat, m' = rest.length ∧ σ = [some (.ref l), some (.ref a), some (.ref lf), some (.ref fo)] ∧ (zs ++ rest).Perm cl ∧ H' lf = some (.lst (rest.map chV)) ∧ H' fo = some (.lst (zs.map chV)) ∧ Kp l H H' ∧ Dice H' l (n + rest.length),
      ⟨_, [], cl, rfl, rfl, List.Perm.refl _, by rw [upd_ne nff]; exact upd_same, upd_same, ((Kp.refl _ _).new hlf).new hfo, (D.new hlf).new hfo⟩, ?_⟩
    rintro m' σ H1 ⟨zs, rest, rfl, rfl, pm, e1, e2, kp, D1⟩
    have lr : zs.length + rest.length = cl.length := by
      have := pm.length_eq
      rwa [List.length_append] at this
    have rlt : ∀ z ∈ rest.map ch, ∀ c ∈ cs z, lett c = true := fun z hz c hc => by
      obtain ⟨d, hd, rfl⟩ := List.mem_map.mp hz
      have : c = d := by simpa [cs] using hc
      rw [this]
      exact hlt d (pm.mem_iff.mp (List.mem_append_right _ hd))
    refine ⟨_, rfl, by show 0 ≤ sizeLine; decide, fun p hp => ?_⟩
    have npl : p ≠ l := D1.ne hp
    have e1' := same_new hp (o := .lst []) _ _ e1
    have e2' := same_new hp (o := .lst []) _ _ e2
    have kp' := kp.new hp (o := .lst [])
    have D1' := D1.new hp (o := .lst [])
    refine rNe_nil (zs := rest.map ch) (SqL.of (by rw [e1', chs_strs])) upd_same rlt ⟨_, rfl, ?_⟩
    generalize upd H1 p (.lst []) = H2 at e1' e2' kp' D1' ⊢
    cases hr : rest with
    | nil =>
      subst hr
      refine itF rfl ?_
      rw [List.append_nil] at pm
      exact ⟨_, rfl, k fo zs H2 hfo0 nfo pm e2' kp' (D1'.le (by omega))⟩
    | cons r0 rr =>
      rw [← hr]
      have pos : 0 < rest.length := by rw [hr]; simp
      refine itT (by rw [hr]; rfl) ⟨fun σ' H' => ∃ zs' rest' : List Nat, rest'.length + 1 = rest.length ∧ σ' = [some (.ref l), some (.ref a), some (.ref lf), some (.ref fo)] ∧ (zs' ++ rest').Perm cl ∧ H' lf = some (.lst (rest'.map chV)) ∧ H' fo = some (.lst (zs'.map chV)) ∧ Kp l H H' ∧ Dice H' l (n + rest'.length),
        fun σ' H' ⟨zs', rest', h1, h2⟩ => ⟨rest'.length, by omega, zs', rest', rfl, h2⟩, ?_⟩
      refine ⟨_, rfl, .inl ⟨rfl, _, SqL.of e2'⟩, _, rfl, .inl ⟨rfl, _, SqL.of e1'⟩, _, rfl, _, rfl, lf, _, rfl, .inl (SqL.of e1'), l, _, n + (rest.length - 1), rfl, by rw [List.length_map]; omega, by rw [List.length_map]; omega, D1'.le (by omega), fun r H3 r0' r1 kp2 D2 => ?_⟩
      rw [List.length_map] at r1
      obtain ⟨y, hy⟩ : ∃ y, rest[r.toNat]? = some y := ⟨_, List.getElem?_eq_getElem (by omega)⟩
      have e1'' := kp2 _ _ e1' nlf
      have e2'' := kp2 _ _ e2' nfo
      refine ⟨lf, rest.map chV, r, r.toNat, chV y, rfl, rfl, e1'', by omega, by omega, ix_pos r0' (by rw [List.length_map]; omega), by rw [List.getElem?_map, hy]; rfl, ?_⟩
      refine ⟨fo, zs.map chV, chV y, rfl, rfl, by rw [upd_ne nff.symm]; exact e2'', by rw [List.length_map]; exact small1000' (by omega), ?_⟩
      have el : (rest.eraseIdx r.toNat).length + 1 = rest.length := by
        have := (erase_perm hy).length_eq
        rwa [List.length_cons] at this
      refine ⟨zs ++ [y], rest.eraseIdx r.toNat, el, rfl, ?_, ?_, by rw [upd_same, List.map_append]; rfl, ?_, ?_⟩
      · rw [List.append_assoc]
        exact ((erase_perm hy).append_left zs).trans pm
      · rw [upd_ne nff, upd_same, ← DT.map_erase]
      · exact ((kp'.trans kp2).mut hlf).mut hfo0
      · exact ((D2.le (by omega)).upd nlf).upd nfo
theorem sc__law_letters : FnScope ["reel", "many"] ["reel", "many"] (defScope s__law_letters) := ⟨rfl, rfl, rfl, by decide +kernel, rfl, by decide +kernel, by decide +kernel⟩
theorem ok__law_letters {f : Addr} {fd : FuncData} (F : Fun K "_law_letters" "_law_letters" s__law_letters f fd) (T : Txt K mg C CF AF) (c__law_shuffled : Has P w K mg base CX0 2 "_law_shuffled" ["reel", "items"] (spShuf K)) : FnG P w K mg base CX0 3 f fd ["reel", "many"] (spLett K) := by
  refine fn_g0 F sc__law_letters (fun vs H Q E h => ?_) (fun cdv A outer s H vs Q E hg hr h => ?_)
  · obtain ⟨l, m, n, rfl, _⟩ := h
    rfl
  · have hu := hu_of hr
    obtain ⟨l, m, n, rfl, hm, D, k⟩ := h
    refine ⟨_, (pss_one (ps_ret (pe_slice (g_sl_list K) (pe_has c__law_shuffled hg (hr.mono (by decide)) pass0 (pa_cons (pv 0) (pa_cons (pe_callTy (call_list_str rfl) (by rfl) T.b_list (by decide +kernel) (pa_cons pe_str pa_nil)) pa_nil))) po_none (po_some (pv 1))))), ?_⟩
    have l26 : (cs (Str.ofString "abcdefghijklmnopqrstuvwxyz")).length = 26 := by decide +kernel
    have all : ∀ c ∈ cs (Str.ofString "abcdefghijklmnopqrstuvwxyz"), lett c = true := List.all_eq_true.mp (show (Str.ofString "abcdefghijklmnopqrstuvwxyz").cps.toList.all lett = true by decide +kernel)
    refine ⟨_, rfl, Str.ofString "abcdefghijklmnopqrstuvwxyz", rfl, by decide +kernel, fun p hp => ?_⟩
    have npl : p ≠ l := D.ne hp
    refine ⟨l, p, cs (Str.ofString "abcdefghijklmnopqrstuvwxyz"), n, rfl, npl, SqL.of upd_same, by omega, all, by rw [l26]; exact D.new hp, fun q zs H1 hq nql pm e1 kp D1 => ?_⟩
    refine ⟨_, rfl, _, rfl, q, _, rfl, SqL.of e1, fun r hr => ?_⟩
    have zl : zs.length = 26 := by rw [pm.length_eq, l26]
    rw [cutV_to (by rw [List.length_map]; omega), ← List.map_take]
    have hq0 : H q = none := (same_new hp).free hq
    have nrl : r ≠ l := D1.ne hr
    have hr0 : H r = none := kp_free ((Kp.of (same_new hp)).trans kp) nrl hr
    exact k r (zs.take m) _ hr0 nrl (by rw [List.length_take]; omega) (fun c hc => all c (pm.mem_iff.mp (List.mem_of_mem_take hc))) upd_same (((Kp.of (same_new hp)).trans kp).new hr) (D1.new hr)
theorem sc__law_word : FnScope ["reel", "signs", "many", "turn"] ["reel", "signs", "many"] (defScope s__law_word) := ⟨rfl, rfl, rfl, by decide +kernel, rfl, by decide +kernel, by decide +kernel⟩
theorem ok__law_word {f : Addr} {fd : FuncData} (F : Fun K "_law_word" "_law_word" s__law_word f fd) (T : Txt K mg C CF AF) (c__law_pick : Has P w K mg base CX0 2 "_law_pick" ["reel", "items"] (spPick K)) : FnG P w K mg base CX0 3 f fd ["reel", "signs", "many"] (spLetters K) := by
  refine fn_g0 F sc__law_word (fun vs H Q E h => ?_) (fun cdv A outer s H vs Q E hg hr h => ?_)
  · obtain ⟨l, x, cl, m, n, rfl, _⟩ := h
    rfl
  · have hu := hu_of hr
    obtain ⟨l, x, cl, m, n, rfl, S, ne, hl, hm, D, k⟩ := h
    refine ⟨_, (pss_one (ps_ret (g_join K pe_str (pe_lc (own := [("turn", 3)]) rfl sc__law_word.nd (pi_range1 (by rfl) T.b_range (pa_cons (pv 2) pa_nil)) (blkOk_by (own := [("turn", 3)]) (N := ["reel", "signs", "many", "turn"]) (sc := defScope s__law_word) (by decide +kernel)) (fun _ _ _ _ _ => (pg_name (i := 3) sc__law_word.nd rfl (Or.inl rfl))) (fun _ _ _ _ _ => pts_nil) (fun _ _ _ _ _ => (pe_has c__law_pick hg (hr.mono (by decide)) pass0 (pa_cons (pv 0) (pa_cons (pv 1) pa_nil)))))))), ?_⟩
    refine ⟨⟨_, rfl⟩, _, rfl, _, rfl, by omega, by omega, fun p hp => ?_⟩
    have npl : p ≠ l := D.ne hp
    refine lc_range (fun i H' => ∃ zs : List Nat, zs.length = i ∧ (∀ c ∈ zs, c ∈ cl) ∧ H' p = some (.lst (zs.map chV)) ∧ Kp l H H' ∧ Dice H' l (n + (m - i)) ∧ i ≤ m)
      ⟨[], rfl, fun _ z => (List.not_mem_nil z).elim, upd_same, (Kp.refl _ _).new hp, D.upd npl, Nat.zero_le _⟩ ?_ ?_
    · rintro i H' hi ⟨zs, e1, e2, e3, kp, D', hi2⟩
      have e6 : Int.toNat (m : Int) = m := by omega
      rw [e6] at hi
      refine ⟨rfl, _, rfl, _, rfl, l, x, cl.map chV, n + (m - (i + 1)), rfl, S.kp kp, by simpa using ne, by simpa using hl, D'.le (by omega), fun y H2 hy kp2 D2 => ?_⟩
      obtain ⟨c, hc, rfl⟩ := List.mem_map.mp hy
      refine ⟨_, kp2 _ _ e3 npl, by rw [List.length_map]; exact Nat.lt_of_le_of_lt (by omega : zs.length ≤ 10000) (by decide), zs ++ [c], ?_, ?_, ?_, ?_, ?_, by omega⟩
      · rw [List.length_append, e1]
        rfl
      · intro d hd
        rcases List.mem_append.mp hd with hd | hd
        · exact e2 d hd
        · rw [List.mem_singleton.mp hd]
          exact hc
      · rw [upd_same, List.map_append]
        rfl
      · exact (kp.trans kp2).mut hp
      · exact D2.upd npl
    · rintro H' ⟨zs, e1, e2, e3, kp, D', hi2⟩
      have e6 : Int.toNat (m : Int) = m := by omega
      rw [e6] at e1 D'
      refine ⟨_, p, zs.map ch, rfl, rfl, .inl (SqL.of (by rw [e3, List.map_map]; rfl)), ?_, ?_⟩
      · rw [sum_ch, List.length_map]
        show zs.length + zs.length * 0 ≤ _
        omega
      · rw [join_ch]
        exact k zs H' e1 e2 kp (D'.le (by omega))
theorem sc__law_prices : FnScope ["reel", "signs", "most", "size", "menu", "found", "turn", "sign"] ["reel", "signs", "most", "size", "menu"] (defScope s__law_prices) := ⟨rfl, rfl, rfl, by decide +kernel, rfl, by decide +kernel, by decide +kernel⟩
theorem ok__law_prices {f : Addr} {fd : FuncData} (F : Fun K "_law_prices" "_law_prices" s__law_prices f fd) (T : Txt K mg C CF AF) (c__law_pick : Has P w K mg base CX0 2 "_law_pick" ["reel", "items"] (spPick K)) (c__law_spin : Has P w K mg base CX0 1 "_law_spin" ["reel", "many"] (spRoll)) (c__law_word : Has P w K mg base CX0 3 "_law_word" ["reel", "signs", "many"] (spLetters K)) : FnG P w K mg base CX0 4 f fd ["reel", "signs", "most", "size", "menu"] (spPricesM K) := by
  refine fn_g0 F sc__law_prices (fun vs H Q E h => ?_) (fun cdv A outer s H vs Q E hg hr h => ?_)
  · obtain ⟨l, sa, ma, sg, ms, n, mo, sz, rfl, _⟩ := h
    rfl
  · have hu := hu_of hr
    obtain ⟨l, sa, ma, sg, ms, n, mo, sz, rfl, hmo, hs2, hs5, nsa, nma, hs, hm, n1, n4, hl, m0, m100, mm, D, k⟩ := h
    refine ⟨_, (pss_cons (ps_set (i := 5) sc__law_prices.nd rfl (Or.inl rfl) (pe_callTy (g_dictP K rfl) (by rfl) T.b_dict (by decide +kernel) (pa_cons (pe_lc (own := [("sign", 7)]) rfl sc__law_prices.nd (g_list K (pv 1)) (blkOk_by (own := [("sign", 7)]) (N := ["reel", "signs", "most", "size", "menu", "found", "turn", "sign"]) (sc := defScope s__law_prices) (by decide +kernel)) (fun _ _ _ _ _ => (pg_name (i := 7) sc__law_prices.nd rfl (Or.inl rfl))) (fun _ _ _ _ _ => pts_nil) (fun _ _ _ _ _ => (pe_tup (pa_cons (pv 7) (pa_cons (pe_has c__law_pick hg (hr.mono (by decide)) pass0 (pa_cons (pv 0) (pa_cons (pv 4) pa_nil))) pa_nil))))) pa_nil)))
      (pss_cons (ps_for PassesOwn.never rfl (pi_range1 (by rfl) T.b_range (pa_cons (pe_has c__law_spin hg (hr.mono (by decide)) pass0 (pa_cons (pv 0) (pa_cons (pe_op op_add (pv 2) pe_int) pa_nil))) pa_nil)) (pg_name (i := 6) sc__law_prices.nd rfl (Or.inl rfl)) (pss_one (ps_asg (pe_has c__law_pick hg (hr.mono (by decide)) pass0 (pa_cons (pv 0) (pa_cons (pv 4) pa_nil))) (pg_sub (pv 5) (pe_has c__law_word hg (hr.mono (by decide)) pass0 (pa_cons (pv 0) (pa_cons (pv 1) (pa_cons (pe_op op_add pe_int (pe_has c__law_spin hg (hr.mono (by decide)) pass0 (pa_cons (pv 0) (pa_cons (pe_op op_sub (pv 3) pe_int) pa_nil)))) pa_nil)))) (set_dict hu)))))
      (pss_one (ps_ret (pv 5))))), ?_⟩
    have nsg : sg ≠ [] := fun e => by
      rw [e] at n1
      simp at n1
    have nms : ms ≠ [] := fun e => by
      rw [e] at m0
      simp at m0
    have pickM : ∀ {y : V}, y ∈ ms.map V.int → ∃ i : Int, y = .int i ∧ 1 ≤ i ∧ i ≤ 99 := fun h => by
      obtain ⟨i, hi, rfl⟩ := List.mem_map.mp h
      exact ⟨i, rfl, mm i hi⟩
    -- the single signs
    refine ⟨_, rfl, sa, rfl, ⟨_, hs⟩, fun L hL => ?_⟩
    have nL : L ≠ l := D.ne hL
    refine lc_it (walk_listF (K := K) chV sg) (fun j H' => ∃ prs : List (Addr × (Key × V)), prs.length = j ∧ H' L = some (.lst (prs.map fun p => V.ref p.1)) ∧ (∀ p ∈ prs, p.1 ≠ l ∧ p.1 ≠ L ∧ H' p.1 = some (.tup [kV p.2.1, p.2.2]) ∧ PairOk sg p.2) ∧ prs.map (fun p => p.2.1) = (sg.take j).map (fun c => (Sum.inr (ch c) : Key)) ∧ Kp l H H' ∧ Dice H' l (n + (100 - j)))
      ⟨[], rfl, upd_same, fun _ h => (List.not_mem_nil h).elim, rfl, (Kp.refl _ _).new hL, (D.new hL).le (by omega)⟩ (fun j H' _ q => by obtain ⟨_, _, _, _, _, q, _⟩ := q; exact q.seq nsa hs) ?_ ?_
    · rintro j x H1 H2 hj ⟨prs, prl, L1, pr1, pk, k1, D1⟩ ⟨rfl, c, hc, rfl⟩
      refine ⟨wipe_set, _, rfl, _, rfl, _, rfl, l, .ref ma, ms.map V.int, n + (100 - (j + 1)), rfl, .lst nma (k1.seq nma hm), by simpa using nms, by rw [List.length_map]; omega, D1.le (by omega), fun y H3 hy k3 D3 => ?_⟩
      obtain ⟨i, rfl, i1, i2⟩ := pickM hy
      refine ⟨(by show 2 ≤ sizeLine; decide), fun tT hT => ?_⟩
      have nT : tT ≠ l := D3.ne hT
      have nTL : tT ≠ L := (ne_of_none (k3 _ _ L1 nL) hT).symm
      refine ⟨_, same_new hT _ _ (k3 _ _ L1 nL), by rw [List.length_map]; exact small1000' (by omega), prs ++ [(tT, (Sum.inr (ch c), .int i))], by rw [List.length_append, prl]; rfl, by rw [upd_same, List.map_append]; rfl, fun p hp => ?_, ?_, ?_, ?_⟩
      · rcases List.mem_append.mp hp with h | h
        · obtain ⟨q1, q2, q3, q4⟩ := pr1 p h
          exact ⟨q1, q2, by rw [upd_ne q2]; exact same_new hT _ _ (k3 _ _ q3 q1), q4⟩
        · rw [List.mem_singleton.mp h]
          exact ⟨nT, nTL, by rw [upd_ne nTL]; exact upd_same, ch c, i, rfl, by simp [cs], fun d hd => by simp [cs] at hd; rw [hd]; exact List.mem_of_getElem? hc, i1, i2⟩
      · rw [List.map_append, pk, List.take_add_one, hc, List.map_append]
        rfl
      · exact ((k1.trans k3).new hT).mut hL
      · exact (D3.new hT).upd nL
    rintro H1 ⟨prs, prl, L1, pr1, pk, k1, D1⟩
    rw [List.take_length] at pk
    refine ⟨L, prs.map (·.1), prs.map (·.2), rfl, SqL.of (by rw [L1, List.map_map]; rfl), paired_of (F := fun (p : Addr) (kv : Key × V) => SqT K H1 p [kV kv.1, kv.2]) (ps := prs) (fun p hp => SqT.of (pr1 p hp).2.2.1), fun pd hpd => ?_⟩
    obtain ⟨P0, l0⟩ := PrOk.merge (sg := sg) (more := prs.map (·.2)) PrOk.nil fun kv hkv => by
      obtain ⟨p, hp, rfl⟩ := List.mem_map.mp hkv
      exact (pr1 p hp).2.2.2
    have has0 : ∀ c ∈ sg, (valV (mergeK [] (prs.map (·.2))) (Sum.inr (ch c) : Key)).isSome = true := fun c hc => merge_has (Or.inl (by
      rw [List.map_map]
      show (Sum.inr (ch c) : Key) ∈ prs.map fun p => p.2.1
      rw [pk]
      exact List.mem_map.mpr ⟨c, hc, rfl⟩))
    have npd : pd ≠ l := D1.ne hpd
    have hpd0 : H pd = none := kp_free k1 npd hpd
    rw [List.length_map, prl] at l0
    have l0' : (mergeK [] (prs.map (·.2))).length ≤ 4 := Nat.le_trans l0 (by show 0 + sg.length ≤ 4; omega)
    have D1' := (D1.new (o := .dK (mergeK [] (prs.map (·.2)))) hpd)
    have k1' := k1.new (o := .dK (mergeK [] (prs.map (·.2)))) hpd
    have e1' : (upd H1 pd (.dK (mergeK [] (prs.map (·.2))))) pd = some (.dK (mergeK [] (prs.map (·.2)))) := upd_same
    generalize mergeK [] (prs.map (·.2)) = kv0 at P0 has0 l0' D1' k1' e1' ⊢
    generalize (upd H1 pd (.dK kv0)) = H2 at D1' k1' e1' ⊢
    -- longer pieces
    refine ⟨_, rfl, _, rfl, _, _, rfl, rfl, l, _, n + 95, rfl, by omega, by omega, D1'.le (by omega), fun r H3 r0 r1_ k3 D3 => ?_⟩
    have r1 : r < (mo : Int) + 1 := r1_
    refine ⟨r, rfl, by omega, by omega, for_range (lo := 0) (n := r.toNat) (fun i σ H' => ∃ x6 x7, σ = [some (.ref l), some (.ref sa), some (.int (mo : Int)), some (.int (sz : Int)), some (.ref ma), some (.ref pd), x6, x7] ∧ ∃ kv, H' pd = some (.dK kv) ∧ PrOk sg kv ∧ kv.length ≤ 4 + i ∧ (∀ c ∈ sg, (valV kv (Sum.inr (ch c) : Key)).isSome = true) ∧ Kp l H H' ∧ Dice H' l (n + (95 - 7 * i)))
      ⟨_, _, rfl, kv0, k3 _ _ e1' npd, P0, l0', has0, k1'.trans k3, D3⟩ ?_ ?_⟩
    · rintro i σ H4 hi ⟨x6, x7, rfl, kv, e4, P4, n4', g4, k4, D4⟩
      have ir : i < 7 := by omega
      refine ⟨_, rfl, _, rfl, l, .ref ma, ms.map V.int, n + (95 - 7 * i - 1), rfl, .lst nma (k4.seq nma hm), by simpa using nms, by rw [List.length_map]; omega, D4.le (by omega), fun y H5 hy k5 D5 => ?_⟩
      obtain ⟨j, rfl, j1, j2⟩ := pickM hy
      refine ⟨_, rfl, _, rfl, _, rfl, _, rfl, _, rfl, _, _, rfl, rfl, l, _, n + (95 - 7 * i - 2), rfl, by omega, by omega, D5.le (by omega), fun r2 H6 r20 r21 k6 D6 => ⟨_, _, rfl, rfl, ?_⟩⟩
      have r2'' : r2 < (sz : Int) - 1 := r21
      have r2' : r2 < 4 := by omega
      refine ⟨l, .ref sa, sg, (2 + r2).toNat, n + (95 - 7 * (i + 1)), by rw [Int.toNat_of_nonneg (by omega)]; rfl, .lst nsa (((k4.trans k5).trans k6).seq nsa hs), nsg, by omega, by omega, D6.le (by omega), fun zs H7 zl zc k7 D7 => ?_⟩
      have e7 := k7 _ _ (k6 _ _ (k5 _ _ e4 npd) npd) npd
      refine ⟨pd, _, rfl, .inl ⟨kv, Sum.inr (sOf zs), e7, rfl, small1000' (by omega), rfl⟩, ?_⟩
      refine ⟨_, _, rfl, _, upd_same, P4.put (z := sOf zs) (by rw [cs_sOf]; omega) (by rw [cs_sOf]; exact zc) ⟨j1, j2⟩, ?_, fun c hc => ?_, (((k4.trans k5).trans k6).trans k7).mut hpd0, D7.upd npd⟩
      · have := put_len (kvs := kv) (k := Sum.inr (sOf zs)) (v := .int j)
        omega
      · rw [valV_put]
        split
        · rfl
        · exact g4 c hc
    · rintro σ H4 ⟨x6, x7, rfl, kv, e4, P4, n4', g4, k4, D4⟩
      obtain ⟨av, sgns⟩ := P4.right g4 hl n4 n1 (by omega)
      exact ⟨_, rfl, k pd kv H4 hpd0 npd e4 av P4.nd sgns k4 (D4.le (by omega))⟩
theorem sc__law_cheap : FnScope ["prices", "text", "found", "end", "piece"] ["prices", "text"] (defScope s__law_cheap) := ⟨rfl, rfl, rfl, by decide +kernel, rfl, by decide +kernel, by decide +kernel⟩
theorem ok__law_cheap {f : Addr} {fd : FuncData} (F : Fun K "_law_cheap" "_law_cheap" s__law_cheap f fd) (T : Txt K mg C CF AF) : FnG P w K mg base CX0 2 f fd ["prices", "text"] (spCheap) := by
  refine fn_g0 F sc__law_cheap (fun vs H Q E h => ?_) (fun cdv A outer s H vs Q E hg hr h => ?_)
  · obtain ⟨d, kvs, z, rfl, _⟩ := h
    rfl
  · have hu := hu_of hr
    obtain ⟨d, kvs, z, rfl, hd, tar, ov, hz, k⟩ := h
    refine ⟨_, (pss_cons (ps_set (i := 2) sc__law_cheap.nd rfl (Or.inr rfl) (pe_lst (pa_cons pe_int pa_nil)))
      (pss_cons (ps_for PassesOwn.never rfl (pi_range2 (by rfl) T.b_range (pa_cons pe_int (pa_cons (pe_op op_add (pe_callB call_len_str (by rfl) T.b_len (by decide +kernel) (pa_cons (pv 1) pa_nil)) pe_int) pa_nil))) (pg_name (i := 3) sc__law_cheap.nd rfl (Or.inr rfl)) (pss_one (ps_expr (g_bm K PySem.F.plainAttrs_list PySem.F.slot_list_append PySem.F.type_list_append mt_append (pv 2) (pa_cons (pe_callB (g_min K rfl) (by rfl) T.b_min (by decide +kernel) (pa_cons (pe_lock (by exact (pe_lc (own := [("piece", 4)]) rfl sc__law_cheap.nd (pi_keys (pv 0)) (blkOk_by (own := [("piece", 4)]) (N := ["prices", "text", "found", "end", "piece"]) (sc := defScope s__law_cheap) (by decide +kernel)) (fun _ _ _ _ _ => (pg_name (i := 4) sc__law_cheap.nd rfl (Or.inl rfl))) (fun _ _ _ _ _ => (pts_one (pt_val (pe_m1 PySem.F.slot_str_endswith PySem.F.type_str_endswith mt_endswith (pe_slice sl_str (pv 1) po_none (po_some (pv 3))) (pv 4))))) (fun _ _ _ _ _ => (pe_op op_add (pe_ix (g_ix_list K) (pv 2) (pe_op op_sub (pv 3) (pe_callB call_len_str (by rfl) T.b_len (by decide +kernel) (pa_cons (pv 4) pa_nil))) (fun _ _ => rfl)) (pe_dget hu (pv 0) (pv 4) (fun _ _ => rfl))))))) pa_nil)) pa_nil)))))
      (pss_one (ps_ret (pv 2))))), ?_⟩
    have good := tar.good
    have lz := cs_len z
    refine ⟨(by show 1 ≤ sizeLine; decide), fun fo hfo => ?_⟩
    have nfd : fo ≠ d := (ne_of_none hd hfo).symm
    refine ⟨_, rfl, z, rfl, fits_sz (by omega), _, _, rfl, rfl, 1, _, rfl, ⟨by omega, by omega, by omega, by omega⟩, for_range (lo := 1) (Pv := fun i σ H' => ∃ u v, σ = [some (.ref d), some (.str z), some (.ref fo), u, v] ∧ Same H H' ∧ H' fo = some (.lst (rowV (tfD kvs) (cs z) (i + 1))))
      ⟨_, _, rfl, same_new hfo, by rw [upd_same, rowV_one good]⟩ ?_ ?_⟩
    · rintro i σ H1 hi ⟨u, v, rfl, s1, f1⟩
      have hi' : i < z.length := by omega
      have d1 := s1 _ _ hd
      have e1 : (1 : Int) + (i : Int) = ((i + 1 : Nat) : Int) := by omega
      rw [e1]
      have hst : cs (cutS z none (some ((i + 1 : Nat) : Int))) = (cs z).take (i + 1) := cs_cutTo (by omega)
      have lst : (cutS z none (some ((i + 1 : Nat) : Int))).length = i + 1 := by
        rw [← cs_len, hst, List.length_take]
        omega
      refine ⟨_, rfl, .inl ⟨rfl, _, SqL.of f1⟩, d, _, d1, trivial, fun od => ?_⟩
      refine ⟨_, rfl, d, od, rfl, .inl ⟨kvs, upd_same, fun D hD => ?_⟩⟩
      have nD := lock_ne hD
      have f1' : (upd H1 d (.frz od (.dK kvs))) fo = some (.lst (rowV (tfD kvs) (cs z) (i + 1))) := by
        rw [upd_ne nfd]
        exact f1
      refine lcs kvs walk_keys (fun kv => (candG (tfD kvs) (cs z) (i + 1) (cutS z none (some ((i + 1 : Nat) : Int))) kv).map V.int) hD (by have := tar.len; omega) (fun H' s => s _ _ upd_same) ?_ ?_
      · rintro j kv x H2 H3 hj s2 ⟨rfl, k', v', ek, rfl⟩ N M hN hM
        have ekv : kv = (k', v') := Option.some.inj (hj.symm.trans ek)
        subst ekv
        obtain ⟨y, p, ey, hp⟩ := tar.mem _ (List.mem_of_getElem? hj)
        cases ey
        have ly := good.len y p hp
        rw [cs_len] at ly
        refine ⟨wipe_set, _, rfl, _, rfl, _, rfl, z, rfl, fits_sz (by omega), ⟨_, rfl⟩, _, rfl, _, _, rfl, rfl, _, rfl, ?_⟩
        refine itB (fun q => ?_) (fun q => ?_)
        · obtain ⟨a, ha⟩ := ends_iff.mp q
          have la := congrArg List.length ha
          rw [List.length_append, cs_len, cs_len, lst] at la
          refine ⟨_, rfl, _, rfl, _, rfl, _, rfl, fits_sz (by omega), _, _, rfl, rfl, fo, _, _, _, rfl, rfl, SqL.of (s2 _ _ f1'), at_of (j := i + 1 - y.length) (by omega) (rowV_at (by omega)), _, rfl, _, rfl, d, _, rfl, .inl ⟨kvs, Sum.inr y, .inr ⟨od, s2 _ _ upd_same⟩, rfl, (tf_some.mp hp).symm⟩, _, _, rfl, rfl, hN _ _ ?_ (Same.refl _)⟩
          show (if Txt.endswith (cutS z none (some ((i + 1 : Nat) : Int))) y = true then some (lp (tfD kvs) ((cs z).take (i + 1 - y.length)) + p) else none).map V.int = _
          rw [if_pos q]
          rfl
        · refine hM _ ?_ (Same.refl _)
          show (if Txt.endswith (cutS z none (some ((i + 1 : Nat) : Int))) y = true then some (lp (tfD kvs) ((cs z).take (i + 1 - y.length)) + p) else none).map V.int = _
          rw [if_neg (by rw [q]; exact Bool.false_ne_true)]
          rfl
      rintro H2 s2 e2
      rw [fm_int] at e2
      obtain ⟨pos, least⟩ := cand_min tar ov hst (by omega) (by omega)
      have S2 : Same H1 (upd H2 d (.dK kvs)) := unlock d1 s2
      refine ⟨s2 _ _ upd_same, D, _, rfl, SqL.of (by rw [upd_ne nD]; exact e2), pos, fun m hm hl => ?_⟩
      have em := least m hm hl
      subst em
      refine ⟨fo, _, _, rfl, rfl, S2 _ _ f1, by rw [rowV_len]; exact small1000' (by omega), ?_⟩
      refine ⟨_, _, rfl, same_mut (s1.trans S2) hfo, ?_⟩
      rw [upd_same, rowV_succ (n := i + 1)]
    · rintro σ H1 ⟨u, v, rfl, s1, f1⟩
      have e1 : ((z.length : Int) + 1 - 1).toNat = z.length := by omega
      rw [e1] at f1
      exact ⟨_, rfl, k fo H1 hfo f1 s1⟩
theorem sc__law_wide : FnScope ["prices", "piece"] ["prices"] (defScope s__law_wide) := ⟨rfl, rfl, rfl, by decide +kernel, rfl, by decide +kernel, by decide +kernel⟩
theorem ok__law_wide {f : Addr} {fd : FuncData} (F : Fun K "_law_wide" "_law_wide" s__law_wide f fd) (T : Txt K mg C CF AF) : FnG P w K mg base CX0 1 f fd ["prices"] (spWide) := by
  refine fn_g0 F sc__law_wide (fun vs H Q E h => ?_) (fun cdv A outer s H vs Q E hg hr h => ?_)
  · obtain ⟨d, kvs, rfl, _⟩ := h
    rfl
  · have hu := hu_of hr
    obtain ⟨d, kvs, rfl, hd, tar, ne, k⟩ := h
    refine ⟨_, (pss_one (ps_ret (pe_callB (g_max K rfl) (by rfl) T.b_max (by decide +kernel) (pa_cons (pe_lock (by exact (pe_lc (own := [("piece", 1)]) rfl sc__law_wide.nd (pi_keys (pv 0)) (blkOk_by (own := [("piece", 1)]) (N := ["prices", "piece"]) (sc := defScope s__law_wide) (by decide +kernel)) (fun _ _ _ _ _ => (pg_name (i := 1) sc__law_wide.nd rfl (Or.inl rfl))) (fun _ _ _ _ _ => pts_nil) (fun _ _ _ _ _ => (pe_callB call_len_str (by rfl) T.b_len (by decide +kernel) (pa_cons (pv 1) pa_nil)))))) pa_nil)))), ?_⟩
    refine ⟨d, _, hd, trivial, fun od => ?_⟩
    refine ⟨_, rfl, d, od, rfl, .inl ⟨kvs, upd_same, fun D hD => ?_⟩⟩
    have nD := lock_ne hD
    refine lcs kvs walk_keys (fun kv => match kv.1 with | .inr y => some (V.int ((cs y).length : Int)) | .inl _ => none) hD (by have := tar.len; omega) (fun H' s => s _ _ upd_same) ?_ ?_
    · rintro j kv x H2 H3 hj s2 ⟨rfl, k', v', ek, rfl⟩ N M hN hM
      have ekv : kv = (k', v') := Option.some.inj (hj.symm.trans ek)
      subst ekv
      obtain ⟨y, p, ey, hp⟩ := tar.mem _ (List.mem_of_getElem? hj)
      cases ey
      have ly := tar.good.len y p hp
      refine ⟨wipe_set, _, rfl, y, rfl, fits_sz (by rw [← cs_len]; omega), hN _ _ ?_ (Same.refl _)⟩
      show some (V.int ((cs y).length : Int)) = _
      rw [cs_len]
    rintro H2 s2 e2
    have em : (kvs.filterMap fun kv => match kv.1 with | .inr y => some (V.int ((cs y).length : Int)) | .inl _ => none) = ((keyStrs kvs).map fun y => ((cs y).length : Int)).map V.int := by
      unfold keyStrs
      rw [List.map_map, List.map_filterMap]
      congr 1
      funext kv
      cases kv.1 <;> rfl
    rw [em] at e2
    have keyE : ∀ {y}, y ∈ keyStrs kvs ↔ ∃ p, tfD kvs y = some p := fun {y} => by
      rw [ks_mem]
      constructor
      · intro h
        obtain ⟨kv, hkv, e⟩ := List.mem_map.mp h
        obtain ⟨y', p, rfl, hp⟩ := tar.mem kv hkv
        dsimp only at e
        cases e
        exact ⟨p, hp⟩
      · rintro ⟨p, h⟩
        exact valV_in (tf_some.mp h)
    have pos : 0 < ((keyStrs kvs).map fun y => ((cs y).length : Int)).length := by
      rw [List.length_map]
      cases kvs with
      | nil => exact absurd rfl ne
      | cons a r =>
        obtain ⟨y, p, rfl, hp⟩ := tar.mem a List.mem_cons_self
        exact List.length_pos_of_mem (keyE.mpr ⟨p, hp⟩)
    refine ⟨s2 _ _ upd_same, D, _, rfl, SqL.of (by rw [upd_ne nD]; exact e2), pos, fun m hm hle => ?_⟩
    obtain ⟨y, hy, rfl⟩ := List.mem_map.mp hm
    obtain ⟨p, hp⟩ := keyE.mp hy
    have ly := tar.good.len y p hp
    refine k (cs y).length _ ⟨⟨y, p, hp, rfl⟩, fun z q hz => ?_⟩ ly.1 ly.2 (unlock hd s2)
    have := hle _ (List.mem_map.mpr ⟨z, keyE.mpr ⟨q, hz⟩, rfl⟩)
    omega
theorem sc__law_front : FnScope ["prices", "text", "row", "many", "back"] ["prices", "text"] (defScope s__law_front) := ⟨rfl, rfl, rfl, by decide +kernel, rfl, by decide +kernel, by decide +kernel⟩
theorem ok__law_front {f : Addr} {fd : FuncData} (F : Fun K "_law_front" "_law_front" s__law_front f fd) (T : Txt K mg C CF AF) (c__law_cheap : Has P w K mg base CX0 2 "_law_cheap" ["prices", "text"] (spCheap)) (c__law_wide : Has P w K mg base CX0 1 "_law_wide" ["prices"] (spWide)) : FnG P w K mg base CX0 3 f fd ["prices", "text"] (spLawFront) := by
  refine fn_g0 F sc__law_front (fun vs H Q E h => ?_) (fun cdv A outer s H vs Q E hg hr h => ?_)
  · obtain ⟨d, kvs, z, rfl, _⟩ := h
    rfl
  · have hu := hu_of hr
    obtain ⟨d, kvs, z, rfl, hd, tar, ne, ov, hz, k⟩ := h
    refine ⟨_, (pss_cons (ps_asg (pe_tup (pa_cons (pe_has c__law_cheap hg (hr.mono (by decide)) pass0 (pa_cons (pv 0) (pa_cons (pv 1) pa_nil))) (pa_cons (pe_callB (call_min2 rfl) (by rfl) T.b_min (by decide +kernel) (pa_cons (pe_op op_sub (pe_has c__law_wide hg (hr.mono (by decide)) pass0 (pa_cons (pv 0) pa_nil)) pe_int) (pa_cons (pe_callB call_len_str (by rfl) T.b_len (by decide +kernel) (pa_cons (pv 1) pa_nil)) pa_nil))) pa_nil))) (g_tup K (n := 2) rfl (pgs_cons (pg_name (i := 2) sc__law_front.nd rfl (Or.inr rfl)) (pgs_cons (pg_name (i := 3) sc__law_front.nd rfl (Or.inl rfl)) pgs_nil))))
      (pss_one (ps_ret (pe_tup (pa_cons (pe_slice sl_str (pv 1) (po_some (pe_op op_sub (pe_callB call_len_str (by rfl) T.b_len (by decide +kernel) (pa_cons (pv 1) pa_nil)) (pv 3))) po_none) (pa_cons (pe_callTy (g_tuple_of K) (by rfl) T.b_tuple (by decide +kernel) (pa_cons (pe_lc (own := [("back", 4)]) rfl sc__law_front.nd (pi_range2 (by rfl) T.b_range (pa_cons pe_int (pa_cons (pe_op op_add (pv 3) pe_int) pa_nil))) (blkOk_by (own := [("back", 4)]) (N := ["prices", "text", "row", "many", "back"]) (sc := defScope s__law_front) (by decide +kernel)) (fun _ _ _ _ _ => (pg_name (i := 4) sc__law_front.nd rfl (Or.inl rfl))) (fun _ _ _ _ _ => pts_nil) (fun _ _ _ _ _ => (pe_op op_sub (pe_ix (g_ix_list K) (pv 2) (pe_op op_sub (pe_callB call_len_str (by rfl) T.b_len (by decide +kernel) (pa_cons (pv 1) pa_nil)) (pv 4)) (fun _ _ => rfl)) (pe_ix (g_ix_list K) (pv 2) (pe_un un_neg pe_int) (fun _ _ => rfl))))) pa_nil)) pa_nil)))))), ?_⟩
    have lz := cs_len z
    refine ⟨_, rfl, _, rfl, d, kvs, z, rfl, hd, tar, ov, hz, fun ro H1 hro r1 s1 => ?_⟩
    refine ⟨_, rfl, d, kvs, rfl, s1 _ _ hd, tar, ne, fun L H2 wL l1 l5 s2 => ⟨_, _, rfl, rfl, _, rfl, z, rfl, fits_sz (by omega), _, _, rfl, ?_⟩⟩
    have em : (if (z.length : Int) < (L : Int) - 1 then (z.length : Int) else (L : Int) - 1) = ((min (L - 1) z.length : Nat) : Int) := by split <;> omega
    rw [em]
    refine ⟨by show 2 ≤ sizeLine; decide, fun tp htp => ?_⟩
    refine ⟨tp, _, rfl, SqT.of upd_same, rfl, _, _, rfl, _, _, rfl, rfl, ?_⟩
    have s3 : Same H (upd H2 tp (.tup [.ref ro, .int ((min (L - 1) z.length : Nat) : Int)])) := (s1.trans s2).trans (same_new htp)
    have r3 := same_new htp (o := .tup [.ref ro, .int ((min (L - 1) z.length : Nat) : Int)]) _ _ (s2 _ _ r1)
    generalize (upd H2 tp (.tup [.ref ro, .int ((min (L - 1) z.length : Nat) : Int)])) = H3 at s3 r3 ⊢
    have ecut : (z.length : Int) - ((min (L - 1) z.length : Nat) : Int) = ((z.length - min (L - 1) z.length : Nat) : Int) := by omega
    have hcut : cutS z (some ((z.length : Int) - ((min (L - 1) z.length : Nat) : Int))) none = sOf (frontW L (cs z)) := str_ext (by rw [ecut, cs_cutFrom (by omega), cs_sOf]; unfold frontW; rw [lz])
    refine ⟨_, rfl, _, rfl, z, rfl, fits_sz (by omega), _, rfl, _, _, rfl, rfl, _, rfl, z, rfl, fits_sz (by omega), ?_⟩
    rw [hcut]
    refine ⟨_, rfl, _, _, rfl, rfl, 1, _, rfl, ⟨by omega, by omega, by omega, by omega⟩, fun D hD => ?_⟩
    have e3 : (((min (L - 1) z.length : Nat) : Int) + 1 - 1).toNat = min (L - 1) z.length := by omega
    rw [e3]
    have hD0 : H D = none := s3.free hD
    refine lc_range (fun i H' => Same H H' ∧ H' ro = some (.lst (rowV (tfD kvs) (cs z) (z.length + 1))) ∧ H' D = some (.lst (((List.range i).map fun i => lp (tfD kvs) ((cs z).take (z.length - (i + 1))) - lp (tfD kvs) (cs z)).map V.int))) ⟨s3.trans (same_new hD), same_new hD _ _ r3, upd_same⟩ ?_ ?_
    · rintro i H4 hi ⟨s4, r4, d4⟩
      have nrD : ro ≠ D := ne_of_none r3 hD
      have full : (cs z).take z.length = cs z := List.take_of_length_le (by omega)
      refine ⟨wipe_set, _, rfl, _, rfl, z, rfl, fits_sz (by omega), _, rfl, _, _, rfl, rfl, ro, _, _, .int (lp (tfD kvs) ((cs z).take (z.length - (i + 1)))), rfl, rfl, SqL.of r4, at_of (j := z.length - (i + 1)) (by omega) (rowV_at (by omega)), _, rfl, _, rfl, ro, _, _, .int (lp (tfD kvs) (cs z)), rfl, rfl, SqL.of r4, by rw [rowV_succ, full]; exact atI_last, _, _, rfl, rfl, ?_⟩
      refine ⟨_, d4, by rw [List.length_map, List.length_map, List.length_range]; exact small1000' (by omega), same_mut s4 hD0, by rw [upd_ne nrD]; exact r4, ?_⟩
      rw [upd_same, List.range_succ, List.map_append, List.map_append]
      rfl
    rintro H4 ⟨s4, r4, d4⟩
    refine ⟨D, _, rfl, .inl ⟨SqL.of d4, fun td htd => ?_⟩⟩
    refine ⟨by show 2 ≤ sizeLine; decide, fun t ht => ?_⟩
    refine k L t _ wL ⟨td, upd_same, ?_⟩ ((s4.trans (same_new htd)).trans (same_new ht))
    refine same_new ht _ _ ?_
    rw [upd_same]
    unfold frontD
    rw [lz]
theorem sc_has_front_form : FnScope ["book", "value", "signs", "differences", "one"] ["book", "value"] (defScope s_has_front_form) := ⟨rfl, rfl, rfl, by decide +kernel, rfl, by decide +kernel, by decide +kernel⟩
theorem ok_has_front_form {f : Addr} {fd : FuncData} (F : Fun K "has_front_form" "has_front_form" s_has_front_form f fd) (T : Txt K mg C CF AF) (c_Book_accepts : C8.Met P w K mg base 4 C "accepts" (spTextOver C) []) (c_is_integer : HasO P w K mg base CX0 1 "is_integer" ["value"] (spIsI K isInteger)) : FnOk P w K mg base CX0 5 f fd ["book", "value"] (spFormK K C) := by
  refine F.ok sc_has_front_form (fun vs H Q E h => ?_) (fun cdv A outer s H vs Q E hr h => ?_)
  · obtain ⟨b, f, kvs, l, ds, L, rfl, _⟩ := h
    rfl
  · have hu := hu_of hr
    obtain ⟨b, f, kvs, l, ds, L, rfl, B, fr_, wL, ol, ln, dl_, lt, di, k⟩ := h
    refine ⟨_, (pss_cons (ps_if (PW.pt (pw_or (pt_not (pt_val (pe_callB (g_isi K) (by rfl) T.b_isinstance (by decide +kernel) (pa_cons (pv 1) (pa_cons (pe_bltn (v := .ty "tuple") rfl T.b_tuple (by decide +kernel) rfl) pa_nil))))) (pw_or (pt_cmpR op_ne (pe_callB (g_len_seq K) (by rfl) T.b_len (by decide +kernel) (pa_cons (pv 1) pa_nil)) pe_int (nomark _)) (pw_or1 (pt_not (pt_val (pe_callB (g_isi K) (by rfl) T.b_isinstance (by decide +kernel) (pa_cons (pe_ix (g_ix_tup K) (pv 1) pe_int (fun _ _ => rfl)) (pa_cons (pe_bltn (v := .ty "tuple") rfl T.b_tuple (by decide +kernel) rfl) pa_nil))))))))) (pss_one (ps_ret pe_bl)) pss_nil)
      (pss_cons (ps_asg (pv 1) (g_tup K (n := 2) rfl (pgs_cons (pg_name (i := 2) sc_has_front_form.nd rfl (Or.inl rfl)) (pgs_cons (pg_name (i := 3) sc_has_front_form.nd rfl (Or.inl rfl)) pgs_nil))))
      (pss_cons (ps_if (PW.pt (pw_or (pt_not (pt_val (C8.pe_mt c_Book_accepts hr (by decide) (pv 0) (pa_cons (pv 2) pa_nil)))) (pw_or (pt_cmpR op_ge (pe_callB call_len_str (by rfl) T.b_len (by decide +kernel) (pa_cons (pv 2) pa_nil)) (g_fld K (pv 0)) (nomark _)) (pw_or1 (pt_cmpR op_ne (pe_callB call_len_str (by rfl) T.b_len (by decide +kernel) (pa_cons (pv 2) pa_nil)) (pe_callB (g_len_seq K) (by rfl) T.b_len (by decide +kernel) (pa_cons (pv 3) pa_nil)) (nomark _)))))) (pss_one (ps_ret pe_bl)) pss_nil)
      (pss_one (ps_ret (pe_callB (g_all K rfl) (by rfl) T.b_all (by decide +kernel) (pa_cons (pe_lc (own := [("one", 4)]) rfl sc_has_front_form.nd (g_tuple K (pv 3)) (blkOk_by (own := [("one", 4)]) (N := ["book", "value", "signs", "differences", "one"]) (sc := defScope s_has_front_form) (by decide +kernel)) (fun _ _ _ _ _ => (pg_name (i := 4) sc_has_front_form.nd rfl (Or.inl rfl))) (fun _ _ _ _ _ => pts_nil) (fun _ _ _ _ _ => (pe_hasO c_is_integer (hr.mono (by decide)) pass0 (pa_cons (pv 4) pa_nil)))) pa_nil))))))), ?_⟩
    obtain ⟨av, nd, ys, Lo, M, dx, d, tp, ta, od, pm, so, A⟩ := id B
    obtain ⟨_, al, _, _⟩ := ap_parts av
    have tar := tar_of av nd
    obtain ⟨Ln, rfl⟩ : ∃ Ln : Nat, Lo = (Ln : Int) := by
      obtain ⟨q, _, e⟩ := List.mem_map.mp A.lo.1
      exact ⟨q.1.length, e.symm⟩
    obtain ⟨wide, l1, l5⟩ := wide_of av pm A.lo
    
    have eL := wide.uniq wL
    subst eL
    obtain ⟨fd, fr1, fr2⟩ := fr_
    have ll := ln
    have dl := dl_
    have lsl : (sOf l).length = l.length := sOf_len l
    have ok : overB kvs (sOf l) = true := overB_true (isText_of (by rw [cs_sOf]; omega) (by rw [cs_sOf]; exact lt)) (by rw [cs_sOf]; exact ol)
    refine ⟨_, rfl, _, _, _, _, _, rfl, .ty _, ty_sqt fr1, kit_ty (show kitB "tuple" "tuple" = some true by decide +kernel), _, rfl, ?_⟩
    refine ⟨_, rfl, f, _, rfl, .inr (fr1), rfl, false, rfl, ?_⟩
    refine ⟨_, rfl, f, _, _, _, rfl, rfl, fr1, at_of (j := 1) rfl rfl, ?_⟩
    refine ⟨_, _, _, _, _, rfl, .ty _, ty_sqt fr2, kit_ty (show kitB "tuple" "tuple" = some true by decide +kernel), true, rfl, ?_⟩
    refine ⟨_, rfl, f, _, rfl, fr1, rfl, _, _, rfl, _, _, rfl, rfl, ?_⟩
    have noA : (bookF d tp ta (Ln : Int) M).lookup ("accepts" : Str) = none := bf_no (by decide +kernel) (by decide +kernel) (by decide +kernel) (by decide +kernel) (by decide +kernel)
    refine ⟨_, rfl, b, dx, _, rfl, A.ob, noA, _, rfl, b, kvs, sOf l, rfl, B, by omega, fun H1 s1 => ⟨true, congrArg V.bl ok, ?_⟩⟩
    refine itF rfl ?_
    refine ⟨_, rfl, sOf l, rfl, fits_sz (by omega), _, rfl, b, C, dx, _, _, rfl, s1 _ _ A.ob, T.cl, T.n_own_longest, bf_longest, _, _, rfl, rfl, false, congrArg V.bl (decide_eq_false (by omega)), ?_⟩
    refine itF rfl ?_
    refine ⟨_, rfl, sOf l, rfl, fits_sz (by omega), _, rfl, fd, _, rfl, .inr (sqt_same s1 fr2), rfl, false, by rw [lsl, List.length_map, dl, decide_eq_true rfl]; rfl, ?_⟩
    refine itF rfl ?_
    -- each difference
    refine ⟨_, rfl, fd, rfl, ⟨_, sqt_same s1 fr2⟩, fun D hD => ?_⟩
    refine lcs ds (walk_tupF (K := K) V.int ds) (fun _ => some (V.bl true)) hD (by omega) (fun H' s => sqt_same s (sqt_same s1 fr2)) ?_ ?_
    · rintro i y x H3 H4 hi s3 ⟨rfl, y', ey, rfl⟩ N M' hN hM
      have e1 : y = y' := Option.some.inj (hi.symm.trans ey)
      subst e1
      refine ⟨wipe_set, _, rfl, .int y, rfl, tyd_int y, fun H5 s5 => ?_⟩
      rw [di y (List.mem_of_getElem? hi)]
      exact hN _ _ rfl s5
    rintro H3 s3 e3
    have em : (ds.filterMap fun _ => some (V.bl true)) = (ds.map fun _ => true).map V.bl := by
      rw [fm_some, List.map_map]
      rfl
    rw [em] at e3
    refine ⟨D, _, rfl, SqL.of e3, ?_⟩
    have ea : (ds.map fun _ => true).all id = true := by
      rw [List.all_map, List.all_eq_true]
      intro _ _
      rfl
    rw [ea]
    exact k _ (s1.trans s3)
theorem sc_Fronts___contains__ : FnScope ["self", "value"] ["self", "value"] (defScope s_Fronts___contains__) := ⟨rfl, rfl, rfl, by decide +kernel, rfl, by decide +kernel, by decide +kernel⟩
theorem ok_Fronts___contains__ {f : Addr} {fd : FuncData} (F : Fun K "__contains__" "Fronts.__contains__" s_Fronts___contains__ f fd) (T : Txt K mg C CF AF) (c_has_front_form : HasO P w K mg base CX0 5 "has_front_form" ["book", "value"] (spFormK K C)) : FnOk P w K mg base CX0 6 f fd ["self", "value"] (spHasF C CF K P w) := by
  refine F.ok sc_Fronts___contains__ (fun vs H Q E h => ?_) (fun cdv A outer s H vs Q E hr h => ?_)
  · obtain ⟨p, b, f, kvs, L, E, qs, dx, d, t, m, rfl, _⟩ := h
    rfl
  · have hu := hu_of hr
    obtain ⟨p, b, f, kvs, L, E, qs, dx, d, t, m, rfl, B, wd, A, om, ml, ka, k⟩ := h
    refine ⟨_, (pss_one (ps_ret (pe_and (pe_hasO c_has_front_form (hr.mono (by decide)) pass0 (pa_cons (g_fld K (pv 0)) (pa_cons (pv 1) pa_nil))) (pe_one (pe_cmpR (g_fin K P w hr.units) (pv 1) (g_fld K (pv 0)) (by rfl)))))), ?_⟩
    obtain ⟨av, nd, _⟩ := id B
    have tar := tar_of av nd
    have good := tar.good
    obtain ⟨L1, L5⟩ : 1 ≤ L ∧ L ≤ 5 := by
      obtain ⟨⟨z, p, h1, h2⟩, _⟩ := wd
      have := good.len z p h1
      omega
    have fsm := front_small (L := L) good om
    have kin := A.wh.all m om
    refine ⟨_, rfl, p, CF, dx, _, _, rfl, A.ob, T.clF, T.f_own_book, ff_book, _, rfl, b, f, kvs, frontW L m, frontD (tfD kvs) L m, L, rfl, B, ka, wd, fun x hx => om x (frontW_mem hx), by rw [frontW_len]; omega, by rw [frontW_len, frontD_len], fun x hx => lett_over av nd fun y hy => by rw [List.mem_singleton.mp hy]; exact om x (frontW_mem hx), fun x hx => isI_of (Nat.lt_of_le_of_lt (by have := fsm x hx; omega : x.natAbs ≤ 198000) (by decide +kernel)), fun H1 s1 => ?_⟩
    have A1 := A.same s1
    have q : (lookF (feOf textV E) (fr (tfD kvs) L m)).isSome = true := look_in kin
    refine ⟨true, rfl, ?_⟩
    refine itT rfl ?_
    refine ⟨_, rfl, _, rfl, p, CF, dx, _, _, rfl, A1.ob, T.clF, T.f_own_texts, ff_texts, f, d, fr (tfD kvs) L m, feOf textV E, rfl, rfl, ka.same s1, A1.dc, A1.st.keys, ?_⟩
    rw [q]
    exact k _ s1
theorem sc_Fronts___getitem__ : FnScope ["self", "at"] ["self", "at"] (defScope s_Fronts___getitem__) := ⟨rfl, rfl, rfl, by decide +kernel, rfl, by decide +kernel, by decide +kernel⟩
theorem ok_Fronts___getitem__ {f : Addr} {fd : FuncData} (F : Fun K "__getitem__" "Fronts.__getitem__" s_Fronts___getitem__ f fd) (T : Txt K mg C CF AF) (c_Fronts___contains__ : C8.Met P w K mg base 6 CF "__contains__" (spHasF C CF K P w) []) : FnOk P w K mg base CX0 8 f fd ["self", "at"] (spGetF C CF K P w) := by
  refine F.ok sc_Fronts___getitem__ (fun vs H Q E h => ?_) (fun cdv A outer s H vs Q E hr h => ?_)
  · obtain ⟨p, b, f, kvs, L, E, qs, dx, d, t, m, rfl, _⟩ := h
    rfl
  · have hu := hu_of hr
    obtain ⟨p, b, f, kvs, L, E, qs, dx, d, t, m, rfl, B, wd, A, om, ml, ka, k⟩ := h
    refine ⟨_, (pss_cons (ps_if (pt_cmpR (op_notInO c_Fronts___contains__ hr (by decide)) (pv 1) (pv 0) (by rfl)) (pss_one ps_never) pss_nil)
      (pss_one (ps_ret (pe_ix (g_ixfd K P w hr.units) (g_fld K (pv 0)) (pv 1) (fun _ _ => rfl))))), ?_⟩
    refine ⟨_, rfl, ?_⟩
    refine ⟨_, rfl, p, dx, _, rfl, A.ob, p, b, f, kvs, L, E, qs, dx, d, t, m, rfl, B, wd, A, om, ml, ka, fun H1 s1 => ?_⟩
    obtain ⟨e, he, ek⟩ := List.mem_map.mp (A.wh.all m om)
    have A1 := A.same s1
    have lv : lookF (feOf textV E) (fr (tfD kvs) L m) = some (textV e.2.2) := by
      rw [← ek]
      exact look_val (val := textV) A.wh.nd he
    refine ⟨true, rfl, false, rfl, ?_⟩
    exact ⟨_, rfl, p, CF, dx, _, _, rfl, A1.ob, T.clF, T.f_own_texts, ff_texts, _, rfl, d, f, _, _, textV e.2.2, rfl, rfl, ka.same s1, A1.dc, A1.st.keys, lv, k e H1 he ek s1⟩
theorem sc__law_step : FnScope ["prices", "front", "sign", "signs", "differences", "longer", "row", "change", "keep", "piece", "one"] ["prices", "front", "sign"] (defScope s__law_step) := ⟨rfl, rfl, rfl, by decide +kernel, rfl, by decide +kernel, by decide +kernel⟩
theorem ok__law_step {f : Addr} {fd : FuncData} (F : Fun K "_law_step" "_law_step" s__law_step f fd) (T : Txt K mg C CF AF) (c__law_wide : Has P w K mg base CX0 1 "_law_wide" ["prices"] (spWide)) : FnG P w K mg base CX0 3 f fd ["prices", "front", "sign"] (spLawStepK K) := by
  refine fn_g0 F sc__law_step (fun vs H Q E h => ?_) (fun cdv A outer s H vs Q E hg hr h => ?_)
  · obtain ⟨d, f, kvs, l, ds, c, L, rfl, _⟩ := h
    rfl
  · have hu := hu_of hr
    obtain ⟨d, f, kvs, l, ds, c, L, rfl, hd, tar, ne, fr, wL, oc, hlL, hds, k⟩ := h
    refine ⟨_, (pss_cons (ps_asg (pv 1) (g_tup K (n := 2) rfl (pgs_cons (pg_name (i := 3) sc__law_step.nd rfl (Or.inl rfl)) (pgs_cons (pg_name (i := 4) sc__law_step.nd rfl (Or.inl rfl)) pgs_nil))))
      (pss_cons (ps_asg (pe_tup (pa_cons (pe_op op_add_str (pv 3) (pv 2)) (pa_cons (pe_op op_cat (pe_lst (pa_cons pe_int pa_nil)) (pe_callTy (g_list_of K) (by rfl) T.b_list (by decide +kernel) (pa_cons (pv 4) pa_nil))) pa_nil))) (g_tup K (n := 2) rfl (pgs_cons (pg_name (i := 5) sc__law_step.nd rfl (Or.inr rfl)) (pgs_cons (pg_name (i := 6) sc__law_step.nd rfl (Or.inr rfl)) pgs_nil))))
      (pss_cons (ps_set (i := 7) sc__law_step.nd rfl (Or.inr rfl) (pe_callB (g_min K rfl) (by rfl) T.b_min (by decide +kernel) (pa_cons (pe_lock (by exact (pe_lc (own := [("piece", 9)]) rfl sc__law_step.nd (pi_keys (pv 0)) (blkOk_by (own := [("piece", 9)]) (N := ["prices", "front", "sign", "signs", "differences", "longer", "row", "change", "keep", "piece", "one"]) (sc := defScope s__law_step) (by decide +kernel)) (fun _ _ _ _ _ => (pg_name (i := 9) sc__law_step.nd rfl (Or.inl rfl))) (fun _ _ _ _ _ => (pts_one (pt_val (pe_m1 PySem.F.slot_str_endswith PySem.F.type_str_endswith mt_endswith (pv 5) (pv 9))))) (fun _ _ _ _ _ => (pe_op op_add (pe_dget hu (pv 0) (pv 9) (fun _ _ => rfl)) (pe_ix (g_ix_list K) (pv 6) (pe_op op_sub (pe_callB call_len_str (by rfl) T.b_len (by decide +kernel) (pa_cons (pv 9) pa_nil)) pe_int) (fun _ _ => rfl))))))) pa_nil)))
      (pss_cons (ps_set (i := 8) sc__law_step.nd rfl (Or.inl rfl) (pe_callB (call_min2 rfl) (by rfl) T.b_min (by decide +kernel) (pa_cons (pe_op op_sub (pe_has c__law_wide hg (hr.mono (by decide)) pass0 (pa_cons (pv 0) pa_nil)) pe_int) (pa_cons (pe_callB call_len_str (by rfl) T.b_len (by decide +kernel) (pa_cons (pv 5) pa_nil)) pa_nil))))
      (pss_one (ps_ret (pe_tup (pa_cons (pe_tup (pa_cons (pe_slice sl_str (pv 5) (po_some (pe_op op_sub (pe_callB call_len_str (by rfl) T.b_len (by decide +kernel) (pa_cons (pv 5) pa_nil)) (pv 8))) po_none) (pa_cons (pe_callTy (g_tuple_of K) (by rfl) T.b_tuple (by decide +kernel) (pa_cons (pe_lc (own := [("one", 10)]) rfl sc__law_step.nd (g_list K (pe_slice (g_sl_list K) (pv 6) po_none (po_some (pv 8)))) (blkOk_by (own := [("one", 10)]) (N := ["prices", "front", "sign", "signs", "differences", "longer", "row", "change", "keep", "piece", "one"]) (sc := defScope s__law_step) (by decide +kernel)) (fun _ _ _ _ _ => (pg_name (i := 10) sc__law_step.nd rfl (Or.inl rfl))) (fun _ _ _ _ _ => pts_nil) (fun _ _ _ _ _ => (pe_op op_sub (pv 10) (pv 7)))) pa_nil)) pa_nil))) (pa_cons (pv 7) pa_nil))))))))), ?_⟩
    obtain ⟨fdd, fr1, fr2⟩ := fr
    have ln5 : L ≤ 5 ∧ 1 ≤ L := by
      obtain ⟨⟨z, p, h1, h2⟩, _⟩ := wL
      have := tar.good.len z p h1
      omega
    refine ⟨_, rfl, f, _, rfl, fr1, rfl, _, _, rfl, _, _, rfl, rfl, ?_⟩
    have lgl : (sOf l ++ ch c) = sOf (l ++ [c]) := str_ext (by rw [cs_app, cs_sOf, cs_sOf])
    refine ⟨_, rfl, _, rfl, sOf l, ch c, rfl, rfl, by rw [sOf_len]; exact fits_sz (by show l.length + 1 ≤ 100000; omega), ?_⟩
    rw [lgl]
    refine ⟨by show 1 ≤ sizeLine; decide, fun z0 hz0 => ?_⟩
    refine ⟨_, rfl, fdd, _, rfl, .inr (sqt_same (same_new hz0) fr2), fun z1 hz1 => ?_⟩
    have n01 : z0 ≠ z1 := ne_of_none upd_same hz1
    refine ⟨z0, z1, _, _, rfl, rfl, same_new hz1 _ _ upd_same, upd_same, ?_, fun ra hra => ?_⟩
    · rw [List.length_map]
      exact fits_sz (by show 1 + ds.length ≤ 100000; omega)
    refine ⟨by show 2 ≤ sizeLine; decide, fun t1 ht1 => ?_⟩
    refine ⟨t1, _, rfl, SqT.of upd_same, rfl, _, _, rfl, _, _, rfl, rfl, ?_⟩
    have s1 : Same H (upd (upd (upd (upd H z0 (.lst [V.int 0])) z1 (.lst (ds.map V.int))) ra (.lst ([V.int 0] ++ ds.map V.int))) t1 (.tup [.str (sOf (l ++ [c])), .ref ra])) := (((same_new hz0).trans (same_new hz1)).trans (same_new hra)).trans (same_new ht1)
    have a1 : (upd (upd (upd (upd H z0 (.lst [V.int 0])) z1 (.lst (ds.map V.int))) ra (.lst ([V.int 0] ++ ds.map V.int))) t1 (.tup [.str (sOf (l ++ [c])), .ref ra])) ra = some (.lst (((0 : Int) :: ds).map V.int)) := same_new ht1 _ _ upd_same
    generalize (upd (upd (upd (upd H z0 (.lst [V.int 0])) z1 (.lst (ds.map V.int))) ra (.lst ([V.int 0] ++ ds.map V.int))) t1 (.tup [.str (sOf (l ++ [c])), .ref ra])) = H1 at s1 a1 ⊢
    have clg : cs (sOf (l ++ [c])) = l ++ [c] := cs_sOf _
    have llg : (sOf (l ++ [c])).length = l.length + 1 := by rw [sOf_len, List.length_append]; rfl
    generalize sOf (l ++ [c]) = lg at clg llg ⊢
    have d1 := s1 _ _ hd
    have nrd : ra ≠ d := fun e => by
      rw [e, d1] at a1
      cases a1
    -- the change
    refine ⟨d, _, d1, trivial, fun od => ?_⟩
    refine ⟨_, rfl, d, od, rfl, .inl ⟨kvs, upd_same, fun D hD => ?_⟩⟩
    have nD := lock_ne hD
    have a1' : (upd H1 d (.frz od (.dK kvs))) ra = some (.lst (((0 : Int) :: ds).map V.int)) := by
      rw [upd_ne nrd]
      exact a1
    refine lcs kvs walk_keys (fun kv => (stepG ds lg kv).map V.int) hD (by have := tar.len; omega) (fun H' s => s _ _ upd_same) ?_ ?_
    · rintro j kv x H2 H3 hj s2 ⟨rfl, k', v', ek, rfl⟩ N M hN hM
      have ekv : kv = (k', v') := Option.some.inj (hj.symm.trans ek)
      subst ekv
      obtain ⟨y, p, ey, hp⟩ := tar.mem _ (List.mem_of_getElem? hj)
      cases ey
      have ly := tar.good.len y p hp
      have yl := cs_len y
      refine ⟨wipe_set, _, rfl, ⟨_, rfl⟩, _, rfl, _, _, rfl, rfl, _, rfl, ?_⟩
      refine itB (fun q => ?_) (fun q => ?_)
      · obtain ⟨a, ha⟩ := ends_iff.mp q
        have la := congrArg List.length ha
        rw [List.length_append, cs_len, cs_len, llg] at la
        have hah : ((0 : Int) :: ds)[(cs y).length - 1]? = some (aheadAt ds y) := by
          unfold aheadAt
          rw [List.getElem?_eq_getElem (by rw [List.length_cons]; omega)]
          rfl
        refine ⟨_, rfl, _, rfl, d, _, rfl, .inl ⟨kvs, Sum.inr y, .inr ⟨od, s2 _ _ upd_same⟩, rfl, (tf_some.mp hp).symm⟩, _, rfl, _, rfl, y, rfl, fits_sz (by omega), _, _, rfl, rfl, ra, _, _, .int (aheadAt ds y), rfl, rfl, SqL.of (s2 _ _ a1'), at_of (j := (cs y).length - 1) (by omega) (by rw [List.getElem?_map, hah]; rfl), _, _, rfl, rfl, hN _ _ ?_ (Same.refl _)⟩
        show (if Txt.endswith lg y = true then some (p + aheadAt ds y) else none).map V.int = _
        rw [if_pos q]
        rfl
      · refine hM _ ?_ (Same.refl _)
        show (if Txt.endswith lg y = true then some (p + aheadAt ds y) else none).map V.int = _
        rw [if_neg (by rw [q]; exact Bool.false_ne_true)]
        rfl
    rintro H2 s2 e2
    rw [fm_int] at e2
    obtain ⟨pos, least⟩ := step_minT (ds := ds) tar clg hds oc
    have S2 : Same H1 (upd H2 d (.dK kvs)) := unlock d1 s2
    refine ⟨s2 _ _ upd_same, D, _, rfl, SqL.of (by rw [upd_ne nD]; exact e2), pos, fun m hm hle => ?_⟩
    have stp := least m hm hle
    have s02 := s1.trans S2
    have a2 := S2 _ _ a1
    generalize (upd H2 d (.dK kvs)) = H3 at S2 s02 a2 ⊢
    -- how much is kept
    refine ⟨_, rfl, d, kvs, rfl, s02 _ _ hd, tar, ne, fun L' H4 wL' _ _ s4 => ⟨_, _, rfl, rfl, _, rfl, lg, rfl, fits_sz (by omega), _, _, rfl, ?_⟩⟩
    have eL := wL'.uniq wL
    subst eL
    have em : (if (lg.length : Int) < (L' : Int) - 1 then (lg.length : Int) else (L' : Int) - 1) = ((min (L' - 1) (l.length + 1) : Nat) : Int) := by split <;> omega
    rw [em]
    have s04 := s02.trans s4
    have a4 := s4 _ _ a2
    have ecut : (lg.length : Int) - ((min (L' - 1) (l.length + 1) : Nat) : Int) = ((l.length + 1 - (L' - 1) : Nat) : Int) := by omega
    have hcut : cutS lg (some ((lg.length : Int) - ((min (L' - 1) (l.length + 1) : Nat) : Int))) none = sOf (stepW L' l c) := str_ext (by rw [ecut, cs_cutFrom (by omega), cs_sOf, clg]; rfl)
    refine ⟨_, rfl, _, rfl, lg, rfl, fits_sz (by omega), _, rfl, _, _, rfl, rfl, _, rfl, lg, rfl, fits_sz (by omega), ?_⟩
    rw [hcut]
    refine ⟨_, rfl, _, rfl, _, rfl, ra, _, rfl, SqL.of a4, fun q1 hq1 => ?_⟩
    rw [cutV_to (by rw [List.length_map, List.length_cons]; omega), ← List.map_take]
    have s05 := s04.trans (same_new hq1 (o := .lst ((((0 : Int) :: ds).take (min (L' - 1) (l.length + 1))).map V.int)))
    have q5 : (upd H4 q1 (.lst ((((0 : Int) :: ds).take (min (L' - 1) (l.length + 1))).map V.int))) q1 = some (.lst ((((0 : Int) :: ds).take (min (L' - 1) (l.length + 1))).map V.int)) := upd_same
    generalize (upd H4 q1 (.lst ((((0 : Int) :: ds).take (min (L' - 1) (l.length + 1))).map V.int))) = H5 at s05 q5 ⊢
    refine ⟨q1, rfl, ⟨_, SqL.of q5⟩, fun D3 hD3 => ?_⟩
    refine lcs (((0 : Int) :: ds).take (min (L' - 1) (l.length + 1))) (walk_listF (K := K) V.int _) (fun x => some (V.int (x - m))) hD3 (by rw [List.length_take]; omega) (fun H' s => SqL.of (s _ _ q5)) ?_ ?_
    · rintro i y x H6 H7 hi s6 ⟨rfl, y', ey, rfl⟩ N M' hN hM
      have e1 : y = y' := Option.some.inj (hi.symm.trans ey)
      subst e1
      exact ⟨wipe_set, _, rfl, _, rfl, _, _, rfl, rfl, hN _ _ rfl (Same.refl _)⟩
    rintro H6 s6 e6
    have emv : ((((0 : Int) :: ds).take (min (L' - 1) (l.length + 1))).filterMap fun x => some (V.int (x - m))) = (stepD L' l ds c m).map V.int := by
      rw [fm_some]
      unfold stepD
      rw [stepW_len, ← List.map_take, List.map_map]
      rfl
    rw [emv] at e6
    refine ⟨D3, _, rfl, .inl ⟨SqL.of e6, fun td htd => ?_⟩⟩
    refine ⟨by show 2 ≤ sizeLine; decide, fun u hu => ?_⟩
    refine ⟨_, rfl, by show 2 ≤ sizeLine; decide, fun t ht => ?_⟩
    exact k t m _ stp ⟨u, upd_same, td, same_new ht _ _ upd_same, same_new ht _ _ (same_new hu _ _ upd_same)⟩ ((((s05.trans s6).trans (same_new htd)).trans (same_new hu)).trans (same_new ht))
theorem sc__law_signs : FnScope ["prices"] ["prices"] (defScope s__law_signs) := ⟨rfl, rfl, rfl, by decide +kernel, rfl, by decide +kernel, by decide +kernel⟩
theorem ok__law_signs {f : Addr} {fd : FuncData} (F : Fun K "_law_signs" "_law_signs" s__law_signs f fd) (T : Txt K mg C CF AF) : FnOk P w K mg base CX0 1 f fd ["prices"] (spSigns K) := by
  refine F.ok sc__law_signs (fun vs H Q E h => ?_) (fun cdv A outer s H vs Q E hr h => ?_)
  · obtain ⟨d, kvs, rfl, _⟩ := h
    rfl
  · have hu := hu_of hr
    obtain ⟨d, kvs, rfl, hd, av, nd, k⟩ := h
    refine ⟨_, (pss_one (ps_ret (pe_callB (g_sortTx P w rfl) (by rfl) T.b_sorted (by decide +kernel) (pa_cons (pe_callTy (g_setTx P w rfl) (by rfl) T.b_set (by decide +kernel) (pa_cons (g_join K pe_str (pe_callTy (call_listD rfl) (by rfl) T.b_list (by decide +kernel) (pa_cons (pv 0) pa_nil))) pa_nil)) pa_nil)))), ?_⟩
    have tar := tar_of av nd
    have good := tar.good
    obtain ⟨⟨_, n2⟩, al, _, _⟩ := ap_parts av
    have hk := keys_of al
    have hkV : (kvs.map fun kv => kV kv.1) = (keyStrs kvs).map V.str := by
      have h := congrArg (List.map kV) hk
      rw [List.map_map, List.map_map] at h
      exact h
    have ln : (keyStrs kvs).length ≤ 12 := by
      have h := congrArg List.length hk
      rw [List.length_map, List.length_map] at h
      omega
    have l5 : ∀ z ∈ keyStrs kvs, z.length ≤ 5 := fun z hz => by
      have := (keyStrs_piece al z hz).2.1
      rwa [cs_len] at this
    have sz := sizes_le l5
    refine ⟨⟨_, rfl⟩, _, rfl, d, kvs, rfl, .inl hd, fun p hp => ?_⟩
    refine ⟨_, p, keyStrs kvs, rfl, rfl, .inl (SqL.of (by rw [upd_same, hkV])), ?_, ?_⟩
    · have e : (Str.ofString "").length = 0 := by decide +kernel
      rw [e]
      omega
    have cj := join_flat (keyStrs kvs)
    have lj : (Txt.join "" (keyStrs kvs)).length ≤ 60 := by
      rw [← cs_len, cj, pieces_len]
      omega
    dsimp only [tNil]
    generalize Txt.join "" (keyStrs kvs) = z at cj lj ⊢
    refine ⟨z, rfl, by omega, fun q l hq oz => ?_⟩
    obtain ⟨o1, o2, o3⟩ := oz
    refine ⟨q, l, rfl, upd_same, by omega, fun r ys hr pm _ => ?_⟩
    obtain ⟨sg, e, _⟩ := lift_ch (P := fun _ => True) (ys := ys) fun y hy => by
      obtain ⟨c, _, rfl⟩ := (o3 y).mp (pm.mem_iff.mp hy)
      exact ⟨c, rfl, trivial⟩
    have chi : ∀ {c d : Nat}, ch c = ch d → c = d := fun h => by
      have := congrArg cs h
      simpa [cs] using this
    have s3 := ((same_new hp (o := .lst (kvs.map fun kv => kV kv.1))).trans (same_new hq (o := SsO P w q l))).trans (same_new hr (o := .lst (ys.map V.str)))
    refine k r sg _ ((((same_new hp (o := .lst (kvs.map fun kv => kV kv.1))).trans (same_new hq (o := SsO P w q l)))).free hr) (by rw [upd_same, e, chs_strs]) ?_ (fun c => ?_) s3
    · have := pm.length_eq
      rw [e, List.length_map] at this
      omega
    · have h1 : c ∈ sg ↔ ch c ∈ ys := by
        rw [e]
        exact ⟨fun h => List.mem_map.mpr ⟨c, h, rfl⟩, fun h => by
          obtain ⟨d, hd, q⟩ := List.mem_map.mp h
          exact chi q ▸ hd⟩
      rw [h1, pm.mem_iff, o3, cj]
      constructor
      · rintro ⟨c', hc', e'⟩ x hx
        rw [List.mem_singleton.mp hx, e']
        obtain ⟨y, hy, hc⟩ := List.mem_flatten.mp hc'
        obtain ⟨v, hv, rfl⟩ := List.mem_map.mp hy
        obtain ⟨p', hp'⟩ := (tf_key al).mp hv
        exact good.cov v p' hp' c' hc
      · intro h
        obtain ⟨p', hp'⟩ := h c List.mem_cons_self
        exact ⟨c, List.mem_flatten.mpr ⟨cs (ch c), List.mem_map.mpr ⟨ch c, (tf_key al).mpr ⟨p', hp'⟩, rfl⟩, by simp [cs]⟩, rfl⟩
theorem sc__law_fronts : FnScope ["prices", "most", "found", "last", "fresh", "front", "sign", "after"] ["prices", "most"] (defScope s__law_fronts) := ⟨rfl, rfl, rfl, by decide +kernel, rfl, by decide +kernel, by decide +kernel⟩
theorem ok__law_fronts {f : Addr} {fd : FuncData} (F : Fun K "_law_fronts" "_law_fronts" s__law_fronts f fd) (T : Txt K mg C CF AF) (c__law_signs : HasO P w K mg base CX0 1 "_law_signs" ["prices"] (spSigns K)) (c__law_step : Has P w K mg base CX0 3 "_law_step" ["prices", "front", "sign"] (spLawStepK K)) : FnG P w K mg base CX0 5 f fd ["prices", "most"] (spLawFronts K P w) := by
  refine fn_g0 F sc__law_fronts (fun vs H Q E h => ?_) (fun cdv A outer s H vs Q E hg hr h => ?_)
  · obtain ⟨d, kvs, L, m, rfl, _⟩ := h
    rfl
  · have hu := hu_of hr
    obtain ⟨pd, kvs, L, m, rfl, hd, av, nd, wd, hm, k⟩ := h
    refine ⟨_, (pss_cons (ps_par (i := 2) (j := 3) (by rfl) sc__law_fronts.nd rfl rfl (by decide) rfl rfl (pa_cons (g_dispF K P w hr.units (pe_tup (pa_cons pe_str (pa_cons (pe_tup pa_nil) pa_nil))) pe_int) (pa_cons (pe_lst (pa_cons (pe_tup (pa_cons pe_str (pa_cons (pe_tup pa_nil) pa_nil))) pa_nil)) pa_nil)) (by rfl))
      (pss_cons (ps_while PassesOwn.never (PW.pt (pw_and (pt_cmpR (op_neNil hr.units0) (pv 3) (pe_lst pa_nil) (nomark _)) (pw_and1 (pt_cmpR op_le (pe_callB (g_lenfd K P w) (by rfl) T.b_len (by decide +kernel) (pa_cons (pv 2) pa_nil)) (pv 1) (nomark _))))) (pss_cons (ps_set (i := 4) sc__law_fronts.nd rfl (Or.inl rfl) (pe_lst pa_nil))
      (pss_cons (ps_for PassesOwn.never rfl (g_list K (pv 3)) (pg_name (i := 5) sc__law_fronts.nd rfl (Or.inl rfl)) (pss_one (ps_for PassesOwn.never rfl (g_list K (pe_hasO c__law_signs (hr.mono (by decide)) pass0 (pa_cons (pv 0) pa_nil))) (pg_name (i := 6) sc__law_fronts.nd rfl (Or.inl rfl)) (pss_cons (ps_set (i := 7) sc__law_fronts.nd rfl (Or.inl rfl) (pe_ix (g_ix_tup K) (pe_has c__law_step hg (hr.mono (by decide)) pass0 (pa_cons (pv 0) (pa_cons (pv 5) (pa_cons (pv 6) pa_nil)))) pe_int (fun _ _ => rfl)))
      (pss_one (ps_if (pt_cmpR (g_fnotin K P w hr.units) (pv 7) (pv 2) (by rfl)) (pss_cons (ps_asg (pe_op op_add (pe_ix (g_ixfd K P w hr.units) (pv 2) (pv 5) (fun _ _ => rfl)) pe_int) (pg_sub (pv 2) (pv 7) (g_setfd K P w hr.units)))
      (pss_one (ps_expr (g_bm K PySem.F.plainAttrs_list PySem.F.slot_list_append PySem.F.type_list_append mt_append (pv 4) (pa_cons (pv 7) pa_nil))))) pss_nil))))))
      (pss_one (ps_set (i := 3) sc__law_fronts.nd rfl (Or.inl rfl) (pe_callTy (g_list_of K) (by rfl) T.b_list (by decide +kernel) (pa_cons (pv 4) pa_nil)))))))
      (pss_one (ps_ret (pv 2))))), ?_⟩
    have tar := tar_of av nd
    have good := tar.good
    have ne : kvs ≠ [] := fun e => by
      have := (ap_parts av).1.1
      rw [e] at this
      simp at this
    obtain ⟨L1, L5⟩ : 1 ≤ L ∧ L ≤ 5 := by
      obtain ⟨⟨z, p, h1, h2⟩, _⟩ := wd
      have := good.len z p h1
      omega
    refine fun d hd0 => ⟨by show 0 ≤ sizeLine; decide, fun u0 hu0 => ⟨by show 2 ≤ sizeLine; decide, fun t0 ht0 => ?_⟩⟩
    have x1 : FrontAt (upd (upd (upd H d (FD P w d [])) u0 (.tup [])) t0 (.tup [.str (Str.ofString ""), .ref u0])) t0 [] [] := ⟨u0, upd_same, same_new ht0 _ _ upd_same⟩
    have d0 : (upd (upd (upd H d (FD P w d [])) u0 (.tup [])) t0 (.tup [.str (Str.ofString ""), .ref u0])) d = some (FD P w d []) := same_new ht0 _ _ (same_new hu0 _ _ upd_same)
    have s0 : Same H (upd (upd (upd H d (FD P w d [])) u0 (.tup [])) t0 (.tup [.str (Str.ofString ""), .ref u0])) := ((same_new hd0).trans (same_new hu0)).trans (same_new ht0)
    generalize (upd (upd (upd H d (FD P w d [])) u0 (.tup [])) t0 (.tup [.str (Str.ofString ""), .ref u0])) = H0 at x1 d0 s0 ⊢
    refine ⟨t0, (sOf [], []), rfl, x1.key, d0, ?_⟩
    have d1 : (upd H0 d (FD P w d [((sOf [], []), t0, V.int 0)])) d = some (FD P w d (feOf sizeV [((sOf [], []), t0, [])])) := upd_same
    have s1 : Same H (upd H0 d (FD P w d [((sOf [], []), t0, V.int 0)])) := same_mut s0 hd0
    have y1 : KeyAt K (upd H0 d (FD P w d [((sOf [], []), t0, V.int 0)])) (sOf [], []) t0 := (x1.key (K := K)).upd d0 no_fd
    generalize (upd H0 d (FD P w d [((sOf [], []), t0, V.int 0)])) = H1 at d1 s1 y1 ⊢
    refine ⟨by show 0 ≤ sizeLine; decide, fun u1 hu1 => ⟨by show 2 ≤ sizeLine; decide, fun t1 ht1 => ?_⟩⟩
    have x2 : FrontAt (upd (upd H1 u1 (.tup [])) t1 (.tup [.str (Str.ofString ""), .ref u1])) t1 [] [] := ⟨u1, upd_same, same_new ht1 _ _ upd_same⟩
    have s12 : Same H1 (upd (upd H1 u1 (.tup [])) t1 (.tup [.str (Str.ofString ""), .ref u1])) := (same_new hu1).trans (same_new ht1)
    generalize (upd (upd H1 u1 (.tup [])) t1 (.tup [.str (Str.ofString ""), .ref u1])) = H2 at x2 s12 ⊢
    refine ⟨by show 1 ≤ sizeLine; decide, fun la hla => ?_⟩
    have s23 := s12.trans (same_new hla (o := .lst [V.ref t1]))
    have s3 := s1.trans s23
    have d3 := s23 _ _ d1
    have y3 := y1.same s23
    have x3 := (x2.key (K := K)).same (same_new hla (o := .lst [V.ref t1]))
    have l3 : (upd H2 la (.lst [V.ref t1])) la = some (.lst (([((sOf [], []), t1, [])] : List BE).map fun e => V.ref e.2.1)) := upd_same
    generalize (upd H2 la (.lst [V.ref t1])) = H3 at s3 d3 y3 x3 l3 ⊢
    refine ⟨_, _, rfl, ?_⟩
    refine ⟨fun m' σ H' => ∃ n E lay la y4 y5 y6 y7, m' = (if lay = [] then 0 else 2002 - E.length) ∧ σ = [some (.ref pd), some (.int (m : Int)), some (.ref d), some (.ref la), y4, y5, y6, y7] ∧ Same H H' ∧ H' d = some (FD P w d (feOf sizeV E)) ∧ H' la = some (.lst (lay.map fun e : BE => V.ref e.2.1)) ∧ StandE K H' E ∧ StandE K H' lay ∧ Bfs (tfD kvs) L n E lay ∧ n + (if lay = [] then 0 else 1) ≤ E.length ∧ lay.length ≤ E.length ∧ E.length ≤ 1000000,
      ⟨_, 0, [((sOf [], []), t0, [])], [((sOf [], []), t1, [])], la, _, _, _, _, rfl, rfl, s3, d3, l3, fun e he => by rw [List.mem_singleton.mp he]; exact y3, fun e he => by rw [List.mem_singleton.mp he]; exact x3, bfs_start t0 t1, Nat.le_refl _, Nat.le_refl _, by show 1 ≤ 1000000; decide⟩, ?_⟩
    clear d1 d3 l3 s1 s3 hla s23 s12 x1 x2 x3 y1 y3 d0 s0 hu0 ht0 hu1 ht1 H1 H2 H3 H0
    rintro m' σ H1 ⟨n, E, lay, la, y4, y5, y6, y7, rfl, rfl, s1, d1, l1, stE, stL, Bf, cn, ll, em⟩
    refine ⟨_, rfl, by show 0 ≤ sizeLine; decide, fun p hp => ?_⟩
    refine ⟨la, p, _, rfl, rfl, same_new hp _ _ l1, upd_same, _, rfl, ?_⟩
    have s1' := s1.trans (same_new hp (o := .lst []))
    have d1' := same_new hp (o := .lst []) _ _ d1
    have l1' := same_new hp (o := .lst []) _ _ l1
    have stE' := stE.same (same_new hp (o := .lst []))
    have stL' := stL.same (same_new hp (o := .lst []))
    generalize upd H1 p (.lst []) = H2 at s1' d1' l1' stE' stL' ⊢
    clear s1 d1 l1 stE stL hp
    by_cases hlay : lay = []
    · subst hlay
      refine itF rfl ?_
      exact ⟨_, rfl, k d E H2 (.inr (Bf.whole good wd L1)) em d1' stE' s1'⟩
    rw [if_neg hlay] at cn
    refine itT (by cases lay with | nil => exact absurd rfl hlay | cons x r => rfl) ?_
    refine ⟨_, rfl, d, _, rfl, d1', stE'.keys, _, rfl, _, _, rfl, rfl, _, rfl, ?_⟩
    by_cases hm' : m < E.length
    · refine itF (decide_eq_false (by rw [feOf_len]; omega)) ?_
      exact ⟨_, rfl, k d E H2 (.inl hm') em d1' stE' s1'⟩
    have el : E.length ≤ m := Nat.le_of_not_lt hm'
    refine itT (decide_eq_true (by rw [feOf_len]; omega)) ?_
    refine ⟨fun σ' H' => ∃ nw lr y5 y6 y7 y8, σ' = [some (.ref pd), some (.int (m : Int)), some (.ref d), some (.ref lr), y5, y6, y7, y8] ∧ Same H H' ∧ H' d = some (FD P w d (feOf sizeV (E ++ nw))) ∧ H' lr = some (.lst (nw.map fun e : BE => V.ref e.2.1)) ∧ StandE K H' (E ++ nw) ∧ Bfs (tfD kvs) L (n + 1) (E ++ nw) nw ∧ nw.length ≤ 200000, ?_, ?_⟩
    · rintro σ' H' ⟨nw, lr, z5, z6, z7, z8, rfl, h1, h2, h3, h4, h5, h6⟩
      have ln : (E ++ nw).length = E.length + nw.length := List.length_append
      refine ⟨_, ?_, n + 1, E ++ nw, nw, lr, _, _, _, _, rfl, rfl, h1, h2, h3, h4, fun e he => h4 e (List.mem_append_right _ he), h5, ?_, by omega, by omega⟩
      · rw [if_neg hlay]
        split
        · omega
        · rename_i q
          have := List.length_pos_iff.mpr q
          omega
      · split
        · omega
        · rename_i q
          have := List.length_pos_iff.mpr q
          omega
    refine ⟨by show 0 ≤ sizeLine; decide, fun lr hlr => ?_⟩
    have hlr0 : H lr = none := s1'.free hlr
    have ndr : d ≠ lr := ne_of_none d1' hlr
    have nlr : la ≠ lr := ne_of_none l1' hlr
    have s3 := same_new hlr (o := .lst [])
    refine ⟨_, rfl, la, rfl, ⟨_, SqL.of (s3 _ _ l1')⟩, for_list (K := K) (xs := lay.map fun e : BE => V.ref e.2.1) (fun j σ H' => ∃ z5 z6 z7 nw, σ = [some (.ref pd), some (.int (m : Int)), some (.ref d), some (.ref la), some (.ref lr), z5, z6, z7] ∧ Same H H' ∧ H' d = some (FD P w d (feOf sizeV (E ++ nw))) ∧ H' la = some (.lst (lay.map fun e : BE => V.ref e.2.1)) ∧ H' lr = some (.lst (nw.map fun e : BE => V.ref e.2.1)) ∧ StandE K H' (E ++ nw) ∧ StandE K H' lay ∧ Mid (tfD kvs) L n E nw ∧
      (∀ p ∈ lay.take j, ∀ c, Over (tfD kvs) [c] → fr (tfD kvs) L (p.2.2 ++ [c]) ∈ keysE (E ++ nw)) ∧ nw.length ≤ 100 * j) ⟨_, _, _, [], rfl, s1'.trans s3, by rw [List.append_nil]; exact s3 _ _ d1', s3 _ _ l1', upd_same, by rw [List.append_nil]; exact stE'.same s3, stL'.same s3, Bf.mid, fun _ h => (List.not_mem_nil h).elim, Nat.zero_le _⟩ (fun j σ H' _ q => by obtain ⟨_, _, _, _, _, _, _, q, _⟩ := q; exact SqL.of q) ?_ ?_⟩
    · rintro j x σ H3 hx ⟨z5, z6, z7, nw, rfl, s4, d4, l4, r4, stE4, stL4, Md, dn, nj⟩
      obtain ⟨e, he, rfl⟩ : ∃ e, lay[j]? = some e ∧ x = V.ref e.2.1 := by
        rw [List.getElem?_map] at hx
        cases q : lay[j]? with
        | none =>
          rw [q] at hx
          cases hx
        | some e =>
          rw [q] at hx
          exact ⟨e, rfl, (Option.some.inj hx).symm⟩
      have jl : j < lay.length := (List.getElem?_eq_some_iff.mp he).1
      have eL := List.mem_of_getElem? he
      obtain ⟨e', he', ek, et, en⟩ := Bf.lay2 e eL
      obtain ⟨ov, fe, tn, _⟩ := Bf.ok e' he'
      rw [et] at ov fe tn
      rw [ek] at fe
      refine ⟨_, rfl, pd, kvs, rfl, s4 _ _ hd, av, nd, fun ql sg H4 hql eql sg100 sgo sq => ?_⟩
      refine ⟨ql, rfl, ⟨_, SqL.of eql⟩, for_list (K := K) (xs := sg.map chV) (fun i σ H' => ∃ z6 z7 nw, σ = [some (.ref pd), some (.int (m : Int)), some (.ref d), some (.ref la), some (.ref lr), some (.ref e.2.1), z6, z7] ∧ Same H H' ∧ H' ql = some (.lst (sg.map chV)) ∧ H' d = some (FD P w d (feOf sizeV (E ++ nw))) ∧ H' la = some (.lst (lay.map fun e : BE => V.ref e.2.1)) ∧ H' lr = some (.lst (nw.map fun e : BE => V.ref e.2.1)) ∧ StandE K H' (E ++ nw) ∧ StandE K H' lay ∧ Mid (tfD kvs) L n E nw ∧
        (∀ p ∈ lay.take j, ∀ c, Over (tfD kvs) [c] → fr (tfD kvs) L (p.2.2 ++ [c]) ∈ keysE (E ++ nw)) ∧ (∀ c ∈ sg.take i, fr (tfD kvs) L (e.2.2 ++ [c]) ∈ keysE (E ++ nw)) ∧ nw.length ≤ 100 * j + i) ⟨_, _, nw, rfl, s4.trans sq, eql, sq _ _ d4, sq _ _ l4, sq _ _ r4, stE4.same sq, stL4.same sq, Md, dn, fun _ h => (List.not_mem_nil h).elim, nj⟩ (fun j σ H' _ q => by obtain ⟨_, _, _, _, _, q, _⟩ := q; exact SqL.of q) ?_ ?_⟩
      · have nlq : la ≠ ql := ne_of_none l4 hql
        have nrq : lr ≠ ql := ne_of_none r4 hql
        have ndq : d ≠ ql := ne_of_none d4 hql
        clear s4 d4 l4 r4 stE4 stL4 Md dn hql eql sq nj
        rintro i x σ H4 hx ⟨z6, z7, nw, rfl, s5, q5, d5, l5, r5, stE5, stL5, Md, dn, dc, ni⟩
        obtain ⟨c, hc, rfl⟩ : ∃ c, sg[i]? = some c ∧ x = chV c := by
          rw [List.getElem?_map] at hx
          cases q : sg[i]? with
          | none =>
            rw [q] at hx
            cases hx
          | some c =>
            rw [q] at hx
            exact ⟨c, rfl, (Option.some.inj hx).symm⟩
        have il : i < sg.length := (List.getElem?_eq_some_iff.mp hc).1
        have oc : Over (tfD kvs) [c] := (sgo c).mp (List.mem_of_getElem? hc)
        have ovc := over_of ov oc
        have cnt : (E ++ nw).length ≤ 300000 := by
          rw [List.length_append]
          omega
        have ke : KeyAt K H4 (sOf (frontW L e.2.2), frontD (tfD kvs) L e.2.2) e.2.1 := by
          have := stL5 e eL
          rw [← fe] at this
          exact this
        refine ⟨_, rfl, _, rfl, _, rfl, pd, e.2.1, kvs, frontW L e.2.2, frontD (tfD kvs) L e.2.2, c, L, rfl, s5 _ _ hd, tar, ne, ke, wd, oc, by rw [frontW_len]; omega, by rw [frontW_len, frontD_len], fun t ms H5 st sa s6 => ?_⟩
        obtain ⟨u, t5, fu⟩ := sa
        obtain ⟨fn, _⟩ := fr_next good wd L1 ovc st
        have ku := fu.key (K := K)
        rw [← fn] at ku
        refine ⟨t, _, 0, .ref u, rfl, rfl, SqT.of t5, rfl, ?_⟩
        have d6 := s6 _ _ d5
        have q6 := s6 _ _ q5
        have stE6 := stE5.same s6
        have stL6 := stL5.same s6
        have keE : e.1 ∈ keysE (E ++ nw) := by
          rw [keysE_app]
          exact List.mem_append_left _ (List.mem_map.mpr ⟨e', he', ek⟩)
        refine ⟨_, rfl, _, rfl, u, d, _, feOf sizeV (E ++ nw), rfl, rfl, ku, d6, stE6.keys, _, rfl, ?_⟩
        have take1 : sg.take (i + 1) = sg.take i ++ [c] := by rw [List.take_add_one, hc]; rfl
        by_cases hk : fr (tfD kvs) L (e.2.2 ++ [c]) ∈ keysE (E ++ nw)
        · refine itF (by show (!(lookF _ _).isSome) = false; rw [look_in hk]; rfl) ?_
          refine ⟨_, _, nw, rfl, s5.trans s6, q6, d6, s6 _ _ l5, s6 _ _ r5, stE6, stL6, Md, dn, fun x hx => ?_, by omega⟩
          rw [take1] at hx
          rcases List.mem_append.mp hx with h | h
          · exact dc x h
          · rw [List.mem_singleton.mp h]
            exact hk
        · refine itT (by show (!(lookF _ _).isSome) = true; rw [look_out hk]; rfl) ?_
          have lv : lookF (feOf sizeV (E ++ nw)) e.1 = some (sizeV e.2.2) := by
            have := look_val (val := sizeV) (E := E ++ nw) (e := e') Md.nd (List.mem_append_left _ he')
            rw [ek, et] at this
            exact this
          refine ⟨_, rfl, _, rfl, d, e.2.1, e.1, _, sizeV e.2.2, rfl, rfl, stL6 e eL, d6, stE6.keys, lv, _, _, rfl, rfl, ?_⟩
          refine ⟨_, rfl, _, rfl, d, u, _, _, rfl, rfl, ku, d6, stE6.keys, by rw [feOf_len]; exact Nat.lt_of_le_of_lt cnt (by decide), ?_⟩
          have ev : (fun i j : Int => V.int (i + j)) (e.2.2.length : Int) 1 = sizeV (e.2.2 ++ [c]) := by
            unfold sizeV
            rw [List.length_append]
            rfl
          rw [ev, put_new hk, List.append_assoc]
          have r6 := s6 _ _ r5
          have l6 := s6 _ _ l5
          have nlad : la ≠ d := fun q => by
            rw [q, d6] at l6
            cases l6
          have s7 : Same H (upd H5 d (FD P w d (feOf sizeV (E ++ (nw ++ [(fr (tfD kvs) L (e.2.2 ++ [c]), u, e.2.2 ++ [c])]))))) := same_mut (s5.trans s6) hd0
          have d7 : (upd H5 d (FD P w d (feOf sizeV (E ++ (nw ++ [(fr (tfD kvs) L (e.2.2 ++ [c]), u, e.2.2 ++ [c])]))))) d = some (FD P w d (feOf sizeV (E ++ (nw ++ [(fr (tfD kvs) L (e.2.2 ++ [c]), u, e.2.2 ++ [c])])))) := upd_same
          have r7 : (upd H5 d (FD P w d (feOf sizeV (E ++ (nw ++ [(fr (tfD kvs) L (e.2.2 ++ [c]), u, e.2.2 ++ [c])]))))) lr = some (.lst (nw.map fun e : BE => V.ref e.2.1)) := by rw [upd_ne ndr.symm]; exact r6
          have l7 : (upd H5 d (FD P w d (feOf sizeV (E ++ (nw ++ [(fr (tfD kvs) L (e.2.2 ++ [c]), u, e.2.2 ++ [c])]))))) la = some (.lst (lay.map fun e : BE => V.ref e.2.1)) := by rw [upd_ne nlad]; exact l6
          have q7 : (upd H5 d (FD P w d (feOf sizeV (E ++ (nw ++ [(fr (tfD kvs) L (e.2.2 ++ [c]), u, e.2.2 ++ [c])]))))) ql = some (.lst (sg.map chV)) := by rw [upd_ne ndq.symm]; exact q6
          have stE7 := (stE6.add (e := (fr (tfD kvs) L (e.2.2 ++ [c]), u, e.2.2 ++ [c])) ku).upd (p := FD P w d (feOf sizeV (E ++ (nw ++ [(fr (tfD kvs) L (e.2.2 ++ [c]), u, e.2.2 ++ [c])])))) d6 no_fd
          have stL7 := stL6.upd (p := FD P w d (feOf sizeV (E ++ (nw ++ [(fr (tfD kvs) L (e.2.2 ++ [c]), u, e.2.2 ++ [c])])))) d6 no_fd
          rw [List.append_assoc] at stE7
          generalize (upd H5 d (FD P w d (feOf sizeV (E ++ (nw ++ [(fr (tfD kvs) L (e.2.2 ++ [c]), u, e.2.2 ++ [c])]))))) = H7 at s7 d7 r7 l7 q7 stE7 stL7 ⊢
          refine ⟨_, rfl, .inl ⟨rfl, _, SqL.of r7⟩, _, rfl, lr, _, .ref u, rfl, rfl, r7, by rw [List.length_map]; exact Nat.lt_of_le_of_lt (by rw [List.length_append] at cnt; omega) (by decide : 300000 < sizeLine), ?_⟩
          have grow : ∀ k, k ∈ keysE (E ++ nw) → k ∈ keysE (E ++ (nw ++ [(fr (tfD kvs) L (e.2.2 ++ [c]), u, e.2.2 ++ [c])])) := fun k h => by
            rw [← List.append_assoc, keysE_app]
            exact List.mem_append_left _ h
          refine ⟨_, _, nw ++ [(fr (tfD kvs) L (e.2.2 ++ [c]), u, e.2.2 ++ [c])], rfl, same_mut s7 hlr0, by rw [upd_ne nrq.symm]; exact q7, by rw [upd_ne ndr]; exact d7, by rw [upd_ne nlr]; exact l7, by rw [upd_same, List.map_append]; rfl, stE7.upd r7 no_lst, stL7.upd r7 no_lst, Md.add hk ovc rfl ?_, fun p hp x hx => grow _ (dn p hp x hx), fun x hx => ?_, by rw [List.length_append, List.length_singleton]; omega⟩
          · rw [List.length_append, List.length_singleton, ← et, en]
          · rw [take1] at hx
            rcases List.mem_append.mp hx with h | h
            · exact grow _ (dc x h)
            · rw [List.mem_singleton.mp h, ← List.append_assoc, keysE_app]
              exact List.mem_append_right _ List.mem_cons_self
      · rintro σ H5 ⟨z6', z7', nw, rfl, s5, q5, d5, l5, r5, stE5, stL5, Md, dn, dc, ni⟩
        rw [List.length_map] at dc ni
        rw [List.take_length] at dc
        refine ⟨_, _, _, nw, rfl, s5, d5, l5, r5, stE5, stL5, Md, fun p hp c oc => ?_, by omega⟩
        rw [List.take_add_one, he] at hp
        rcases List.mem_append.mp hp with h | h
        · exact dn p h c oc
        · rw [List.mem_singleton.mp h]
          exact dc c ((sgo c).mpr oc)
    rintro σ H3 ⟨z5, z6, z7, nw, rfl, s4, d4, l4, r4, stE4, stL4, Md, dn, nj⟩
    rw [List.length_map] at dn nj
    rw [List.take_length] at dn
    have Bn := Md.next good wd L1 Bf dn
    refine ⟨_, rfl, lr, _, rfl, .inl (SqL.of r4), fun lz hlz => ?_⟩
    have s8 := same_new hlz (o := .lst (nw.map fun e : BE => V.ref e.2.1))
    exact ⟨nw, lz, _, _, _, _, rfl, s4.trans s8, s8 _ _ d4, upd_same, stE4.same s8, Bn, by omega⟩
theorem sc__law_texts : FnScope ["signs", "most", "found", "last", "turn", "longer", "text", "sign"] ["signs", "most"] (defScope s__law_texts) := ⟨rfl, rfl, rfl, by decide +kernel, rfl, by decide +kernel, by decide +kernel⟩
theorem ok__law_texts {f : Addr} {fd : FuncData} (F : Fun K "_law_texts" "_law_texts" s__law_texts f fd) (T : Txt K mg C CF AF) : FnOk P w K mg base CX0 1 f fd ["signs", "most"] (spTexts K) := by
  refine F.ok sc__law_texts (fun vs H Q E h => ?_) (fun cdv A outer s H vs Q E hr h => ?_)
  · obtain ⟨sa, sg, rfl, _⟩ := h
    rfl
  · have hu := hu_of hr
    obtain ⟨sa, sg, rfl, hs, n3, k⟩ := h
    refine ⟨_, (pss_cons (ps_par (i := 2) (j := 3) (by rfl) sc__law_texts.nd rfl rfl (by decide) rfl rfl (pa_cons (pe_lst (pa_cons pe_str pa_nil)) (pa_cons (pe_lst (pa_cons pe_str pa_nil)) pa_nil)) (by rfl))
      (pss_cons (ps_for PassesOwn.never rfl (pi_range1 (by rfl) T.b_range (pa_cons (pv 1) pa_nil)) (pg_name (i := 4) sc__law_texts.nd rfl (Or.inl rfl)) (pss_cons (ps_set (i := 5) sc__law_texts.nd rfl (Or.inl rfl) (pe_lst pa_nil))
      (pss_cons (ps_for PassesOwn.never rfl (g_list K (pv 3)) (pg_name (i := 6) sc__law_texts.nd rfl (Or.inr rfl)) (pss_one (ps_expr (g_bm K PySem.F.plainAttrs_list PySem.F.slot_list_extend PySem.F.type_list_extend mt_extend (pv 5) (pa_cons (pe_lc (own := [("sign", 7)]) rfl sc__law_texts.nd (g_list K (pv 0)) (blkOk_by (own := [("sign", 7)]) (N := ["signs", "most", "found", "last", "turn", "longer", "text", "sign"]) (sc := defScope s__law_texts) (by decide +kernel)) (fun _ _ _ _ _ => (pg_name (i := 7) sc__law_texts.nd rfl (Or.inl rfl))) (fun _ _ _ _ _ => pts_nil) (fun _ _ _ _ _ => (pe_op op_add_str (pv 6) (pv 7)))) pa_nil)))))
      (pss_cons (ps_set (i := 3) sc__law_texts.nd rfl (Or.inl rfl) (pe_callTy (g_list_of K) (by rfl) T.b_list (by decide +kernel) (pa_cons (pv 5) pa_nil)))
      (pss_one (ps_set (i := 2) sc__law_texts.nd rfl (Or.inl rfl) (pe_op op_cat (pv 2) (pv 3))))))))
      (pss_one (ps_ret (pv 2))))), ?_⟩
    refine ⟨by show 1 ≤ sizeLine; decide, fun fo hfo => ⟨by show 1 ≤ sizeLine; decide, fun la hla => ?_⟩⟩
    refine ⟨_, _, rfl, ?_⟩
    have s0 : Same H (upd (upd H fo (.lst [V.str (Str.ofString "")])) la (.lst [V.str (Str.ofString "")])) := (same_new hfo).trans (same_new hla)
    have f0 : (upd (upd H fo (.lst [V.str (Str.ofString "")])) la (.lst [V.str (Str.ofString "")])) fo = some (.lst (([[]] : List (List Nat)).map tv)) := by
      rw [same_new hla _ _ upd_same, emp]
      rfl
    have l0 : (upd (upd H fo (.lst [V.str (Str.ofString "")])) la (.lst [V.str (Str.ofString "")])) la = some (.lst ((layerL sg 0).map tv)) := by
      rw [upd_same, emp]
      rfl
    generalize (upd (upd H fo (.lst [V.str (Str.ofString "")])) la (.lst [V.str (Str.ofString "")])) = H0 at s0 f0 l0 ⊢
    refine ⟨_, rfl, (4 : Int), rfl, by decide, by decide, ?_⟩
    refine for_range (lo := 0) (n := 4) (fun i σ H' => ∃ fo la x4 x5 x6 x7 ts, σ = [some (.ref sa), some (.int 4), some (.ref fo), some (.ref la), x4, x5, x6, x7] ∧ Same H H' ∧ H fo = none ∧ H' fo = some (.lst (ts.map tv)) ∧ H' la = some (.lst ((layerL sg i).map tv)) ∧ ts.length ≤ 1 + 81 * i ∧ ∀ t ∈ ts, t.length ≤ 4 ∧ ∀ c ∈ t, c ∈ sg) ⟨fo, la, _, _, _, _, [[]], rfl, s0, hfo, f0, l0, by decide, fun t ht => by rw [List.mem_singleton.mp ht]; exact ⟨Nat.zero_le _, fun _ h => (List.not_mem_nil h).elim⟩⟩ ?_ ?_
    · clear s0 f0 l0 H0 hla la hfo fo
      rintro i σ H1 hi ⟨fo, la, x4, x5, x6, x7, ts, rfl, s1, hfo, f1, l1, tn, tt⟩
      have lay2 := lay_le81 n3 (show i + 1 ≤ 4 by omega)
      have lay1 := lay_le81 n3 (show i ≤ 4 by omega)
      refine ⟨by show 0 ≤ sizeLine; decide, fun lo hlo => ?_⟩
      have hlo0 : H lo = none := s1.free hlo
      have nfl : fo ≠ lo := ne_of_none f1 hlo
      have nal : la ≠ lo := ne_of_none l1 hlo
      refine ⟨_, rfl, la, rfl, ⟨_, SqL.of (same_new hlo _ _ l1)⟩, for_list (K := K) (xs := (layerL sg i).map tv) (fun j σ H' => ∃ x4 x6 x7, σ = [some (.ref sa), some (.int 4), some (.ref fo), some (.ref la), x4, some (.ref lo), x6, x7] ∧ Same H H' ∧ H' fo = some (.lst (ts.map tv)) ∧
        H' la = some (.lst ((layerL sg i).map tv)) ∧ H' lo = some (.lst ((grow sg ((layerL sg i).take j)).map tv))) ⟨_, _, _, rfl, s1.trans (same_new hlo), same_new hlo _ _ f1, same_new hlo _ _ l1, upd_same⟩ (fun j σ H' hj q => by obtain ⟨_, _, _, _, _, _, q, _⟩ := q; exact SqL.of q) ?_ ?_⟩
      · rintro j x σ H2 hx ⟨x4, x6, x7, rfl, s2, f2, l2, o2⟩
        obtain ⟨t, ht, rfl⟩ := tv_at hx
        have tl : t.length = i := (layer_mem.mp (List.mem_of_getElem? ht)).1
        refine ⟨_, rfl, .inl ⟨rfl, _, SqL.of o2⟩, _, rfl, sa, rfl, ⟨_, s2.seq hs⟩, fun D hD => ?_⟩
        refine lcs sg (walk_listF (K := K) chV sg) (fun c => some (tv (t ++ [c]))) hD (by omega) (fun H' s => (s2.trans s).seq hs) ?_ ?_
        · rintro i' c x H3 H4 hc s3 ⟨rfl, c', ec, rfl⟩ N M hN hM
          have e1 : c = c' := Option.some.inj (hc.symm.trans ec)
          subst e1
          refine ⟨wipe_set, _, rfl, _, rfl, sOf t, ch c, rfl, rfl, ?_, ?_⟩
          · rw [sOf_len]
            exact fits_sz (by rw [tl]; show i + 1 ≤ 100000; omega)
          · rw [tv_app]
            exact hN _ _ rfl (Same.refl _)
        rintro H3 s3 e3
        rw [fm_some] at e3
        refine ⟨lo, D, _, _, rfl, rfl, s3 _ _ o2, e3, ?_, ?_⟩
        · rw [List.length_map, List.length_map, grow_len, List.length_take]
          have h6 : min j (layerL sg i).length * sg.length ≤ 81 * 3 := Nat.mul_le_mul (by omega) n3
          exact Nat.le_of_lt (Nat.lt_of_le_of_lt (by omega : _ ≤ 1000000) (by decide))
        · refine ⟨_, _, _, rfl, same_mut (s2.trans s3) hlo0, by rw [upd_ne nfl]; exact s3 _ _ f2, by rw [upd_ne nal]; exact s3 _ _ l2, ?_⟩
          rw [upd_same, grow_take ht, List.map_append, List.map_map]
          rfl
      rintro σ H2 ⟨x4, x6, x7, rfl, s2, f2, l2, o2⟩
      rw [List.length_map, List.take_length] at o2
      have o3 : H2 lo = some (.lst ((layerL sg (i + 1)).map tv)) := o2
      clear o2
      refine ⟨_, rfl, lo, _, rfl, .inl (SqL.of o3), fun la2 hla2 => ?_⟩
      have s3 := same_new hla2 (o := .lst ((layerL sg (i + 1)).map tv))
      have f3 := s3 _ _ f2
      refine ⟨_, rfl, _, rfl, fo, la2, _, _, rfl, rfl, f3, upd_same, ?_, fun fo2 hfo2 => ?_⟩
      · rw [List.length_map, List.length_map]
        exact Nat.le_of_lt (Nat.lt_of_le_of_lt (by omega : _ ≤ 1000000) (by decide))
      have l4 := same_new hfo2 (o := .lst (ts.map tv ++ (layerL sg (i + 1)).map tv)) _ _ (upd_same (H := H2) (a := la2) (o := .lst ((layerL sg (i + 1)).map tv)))
      have s4 := (s2.trans s3).trans (same_new hfo2 (o := .lst (ts.map tv ++ (layerL sg (i + 1)).map tv)))
      refine ⟨fo2, la2, _, _, _, _, ts ++ layerL sg (i + 1), rfl, s4, (s2.trans s3).free hfo2, by rw [upd_same, List.map_append], l4, by rw [List.length_append]; omega, fun t ht => ?_⟩
      rcases List.mem_append.mp ht with h | h
      · exact tt t h
      · obtain ⟨h1, h2⟩ := layer_mem.mp h
        exact ⟨by omega, h2⟩
    rintro σ H1 ⟨fo, la, x4, x5, x6, x7, ts, rfl, s1, hfo, f1, l1, tn, tt⟩
    exact ⟨_, rfl, k fo ts H1 hfo f1 (by omega) tt s1⟩
theorem sc__law_least : FnScope ["prices", "text", "known", "firsts", "piece"] ["prices", "text", "known"] (defScope s__law_least) := ⟨rfl, rfl, rfl, by decide +kernel, rfl, by decide +kernel, by decide +kernel⟩
theorem ok__law_least_0 {f : Addr} {fd : FuncData} (F : Fun K "_law_least" "_law_least" s__law_least f fd) (T : Txt K mg C CF AF) : FnOk P w K mg base CX0 2 f fd ["prices", "text", "known"] (spLeastN 0) := by
  refine F.ok sc__law_least (fun vs H Q E h => (spLeastN_0 h).elim) (fun cdv A outer s H vs Q E hr h => (spLeastN_0 h).elim)
theorem ok__law_least {f : Addr} {fd : FuncData} (F : Fun K "_law_least" "_law_least" s__law_least f fd) (T : Txt K mg C CF AF) {n : Nat} (c__law_least : HasO P w K mg base CX0 (2 + n) "_law_least" ["prices", "text", "known"] (spLeastN n)) : FnOk P w K mg base CX0 (2 + n + 1) f fd ["prices", "text", "known"] (spLeastN (n + 1)) := by
  refine F.ok sc__law_least (fun vs H Q E h => ?_) (fun cdv A outer s H vs Q E hr h => ?_)
  · obtain ⟨d, kn, kvs, kf, t, rfl, _⟩ := h
    rfl
  · have hu := hu_of hr
    obtain ⟨d, kn, kvs, kf, t, rfl, ndk, hd, tar, ov, tn, t4, hk, mo, kl, k⟩ := h
    refine ⟨_, (pss_cons (ps_if (pt_cmp (pc_dnotin hu (pv 1) (pv 2))) (pss_cons (ps_lock (by exact (ps_setLc (i := 3) (own := [("piece", 4)]) rfl sc__law_least.nd rfl rfl (sw_true rfl rfl rfl (by decide +kernel)) (pi_keys (pv 0)) (blkOk_by (own := [("piece", 4)]) (N := ["prices", "text", "known", "firsts", "piece"]) (sc := defScope s__law_least) (by decide +kernel)) (fun _ _ _ _ _ => (pg_name (i := 4) sc__law_least.nd rfl (Or.inl rfl))) (fun _ _ _ _ _ => (pts_one (pt_cmpR op_eq (pe_slice sl_str (pv 1) po_none (po_some (pe_callB call_len_str (by rfl) T.b_len (by decide +kernel) (pa_cons (pv 4) pa_nil)))) (pv 4) (nomark _)))) (fun _ _ _ _ _ => (pv 4)))))
      (pss_one (ps_asg (pe_callB (g_min K rfl) (by rfl) T.b_min (by decide +kernel) (pa_cons (pe_lc (own := [("piece", 4)]) rfl sc__law_least.nd (g_list K (pv 3)) (blkOk_by (own := [("piece", 4)]) (N := ["prices", "text", "known", "firsts", "piece"]) (sc := defScope s__law_least) (by decide +kernel)) (fun _ _ _ _ _ => (pg_name (i := 4) sc__law_least.nd rfl (Or.inl rfl))) (fun _ _ _ _ _ => pts_nil) (fun _ _ _ _ _ => (pe_op op_add (pe_dget hu (pv 0) (pv 4) (fun _ _ => rfl)) (pe_hasO c__law_least (hr.mono (by omega)) pass0 (pa_cons (pv 0) (pa_cons (pe_slice sl_str (pv 1) (po_some (pe_callB call_len_str (by rfl) T.b_len (by decide +kernel) (pa_cons (pv 4) pa_nil))) po_none) (pa_cons (pv 2) pa_nil))))))) pa_nil)) (pg_sub (pv 2) (pv 1) (set_dict hu))))) pss_nil)
      (pss_one (ps_ret (pe_dget hu (pv 2) (pv 1) (fun _ _ => rfl))))), ?_⟩
    have good := tar.good
    have lt : (sOf t).length = t.length := sOf_len t
    have cst : cs (sOf t) = t := cs_sOf t
    refine ⟨_, rfl, _, rfl, kn, _, rfl, .inl ⟨kf, Sum.inr (sOf t), .inl hk, rfl, rfl⟩, _, rfl, ?_⟩
    by_cases q : (valV kf (Sum.inr (sOf t))).isSome = true
    · refine itF (by rw [q]; rfl) ?_
      have v := mo.val q
      rw [cst] at v
      exact ⟨_, rfl, _, rfl, kn, .int (lp (tfD kvs) t), rfl, .inl ⟨kf, Sum.inr _, .inl hk, rfl, v.symm⟩, k kf H hk mo .refl (Kp.refl _ _)⟩
    refine itT (by cases h : (valV kf (Sum.inr (sOf t))).isSome with | true => exact absurd h q | false => rfl) ?_
    have ne : t ≠ [] := fun e => q (by rw [e]; exact mo.nil)
    have tl : 1 ≤ t.length := List.length_pos_iff.mpr ne
    refine ⟨d, _, hd, trivial, fun od => ?_⟩
    refine ⟨_, rfl, d, od, rfl, .inl ⟨kvs, upd_same, fun D hD => ?_⟩⟩
    have nD := lock_ne hD
    refine lcs kvs walk_keys (fun kv => (headV t kv).map V.str) hD (by have := tar.len; omega) (fun H' s => s _ _ upd_same) ?_ ?_
    · rintro j kv x H2 H3 hj s2 ⟨rfl, k', v', ek, rfl⟩ N M hN hM
      have ekv : kv = (k', v') := Option.some.inj (hj.symm.trans ek)
      subst ekv
      obtain ⟨y, p, ey, hp⟩ := tar.mem _ (List.mem_of_getElem? hj)
      cases ey
      have ly := good.len y p hp
      have hc : cutS (sOf t) none (some ((y.length : Nat) : Int)) = sOf (t.take (cs y).length) := str_ext (by rw [cs_cutTo', cst, cs_sOf, cs_len])
      have hl : (y : Str).length = (cs y).length := (cs_len y).symm
      refine ⟨wipe_set, _, rfl, _, rfl, y, rfl, fits_sz (by omega), _, rfl, sOf t, rfl, fits_sz (by omega), _, rfl, rfl, _, rfl, ?_⟩
      rw [hc]
      have he : (V.str (sOf (t.take (cs y).length)) = V.str y) ↔ t.take (cs y).length = cs y := by
        constructor
        · intro e
          have := congrArg cs (V.str.inj e)
          rwa [cs_sOf] at this
        · intro e
          rw [e]
          exact congrArg V.str (sOf_cs y)
      refine itB (fun q => ?_) (fun q => ?_)
      · refine ⟨_, rfl, hN _ _ ?_ (Same.refl _)⟩
        show (if t.take (cs y).length = cs y then some y else none).map V.str = _
        rw [if_pos (he.mp (of_decide_eq_true q))]
        rfl
      · refine hM _ ?_ (Same.refl _)
        show (if t.take (cs y).length = cs y then some y else none).map V.str = _
        rw [if_neg fun e => (of_decide_eq_false q) (he.mpr e)]
        rfl
    rintro H2 s2 e2
    have em : (kvs.filterMap fun kv => (headV t kv).map V.str) = (kvs.filterMap (headV t)).map V.str := by
      rw [List.map_filterMap]
    rw [em] at e2
    have zin : ∀ y ∈ kvs.filterMap (headV t), ∃ p, tfD kvs y = some p ∧ t = cs y ++ t.drop (cs y).length := fun y hy => by
      obtain ⟨kv, hkv, e⟩ := List.mem_filterMap.mp hy
      obtain ⟨y', p, rfl, hp⟩ := tar.mem kv hkv
      have e' : (if t.take (cs y').length = cs y' then some y' else none) = some y := e
      by_cases g : t.take (cs y').length = cs y'
      · rw [if_pos g] at e'
        cases e'
        exact ⟨p, hp, head_app g⟩
      · rw [if_neg g] at e'
        cases e'
    have zall : ∀ y p b, tfD kvs y = some p → t = cs y ++ b → y ∈ kvs.filterMap (headV t) := fun y p b hp ht => by
      have hk' := valV_in (tf_some.mp hp)
      obtain ⟨kv, hkv, e⟩ := List.mem_map.mp hk'
      refine List.mem_filterMap.mpr ⟨kv, hkv, ?_⟩
      unfold headV
      rw [e]
      show (if t.take (cs y).length = cs y then some y else none) = some y
      rw [if_pos (by rw [ht, List.take_left])]
    have zlen : (kvs.filterMap (headV t)).length ≤ kvs.length := List.length_filterMap_le _ _
    generalize kvs.filterMap (headV t) = zs at zin zall zlen e2
    have S2 : Same H (upd H2 d (.dK kvs)) := unlock hd s2
    refine ⟨s2 _ _ upd_same, ?_⟩
    have eD : (upd H2 d (.dK kvs)) D = some (.lst (zs.map V.str)) := by rw [upd_ne nD]; exact e2
    generalize (upd H2 d (.dK kvs)) = H3 at S2 eD ⊢
    have zn : zs.length ≤ 1000 := by have := tar.len; omega
    clear e2 s2 nD hD em zlen
    refine ⟨_, rfl, D, rfl, ⟨_, SqL.of eD⟩, fun D2 hD2 => ?_⟩
    have hd3 := S2 _ _ hd
    refine lc_it (walk_listF (K := K) V.str zs) (fun i H' => ∃ kf', H' kn = some (.dK kf') ∧ Memo (tfD kvs) kf' ∧ Grow t kf kf' ∧ Kp kn H3 H' ∧ H' D = some (.lst (zs.map V.str)) ∧ H' D2 = some (.lst (((zs.take i).map fun y => (tfD kvs y).getD 0 + lp (tfD kvs) (t.drop (cs y).length)).map V.int))) ⟨kf, same_new hD2 _ _ (S2 _ _ hk), mo, .refl, Kp.of (same_new hD2), same_new hD2 _ _ eD, upd_same⟩ (fun i H' _ q => by obtain ⟨_, _, _, _, _, q, _⟩ := q; exact SqL.of q) ?_ ?_
    · rintro i x H4 H5 hi ⟨kf1, k4, m4, g4, kp4, d4, e4⟩ ⟨rfl, y, hy, rfl⟩
      obtain ⟨p, hp, ht⟩ := zin y (List.mem_of_getElem? hy)
      have ly := good.len y p hp
      have hl : (y : Str).length = (cs y).length := (cs_len y).symm
      have tly : (t.drop (cs y).length).length = t.length - (cs y).length := List.length_drop
      have tly2 : (cs y).length ≤ t.length := by
        have := congrArg List.length ht
        rw [List.length_append] at this
        omega
      have hcf : cutS (sOf t) (some ((y.length : Nat) : Int)) none = sOf (t.drop (cs y).length) := str_ext (by rw [cs_cutFrom (by omega), cst, cs_sOf, cs_len])
      have gl := g4.len m4.nd
      have nD2 : D ≠ D2 := ne_of_none eD hD2
      have nk2 : kn ≠ D2 := ne_of_none (S2 _ _ hk) hD2
      refine ⟨wipe_set, _, rfl, _, rfl, d, _, rfl, .inl ⟨kvs, Sum.inr y, .inl (kp4 _ _ hd3 ndk), rfl, (tf_some.mp hp).symm⟩, ?_⟩
      refine ⟨_, rfl, _, rfl, _, rfl, y, rfl, fits_sz (by omega), _, rfl, sOf t, rfl, fits_sz (by omega), _, rfl, d, kn, kvs, kf1, t.drop (cs y).length, congrArg (fun z => [V.ref d, .str z, .ref kn]) hcf, ndk, kp4 _ _ hd3 ndk, tar, ov.drop _, by omega, by omega, k4, m4, by omega, fun kf2 H6 k6 m6 g6 kp6 => ?_⟩
      refine ⟨_, _, rfl, rfl, ?_⟩
      have e6 := kp6 _ _ e4 nk2.symm
      refine ⟨_, e6, ?_, kf2, by rw [upd_ne nk2]; exact k6, m6, g4.step rfl g6, (kp4.trans kp6).mut hD2, ?_, ?_⟩
      · rw [List.length_map, List.length_map]
        exact Nat.lt_of_le_of_lt (Nat.le_trans (List.length_take_le' _ _) (by omega : _ ≤ 1000000)) (by decide)
      · rw [upd_ne nD2]
        exact kp6 _ _ d4 fun e => by
          rw [e, k4] at d4
          cases d4
      · rw [upd_same, List.take_add_one, hy, List.map_append, List.map_append]
        show _ = some (HO.lst (_ ++ [V.int ((tfD kvs y).getD 0 + _)]))
        rw [hp]
        rfl
    rintro H4 ⟨kf1, k4, m4, g4, kp4, d4, e4⟩
    rw [List.take_length] at e4
    have gl := g4.len m4.nd
    refine ⟨D2, _, rfl, SqL.of e4, ?_, fun m hm hle => ?_⟩
    · obtain ⟨z, p, b, h1, h2, _⟩ := fst_first good ov ne
      rw [List.length_map]
      exact List.length_pos_of_mem (zall z p b h1 h2)
    have em : m = lp (tfD kvs) t := by
      refine fst_step good ov ne (fun y hy => ?_) (fun z p b h1 h2 => ?_) hm hle
      · obtain ⟨z, hz, rfl⟩ := List.mem_map.mp hy
        obtain ⟨p, hp, ht⟩ := zin z hz
        exact ⟨z, p, _, hp, ht, by rw [hp]; rfl⟩
      · refine List.mem_map.mpr ⟨z, zall z p b h1 h2, ?_⟩
        have : t.drop (cs z).length = b := by rw [h2, List.drop_left]
        rw [this, h1]
        rfl
    subst em
    refine ⟨_, rfl, _, rfl, kn, _, rfl, .inl ⟨kf1, Sum.inr (sOf t), k4, rfl, Nat.lt_of_le_of_lt (by omega : _ ≤ 1000000) (by decide), rfl⟩, ?_⟩
    have mp := m4.put (sOf t)
    rw [cst] at mp
    refine ⟨_, rfl, _, rfl, kn, .int (lp (tfD kvs) t), rfl, .inl ⟨_, Sum.inr (sOf t), .inl upd_same, rfl, ?_⟩, k _ _ upd_same mp (g4.put ne) (((Kp.of S2).trans kp4).trans Kp.upd)⟩
    rw [valV_put, if_pos rfl]
theorem sc__law_right : FnScope ["reel", "signs", "prices", "book", "known", "fronts", "texts", "text", "front", "one", "others", "other", "more", "turn"] ["reel"] (defScope s__law_right) := ⟨rfl, rfl, rfl, by decide +kernel, rfl, by decide +kernel, by decide +kernel⟩
theorem ok__law_right {f : Addr} {fd : FuncData} (F : Fun K "_law_right" "_law_right" s__law_right f fd) (T : Txt K mg C CF AF) (c_Book : C8.Mak P w K mg base 5 "Book" C (spBook C K) []) (c_Fronts : C8.Mak P w K mg base 8 "Fronts" CF (spFronts C CF K P w) []) (c_Fronts___getitem__ : C8.Met P w K mg base 8 CF "__getitem__" (spGetF C CF K P w) []) (c__law_letters : Has P w K mg base CX0 3 "_law_letters" ["reel", "many"] (spLett K)) (c__law_spin : Has P w K mg base CX0 1 "_law_spin" ["reel", "many"] (spRoll)) (c__law_prices : Has P w K mg base CX0 4 "_law_prices" ["reel", "signs", "most", "size", "menu"] (spPricesM K)) (c__law_pick : Has P w K mg base CX0 2 "_law_pick" ["reel", "items"] (spPick K)) (c__law_fronts : Has P w K mg base CX0 5 "_law_fronts" ["prices", "most"] (spLawFronts K P w)) (c__law_word : Has P w K mg base CX0 3 "_law_word" ["reel", "signs", "many"] (spLetters K)) (c_front_of : HasO P w K mg base CX0 5 "front_of" ["book", "text"] (spFrontIn C)) (c__law_texts : HasO P w K mg base CX0 1 "_law_texts" ["signs", "most"] (spTexts K)) (c__law_front : Has P w K mg base CX0 3 "_law_front" ["prices", "text"] (spLawFront)) (c__law_least : HasO P w K mg base CX0 19 "_law_least" ["prices", "text", "known"] (spLeastN 17)) : FnG P w K mg base CX0 21 f fd ["reel"] (spRight 1000) := by
  refine fn_g0 F sc__law_right (fun vs H Q E h => ?_) (fun cdv A outer s H vs Q E hg hr h => ?_)
  · obtain ⟨l, n, rfl, _⟩ := h
    rfl
  · have hu := hu_of hr
    obtain ⟨l, n, rfl, D, k⟩ := h
    refine ⟨_, (pss_cons (ps_set (i := 1) sc__law_right.nd rfl (Or.inr rfl) (pe_callB (g_sortedS K) (by rfl) T.b_sorted (by decide +kernel) (pa_cons (pe_has c__law_letters hg (hr.mono (by decide)) pass0 (pa_cons (pv 0) (pa_cons (pe_op op_add pe_int (pe_has c__law_spin hg (hr.mono (by decide)) pass0 (pa_cons (pv 0) (pa_cons pe_int pa_nil)))) pa_nil))) pa_nil)))
      (pss_cons (ps_set (i := 2) sc__law_right.nd rfl (Or.inr rfl) (pe_has c__law_prices hg (hr.mono (by decide)) pass0 (pa_cons (pv 0) (pa_cons (pv 1) (pa_cons pe_int (pa_cons pe_int (pa_cons (pe_has c__law_pick hg (hr.mono (by decide)) pass0 (pa_cons (pv 0) (pa_cons (pe_lst (pa_cons (pe_lst (pa_cons pe_int pa_nil)) (pa_cons (pe_lst (pa_cons pe_int (pa_cons pe_int pa_nil))) (pa_cons (pe_lst (pa_cons pe_int (pa_cons pe_int (pa_cons pe_int pa_nil)))) (pa_cons (pe_lst (pa_cons pe_int (pa_cons pe_int pa_nil))) pa_nil))))) pa_nil))) pa_nil)))))))
      (pss_cons (ps_if (pt_cmpR op_gt (pe_callB (g_lenfd K P w) (by rfl) T.b_len (by decide +kernel) (pa_cons (pe_has c__law_fronts hg (hr.mono (by decide)) pass0 (pa_cons (pv 2) (pa_cons pe_int pa_nil))) pa_nil)) pe_int (nomark _)) (pss_one (ps_ret pe_bl)) pss_nil)
      (pss_cons (ps_par (i := 3) (j := 4) (by rfl) sc__law_right.nd rfl rfl (by decide) rfl rfl (pa_cons (C8.pe_mk c_Book hr (by decide) (by rfl) (pa_cons (pv 2) pa_nil)) (pa_cons (pe_disp (pps_cons pe_str pe_int pps_nil) (by rfl) (by rfl) (fun z => by cases z) (by decide)) pa_nil)) (by rfl))
      (pss_cons (ps_par (i := 5) (j := 6) (by rfl) sc__law_right.nd rfl rfl (by decide) rfl rfl (pa_cons (C8.pe_mk c_Fronts hr (by decide) (by rfl) (pa_cons (pv 3) pa_nil)) (pa_cons (pe_lc (own := [("turn", 13)]) rfl sc__law_right.nd (pi_range1 (by rfl) T.b_range (pa_cons pe_int pa_nil)) (blkOk_by (own := [("turn", 13)]) (N := ["reel", "signs", "prices", "book", "known", "fronts", "texts", "text", "front", "one", "others", "other", "more", "turn"]) (sc := defScope s__law_right) (by decide +kernel)) (fun _ _ _ _ _ => (pg_name (i := 13) sc__law_right.nd rfl (Or.inl rfl))) (fun _ _ _ _ _ => pts_nil) (fun _ _ _ _ _ => (pe_has c__law_word hg (hr.mono (by decide)) pass0 (pa_cons (pv 0) (pa_cons (pv 1) (pa_cons (pe_has c__law_spin hg (hr.mono (by decide)) pass0 (pa_cons (pv 0) (pa_cons pe_int pa_nil))) pa_nil)))))) pa_nil)) (by rfl))
      (pss_cons (ps_for PassesOwn.never rfl (g_list K (pv 6)) (pg_name (i := 7) sc__law_right.nd rfl (Or.inl rfl)) (pss_cons (ps_set (i := 8) sc__law_right.nd rfl (Or.inr rfl) (pe_hasO c_front_of (hr.mono (by decide)) pass0 (pa_cons (pv 3) (pa_cons (pv 7) pa_nil))))
      (pss_cons (ps_set (i := 10) sc__law_right.nd rfl (Or.inl rfl) (pe_op op_cat (pe_lst (pa_cons (pe_ixO c_Fronts___getitem__ hr (by decide) T.gi (pv 5) (pv 8) (fun _ _ => rfl)) pa_nil)) (pe_slice (g_sl_list K) (pe_lc (own := [("one", 9)]) rfl sc__law_right.nd (g_list K (pe_hasO c__law_texts (hr.mono (by decide)) pass0 (pa_cons (pv 1) (pa_cons pe_int pa_nil)))) (blkOk_by (own := [("one", 9)]) (N := ["reel", "signs", "prices", "book", "known", "fronts", "texts", "text", "front", "one", "others", "other", "more", "turn"]) (sc := defScope s__law_right) (by decide +kernel)) (fun _ _ _ _ _ => (pg_name (i := 9) sc__law_right.nd rfl (Or.inl rfl))) (fun _ _ _ _ _ => (pts_one (pt_cmpR (g_eqD K hr.units) (pe_has c__law_front hg (hr.mono (by decide)) pass0 (pa_cons (pv 2) (pa_cons (pv 9) pa_nil))) (pv 8) (nomark _)))) (fun _ _ _ _ _ => (pv 9))) po_none (po_some pe_int))))
      (pss_cons (ps_if (PW.pt (pw_or (pt_cmpR op_gt (pe_callB call_len_str (by rfl) T.b_len (by decide +kernel) (pa_cons (pe_ix (g_ix_list K) (pv 10) pe_int (fun _ _ => rfl)) pa_nil)) (pe_callB call_len_str (by rfl) T.b_len (by decide +kernel) (pa_cons (pv 7) pa_nil)) (nomark _)) (pw_or1 (pt_cmpR (g_neD K hr.units) (pe_hasO c_front_of (hr.mono (by decide)) pass0 (pa_cons (pv 3) (pa_cons (pe_ix (g_ix_list K) (pv 10) pe_int (fun _ _ => rfl)) pa_nil))) (pv 8) (nomark _))))) (pss_one (ps_ret pe_bl)) pss_nil)
      (pss_one (ps_for PassesOwn.never rfl (g_list K (pv 10)) (pg_name (i := 11) sc__law_right.nd rfl (Or.inl rfl)) (pss_one (ps_for PassesOwn.never rfl (g_list K (pe_hasO c__law_texts (hr.mono (by decide)) pass0 (pa_cons (pv 1) (pa_cons pe_int pa_nil)))) (pg_name (i := 12) sc__law_right.nd rfl (Or.inl rfl)) (pss_cons (ps_set (i := 9) sc__law_right.nd rfl (Or.inl rfl) (pe_op op_sub (pe_hasO c__law_least (hr.mono (by decide)) pass0 (pa_cons (pv 2) (pa_cons (pe_op op_add_str (pv 7) (pv 12)) (pa_cons (pv 4) pa_nil)))) (pe_hasO c__law_least (hr.mono (by decide)) pass0 (pa_cons (pv 2) (pa_cons (pv 7) (pa_cons (pv 4) pa_nil))))))
      (pss_one (ps_if (pt_cmpR op_ne (pe_op op_sub (pe_hasO c__law_least (hr.mono (by decide)) pass0 (pa_cons (pv 2) (pa_cons (pe_op op_add_str (pv 11) (pv 12)) (pa_cons (pv 4) pa_nil)))) (pe_hasO c__law_least (hr.mono (by decide)) pass0 (pa_cons (pv 2) (pa_cons (pv 11) (pa_cons (pv 4) pa_nil))))) (pv 9) (nomark _)) (pss_one (ps_ret pe_bl)) pss_nil)))))))))))
      (pss_one (ps_ret pe_bl)))))))), ?_⟩
    -- the signs
    refine ⟨_, rfl, _, rfl, l, 3, n + 990, rfl, by decide, by decide, D.le (by omega), fun r H1 r0 r1 k1 D1 => ⟨_, _, rfl, rfl, ?_⟩⟩
    have r3 : r < 3 := r1
    refine ⟨l, (1 + r).toNat, n + 960, by rw [Int.toNat_of_nonneg (by omega)]; rfl, by omega, D1.le (by omega), fun la zs H2 hla nla zl zlt e2 k2 D2 => ?_⟩
    refine ⟨la, zs.map ch, rfl, SqL.of (by rw [e2, chs_strs]), by rw [List.length_map]; omega, fun ys sa pm so hsa => ?_⟩
    obtain ⟨sg, rfl, sgl⟩ : ∃ sg : List Nat, ys = sg.map ch ∧ ∀ c ∈ sg, lett c = true := lift_ch fun y hy => by
      obtain ⟨c, hc, rfl⟩ := List.mem_map.mp (pm.mem_iff.mp hy)
      exact ⟨c, rfl, zlt c hc⟩
    have sgn : sg.length = (1 + r).toNat := by
      have := pm.length_eq
      rw [List.length_map, List.length_map] at this
      omega
    have n1 : 1 ≤ sg.length := by omega
    have n4 : sg.length ≤ 4 := by omega
    have nsa : sa ≠ l := D2.ne hsa
    have kA := (k1.trans k2).new hsa (o := .lst ((sg.map ch).map V.str))
    have DA := D2.new hsa (o := .lst ((sg.map ch).map V.str))
    have sA : (upd H2 sa (.lst ((sg.map ch).map V.str))) sa = some (.lst (sg.map chV)) := by rw [upd_same, chs_strs]
    generalize (upd H2 sa (.lst ((sg.map ch).map V.str))) = H3 at kA DA sA ⊢
    -- the menu
    refine ⟨_, rfl, _, rfl, _, rfl, by show 1 ≤ sizeLine; decide, fun m1 w1 => ⟨by show 2 ≤ sizeLine; decide, fun m2 w2 => ⟨by show 3 ≤ sizeLine; decide, fun m3 w3 => ⟨by show 2 ≤ sizeLine; decide, fun m4 w4 => ⟨by show 4 ≤ sizeLine; decide, fun mp wp => ?_⟩⟩⟩⟩⟩
    have D1' := DA.new w1 (o := .lst [V.int 1])
    have D2' := D1'.new w2 (o := .lst [V.int 1, .int 2])
    have D3' := D2'.new w3 (o := .lst [V.int 2, .int 3, .int 5])
    have D4' := D3'.new w4 (o := .lst [V.int 1, .int 9])
    have D6' := D4'.new wp (o := .lst [V.ref m1, .ref m2, .ref m3, .ref m4])
    have s2 := same_new w2 (o := .lst [V.int 1, .int 2])
    have s3 := same_new w3 (o := .lst [V.int 2, .int 3, .int 5])
    have s4 := same_new w4 (o := .lst [V.int 1, .int 9])
    have s6 := same_new wp (o := .lst [V.ref m1, .ref m2, .ref m3, .ref m4])
    have sAll := (same_new w1 (o := .lst [V.int 1])).trans (s2.trans (s3.trans (s4.trans s6)))
    have f1 := s6 _ _ (s4 _ _ (s3 _ _ (s2 _ _ (upd_same (H := H3) (a := m1) (o := .lst [V.int 1])))))
    have f2 := s6 _ _ (s4 _ _ (s3 _ _ (upd_same (a := m2) (o := .lst [V.int 1, .int 2]))))
    have f3 := s6 _ _ (s4 _ _ (upd_same (a := m3) (o := .lst [V.int 2, .int 3, .int 5])))
    have f4 := s6 _ _ (upd_same (a := m4) (o := .lst [V.int 1, .int 9]))
    have nn : m1 ≠ l ∧ m2 ≠ l ∧ m3 ≠ l ∧ m4 ≠ l := ⟨DA.ne w1, D1'.ne w2, D2'.ne w3, D3'.ne w4⟩
    refine ⟨l, .ref mp, _, n + 950, rfl, .lst (D4'.ne wp) (SqL.of upd_same), by simp, by simp, D6'.le (by omega), fun y H4 hy k4 D4 => ?_⟩
    obtain ⟨ma, ms, rfl, ema, nma, ml1, ml2, mall⟩ : ∃ (ma : Addr) (ms : List Int), y = .ref ma ∧ (upd (upd (upd (upd (upd H3 m1 (.lst [V.int 1])) m2 (.lst [V.int 1, .int 2])) m3 (.lst [V.int 2, .int 3, .int 5])) m4 (.lst [V.int 1, .int 9])) mp (.lst [V.ref m1, .ref m2, .ref m3, .ref m4])) ma = some (HO.lst (ms.map V.int)) ∧ ma ≠ l ∧ 1 ≤ ms.length ∧ ms.length ≤ 100 ∧ ∀ i ∈ ms, 1 ≤ i ∧ i ≤ 99 := by
      simp only [List.mem_cons, List.not_mem_nil, or_false] at hy
      rcases hy with h | h | h | h
      · exact ⟨m1, [1], h, f1, nn.1, by decide, by decide, by decide⟩
      · exact ⟨m2, [1, 2], h, f2, nn.2.1, by decide, by decide, by decide⟩
      · exact ⟨m3, [2, 3, 5], h, f3, nn.2.2.1, by decide, by decide, by decide⟩
      · exact ⟨m4, [1, 9], h, f4, nn.2.2.2, by decide, by decide, by decide⟩
    clear f1 f2 f3 f4 s2 s3 s4 s6 hy
    generalize (upd (upd (upd (upd (upd H3 m1 (.lst [V.int 1])) m2 (.lst [V.int 1, .int 2])) m3 (.lst [V.int 2, .int 3, .int 5])) m4 (.lst [V.int 1, .int 9])) mp (.lst [V.ref m1, .ref m2, .ref m3, .ref m4])) = Hm at sAll ema D6' k4
    have kB : Kp l H H4 := (kA.trans (.of sAll)).trans k4
    have sB := k4 _ _ (sAll _ _ sA) nsa
    have mB := k4 _ _ ema nma
    -- the prices
    refine ⟨l, sa, ma, sg, ms, n + 850, 5, 4, rfl, by decide, by decide, by decide, nsa, nma, SqL.of sB, SqL.of mB, n1, n4, sgl, ml1, ml2, mall, D4, fun pd kvs H5 hpd npd e5 av nd sgns k5 D5 => ?_⟩
    have kC := kB.trans k5
    have sC := k5 _ _ sB nsa
    have tar := tar_of av nd
    have good := tar.good
    obtain ⟨⟨kn1, kn12⟩, al, _, _⟩ := ap_parts av
    have nkv : kvs ≠ [] := fun e => by
      rw [e] at kn1
      simp at kn1
    have nsg : sg ≠ [] := fun e => by
      rw [e] at n1
      simp at n1
    obtain ⟨L, wL, L1, L5⟩ : ∃ L, Wide (tfD kvs) L ∧ 1 ≤ L ∧ L ≤ 5 := by
      obtain ⟨c, hc⟩ := List.exists_mem_of_ne_nil _ nsg
      obtain ⟨q, hq⟩ := (sgns c).mpr hc
      exact wide_ex good hq
    -- not too many fronts
    refine ⟨_, rfl, pd, kvs, L, 200, rfl, e5, av, nd, wL, by decide, fun fd E H7 hE em hfd stE s7 => ?_⟩
    refine ⟨fd, _, rfl, hfd, stE.keys, _, _, rfl, rfl, _, rfl, ?_⟩
    have kD := kC.trans (.of s7)
    have D7 := D5.same s7
    by_cases hb : 200 < E.length
    · exact itT (decide_eq_true (by rw [feOf_len]; omega)) (k _ kD (D7.le (by omega)))
    refine itF (decide_eq_false (by rw [feOf_len]; omega)) ?_
    have wh := hE.resolve_left hb
    have few : Few (tfD kvs) L 2000 := wh.few (by omega)
    have e7 := s7 _ _ e5
    have sD := s7 _ _ sC
    clear hfd stE hE em sC sB mB e5
    -- the book, what is known, the fronts
    refine ⟨_, rfl, ?_⟩
    intro bk bx hbk hbx hne
    refine made_book hbk hbx e7 av nd fun H8 s8 B8 => ⟨rfl, ?_⟩
    have k8 := kD.trans (.of s8)
    have D8 := D7.same s8
    refine fun kn hkn => ⟨upd_same, [(Sum.inr (Str.ofString ""), V.int 0)], rfl, by decide, ?_⟩
    have e0 : mergeK [] [((Sum.inr (Str.ofString "") : Key), V.int 0)] = [(Sum.inr (sOf []), V.int 0)] := by
      rw [emp]
      rfl
    have eK : (upd (upd H8 kn (.dK [])) kn (.dK (mergeK [] [((Sum.inr (Str.ofString "") : Key), V.int 0)]))) kn = some (.dK [(Sum.inr (sOf []), V.int 0)]) := by rw [upd_same, e0]
    have s9 : Same H8 (upd (upd H8 kn (.dK [])) kn (.dK (mergeK [] [((Sum.inr (Str.ofString "") : Key), V.int 0)]))) := same_mut (same_new hkn) hkn
    generalize (upd (upd H8 kn (.dK [])) kn (.dK (mergeK [] [((Sum.inr (Str.ofString "") : Key), V.int 0)]))) = H9 at eK s9 ⊢
    refine ⟨_, _, rfl, ?_⟩
    refine ⟨_, rfl, ?_⟩
    intro fp px hfp hpx hnp
    refine made_fronts hfp hpx (B8.same s9) wL few fun H10 E qs fd ft A10 s10 => ⟨rfl, ?_⟩
    have D10 := (D8.same s9).same s10
    have s810 := s9.trans s10
    have s710 := s8.trans s810
    -- the texts
    refine ⟨3, rfl, by decide, by decide, fun tl htl => ?_⟩
    have ntl : tl ≠ l := D10.ne htl
    refine lc_range (fun i H' => ∃ ts : List (List Nat), ts.length = i ∧ (∀ t ∈ ts, t.length ≤ 12 ∧ ∀ c ∈ t, c ∈ sg) ∧ H' tl = some (.lst (ts.map tv)) ∧ Kp l H10 H' ∧ Dice H' l (n + (800 - 20 * i))) ⟨[], rfl, fun _ h => (List.not_mem_nil h).elim, upd_same, (Kp.refl _ _).new htl, (D10.new htl).le (by omega)⟩ ?_ ?_
    · rintro i H11 hi ⟨ts, tsl, tts, t11, k11, D11⟩
      have i3 : i < 3 := hi
      have sa11 := k11 _ _ (s710 _ _ sD) nsa
      refine ⟨wipe_set, _, rfl, _, rfl, _, rfl, l, 13, n + (800 - 20 * i - 1), rfl, by decide, by decide, D11.le (by omega), fun r H12 r0 r1 k12 D12 => ?_⟩
      have r13 : r < 13 := r1
      refine ⟨l, .ref sa, sg, r.toNat, n + (800 - 20 * (i + 1)), by rw [Int.toNat_of_nonneg r0]; rfl, .lst nsa (SqL.of (k12 _ _ sa11 nsa)), nsg, by omega, by omega, D12.le (by omega), fun zs H13 zl zc k13 D13 => ?_⟩
      have t13 := k13 _ _ (k12 _ _ t11 ntl) ntl
      refine ⟨_, t13, by rw [List.length_map]; exact Nat.lt_of_le_of_lt (by omega : ts.length ≤ 1000000) (by decide), ts ++ [zs], by rw [List.length_append, tsl]; rfl, fun t ht => ?_, by rw [upd_same, List.map_append]; rfl, ((k11.trans k12).trans k13).mut htl, D13.upd ntl⟩
      rcases List.mem_append.mp ht with h | h
      · exact tts t h
      · rw [List.mem_singleton.mp h]
        exact ⟨by omega, zc⟩
    rintro G0 ⟨ts, tsl, tts, t11, k11, D11⟩
    refine ⟨_, _, rfl, ?_⟩
    have nkl : kn ≠ l := D8.ne hkn
    have npk : pd ≠ kn := ne_of_none (s8 _ _ e7) hkn
    obtain ⟨g0, g1, g2, hl10, g3⟩ := id D10
    have k8G : Kp l H8 G0 := (Kp.of s810).trans k11
    have tsl3 : ts.length = 3 := tsl
    have R0 : RunF K P w C CF l H8 G0 bk pd fp tl kn sa kvs sg L E qs px fd ft ts [(Sum.inr (sOf []), .int 0)] 1 n := ⟨k8G, D11.le (by omega), B8.kp D8 k8G, k8G _ _ (s8 _ _ e7) npd, k8G _ _ (s8 _ _ sD) nsa, A10.keep (kp_lst hl10 k11), t11, k11 _ _ (s10 _ _ eK) nkl, memo_init good, Nat.le_refl _⟩
    have hkn8 := hkn
    clear D11 k11 t11 A10 eK
    refine ⟨_, rfl, tl, rfl, ⟨_, SqL.of R0.tx⟩, for_list (K := K) (xs := ts.map tv) (fun i σ H' => ∃ x7 x8 x9 x10 x11 x12 kf, σ = [some (.ref l), some (.ref sa), some (.ref pd), some (.ref bk), some (.ref kn), some (.ref fp), some (.ref tl), x7, x8, x9, x10, x11, x12, none] ∧ RunF K P w C CF l H8 H' bk pd fp tl kn sa kvs sg L E qs px fd ft ts kf (1 + 80000 * i) n) ⟨_, _, _, _, _, _, _, rfl, R0⟩ (fun i σ H' _ q => by obtain ⟨_, _, _, _, _, _, _, _, q⟩ := q; exact SqL.of q.tx) ?_ ?_⟩
    · clear R0
      rintro i x σ H1 hx ⟨x7, x8, x9, x10, x11, x12, kf, rfl, R⟩
      obtain ⟨t, ht, rfl⟩ := tv_at hx
      obtain ⟨tl12, tsg⟩ := tts t (List.mem_of_getElem? ht)
      have ov : Over (tfD kvs) t := fun c hc => (sgns c).mpr (tsg c hc)
      have lt : (sOf t).length = t.length := sOf_len t
      have cst : cs (sOf t) = t := cs_sOf t
      have i3 : i < 3 := by
        have := (List.getElem?_eq_some_iff.mp ht).1
        omega
      refine ⟨_, rfl, _, rfl, bk, kvs, sOf t, rfl, R.bk, by rw [cst]; exact ov, by omega, isText_of (by rw [cst]; omega) (by rw [cst]; exact fun c hc => sgl c (tsg c hc)), fun L' f H2 wL' fa s2 => ?_⟩
      have eL := wL.uniq wL'
      subst eL
      rw [cst] at fa
      have ka : KeyAt K H2 (fr (tfD kvs) L t) f := fa.key
      have R2 := R.same s2
      refine ⟨_, rfl, _, rfl, fp, px, _, rfl, R2.fr.ob, fp, bk, f, kvs, L, E, qs, px, fd, ft, t, rfl, R2.bk, wL, R2.fr, ov, by omega, ka, fun e H3 he ek s3 => ⟨by show 1 ≤ sizeLine; decide, fun o1 ho1 => ?_⟩⟩
      have R4 := (R2.same s3).same (same_new ho1 (o := .lst [V.str (sOf e.2.2)]))
      have ka4 := (ka.same s3).same (same_new ho1 (o := .lst [V.str (sOf e.2.2)]))
      have o14 : (upd H3 o1 (.lst [V.str (sOf e.2.2)])) o1 = some (.lst [V.str (sOf e.2.2)]) := upd_same
      have s4 := (s2.trans s3).trans (same_new ho1 (o := .lst [V.str (sOf e.2.2)]))
      generalize (upd H3 o1 (.lst [V.str (sOf e.2.2)])) = H4 at R4 ka4 o14 s4 ⊢
      refine ⟨_, rfl, sa, sg, rfl, SqL.of R4.si, by omega, fun tx txs H5 htx etx xl xt s5 => ⟨tx, rfl, ⟨_, SqL.of etx⟩, fun D hD => ?_⟩⟩
      have R5 := R4.same s5
      have ka5 := ka4.same s5
      have o15 := s5 _ _ o14
      refine lcs txs (walk_listF (K := K) tv txs) (fun z => if fr (tfD kvs) L z = fr (tfD kvs) L t then some (tv z) else none) hD (by omega) (fun H' s => SqL.of (s _ _ etx)) ?_ ?_
      · rintro i' z x H6 H7 hi s6 ⟨rfl, z', ez, rfl⟩ N M hN hM
        have e1 : z = z' := Option.some.inj (hi.symm.trans ez)
        subst e1
        obtain ⟨zl, zsg⟩ := xt z (List.mem_of_getElem? hi)
        have zo : Over (tfD kvs) z := fun c hc => (sgns c).mpr (zsg c hc)
        have R7 := R5.same s6
        refine ⟨wipe_set, _, rfl, _, rfl, pd, kvs, sOf z, rfl, R7.pr, tar, nkv, by rw [cs_sOf]; exact zo, by rw [sOf_len]; omega, fun L2 f2 H8' wL2 fa2 s8' => ?_⟩
        have eL2 := wL.uniq wL2
        subst eL2
        rw [cs_sOf] at fa2
        have ka2 : KeyAt K H8' (fr (tfD kvs) L z) f2 := fa2.key
        refine ⟨_, rfl, dKey (fr (tfD kvs) L z), dKey (fr (tfD kvs) L t), dp_key ka2, dp_key ((ka5.same s6).same s8'), shaped_key (fr_lett (fun c hc => sgl c (zsg c hc))), shaped_key (fr_lett (fun c hc => sgl c (tsg c hc))), ?_⟩
        rw [eqv_key]
        refine ⟨_, rfl, ?_⟩
        refine itB (fun q => ?_) (fun q => ?_)
        · exact ⟨_, rfl, hN _ _ (if_pos (of_decide_eq_true q)) s8'⟩
        · exact hM _ (if_neg (of_decide_eq_false q)) s8'
      rintro H6 s6 e6
      have R6 := R5.same s6
      have ka6 := ka5.same s6
      have o16 := s6 _ _ o15
      obtain ⟨os0, eos, oin⟩ : ∃ os0 : List (List Nat), (txs.filterMap fun z => if fr (tfD kvs) L z = fr (tfD kvs) L t then some (tv z) else none) = os0.map tv ∧ ∀ o ∈ os0, o ∈ txs ∧ fr (tfD kvs) L o = fr (tfD kvs) L t := pick_same
      rw [eos] at e6
      refine ⟨2, rfl, D, _, rfl, SqL.of e6, fun q1 hq1 => ?_⟩
      have hc2 : cutV (os0.map tv) none (some 2) = (os0.map tv).take 2 := cutV_take (i := 2)
      rw [hc2]
      have s7 := same_new hq1 (o := .lst ((os0.map tv).take 2))
      refine ⟨o1, q1, _, _, rfl, rfl, s7 _ _ o16, upd_same, ?_, fun ol hol => ?_⟩
      · rw [List.length_take]
        exact Nat.le_of_lt (Nat.lt_of_le_of_lt (by show 1 + _ ≤ 1000000; omega) (by decide))
      have eos2 : [V.str (sOf e.2.2)] ++ (os0.map tv).take 2 = (e.2.2 :: os0.take 2).map tv := by
        rw [List.map_cons, List.map_take]
        rfl
      rw [eos2]
      have el7 : (upd (upd H6 q1 (.lst ((os0.map tv).take 2))) ol (.lst ((e.2.2 :: os0.take 2).map tv))) ol = some (.lst ((e.2.2 :: os0.take 2).map tv)) := upd_same
      have s67 := s7.trans (same_new hol (o := .lst ((e.2.2 :: os0.take 2).map tv)))
      have R8 := R6.same s67
      have ka8 := ka6.same s67
      obtain ⟨eo, efr, emin⟩ := R8.fr.wh.ok e he
      rw [ek] at efr
      have elen : e.2.2.length ≤ t.length := emin t ov ek.symm
      have osok : ∀ o ∈ e.2.2 :: os0.take 2, Over (tfD kvs) o ∧ fr (tfD kvs) L o = fr (tfD kvs) L t ∧ o.length ≤ 12 := fun o ho => by
        rcases List.mem_cons.mp ho with h | h
        · rw [h]
          exact ⟨eo, efr, by omega⟩
        · obtain ⟨h1, h2⟩ := oin o (List.mem_of_mem_take h)
          obtain ⟨h3, h4⟩ := xt o h1
          exact ⟨fun c hc => (sgns c).mpr (h4 c hc), h2, by omega⟩
      have osl : (e.2.2 :: os0.take 2).length ≤ 3 := by
        rw [List.length_cons, List.length_take]
        omega
      have eos0 : (e.2.2 :: os0.take 2)[0]? = some e.2.2 := rfl
      generalize (upd (upd H6 q1 (.lst ((os0.map tv).take 2))) ol (.lst ((e.2.2 :: os0.take 2).map tv))) = H8' at el7 R8 ka8 ⊢
      generalize e.2.2 :: os0.take 2 = os at el7 osok osl eos0 ⊢
      have eat : (os.map tv)[0]? = some (V.str (sOf e.2.2)) := by
        rw [List.getElem?_map, eos0]
        rfl
      have lel : (sOf e.2.2).length = e.2.2.length := sOf_len _
      refine ⟨_, rfl, ol, _, 0, .str (sOf e.2.2), rfl, rfl, SqL.of el7, at_of (j := 0) rfl eat, sOf e.2.2, rfl, fits_sz (by omega), _, rfl, sOf t, rfl, fits_sz (by omega), _, _, rfl, rfl, false, congrArg V.bl (decide_eq_false (by omega)), ?_⟩
      refine itF rfl ?_
      have elett : ∀ c ∈ e.2.2, lett c = true := fun c hc => lett_over av nd fun y hy => by
        rw [List.mem_singleton.mp hy]
        exact eo c hc
      refine ⟨_, rfl, _, rfl, ol, _, 0, .str (sOf e.2.2), rfl, rfl, SqL.of el7, at_of (j := 0) rfl eat, bk, kvs, sOf e.2.2, rfl, R8.bk, by rw [cs_sOf]; exact eo, by omega, isText_of (by rw [cs_sOf]; omega) (by rw [cs_sOf]; exact elett), fun L3 f3 H9 wL3 fa3 s9 => ?_⟩
      have eL3 := wL.uniq wL3
      subst eL3
      rw [cs_sOf] at fa3
      have ka3 : KeyAt K H9 (fr (tfD kvs) L e.2.2) f3 := fa3.key
      refine ⟨_, rfl, dKey (fr (tfD kvs) L e.2.2), dKey (fr (tfD kvs) L t), dp_key ka3, dp_key (ka8.same s9), shaped_key (fr_lett elett), shaped_key (fr_lett (fun c hc => sgl c (tsg c hc))), ?_⟩
      rw [eqv_key, efr, decide_eq_true rfl]
      refine ⟨false, rfl, ?_⟩
      have R9 := R8.same s9
      have el9 := s9 _ _ el7
      clear R8 R6 R5 R4 R2 R
      refine ⟨_, rfl, ol, rfl, ⟨_, SqL.of el9⟩, for_list (K := K) (xs := os.map tv) (fun j σ H' => ∃ x9 x11 x12 kf, σ = [some (.ref l), some (.ref sa), some (.ref pd), some (.ref bk), some (.ref kn), some (.ref fp), some (.ref tl), some (tv t), some (.ref f), x9, some (.ref ol), x11, x12, none] ∧ H' ol = some (.lst (os.map tv)) ∧ RunF K P w C CF l H8 H' bk pd fp tl kn sa kvs sg L E qs px fd ft ts kf (1 + 80000 * i + 25600 * j) n) ⟨_, _, _, kf, rfl, el9, R9⟩ (fun j σ H' _ q => by obtain ⟨_, _, _, _, _, q, _⟩ := q; exact SqL.of q) ?_ ?_⟩
      · clear R9 el9 ka8 el7 eat eos0
        rintro j x σ Ha hx ⟨x9, x11, x12, kfa, rfl, ola, Ra⟩
        obtain ⟨o, ho, rfl⟩ := tv_at hx
        obtain ⟨oo, ofr, ol12⟩ := osok o (List.mem_of_getElem? ho)
        have j3 : j < 3 := by
          have := (List.getElem?_eq_some_iff.mp ho).1
          omega
        refine ⟨_, rfl, sa, sg, rfl, SqL.of Ra.si, by omega, fun tx2 tys Hb htx2 etx2 yl yt sb => ⟨tx2, rfl, ⟨_, SqL.of etx2⟩, ?_⟩⟩
        refine for_list (K := K) (xs := tys.map tv) (fun q σ H' => ∃ x9 x12 kf, σ = [some (.ref l), some (.ref sa), some (.ref pd), some (.ref bk), some (.ref kn), some (.ref fp), some (.ref tl), some (tv t), some (.ref f), x9, some (.ref ol), some (tv o), x12, none] ∧ H' ol = some (.lst (os.map tv)) ∧ H' tx2 = some (.lst (tys.map tv)) ∧ RunF K P w C CF l H8 H' bk pd fp tl kn sa kvs sg L E qs px fd ft ts kf (1 + 80000 * i + 25600 * j + 64 * q) n) ⟨_, _, kfa, rfl, sb _ _ ola, etx2, Ra.same sb⟩ (fun q σ H' _ z => by obtain ⟨_, _, _, _, _, z, _⟩ := z; exact SqL.of z) ?_ ?_
        · clear sb etx2 htx2 Ra ola
          rintro q x σ Hc hx ⟨x9, x12, kfc, rfl, olc, txc, Rc⟩
          obtain ⟨m, hm, rfl⟩ := tv_at hx
          obtain ⟨m4, msg⟩ := yt m (List.mem_of_getElem? hm)
          have q400 : q < 400 := by
            have := (List.getElem?_eq_some_iff.mp hm).1
            omega
          have om : Over (tfD kvs) m := fun c hc => (sgns c).mpr (msg c hc)
          have etm : ∀ z : List Nat, sOf z ++ sOf m = sOf (z ++ m) := fun z => str_ext (by rw [cs_app, cs_sOf, cs_sOf, cs_sOf])
          have ltm : (sOf m).length = m.length := sOf_len m
          have lto : (sOf o).length = o.length := sOf_len o
          have ln := Rc.ln
          have a1 : (t ++ m).length ≤ 16 := by
            rw [List.length_append]
            omega
          have a2 : (o ++ m).length ≤ 16 := by
            rw [List.length_append]
            omega
          have eqm := (fr_more good wL L1 oo ov ofr m om).2
          refine ⟨_, rfl, _, rfl, _, rfl, sOf t, sOf m, rfl, rfl, fits_sz (by omega), _, rfl, pd, kn, kvs, kfc, t ++ m, congrArg (fun z => [V.ref pd, .str z, .ref kn]) (etm t), npk, Rc.pr, tar, ov.app om, by omega, by omega, Rc.kn, Rc.mo, by omega, fun kf1 Hd d1 m1 g1 kp1 => ?_⟩
          have R1 := Rc.step (n := 16) D8 B8 hkn8 npk kp1 d1 m1 g1 a1
          have ol1 := kp_dict Rc.kn kp1 _ _ olc (fun _ e => nomatch e)
          have tx1 := kp_dict Rc.kn kp1 _ _ txc (fun _ e => nomatch e)
          have ln1 := R1.ln
          clear kp1 d1 m1 g1 Rc olc txc
          refine ⟨_, rfl, _, rfl, _, rfl, pd, kn, kvs, kf1, t, rfl, npk, R1.pr, tar, ov, by omega, by omega, R1.kn, R1.mo, by omega, fun kf2 He d2 m2 g2 kp2 => ?_⟩
          have R2 := R1.step (n := 16) D8 B8 hkn8 npk kp2 d2 m2 g2 (by omega)
          have ol2 := kp_dict R1.kn kp2 _ _ ol1 (fun _ e => nomatch e)
          have tx2' := kp_dict R1.kn kp2 _ _ tx1 (fun _ e => nomatch e)
          have ln2 := R2.ln
          clear kp2 d2 m2 g2 R1 ol1 tx1
          refine ⟨_, _, rfl, rfl, ?_⟩
          refine ⟨_, rfl, _, rfl, _, rfl, sOf o, sOf m, rfl, rfl, fits_sz (by omega), _, rfl, pd, kn, kvs, kf2, o ++ m, congrArg (fun z => [V.ref pd, .str z, .ref kn]) (etm o), npk, R2.pr, tar, oo.app om, by omega, by omega, R2.kn, R2.mo, by omega, fun kf3 Hf d3 m3 g3 kp3 => ?_⟩
          have R3 := R2.step (n := 16) D8 B8 hkn8 npk kp3 d3 m3 g3 a2
          have ol3 := kp_dict R2.kn kp3 _ _ ol2 (fun _ e => nomatch e)
          have tx3 := kp_dict R2.kn kp3 _ _ tx2' (fun _ e => nomatch e)
          have ln3 := R3.ln
          clear kp3 d3 m3 g3 R2 ol2 tx2'
          refine ⟨_, rfl, _, rfl, _, rfl, pd, kn, kvs, kf3, o, rfl, npk, R3.pr, tar, oo, by omega, by omega, R3.kn, R3.mo, by omega, fun kf4 Hg d4 m4' g4 kp4 => ?_⟩
          have R4 := R3.step (n := 16) D8 B8 hkn8 npk kp4 d4 m4' g4 (by omega)
          have ol4 := kp_dict R3.kn kp4 _ _ ol3 (fun _ e => nomatch e)
          have tx4 := kp_dict R3.kn kp4 _ _ tx3 (fun _ e => nomatch e)
          refine ⟨_, _, rfl, rfl, ?_⟩
          refine ⟨_, rfl, rfl, ?_⟩
          refine ⟨false, ?_, ?_⟩
          · show V.bl (!decide (V.int (lp (tfD kvs) (o ++ m) - lp (tfD kvs) o) = V.int (lp (tfD kvs) (t ++ m) - lp (tfD kvs) t))) = V.bl false
            rw [eqm, decide_eq_true rfl]
            rfl
          exact ⟨_, _, kf4, rfl, ol4, tx4, R4.le (by omega)⟩
        rintro σ Hc ⟨x9, x12, kfc, rfl, olc, txc, Rc⟩
        rw [List.length_map] at Rc
        exact ⟨_, _, _, kfc, rfl, olc, Rc.le (by omega)⟩
      rintro σ Ha ⟨x9, x11, x12, kfa, rfl, ola, Ra⟩
      rw [List.length_map] at Ra
      exact ⟨_, _, _, _, _, _, kfa, rfl, Ra.le (by omega)⟩
    rintro σ H1 ⟨x7, x8, x9, x10, x11, x12, kf, rfl, R⟩
    exact k _ (k8.trans R.k0) R.di
theorem sc_law : FnScope ["script", "spot", "book", "fronts", "told", "due", "short", "abba", "wrong", "many", "front"] ["script"] (defScope s_law) := ⟨rfl, rfl, rfl, by decide +kernel, rfl, by decide +kernel, by decide +kernel⟩
theorem ok_law {f : Addr} {fd : FuncData} (F : Fun K "law" "law" s_law f fd) (T : Txt K mg C CF AF) (c_Book : C8.Mak P w K mg base 5 "Book" C (spBook C K) []) (c_Fronts : C8.Mak P w K mg base 8 "Fronts" CF (spFronts C CF K P w) []) (c_Fronts_rows : HasP P w K mg base 1 CF "rows" (spRows CF K P w)) (c_Fronts___getitem__ : C8.Met P w K mg base 8 CF "__getitem__" (spGetF C CF K P w) []) (c__law_right : Has P w K mg base CX0 21 "_law_right" ["reel"] (spRight 1000)) (c__law_reel : Has P w K mg base CX0 1 "_law_reel" ["script", "spot"] (spDice K)) (c_front_of : HasO P w K mg base CX0 5 "front_of" ["book", "text"] (spFrontIn C)) : FnG P w K mg base CX0 22 f fd ["script"] (spLaw K) := by
  refine fn_g0 F sc_law (fun vs H Q E h => ?_) (fun cdv A outer s H vs Q E hg hr h => ?_)
  · obtain ⟨a, ns, rfl, _⟩ := h
    rfl
  · have hu := hu_of hr
    obtain ⟨a, ns, rfl, hs, nl, k⟩ := h
    refine ⟨_, (pss_cons (ps_for PassesOwn.never rfl (pi_range1 (by rfl) T.b_range (pa_cons (pe_callB (call_max2 rfl) (by rfl) T.b_max (by decide +kernel) (pa_cons pe_int (pa_cons (pe_callB (call_min2 rfl) (by rfl) T.b_min (by decide +kernel) (pa_cons pe_int (pa_cons (pe_callB (g_len_seq K) (by rfl) T.b_len (by decide +kernel) (pa_cons (pv 0) pa_nil)) pa_nil))) pa_nil))) pa_nil)) (pg_name (i := 1) sc_law.nd rfl (Or.inl rfl)) (pss_one (ps_if (pt_not (pt_val (pe_has c__law_right hg (hr.mono (by decide)) pass0 (pa_cons (pe_has c__law_reel hg (hr.mono (by decide)) pass0 (pa_cons (pv 0) (pa_cons (pv 1) pa_nil))) pa_nil)))) (pss_one (ps_ret pe_bl)) pss_nil)))
      (pss_cons (ps_set (i := 2) sc_law.nd rfl (Or.inr rfl) (C8.pe_mk c_Book hr (by decide) (by rfl) (pa_cons (pe_disp (pps_cons pe_str pe_int (pps_cons pe_str pe_int (pps_cons pe_str pe_int pps_nil))) (by rfl) (by rfl) (fun z => by cases z) (by decide)) pa_nil)))
      (pss_cons (ps_set (i := 3) sc_law.nd rfl (Or.inr rfl) (C8.pe_mk c_Fronts hr (by decide) (by rfl) (pa_cons (pv 2) pa_nil)))
      (pss_cons (ps_setLc (i := 4) (own := [("many", 9)]) rfl sc_law.nd rfl rfl (sw_true rfl rfl rfl (by decide +kernel)) (pi_range1 (by rfl) T.b_range (pa_cons pe_int pa_nil)) (blkOk_by (own := [("many", 9)]) (N := ["script", "spot", "book", "fronts", "told", "due", "short", "abba", "wrong", "many", "front"]) (sc := defScope s_law) (by decide +kernel)) (fun _ _ _ _ _ => (pg_name (i := 9) sc_law.nd rfl (Or.inl rfl))) (fun _ _ _ _ _ => pts_nil) (fun _ _ _ _ _ => (pe_hasO c_front_of (hr.mono (by decide)) pass0 (pa_cons (pv 2) (pa_cons (pe_op op_mul1 pe_str (pv 9)) pa_nil)))))
      (pss_cons (ps_set (i := 5) sc_law.nd rfl (Or.inl rfl) (pe_lst (pa_cons (pe_tup (pa_cons pe_str (pa_cons (pe_tup pa_nil) pa_nil))) (pa_cons (pe_tup (pa_cons pe_str (pa_cons (pe_tup (pa_cons (pe_un un_neg pe_int) pa_nil)) pa_nil))) (pa_cons (pe_tup (pa_cons pe_str (pa_cons (pe_tup (pa_cons pe_int (pa_cons (pe_un un_neg pe_int) pa_nil))) pa_nil))) (pa_cons (pe_tup (pa_cons pe_str (pa_cons (pe_tup (pa_cons (pe_un un_neg pe_int) (pa_cons pe_int pa_nil))) pa_nil))) (pa_cons (pe_tup (pa_cons pe_str (pa_cons (pe_tup (pa_cons (pe_un un_neg pe_int) (pa_cons (pe_un un_neg pe_int) pa_nil))) pa_nil))) (pa_cons (pe_tup (pa_cons pe_str (pa_cons (pe_tup (pa_cons (pe_un un_neg pe_int) (pa_cons (pe_un un_neg pe_int) pa_nil))) pa_nil))) pa_nil))))))))
      (pss_cons (ps_set (i := 5) sc_law.nd rfl (Or.inl rfl) (pe_op op_cat (pv 5) (pe_lst (pa_cons (pe_tup (pa_cons pe_str (pa_cons (pe_tup (pa_cons (pe_un un_neg pe_int) (pa_cons (pe_un un_neg pe_int) pa_nil))) pa_nil))) (pa_cons (pe_tup (pa_cons pe_str (pa_cons (pe_tup (pa_cons (pe_un un_neg pe_int) (pa_cons (pe_un un_neg pe_int) pa_nil))) pa_nil))) (pa_cons (pe_tup (pa_cons pe_str (pa_cons (pe_tup (pa_cons (pe_un un_neg pe_int) (pa_cons (pe_un un_neg pe_int) pa_nil))) pa_nil))) pa_nil))))))
      (pss_cons (ps_setLc (i := 6) (own := [("front", 10)]) rfl sc_law.nd rfl rfl (sw_true rfl rfl rfl (by decide +kernel)) (g_list K (pv 4)) (blkOk_by (own := [("front", 10)]) (N := ["script", "spot", "book", "fronts", "told", "due", "short", "abba", "wrong", "many", "front"]) (sc := defScope s_law) (by decide +kernel)) (fun _ _ _ _ _ => (pg_name (i := 10) sc_law.nd rfl (Or.inl rfl))) (fun _ _ _ _ _ => pts_nil) (fun _ _ _ _ _ => (pe_callB call_len_str (by rfl) T.b_len (by decide +kernel) (pa_cons (pe_ixO c_Fronts___getitem__ hr (by decide) T.gi (pv 3) (pv 10) (fun _ _ => rfl)) pa_nil))))
      (pss_cons (ps_if (PW.pt (pw_or (pt_cmpR (g_neD K hr.units) (pv 4) (pv 5) (nomark _)) (pw_or1 (pt_cmpR (g_neD K hr.units) (pv 6) (pe_lst (pa_cons pe_int (pa_cons pe_int (pa_cons pe_int (pa_cons pe_int (pa_cons pe_int (pa_cons pe_int (pa_cons pe_int (pa_cons pe_int (pa_cons pe_int pa_nil)))))))))) (nomark _))))) (pss_one (ps_ret pe_bl)) pss_nil)
      (pss_cons (ps_set (i := 7) sc_law.nd rfl (Or.inr rfl) (C8.pe_mk c_Book hr (by decide) (by rfl) (pa_cons (pe_disp (pps_cons pe_str pe_int (pps_cons pe_str pe_int (pps_cons pe_str pe_int (pps_cons pe_str pe_int pps_nil)))) (by rfl) (by rfl) (fun z => by cases z) (by decide)) pa_nil)))
      (pss_cons (ps_set (i := 3) sc_law.nd rfl (Or.inr rfl) (C8.pe_mk c_Fronts hr (by decide) (by rfl) (pa_cons (pv 7) pa_nil)))
      (pss_cons (ps_setLc (i := 8) (own := [("front", 10)]) rfl sc_law.nd rfl rfl (sw_true rfl rfl rfl (by decide +kernel)) (g_tuple K (pe_prp c_Fronts_rows hr (by decide) (pv 3))) (blkOk_by (own := [("front", 10)]) (N := ["script", "spot", "book", "fronts", "told", "due", "short", "abba", "wrong", "many", "front"]) (sc := defScope s_law) (by decide +kernel)) (fun _ _ _ _ _ => (pg_name (i := 10) sc_law.nd rfl (Or.inl rfl))) (fun _ _ _ _ _ => (pts_one (pt_cmpR (g_neD K hr.units) (pe_hasO c_front_of (hr.mono (by decide)) pass0 (pa_cons (pv 7) (pa_cons (pe_ixO c_Fronts___getitem__ hr (by decide) T.gi (pv 3) (pv 10) (fun _ _ => rfl)) pa_nil))) (pv 10) (nomark _)))) (fun _ _ _ _ _ => (pv 10)))
      (pss_one (ps_ret (pe_and (pe_cmpR (g_eqD K hr.units) (pv 8) (pe_lst pa_nil) (nomark _)) (pe_one (pe_cmpR op_eq (pe_ixO c_Fronts___getitem__ hr (by decide) T.gi (pv 3) (pe_tup (pa_cons pe_str (pa_cons (pe_tup (pa_cons pe_int (pa_cons pe_int pa_nil))) pa_nil))) (fun _ _ => rfl)) pe_str (nomark _))))))))))))))))), ?_⟩
    obtain ⟨J, hJ, j1, j8⟩ : ∃ J : Int, (if (if ((ns.map V.int).length : Int) < 5 then ((ns.map V.int).length : Int) else 5) > 1 then (if ((ns.map V.int).length : Int) < 5 then ((ns.map V.int).length : Int) else 5) else 1) = J ∧ 1 ≤ J ∧ J ≤ 5 := ⟨_, rfl, cells_bound (n := (ns.map V.int).length) (m := 5) (by decide)⟩
    refine ⟨_, rfl, _, _, rfl, .inl hs, _, _, rfl, _, _, rfl, J, congrArg (fun i => [V.int i]) hJ, by omega, by omega, for_range (lo := 0) (n := J.toNat) (fun i σ H' => ∃ v, σ = [some (.ref a), v, none, none, none, none, none, none, none, none, none] ∧ Same H H') ⟨_, rfl, Same.refl H⟩ ?_ ?_⟩
    · rintro i σ H1 hi ⟨v, rfl, s1⟩
      refine ⟨_, rfl, _, rfl, a, ns, _, rfl, s1.seq hs, nl, by omega, by omega, fun l H2 hl s2 D2 => ?_⟩
      have fl : H l = none := s1.free hl
      refine ⟨l, 2 ^ 60 - 1000, rfl, D2.le (by omega), fun H4 kp4 D4 => ⟨true, rfl, ?_⟩⟩
      exact ⟨_, rfl, kp4.sameOf (s1.trans s2) fl⟩
    rintro σ H1 ⟨v, rfl, s1⟩
    simp only [litG.1, litG.2.1, litG.2.2.1, litG.2.2.2.1, litG.2.2.2.2.1, litG.2.2.2.2.2.1, litG.2.2.2.2.2.2.1, litG.2.2.2.2.2.2.2]
    refine fun pd hpd => ⟨upd_same, triK, rfl, by decide, ?_⟩
    have e2 : (upd (upd H1 pd (.dK [])) pd (.dK (mergeK [] triK))) pd = some (.dK triK) := upd_same
    generalize (upd (upd H1 pd (.dK [])) pd (.dK (mergeK [] triK))) = H2 at e2 ⊢
    intro b1 bx1 hb1 hbx1 hne1
    refine made_book hb1 hbx1 e2 tri_av tri_nd fun H3 s3 B1 => ⟨rfl, ?_⟩
    refine ⟨_, rfl, ?_⟩
    intro p1 px1 hp1 hpx1 hnp1
    refine made_fronts hp1 hpx1 B1 tri_wd tri_few fun H4 E1 q1 d1 t1 A1 s4 => ⟨rfl, ?_⟩
    have B4 := B1.same s4
    -- the fronts of one letter's texts
    refine ⟨9, rfl, by decide, by decide, fun D hD => ?_⟩
    refine lc_range (fun i H' => ∃ rs : List (Addr × FK), rs.map (·.2) = (List.range i).map (fun j => fr (tfD triK) 3 (List.replicate j 97)) ∧ H' D = some (.lst (rs.map fun q => V.ref q.1)) ∧ (∀ q ∈ rs, KeyAt K H' q.2 q.1) ∧ Same H4 H') ⟨[], rfl, upd_same, fun _ h => (List.not_mem_nil h).elim, same_new hD⟩ ?_ ?_
    · rintro i H5 hi ⟨rs, re, rD, rk, s5⟩
      have i9 : i < 9 := hi
      have len9 : (sOf (List.replicate i 97)).length = i := by rw [sOf_len, List.length_replicate]
      refine ⟨wipe_set, _, rfl, _, rfl, 97, i, rfl, by rw [Int.zero_add], by omega, b1, triK, sOf (List.replicate i 97), rfl, B4.same s5, by rw [cs_sOf]; exact tri_over i, by omega, isText_of (by rw [cs_sOf, List.length_replicate]; omega) (by rw [cs_sOf]; exact fun c hc => by rw [(List.mem_replicate.mp hc).2]; decide +kernel), fun L' f H6 wL fa s6 => ?_⟩
      have eL := tri_wd.uniq wL
      subst eL
      rw [cs_sOf] at fa
      have ka : KeyAt K H6 (fr (tfD triK) 3 (List.replicate i 97)) f := fa.key
      have rD6 := s6 _ _ rD
      have rl : rs.length = i := by
        have := congrArg List.length re
        rwa [List.length_map, List.length_map, List.length_range] at this
      refine ⟨_, rD6, by rw [List.length_map]; exact Nat.lt_of_le_of_lt (by omega : rs.length ≤ 9) (by decide), rs ++ [(f, fr (tfD triK) 3 (List.replicate i 97))], ?_, by rw [upd_same, List.map_append]; rfl, fun q hq => ?_, same_mut (s5.trans s6) hD⟩
      · rw [List.map_append, re, List.range_succ, List.map_append]
        rfl
      · rcases List.mem_append.mp hq with h | h
        · exact ((rk q h).same s6).upd rD6 no_lst
        · rw [List.mem_singleton.mp h]
          exact ka.upd rD6 no_lst
    rintro H5 ⟨rs, re, rD, rk, s5⟩
    have re' : rs.map (·.2) = (List.range 9).map (fun j => fr (tfD triK) 3 (List.replicate j 97)) := re
    have rT : RowAt K H5 D ((List.range 9).map (fun j => fr (tfD triK) 3 (List.replicate j 97))) := ⟨rs, rD, rk, re'⟩
    refine ⟨by show 0 ≤ sizeLine; decide, fun u0 hu0 => ⟨by show 2 ≤ sizeLine; decide, fun v0 hv0 => ?_⟩⟩
    have x0 : KeyAt K (upd (upd H5 u0 (.tup [])) v0 (.tup [.str (sOf []), .ref u0])) (sOf [], []) v0 := (show FrontAt _ _ [] [] from ⟨u0, upd_same, same_new hv0 _ _ upd_same⟩).key
    have y0 : Same H5 (upd (upd H5 u0 (.tup [])) v0 (.tup [.str (sOf []), .ref u0])) := (same_new hu0).trans (same_new hv0)
    generalize (upd (upd H5 u0 (.tup [])) v0 (.tup [.str (sOf []), .ref u0])) = G0 at x0 y0 ⊢
    refine ⟨_, rfl, by show 1 ≤ sizeLine; decide, fun u1 hu1 => ⟨by show 2 ≤ sizeLine; decide, fun v1 hv1 => ?_⟩⟩
    have x1 : KeyAt K (upd (upd G0 u1 (.tup [V.int (-5)])) v1 (.tup [.str (sOf [97]), .ref u1])) (sOf [97], [-5]) v1 := (show FrontAt _ _ [97] [-5] from ⟨u1, upd_same, same_new hv1 _ _ upd_same⟩).key
    have y1 : Same G0 (upd (upd G0 u1 (.tup [V.int (-5)])) v1 (.tup [.str (sOf [97]), .ref u1])) := (same_new hu1).trans (same_new hv1)
    generalize (upd (upd G0 u1 (.tup [V.int (-5)])) v1 (.tup [.str (sOf [97]), .ref u1])) = G1 at x1 y1 ⊢
    have x0 := x0.same y1
    refine ⟨_, rfl, by show 2 ≤ sizeLine; decide, fun u2 hu2 => ⟨by show 2 ≤ sizeLine; decide, fun v2 hv2 => ?_⟩⟩
    have x2 : KeyAt K (upd (upd G1 u2 (.tup [V.int 2, .int (-3)])) v2 (.tup [.str (sOf [97, 97]), .ref u2])) (sOf [97, 97], [2, -3]) v2 := (show FrontAt _ _ [97, 97] [2, -3] from ⟨u2, upd_same, same_new hv2 _ _ upd_same⟩).key
    have y2 : Same G1 (upd (upd G1 u2 (.tup [V.int 2, .int (-3)])) v2 (.tup [.str (sOf [97, 97]), .ref u2])) := (same_new hu2).trans (same_new hv2)
    generalize (upd (upd G1 u2 (.tup [V.int 2, .int (-3)])) v2 (.tup [.str (sOf [97, 97]), .ref u2])) = G2 at x2 y2 ⊢
    have x0 := x0.same y2
    have x1 := x1.same y2
    refine ⟨_, rfl, by show 2 ≤ sizeLine; decide, fun u3 hu3 => ⟨by show 2 ≤ sizeLine; decide, fun v3 hv3 => ?_⟩⟩
    have x3 : KeyAt K (upd (upd G2 u3 (.tup [V.int (-1), .int 1])) v3 (.tup [.str (sOf [97, 97]), .ref u3])) (sOf [97, 97], [-1, 1]) v3 := (show FrontAt _ _ [97, 97] [-1, 1] from ⟨u3, upd_same, same_new hv3 _ _ upd_same⟩).key
    have y3 : Same G2 (upd (upd G2 u3 (.tup [V.int (-1), .int 1])) v3 (.tup [.str (sOf [97, 97]), .ref u3])) := (same_new hu3).trans (same_new hv3)
    generalize (upd (upd G2 u3 (.tup [V.int (-1), .int 1])) v3 (.tup [.str (sOf [97, 97]), .ref u3])) = G3 at x3 y3 ⊢
    have x0 := x0.same y3
    have x1 := x1.same y3
    have x2 := x2.same y3
    refine ⟨_, rfl, _, rfl, by show 2 ≤ sizeLine; decide, fun u4 hu4 => ⟨by show 2 ≤ sizeLine; decide, fun v4 hv4 => ?_⟩⟩
    have x4 : KeyAt K (upd (upd G3 u4 (.tup [V.int (-2), .int (-3)])) v4 (.tup [.str (sOf [97, 97]), .ref u4])) (sOf [97, 97], [-2, -3]) v4 := (show FrontAt _ _ [97, 97] [-2, -3] from ⟨u4, upd_same, same_new hv4 _ _ upd_same⟩).key
    have y4 : Same G3 (upd (upd G3 u4 (.tup [V.int (-2), .int (-3)])) v4 (.tup [.str (sOf [97, 97]), .ref u4])) := (same_new hu4).trans (same_new hv4)
    generalize (upd (upd G3 u4 (.tup [V.int (-2), .int (-3)])) v4 (.tup [.str (sOf [97, 97]), .ref u4])) = G4 at x4 y4 ⊢
    have x0 := x0.same y4
    have x1 := x1.same y4
    have x2 := x2.same y4
    have x3 := x3.same y4
    refine ⟨_, rfl, _, rfl, by show 2 ≤ sizeLine; decide, fun u5 hu5 => ⟨by show 2 ≤ sizeLine; decide, fun v5 hv5 => ?_⟩⟩
    have x5 : KeyAt K (upd (upd G4 u5 (.tup [V.int (-1), .int (-3)])) v5 (.tup [.str (sOf [97, 97]), .ref u5])) (sOf [97, 97], [-1, -3]) v5 := (show FrontAt _ _ [97, 97] [-1, -3] from ⟨u5, upd_same, same_new hv5 _ _ upd_same⟩).key
    have y5 : Same G4 (upd (upd G4 u5 (.tup [V.int (-1), .int (-3)])) v5 (.tup [.str (sOf [97, 97]), .ref u5])) := (same_new hu5).trans (same_new hv5)
    generalize (upd (upd G4 u5 (.tup [V.int (-1), .int (-3)])) v5 (.tup [.str (sOf [97, 97]), .ref u5])) = G5 at x5 y5 ⊢
    have x0 := x0.same y5
    have x1 := x1.same y5
    have x2 := x2.same y5
    have x3 := x3.same y5
    have x4 := x4.same y5
    refine ⟨by show 6 ≤ sizeLine; decide, fun d6 hd6 => ?_⟩
    have z6 : Same G5 (upd G5 d6 (.lst [V.ref v0, .ref v1, .ref v2, .ref v3, .ref v4, .ref v5])) := same_new hd6
    have w6 : (upd G5 d6 (.lst [V.ref v0, .ref v1, .ref v2, .ref v3, .ref v4, .ref v5])) d6 = some (.lst [V.ref v0, .ref v1, .ref v2, .ref v3, .ref v4, .ref v5]) := upd_same
    generalize (upd G5 d6 (.lst [V.ref v0, .ref v1, .ref v2, .ref v3, .ref v4, .ref v5])) = H6 at z6 w6 ⊢
    have x0 := x0.same z6
    have x1 := x1.same z6
    have x2 := x2.same z6
    have x3 := x3.same z6
    have x4 := x4.same z6
    have x5 := x5.same z6
    refine ⟨_, rfl, _, rfl, _, rfl, by show 2 ≤ sizeLine; decide, fun u6 hu6 => ⟨by show 2 ≤ sizeLine; decide, fun v6 hv6 => ?_⟩⟩
    have x6 : KeyAt K (upd (upd H6 u6 (.tup [V.int (-1), .int (-2)])) v6 (.tup [.str (sOf [97, 97]), .ref u6])) (sOf [97, 97], [-1, -2]) v6 := (show FrontAt _ _ [97, 97] [-1, -2] from ⟨u6, upd_same, same_new hv6 _ _ upd_same⟩).key
    have y6 : Same H6 (upd (upd H6 u6 (.tup [V.int (-1), .int (-2)])) v6 (.tup [.str (sOf [97, 97]), .ref u6])) := (same_new hu6).trans (same_new hv6)
    generalize (upd (upd H6 u6 (.tup [V.int (-1), .int (-2)])) v6 (.tup [.str (sOf [97, 97]), .ref u6])) = G6 at x6 y6 ⊢
    have x0 := x0.same y6
    have x1 := x1.same y6
    have x2 := x2.same y6
    have x3 := x3.same y6
    have x4 := x4.same y6
    have x5 := x5.same y6
    have w6 := y6 _ _ w6
    refine ⟨_, rfl, _, rfl, by show 2 ≤ sizeLine; decide, fun u7 hu7 => ⟨by show 2 ≤ sizeLine; decide, fun v7 hv7 => ?_⟩⟩
    have x7 : KeyAt K (upd (upd G6 u7 (.tup [V.int (-2), .int (-3)])) v7 (.tup [.str (sOf [97, 97]), .ref u7])) (sOf [97, 97], [-2, -3]) v7 := (show FrontAt _ _ [97, 97] [-2, -3] from ⟨u7, upd_same, same_new hv7 _ _ upd_same⟩).key
    have y7 : Same G6 (upd (upd G6 u7 (.tup [V.int (-2), .int (-3)])) v7 (.tup [.str (sOf [97, 97]), .ref u7])) := (same_new hu7).trans (same_new hv7)
    generalize (upd (upd G6 u7 (.tup [V.int (-2), .int (-3)])) v7 (.tup [.str (sOf [97, 97]), .ref u7])) = G7 at x7 y7 ⊢
    have x0 := x0.same y7
    have x1 := x1.same y7
    have x2 := x2.same y7
    have x3 := x3.same y7
    have x4 := x4.same y7
    have x5 := x5.same y7
    have x6 := x6.same y7
    have w6 := y7 _ _ w6
    refine ⟨_, rfl, _, rfl, by show 2 ≤ sizeLine; decide, fun u8 hu8 => ⟨by show 2 ≤ sizeLine; decide, fun v8 hv8 => ?_⟩⟩
    have x8 : KeyAt K (upd (upd G7 u8 (.tup [V.int (-1), .int (-3)])) v8 (.tup [.str (sOf [97, 97]), .ref u8])) (sOf [97, 97], [-1, -3]) v8 := (show FrontAt _ _ [97, 97] [-1, -3] from ⟨u8, upd_same, same_new hv8 _ _ upd_same⟩).key
    have y8 : Same G7 (upd (upd G7 u8 (.tup [V.int (-1), .int (-3)])) v8 (.tup [.str (sOf [97, 97]), .ref u8])) := (same_new hu8).trans (same_new hv8)
    generalize (upd (upd G7 u8 (.tup [V.int (-1), .int (-3)])) v8 (.tup [.str (sOf [97, 97]), .ref u8])) = G8 at x8 y8 ⊢
    have x0 := x0.same y8
    have x1 := x1.same y8
    have x2 := x2.same y8
    have x3 := x3.same y8
    have x4 := x4.same y8
    have x5 := x5.same y8
    have x6 := x6.same y8
    have x7 := x7.same y8
    have w6 := y8 _ _ w6
    refine ⟨by show 3 ≤ sizeLine; decide, fun d3 hd3 => ?_⟩
    refine ⟨d6, d3, _, _, rfl, rfl, same_new hd3 _ _ w6, upd_same, by show 6 + 3 ≤ sizeLine; decide, fun dd hdd => ?_⟩
    have z9 : Same G8 (upd (upd G8 d3 (.lst [V.ref v6, .ref v7, .ref v8])) dd (.lst ([V.ref v0, .ref v1, .ref v2, .ref v3, .ref v4, .ref v5] ++ [V.ref v6, .ref v7, .ref v8]))) := (same_new hd3).trans (same_new hdd)
    have w9 : (upd (upd G8 d3 (.lst [V.ref v6, .ref v7, .ref v8])) dd (.lst ([V.ref v0, .ref v1, .ref v2, .ref v3, .ref v4, .ref v5] ++ [V.ref v6, .ref v7, .ref v8]))) dd = some (.lst ([V.ref v0, .ref v1, .ref v2, .ref v3, .ref v4, .ref v5] ++ [V.ref v6, .ref v7, .ref v8])) := upd_same
    generalize (upd (upd G8 d3 (.lst [V.ref v6, .ref v7, .ref v8])) dd (.lst ([V.ref v0, .ref v1, .ref v2, .ref v3, .ref v4, .ref v5] ++ [V.ref v6, .ref v7, .ref v8]))) = H7 at z9 w9 ⊢
    have x0 := x0.same z9
    have x1 := x1.same z9
    have x2 := x2.same z9
    have x3 := x3.same z9
    have x4 := x4.same z9
    have x5 := x5.same z9
    have x6 := x6.same z9
    have x7 := x7.same z9
    have x8 := x8.same z9
    have rU : RowAt K H7 dd triDue := ⟨[(v0, (sOf [], [])), (v1, (sOf [97], [-5])), (v2, (sOf [97, 97], [2, -3])), (v3, (sOf [97, 97], [-1, 1])), (v4, (sOf [97, 97], [-2, -3])), (v5, (sOf [97, 97], [-1, -3])), (v6, (sOf [97, 97], [-1, -2])), (v7, (sOf [97, 97], [-2, -3])), (v8, (sOf [97, 97], [-1, -3]))], w9, fun q hq => by
      simp only [List.mem_cons, List.not_mem_nil, or_false] at hq
      rcases hq with rfl | rfl | rfl | rfl | rfl | rfl | rfl | rfl | rfl
      · exact x0
      · exact x1
      · exact x2
      · exact x3
      · exact x4
      · exact x5
      · exact x6
      · exact x7
      · exact x8, rfl⟩
    have sAll : Same H5 H7 := ((((((((((y0.trans y1).trans y2).trans y3).trans y4).trans y5).trans z6).trans y6).trans y7).trans y8).trans z9)
    have rT7 := rT.same sAll
    have rD7 := sAll _ _ rD
    have rk7 : ∀ q ∈ rs, KeyAt K H7 q.2 q.1 := fun q hq => (rk q hq).same sAll
    have A7 := (A1.same s5).same sAll
    have B7 := (B4.same s5).same sAll
    clear x0 x1 x2 x3 x4 x5 x6 x7 x8 rD rk rT
    -- how long the shortest texts are
    refine ⟨_, rfl, D, rfl, ⟨_, SqL.of rD7⟩, fun D2 hD2 => ?_⟩
    refine lc_it (walk_listF (K := K) (fun q : Addr × FK => V.ref q.1) rs) (fun i H' => H' D2 = some (.lst (((List.range i).map fun j => ((triS j : Nat) : Int)).map V.int)) ∧ Same H7 H') ⟨upd_same, same_new hD2⟩ (fun i H' _ q => SqL.of (q.2 _ _ rD7)) ?_ ?_
    · rintro i x H8 H9 hi ⟨e8, s8⟩ ⟨rfl, q, hq, rfl⟩
      have rl : rs.length = 9 := by
        have := congrArg List.length re'
        rwa [List.length_map, List.length_map, List.length_range] at this
      have i9 : i < 9 := by omega
      have kq : q.2 = fr (tfD triK) 3 (List.replicate i 97) := by
        have h1 : (rs.map (·.2))[i]? = some q.2 := by rw [List.getElem?_map, hq]; rfl
        rw [re', List.getElem?_map, List.getElem?_range i9] at h1
        exact (Option.some.inj h1).symm
      have kz := (rk7 q (List.mem_of_getElem? hq)).same s8
      rw [kq] at kz
      refine ⟨wipe_set, _, rfl, _, rfl, p1, px1, _, rfl, (A7.same s8).ob, p1, b1, q.1, triK, 3, E1, q1, px1, d1, t1, List.replicate i 97, rfl, B7.same s8, tri_wd, A7.same s8, tri_over i, by rw [List.length_replicate]; omega, kz, fun e H10 he ek s10 => ?_⟩
      have el := tri_short A7.wh he i9 ek
      have el9 : triS i ≤ 9 := by
        have := A7.wh.ok e he
        have h2 := this.2.2 _ (tri_over i) ek.symm
        rw [List.length_replicate] at h2
        omega
      refine ⟨sOf e.2.2, rfl, by rw [sOf_len]; exact fits_sz (by omega), ?_⟩
      refine ⟨_, s10 _ _ e8, by rw [List.length_map, List.length_map, List.length_range]; exact Nat.lt_of_le_of_lt (by omega : i ≤ 9) (by decide), ?_, same_mut (s8.trans s10) hD2⟩
      rw [upd_same, List.range_succ, List.map_append, List.map_append, sOf_len, el]
      rfl
    rintro H8 ⟨e8, s8⟩
    have rl : rs.length = 9 := by
      have := congrArg List.length re'
      rwa [List.length_map, List.length_map, List.length_range] at this
    rw [rl] at e8
    rw [tri_due] at rT7
    refine ⟨_, rfl, _, rfl, ?_⟩
    refine neD_same (d := .list (triDue.map dKey)) (rT7.same s8).dp (rU.same s8).dp (shaped_keys tri_lett) ⟨false, rfl, ?_⟩
    refine itF rfl ?_
    refine ⟨_, rfl, by show 9 ≤ sizeLine; decide, fun sl hsl => ?_⟩
    refine neD_same (d := .list (((List.range 9).map fun j => ((triS j : Nat) : Int)).map PyData.int)) (.lst (SqL.of (same_new hsl _ _ e8)) (dp_intsL _)) (.lst (SqL.of upd_same) (dp_intsL ((List.range 9).map fun j => ((triS j : Nat) : Int)))) (shaped_ints _) ⟨false, rfl, ?_⟩
    generalize (upd H8 sl _) = M1
    clear e8 s8 hsl rT7 rD7 rk7 A7 B7 rU s5 hD2 hD A1 B4 s4 hp1 hpx1 hnp1 B1 s3 hb1 hbx1 hne1 e2 hpd
    -- abba
    refine fun pa hpa => ⟨upd_same, abK, rfl, by decide, ?_⟩
    have f2 : (upd (upd M1 pa (.dK [])) pa (.dK (mergeK [] abK))) pa = some (.dK abK) := upd_same
    generalize (upd (upd M1 pa (.dK [])) pa (.dK (mergeK [] abK))) = M2 at f2 ⊢
    intro b2 bx2 hb2 hbx2 hne2
    refine made_book hb2 hbx2 f2 ab_av ab_nd fun M3 r3 B2 => ⟨rfl, ?_⟩
    refine ⟨_, rfl, ?_⟩
    intro p2 px2 hp2 hpx2 hnp2
    refine made_fronts hp2 hpx2 B2 ab_wd ab_few fun M4 E2 q2 d2 t2 A2 r4 => ⟨rfl, ?_⟩
    have B24 := B2.same r4
    have el := ab_len A2.wh
    refine ⟨_, rfl, p2, px2, _, rfl, A2.ob, p2, b2, tfD abK, 3, E2, q2, px2, d2, t2, rfl, A2, t2, rfl, ⟨_, SqT.of A2.tp⟩, fun DW hDW => ?_⟩
    have q2l : q2.length ≤ 15 := by
      have := A2.pm.length_eq
      rw [List.length_map] at this
      omega
    refine lcs q2 (walk_tupF (K := K) (fun q : Addr × FK => V.ref q.1) q2) (fun _ => none) hDW (by omega) (fun H' s => SqT.of (s _ _ A2.tp)) ?_ ?_
    · rintro i y x M5 M6 hi r5 ⟨rfl, y', ey, rfl⟩ N M' hN hM
      have e1 : y = y' := Option.some.inj (hi.symm.trans ey)
      subst e1
      have ym := List.mem_of_getElem? hi
      have ky := (A2.keys y ym).same r5
      obtain ⟨e0, he0, ey0⟩ := List.mem_map.mp (A2.pm.mem_iff.mp ym)
      obtain ⟨o0, f0, _⟩ := A2.wh.ok e0 he0
      have sh := whole_short ab_good ab_wd (by decide) A2.wh he0
      have yk : y.2 = fr (tfD abK) 3 e0.2.2 := by rw [f0, ← ey0]
      rw [yk] at ky
      refine ⟨wipe_set, _, rfl, _, rfl, _, rfl, p2, px2, _, rfl, (A2.same r5).ob, p2, b2, y.1, abK, 3, E2, q2, px2, d2, t2, e0.2.2, rfl, B24.same r5, ab_wd, A2.same r5, o0, by omega, ky, fun e M7 he ek r7 => ?_⟩
      obtain ⟨o1, f1, _⟩ := A2.wh.ok e he
      have sh1 := whole_short ab_good ab_wd (by decide) A2.wh he
      refine ⟨b2, abK, sOf e.2.2, rfl, (B24.same r5).same r7, by rw [cs_sOf]; exact o1, by rw [sOf_len]; omega, isText_of (by rw [cs_sOf]; omega) (by rw [cs_sOf]; exact ab_lett o1), fun L' f' M8 wL fa r8 => ?_⟩
      have eL := ab_wd.uniq wL
      subst eL
      rw [cs_sOf] at fa
      have ka : KeyAt K M8 (fr (tfD abK) 3 e.2.2) f' := fa.key
      have kb := (ky.same r7).same r8
      rw [f1, ek] at ka
      refine ⟨_, rfl, ?_⟩
      refine neD_same (d := dKey (fr (tfD abK) 3 e0.2.2)) (dp_key ka) (dp_key kb) (shaped_key (fr_lett (ab_lett o0))) ⟨false, rfl, ?_⟩
      exact hM _ rfl (r7.trans r8)
    rintro M5 r5 eW
    have eW' : M5 DW = some (.lst []) := by
      rw [eW]
      have : q2.filterMap (fun _ => (none : Option V)) = [] := by simp
      rw [this]
    refine ⟨_, rfl, by show 0 ≤ sizeLine; decide, fun wl hwl => ?_⟩
    refine eqD_same (d := .list []) (.lst (SqL.of (same_new hwl _ _ eW')) .nil) (.lst (SqL.of upd_same) .nil) (by decide +kernel) ?_
    have r6 := r5.trans (same_new hwl (o := .lst []))
    generalize (upd M5 wl (.lst [])) = M6 at r6 ⊢
    refine ⟨true, rfl, ?_⟩
    refine itT rfl ?_
    refine ⟨_, rfl, by show 2 ≤ sizeLine; decide, fun ub hub => ⟨by show 2 ≤ sizeLine; decide, fun vb hvb => ?_⟩⟩
    have kb : KeyAt K (upd (upd M6 ub (.tup [V.int 1, .int 0])) vb (.tup [.str (sOf [98, 97]), .ref ub])) (sOf [98, 97], [1, 0]) vb := (show FrontAt _ _ [98, 97] [1, 0] from ⟨ub, upd_same, same_new hvb _ _ upd_same⟩).key
    have r8 := (r6.trans (same_new hub (o := .tup [V.int 1, .int 0]))).trans (same_new hvb (o := .tup [.str (sOf [98, 97]), .ref ub]))
    generalize (upd (upd M6 ub (.tup [V.int 1, .int 0])) vb (.tup [.str (sOf [98, 97]), .ref ub])) = M7 at kb r8 ⊢
    have kb' : KeyAt K M7 (fr (tfD abK) 3 [98, 98, 97]) vb := by
      rw [ab_bba]
      exact kb
    have o3 : Over (tfD abK) [98, 98, 97] := ab_over (by decide)
    refine ⟨p2, px2, _, rfl, (A2.same r8).ob, p2, b2, vb, abK, 3, E2, q2, px2, d2, t2, [98, 98, 97], rfl, B24.same r8, ab_wd, A2.same r8, o3, by decide, kb', fun e M9 he ek r9 => ?_⟩
    obtain ⟨oe, fe, me⟩ := A2.wh.ok e he
    have ee : e.2.2 = [98, 98, 97] := ab_at oe (me _ o3 ek.symm) (by rw [fe, ek, ab_bba])
    refine ⟨rfl, ?_⟩
    rw [ee, decide_eq_true rfl]
    exact k _
end
theorem all_mk {l : PySem.W.OpenLaw} {w : World} {K : PySem.W.Frag} {h : Heap} {mg : Str → Option Value} {fa : Addr} {C CF AF : Addr} (X : K.In h) (G0 : h.Ns mainGlobals mg) (hfa : mg "law" = some (.ref fa))
    {f0 f1 f2 f3 f4 f5 f6 f7 f8 f9 f10 f11 f12 f13 f14 f15 f16 f17 f18 f19 f20 f21 f22 f23 f24 f25 f26 f27 f28 f29 f30 f31 f32 f33 f34 f35 f36 f37 f38 f39 : Addr}
    {od0 an0 : Option Addr} {sl0 : Array (Option Value)} {oc0 kV0 dc0 pm0 cd0 ct0 : Value}
    {od1 an1 : Option Addr} {sl1 : Array (Option Value)} {oc1 kV1 dc1 pm1 cd1 ct1 : Value}
    {od2 an2 : Option Addr} {sl2 : Array (Option Value)} {oc2 kV2 dc2 pm2 cd2 ct2 : Value}
    {od3 an3 : Option Addr} {sl3 : Array (Option Value)} {oc3 kV3 dc3 pm3 cd3 ct3 : Value}
    {od4 an4 : Option Addr} {sl4 : Array (Option Value)} {oc4 kV4 dc4 pm4 cd4 ct4 : Value}
    {od5 an5 : Option Addr} {sl5 : Array (Option Value)} {oc5 kV5 dc5 pm5 cd5 ct5 : Value}
    {od6 an6 : Option Addr} {sl6 : Array (Option Value)} {oc6 kV6 dc6 pm6 cd6 ct6 : Value}
    {od7 an7 : Option Addr} {sl7 : Array (Option Value)} {oc7 kV7 dc7 pm7 cd7 ct7 : Value}
    {od8 an8 : Option Addr} {sl8 : Array (Option Value)} {oc8 kV8 dc8 pm8 cd8 ct8 : Value}
    {od9 an9 : Option Addr} {sl9 : Array (Option Value)} {oc9 kV9 dc9 pm9 cd9 ct9 : Value}
    {od10 an10 : Option Addr} {sl10 : Array (Option Value)} {oc10 kV10 dc10 pm10 cd10 ct10 : Value}
    {od11 an11 : Option Addr} {sl11 : Array (Option Value)} {oc11 kV11 dc11 pm11 cd11 ct11 : Value}
    {od12 an12 : Option Addr} {sl12 : Array (Option Value)} {oc12 kV12 dc12 pm12 cd12 ct12 : Value}
    {od13 an13 : Option Addr} {sl13 : Array (Option Value)} {oc13 kV13 dc13 pm13 cd13 ct13 : Value}
    {od14 an14 : Option Addr} {sl14 : Array (Option Value)} {oc14 kV14 dc14 pm14 cd14 ct14 : Value}
    {od15 an15 : Option Addr} {sl15 : Array (Option Value)} {oc15 kV15 dc15 pm15 cd15 ct15 : Value}
    {od16 an16 : Option Addr} {sl16 : Array (Option Value)} {oc16 kV16 dc16 pm16 cd16 ct16 : Value}
    {od17 an17 : Option Addr} {sl17 : Array (Option Value)} {oc17 kV17 dc17 pm17 cd17 ct17 : Value}
    {od18 an18 : Option Addr} {sl18 : Array (Option Value)} {oc18 kV18 dc18 pm18 cd18 ct18 : Value}
    {od19 an19 : Option Addr} {sl19 : Array (Option Value)} {oc19 kV19 dc19 pm19 cd19 ct19 : Value}
    {od20 an20 : Option Addr} {sl20 : Array (Option Value)} {oc20 kV20 dc20 pm20 cd20 ct20 : Value}
    {od21 an21 : Option Addr} {sl21 : Array (Option Value)} {oc21 kV21 dc21 pm21 cd21 ct21 : Value}
    {od22 an22 : Option Addr} {sl22 : Array (Option Value)} {oc22 kV22 dc22 pm22 cd22 ct22 : Value}
    {od23 an23 : Option Addr} {sl23 : Array (Option Value)} {oc23 kV23 dc23 pm23 cd23 ct23 : Value}
    {od24 an24 : Option Addr} {sl24 : Array (Option Value)} {oc24 kV24 dc24 pm24 cd24 ct24 : Value}
    {od25 an25 : Option Addr} {sl25 : Array (Option Value)} {oc25 kV25 dc25 pm25 cd25 ct25 : Value}
    {od26 an26 : Option Addr} {sl26 : Array (Option Value)} {oc26 kV26 dc26 pm26 cd26 ct26 : Value}
    {od27 an27 : Option Addr} {sl27 : Array (Option Value)} {oc27 kV27 dc27 pm27 cd27 ct27 : Value}
    {od28 an28 : Option Addr} {sl28 : Array (Option Value)} {oc28 kV28 dc28 pm28 cd28 ct28 : Value}
    {od29 an29 : Option Addr} {sl29 : Array (Option Value)} {oc29 kV29 dc29 pm29 cd29 ct29 : Value}
    {od30 an30 : Option Addr} {sl30 : Array (Option Value)} {oc30 kV30 dc30 pm30 cd30 ct30 : Value}
    {od31 an31 : Option Addr} {sl31 : Array (Option Value)} {oc31 kV31 dc31 pm31 cd31 ct31 : Value}
    {od32 an32 : Option Addr} {sl32 : Array (Option Value)} {oc32 kV32 dc32 pm32 cd32 ct32 : Value}
    {od33 an33 : Option Addr} {sl33 : Array (Option Value)} {oc33 kV33 dc33 pm33 cd33 ct33 : Value}
    {od34 an34 : Option Addr} {sl34 : Array (Option Value)} {oc34 kV34 dc34 pm34 cd34 ct34 : Value}
    {od35 an35 : Option Addr} {sl35 : Array (Option Value)} {oc35 kV35 dc35 pm35 cd35 ct35 : Value}
    {od36 an36 : Option Addr} {sl36 : Array (Option Value)} {oc36 kV36 dc36 pm36 cd36 ct36 : Value}
    {od37 an37 : Option Addr} {sl37 : Array (Option Value)} {oc37 kV37 dc37 pm37 cd37 ct37 : Value}
    {od38 an38 : Option Addr} {sl38 : Array (Option Value)} {oc38 kV38 dc38 pm38 cd38 ct38 : Value}
    {od39 an39 : Option Addr} {sl39 : Array (Option Value)} {oc39 kV39 dc39 pm39 cd39 ct39 : Value}
    (aC : PySem.W.nsIn K mainGlobals "Book" = some (some (.ref C))) (pg : PySem.W.plainGet K C Str.empty = true) (hd : PySem.W.hasDictIn K C = true) (po : PySem.W.plainOver K C = true) (sa : PySem.W.findIn K (.ref C) "__setattr__" = some (some (.builtin "object.__setattr__"))) (mk : PySem.W.makesIn K C = true) (kc : PySem.W.keepIn K (.ref C) = true)
    (iha : PySem.W.findIn K (.ref C) "__class__" = some (some (.builtin "object.__class__"))) (ihn : PySem.W.specialIn K (.builtin "object.__class__") "__get__" = some (some (.builtin "getset_descriptor.__get__"))) (iht : PySem.W.takesIn K (.builtin "object.__class__") = some true) (ihm : PySem.W.mroIn K C (.type "object") = some true)
    (n_own_prices : PySem.W.findIn K (.ref C) "own_prices" = some none)
    (n_own_pieces : PySem.W.findIn K (.ref C) "own_pieces" = some none)
    (n_own_alphabet : PySem.W.findIn K (.ref C) "own_alphabet" = some none)
    (n_own_longest : PySem.W.findIn K (.ref C) "own_longest" = some none)
    (n_own_dearest : PySem.W.findIn K (.ref C) "own_dearest" = some none)
    (aCF : PySem.W.nsIn K mainGlobals "Fronts" = some (some (.ref CF))) (pgCF : PySem.W.plainGet K CF Str.empty = true) (hdCF : PySem.W.hasDictIn K CF = true) (poCF : PySem.W.plainOver K CF = true) (saCF : PySem.W.findIn K (.ref CF) "__setattr__" = some (some (.builtin "object.__setattr__"))) (mkCF : PySem.W.makesIn K CF = true) (kcCF : PySem.W.keepIn K (.ref CF) = true)
    (nCF_own_book : PySem.W.findIn K (.ref CF) "own_book" = some none)
    (nCF_own_texts : PySem.W.findIn K (.ref CF) "own_texts" = some none)
    (nCF_own_fronts : PySem.W.findIn K (.ref CF) "own_fronts" = some none)
    {bF : Addr} {dF dF2 : Option Addr} {iF iF2 : Array Value} {mF mF2 : Nat} {sF sF2 : Array (Option Value)} {tF : Tok} {zF : Str} (yF : PySem.W.nsIn K mainGlobals "FIRST_FRONT" = some (some (.ref AF))) (lF : K.lookup AF = some ⟨.type "tuple", dF, .seq iF mF, sF⟩) (eF : iF.toList = [.str zF tF, .ref bF]) (zF0 : zF = sOf []) (lF2 : K.lookup bF = some ⟨.type "tuple", dF2, .seq iF2 mF2, sF2⟩) (eF2 : iF2.toList = [])
    (a0 : PySem.W.nsIn K mainGlobals "is_integer" = some (some (.ref f0)))
    (l0 : K.lookup f0 = some ⟨oc0, od0, .func (PySem.W.fnOf "is_integer" "is_integer" (defArgs s_is_integer) (defBody s_is_integer) (defScope s_is_integer) .none kV0 dc0 pm0 an0 cd0 ct0), sl0⟩) (c0 : PySem.W.codeIn K cd0 "is_integer" = true) (k0 : PySem.W.keepIn K (.ref f0) = true)
    (a1 : PySem.W.nsIn K mainGlobals "is_word" = some (some (.ref f1)))
    (l1 : K.lookup f1 = some ⟨oc1, od1, .func (PySem.W.fnOf "is_word" "is_word" (defArgs s_is_word) (defBody s_is_word) (defScope s_is_word) .none kV1 dc1 pm1 an1 cd1 ct1), sl1⟩) (c1 : PySem.W.codeIn K cd1 "is_word" = true) (k1 : PySem.W.keepIn K (.ref f1) = true)
    (a2 : PySem.W.nsIn K mainGlobals "is_text" = some (some (.ref f2)))
    (l2 : K.lookup f2 = some ⟨oc2, od2, .func (PySem.W.fnOf "is_text" "is_text" (defArgs s_is_text) (defBody s_is_text) (defScope s_is_text) .none kV2 dc2 pm2 an2 cd2 ct2), sl2⟩) (c2 : PySem.W.codeIn K cd2 "is_text" = true) (k2 : PySem.W.keepIn K (.ref f2) = true)
    (a3 : PySem.W.nsIn K mainGlobals "is_piece" = some (some (.ref f3)))
    (l3 : K.lookup f3 = some ⟨oc3, od3, .func (PySem.W.fnOf "is_piece" "is_piece" (defArgs s_is_piece) (defBody s_is_piece) (defScope s_is_piece) .none kV3 dc3 pm3 an3 cd3 ct3), sl3⟩) (c3 : PySem.W.codeIn K cd3 "is_piece" = true) (k3 : PySem.W.keepIn K (.ref f3) = true)
    (a4 : PySem.W.nsIn K mainGlobals "is_integer_within" = some (some (.ref f4)))
    (l4 : K.lookup f4 = some ⟨oc4, od4, .func (PySem.W.fnOf "is_integer_within" "is_integer_within" (defArgs s_is_integer_within) (defBody s_is_integer_within) (defScope s_is_integer_within) .none kV4 dc4 pm4 an4 cd4 ct4), sl4⟩) (c4 : PySem.W.codeIn K cd4 "is_integer_within" = true) (k4 : PySem.W.keepIn K (.ref f4) = true)
    (a5 : PySem.W.nsIn K mainGlobals "is_price" = some (some (.ref f5)))
    (l5 : K.lookup f5 = some ⟨oc5, od5, .func (PySem.W.fnOf "is_price" "is_price" (defArgs s_is_price) (defBody s_is_price) (defScope s_is_price) .none kV5 dc5 pm5 an5 cd5 ct5), sl5⟩) (c5 : PySem.W.codeIn K cd5 "is_price" = true) (k5 : PySem.W.keepIn K (.ref f5) = true)
    (a6 : PySem.W.nsIn K mainGlobals "are_prices" = some (some (.ref f6)))
    (l6 : K.lookup f6 = some ⟨oc6, od6, .func (PySem.W.fnOf "are_prices" "are_prices" (defArgs s_are_prices) (defBody s_are_prices) (defScope s_are_prices) .none kV6 dc6 pm6 an6 cd6 ct6), sl6⟩) (c6 : PySem.W.codeIn K cd6 "are_prices" = true) (k6 : PySem.W.keepIn K (.ref f6) = true)
    (a7 : PySem.W.findIn K (.ref C) "__init__" = some (some (.ref f7))) (i7 : PySem.W.isFn K (.ref f7) = true)
    (l7 : K.lookup f7 = some ⟨oc7, od7, .func (PySem.W.fnOf "__init__" "Book.__init__" (defArgs s_Book___init__) (defBody s_Book___init__) (defScope s_Book___init__) .none kV7 dc7 pm7 an7 cd7 ct7), sl7⟩) (c7 : PySem.W.codeIn K cd7 "Book.__init__" = true) (k7 : PySem.W.keepIn K (.ref f7) = true)
    (a8 : PySem.W.nsIn K mainGlobals "is_text_over" = some (some (.ref f8)))
    (l8 : K.lookup f8 = some ⟨oc8, od8, .func (PySem.W.fnOf "is_text_over" "is_text_over" (defArgs s_is_text_over) (defBody s_is_text_over) (defScope s_is_text_over) .none kV8 dc8 pm8 an8 cd8 ct8), sl8⟩) (c8 : PySem.W.codeIn K cd8 "is_text_over" = true) (k8 : PySem.W.keepIn K (.ref f8) = true)
    (a9 : PySem.W.nsIn K mainGlobals "require_text" = some (some (.ref f9)))
    (l9 : K.lookup f9 = some ⟨oc9, od9, .func (PySem.W.fnOf "require_text" "require_text" (defArgs s_require_text) (defBody s_require_text) (defScope s_require_text) .none kV9 dc9 pm9 an9 cd9 ct9), sl9⟩) (c9 : PySem.W.codeIn K cd9 "require_text" = true) (k9 : PySem.W.keepIn K (.ref f9) = true)
    (a10 : PySem.W.findIn K (.ref C) "accepts" = some (some (.ref f10))) (i10 : PySem.W.isFn K (.ref f10) = true)
    (l10 : K.lookup f10 = some ⟨oc10, od10, .func (PySem.W.fnOf "accepts" "Book.accepts" (defArgs s_Book_accepts) (defBody s_Book_accepts) (defScope s_Book_accepts) .none kV10 dc10 pm10 an10 cd10 ct10), sl10⟩) (c10 : PySem.W.codeIn K cd10 "Book.accepts" = true) (k10 : PySem.W.keepIn K (.ref f10) = true)
    (a11 : PySem.W.nsIn K mainGlobals "require_book" = some (some (.ref f11)))
    (l11 : K.lookup f11 = some ⟨oc11, od11, .func (PySem.W.fnOf "require_book" "require_book" (defArgs s_require_book) (defBody s_require_book) (defScope s_require_book) .none kV11 dc11 pm11 an11 cd11 ct11), sl11⟩) (c11 : PySem.W.codeIn K cd11 "require_book" = true) (k11 : PySem.W.keepIn K (.ref f11) = true)
    (a12 : PySem.W.nsIn K mainGlobals "prices_along" = some (some (.ref f12)))
    (l12 : K.lookup f12 = some ⟨oc12, od12, .func (PySem.W.fnOf "prices_along" "prices_along" (defArgs s_prices_along) (defBody s_prices_along) (defScope s_prices_along) .none kV12 dc12 pm12 an12 cd12 ct12), sl12⟩) (c12 : PySem.W.codeIn K cd12 "prices_along" = true) (k12 : PySem.W.keepIn K (.ref f12) = true)
    (a13 : PySem.W.nsIn K mainGlobals "front_in" = some (some (.ref f13)))
    (l13 : K.lookup f13 = some ⟨oc13, od13, .func (PySem.W.fnOf "front_in" "front_in" (defArgs s_front_in) (defBody s_front_in) (defScope s_front_in) .none kV13 dc13 pm13 an13 cd13 ct13), sl13⟩) (c13 : PySem.W.codeIn K cd13 "front_in" = true) (k13 : PySem.W.keepIn K (.ref f13) = true)
    (a14 : PySem.W.nsIn K mainGlobals "front_of" = some (some (.ref f14)))
    (l14 : K.lookup f14 = some ⟨oc14, od14, .func (PySem.W.fnOf "front_of" "front_of" (defArgs s_front_of) (defBody s_front_of) (defScope s_front_of) .none kV14 dc14 pm14 an14 cd14 ct14), sl14⟩) (c14 : PySem.W.codeIn K cd14 "front_of" = true) (k14 : PySem.W.keepIn K (.ref f14) = true)
    (a15 : PySem.W.nsIn K mainGlobals "step_in" = some (some (.ref f15)))
    (l15 : K.lookup f15 = some ⟨oc15, od15, .func (PySem.W.fnOf "step_in" "step_in" (defArgs s_step_in) (defBody s_step_in) (defScope s_step_in) .none kV15 dc15 pm15 an15 cd15 ct15), sl15⟩) (c15 : PySem.W.codeIn K cd15 "step_in" = true) (k15 : PySem.W.keepIn K (.ref f15) = true)
    (a16 : PySem.W.nsIn K mainGlobals "fronts_reached" = some (some (.ref f16)))
    (l16 : K.lookup f16 = some ⟨oc16, od16, .func (PySem.W.fnOf "fronts_reached" "fronts_reached" (defArgs s_fronts_reached) (defBody s_fronts_reached) (defScope s_fronts_reached) .none kV16 dc16 pm16 an16 cd16 ct16), sl16⟩) (c16 : PySem.W.codeIn K cd16 "fronts_reached" = true) (k16 : PySem.W.keepIn K (.ref f16) = true)
    (a17 : PySem.W.findIn K (.ref CF) "__init__" = some (some (.ref f17))) (i17 : PySem.W.isFn K (.ref f17) = true)
    (l17 : K.lookup f17 = some ⟨oc17, od17, .func (PySem.W.fnOf "__init__" "Fronts.__init__" (defArgs s_Fronts___init__) (defBody s_Fronts___init__) (defScope s_Fronts___init__) .none kV17 dc17 pm17 an17 cd17 ct17), sl17⟩) (c17 : PySem.W.codeIn K cd17 "Fronts.__init__" = true) (k17 : PySem.W.keepIn K (.ref f17) = true)
    {pr18 : Addr} {re18 : List Value} (a18 : PySem.W.findIn K (.ref CF) "rows" = some (some (.ref pr18))) (pg18 : PySem.W.specialIn K (.ref pr18) "__get__" = some (some (.builtin "property.__get__"))) (pt18 : PySem.W.takesIn K (.ref pr18) = some true) (rc18 : PySem.W.recIn K pr18 "property" = some (.ref f18 :: re18))
    (l18 : K.lookup f18 = some ⟨oc18, od18, .func (PySem.W.fnOf "rows" "Fronts.rows" (defArgs s_Fronts_rows) (defBody s_Fronts_rows) (defScope s_Fronts_rows) .none kV18 dc18 pm18 an18 cd18 ct18), sl18⟩) (c18 : PySem.W.codeIn K cd18 "Fronts.rows" = true) (k18 : PySem.W.keepIn K (.ref f18) = true)
    (a19 : PySem.W.findIn K (.ref CF) "__len__" = some (some (.ref f19))) (i19 : PySem.W.isFn K (.ref f19) = true)
    (l19 : K.lookup f19 = some ⟨oc19, od19, .func (PySem.W.fnOf "__len__" "Fronts.__len__" (defArgs s_Fronts___len__) (defBody s_Fronts___len__) (defScope s_Fronts___len__) .none kV19 dc19 pm19 an19 cd19 ct19), sl19⟩) (c19 : PySem.W.codeIn K cd19 "Fronts.__len__" = true) (k19 : PySem.W.keepIn K (.ref f19) = true)
    (a20 : PySem.W.nsIn K mainGlobals "_law_reel" = some (some (.ref f20)))
    (l20 : K.lookup f20 = some ⟨oc20, od20, .func (PySem.W.fnOf "_law_reel" "_law_reel" (defArgs s__law_reel) (defBody s__law_reel) (defScope s__law_reel) .none kV20 dc20 pm20 an20 cd20 ct20), sl20⟩) (c20 : PySem.W.codeIn K cd20 "_law_reel" = true) (k20 : PySem.W.keepIn K (.ref f20) = true)
    (a21 : PySem.W.nsIn K mainGlobals "_law_spin" = some (some (.ref f21)))
    (l21 : K.lookup f21 = some ⟨oc21, od21, .func (PySem.W.fnOf "_law_spin" "_law_spin" (defArgs s__law_spin) (defBody s__law_spin) (defScope s__law_spin) .none kV21 dc21 pm21 an21 cd21 ct21), sl21⟩) (c21 : PySem.W.codeIn K cd21 "_law_spin" = true) (k21 : PySem.W.keepIn K (.ref f21) = true)
    (a22 : PySem.W.nsIn K mainGlobals "_law_pick" = some (some (.ref f22)))
    (l22 : K.lookup f22 = some ⟨oc22, od22, .func (PySem.W.fnOf "_law_pick" "_law_pick" (defArgs s__law_pick) (defBody s__law_pick) (defScope s__law_pick) .none kV22 dc22 pm22 an22 cd22 ct22), sl22⟩) (c22 : PySem.W.codeIn K cd22 "_law_pick" = true) (k22 : PySem.W.keepIn K (.ref f22) = true)
    (a23 : PySem.W.nsIn K mainGlobals "_law_shuffled" = some (some (.ref f23)))
    (l23 : K.lookup f23 = some ⟨oc23, od23, .func (PySem.W.fnOf "_law_shuffled" "_law_shuffled" (defArgs s__law_shuffled) (defBody s__law_shuffled) (defScope s__law_shuffled) .none kV23 dc23 pm23 an23 cd23 ct23), sl23⟩) (c23 : PySem.W.codeIn K cd23 "_law_shuffled" = true) (k23 : PySem.W.keepIn K (.ref f23) = true)
    (a24 : PySem.W.nsIn K mainGlobals "_law_letters" = some (some (.ref f24)))
    (l24 : K.lookup f24 = some ⟨oc24, od24, .func (PySem.W.fnOf "_law_letters" "_law_letters" (defArgs s__law_letters) (defBody s__law_letters) (defScope s__law_letters) .none kV24 dc24 pm24 an24 cd24 ct24), sl24⟩) (c24 : PySem.W.codeIn K cd24 "_law_letters" = true) (k24 : PySem.W.keepIn K (.ref f24) = true)
    (a25 : PySem.W.nsIn K mainGlobals "_law_word" = some (some (.ref f25)))
    (l25 : K.lookup f25 = some ⟨oc25, od25, .func (PySem.W.fnOf "_law_word" "_law_word" (defArgs s__law_word) (defBody s__law_word) (defScope s__law_word) .none kV25 dc25 pm25 an25 cd25 ct25), sl25⟩) (c25 : PySem.W.codeIn K cd25 "_law_word" = true) (k25 : PySem.W.keepIn K (.ref f25) = true)
    (a26 : PySem.W.nsIn K mainGlobals "_law_prices" = some (some (.ref f26)))
    (l26 : K.lookup f26 = some ⟨oc26, od26, .func (PySem.W.fnOf "_law_prices" "_law_prices" (defArgs s__law_prices) (defBody s__law_prices) (defScope s__law_prices) .none kV26 dc26 pm26 an26 cd26 ct26), sl26⟩) (c26 : PySem.W.codeIn K cd26 "_law_prices" = true) (k26 : PySem.W.keepIn K (.ref f26) = true)
    (a27 : PySem.W.nsIn K mainGlobals "_law_cheap" = some (some (.ref f27)))
    (l27 : K.lookup f27 = some ⟨oc27, od27, .func (PySem.W.fnOf "_law_cheap" "_law_cheap" (defArgs s__law_cheap) (defBody s__law_cheap) (defScope s__law_cheap) .none kV27 dc27 pm27 an27 cd27 ct27), sl27⟩) (c27 : PySem.W.codeIn K cd27 "_law_cheap" = true) (k27 : PySem.W.keepIn K (.ref f27) = true)
    (a28 : PySem.W.nsIn K mainGlobals "_law_wide" = some (some (.ref f28)))
    (l28 : K.lookup f28 = some ⟨oc28, od28, .func (PySem.W.fnOf "_law_wide" "_law_wide" (defArgs s__law_wide) (defBody s__law_wide) (defScope s__law_wide) .none kV28 dc28 pm28 an28 cd28 ct28), sl28⟩) (c28 : PySem.W.codeIn K cd28 "_law_wide" = true) (k28 : PySem.W.keepIn K (.ref f28) = true)
    (a29 : PySem.W.nsIn K mainGlobals "_law_front" = some (some (.ref f29)))
    (l29 : K.lookup f29 = some ⟨oc29, od29, .func (PySem.W.fnOf "_law_front" "_law_front" (defArgs s__law_front) (defBody s__law_front) (defScope s__law_front) .none kV29 dc29 pm29 an29 cd29 ct29), sl29⟩) (c29 : PySem.W.codeIn K cd29 "_law_front" = true) (k29 : PySem.W.keepIn K (.ref f29) = true)
    (a30 : PySem.W.nsIn K mainGlobals "has_front_form" = some (some (.ref f30)))
    (l30 : K.lookup f30 = some ⟨oc30, od30, .func (PySem.W.fnOf "has_front_form" "has_front_form" (defArgs s_has_front_form) (defBody s_has_front_form) (defScope s_has_front_form) .none kV30 dc30 pm30 an30 cd30 ct30), sl30⟩) (c30 : PySem.W.codeIn K cd30 "has_front_form" = true) (k30 : PySem.W.keepIn K (.ref f30) = true)
    (a31 : PySem.W.findIn K (.ref CF) "__contains__" = some (some (.ref f31))) (i31 : PySem.W.isFn K (.ref f31) = true)
    (l31 : K.lookup f31 = some ⟨oc31, od31, .func (PySem.W.fnOf "__contains__" "Fronts.__contains__" (defArgs s_Fronts___contains__) (defBody s_Fronts___contains__) (defScope s_Fronts___contains__) .none kV31 dc31 pm31 an31 cd31 ct31), sl31⟩) (c31 : PySem.W.codeIn K cd31 "Fronts.__contains__" = true) (k31 : PySem.W.keepIn K (.ref f31) = true)
    (a32 : PySem.W.findIn K (.ref CF) "__getitem__" = some (some (.ref f32))) (i32 : PySem.W.isFn K (.ref f32) = true)
    (l32 : K.lookup f32 = some ⟨oc32, od32, .func (PySem.W.fnOf "__getitem__" "Fronts.__getitem__" (defArgs s_Fronts___getitem__) (defBody s_Fronts___getitem__) (defScope s_Fronts___getitem__) .none kV32 dc32 pm32 an32 cd32 ct32), sl32⟩) (c32 : PySem.W.codeIn K cd32 "Fronts.__getitem__" = true) (k32 : PySem.W.keepIn K (.ref f32) = true)
    (a33 : PySem.W.nsIn K mainGlobals "_law_step" = some (some (.ref f33)))
    (l33 : K.lookup f33 = some ⟨oc33, od33, .func (PySem.W.fnOf "_law_step" "_law_step" (defArgs s__law_step) (defBody s__law_step) (defScope s__law_step) .none kV33 dc33 pm33 an33 cd33 ct33), sl33⟩) (c33 : PySem.W.codeIn K cd33 "_law_step" = true) (k33 : PySem.W.keepIn K (.ref f33) = true)
    (a34 : PySem.W.nsIn K mainGlobals "_law_signs" = some (some (.ref f34)))
    (l34 : K.lookup f34 = some ⟨oc34, od34, .func (PySem.W.fnOf "_law_signs" "_law_signs" (defArgs s__law_signs) (defBody s__law_signs) (defScope s__law_signs) .none kV34 dc34 pm34 an34 cd34 ct34), sl34⟩) (c34 : PySem.W.codeIn K cd34 "_law_signs" = true) (k34 : PySem.W.keepIn K (.ref f34) = true)
    (a35 : PySem.W.nsIn K mainGlobals "_law_fronts" = some (some (.ref f35)))
    (l35 : K.lookup f35 = some ⟨oc35, od35, .func (PySem.W.fnOf "_law_fronts" "_law_fronts" (defArgs s__law_fronts) (defBody s__law_fronts) (defScope s__law_fronts) .none kV35 dc35 pm35 an35 cd35 ct35), sl35⟩) (c35 : PySem.W.codeIn K cd35 "_law_fronts" = true) (k35 : PySem.W.keepIn K (.ref f35) = true)
    (a36 : PySem.W.nsIn K mainGlobals "_law_texts" = some (some (.ref f36)))
    (l36 : K.lookup f36 = some ⟨oc36, od36, .func (PySem.W.fnOf "_law_texts" "_law_texts" (defArgs s__law_texts) (defBody s__law_texts) (defScope s__law_texts) .none kV36 dc36 pm36 an36 cd36 ct36), sl36⟩) (c36 : PySem.W.codeIn K cd36 "_law_texts" = true) (k36 : PySem.W.keepIn K (.ref f36) = true)
    (a37 : PySem.W.nsIn K mainGlobals "_law_least" = some (some (.ref f37)))
    (l37 : K.lookup f37 = some ⟨oc37, od37, .func (PySem.W.fnOf "_law_least" "_law_least" (defArgs s__law_least) (defBody s__law_least) (defScope s__law_least) .none kV37 dc37 pm37 an37 cd37 ct37), sl37⟩) (c37 : PySem.W.codeIn K cd37 "_law_least" = true) (k37 : PySem.W.keepIn K (.ref f37) = true)
    (a38 : PySem.W.nsIn K mainGlobals "_law_right" = some (some (.ref f38)))
    (l38 : K.lookup f38 = some ⟨oc38, od38, .func (PySem.W.fnOf "_law_right" "_law_right" (defArgs s__law_right) (defBody s__law_right) (defScope s__law_right) .none kV38 dc38 pm38 an38 cd38 ct38), sl38⟩) (c38 : PySem.W.codeIn K cd38 "_law_right" = true) (k38 : PySem.W.keepIn K (.ref f38) = true)
    (a39 : PySem.W.nsIn K mainGlobals "law" = some (some (.ref f39)))
    (l39 : K.lookup f39 = some ⟨oc39, od39, .func (PySem.W.fnOf "law" "law" (defArgs s_law) (defBody s_law) (defScope s_law) .none kV39 dc39 pm39 an39 cd39 ct39), sl39⟩) (c39 : PySem.W.codeIn K cd39 "law" = true) (k39 : PySem.W.keepIn K (.ref f39) = true)
    (z_abs : PySem.W.nsIn K mainGlobals "abs" = some none)
    (z_all : PySem.W.nsIn K mainGlobals "all" = some none)
    (z_bool : PySem.W.nsIn K mainGlobals "bool" = some none)
    (z_dict : PySem.W.nsIn K mainGlobals "dict" = some none)
    (z_int : PySem.W.nsIn K mainGlobals "int" = some none)
    (z_isinstance : PySem.W.nsIn K mainGlobals "isinstance" = some none)
    (z_len : PySem.W.nsIn K mainGlobals "len" = some none)
    (z_list : PySem.W.nsIn K mainGlobals "list" = some none)
    (z_max : PySem.W.nsIn K mainGlobals "max" = some none)
    (z_min : PySem.W.nsIn K mainGlobals "min" = some none)
    (z_range : PySem.W.nsIn K mainGlobals "range" = some none)
    (z_set : PySem.W.nsIn K mainGlobals "set" = some none)
    (z_sorted : PySem.W.nsIn K mainGlobals "sorted" = some none)
    (z_str : PySem.W.nsIn K mainGlobals "str" = some none)
    (z_tuple : PySem.W.nsIn K mainGlobals "tuple" = some none)
    {t_MAX_ALPHABET : Tok} (y_MAX_ALPHABET : PySem.W.nsIn K mainGlobals "MAX_ALPHABET" = some (some (.int 4 t_MAX_ALPHABET)))
    {t_MAX_FRONTS : Tok} (y_MAX_FRONTS : PySem.W.nsIn K mainGlobals "MAX_FRONTS" = some (some (.int 2000 t_MAX_FRONTS)))
    {t_MAX_PIECES : Tok} (y_MAX_PIECES : PySem.W.nsIn K mainGlobals "MAX_PIECES" = some (some (.int 12 t_MAX_PIECES)))
    {t_MAX_PRICE : Tok} (y_MAX_PRICE : PySem.W.nsIn K mainGlobals "MAX_PRICE" = some (some (.int 99 t_MAX_PRICE)))
    {t_PIECE_SIGNS : Tok} (y_PIECE_SIGNS : PySem.W.nsIn K mainGlobals "PIECE_SIGNS" = some (some (.int 5 t_PIECE_SIGNS)))
    {t_TEXT_SIGNS : Tok} (y_TEXT_SIGNS : PySem.W.nsIn K mainGlobals "TEXT_SIGNS" = some (some (.int 8000 t_TEXT_SIGNS)))
    : ∃ fd : FuncData, (∀ (s : Shared) (v : Value), BindsTo s fd ⟨[v], []⟩ [("script", v)]) ∧ ∀ base : Heap, K.In base → base.Ns mainGlobals mg → FnG l.prog w K mg base CX0 22 fa fd ["script"] (spLaw K) := by
  have e := hfa.symm.trans (PySem.W.mg_of X G0 a39)
  cases e
  have T : Txt K mg C CF AF := ⟨⟨pg, hd, po, sa⟩, ⟨⟨pg, hd, po, sa⟩, iha, ihn, iht, ihm, if_pos (beq_self_eq_true _)⟩, n_own_prices, n_own_pieces, n_own_alphabet, n_own_longest, n_own_dearest, PySem.W.mg_of X G0 aC, ⟨pgCF, hdCF, poCF, saCF⟩, nCF_own_book, nCF_own_texts, nCF_own_fronts, PySem.W.mg_of X G0 aCF, PySem.W.mg_of X G0 yF, keyK_of lF eF zF0 lF2 eF2, fun f e => fn_same a32 l32 e, PySem.W.mg_none_of X G0 z_abs, PySem.W.mg_none_of X G0 z_all, PySem.W.mg_none_of X G0 z_bool, PySem.W.mg_none_of X G0 z_dict, PySem.W.mg_none_of X G0 z_int, PySem.W.mg_none_of X G0 z_isinstance, PySem.W.mg_none_of X G0 z_len, PySem.W.mg_none_of X G0 z_list, PySem.W.mg_none_of X G0 z_max, PySem.W.mg_none_of X G0 z_min, PySem.W.mg_none_of X G0 z_range, PySem.W.mg_none_of X G0 z_set, PySem.W.mg_none_of X G0 z_sorted, PySem.W.mg_none_of X G0 z_str, PySem.W.mg_none_of X G0 z_tuple, ⟨_, PySem.W.mg_of X G0 y_MAX_ALPHABET⟩, ⟨_, PySem.W.mg_of X G0 y_MAX_FRONTS⟩, ⟨_, PySem.W.mg_of X G0 y_MAX_PIECES⟩, ⟨_, PySem.W.mg_of X G0 y_MAX_PRICE⟩, ⟨_, PySem.W.mg_of X G0 y_PIECE_SIGNS⟩, ⟨_, PySem.W.mg_of X G0 y_TEXT_SIGNS⟩⟩
  have F0 := fun_mk (st := s_is_integer) l0 c0 k0
  have b0 := F0.binds (ps := ["value"]) fun _ _ _ _ _ _ us hl => match us, hl with | [_], _ => rfl
  have F1 := fun_mk (st := s_is_word) l1 c1 k1
  have b1 := F1.binds (ps := ["value"]) fun _ _ _ _ _ _ us hl => match us, hl with | [_], _ => rfl
  have F2 := fun_mk (st := s_is_text) l2 c2 k2
  have b2 := F2.binds (ps := ["value"]) fun _ _ _ _ _ _ us hl => match us, hl with | [_], _ => rfl
  have F3 := fun_mk (st := s_is_piece) l3 c3 k3
  have b3 := F3.binds (ps := ["value"]) fun _ _ _ _ _ _ us hl => match us, hl with | [_], _ => rfl
  have F4 := fun_mk (st := s_is_integer_within) l4 c4 k4
  have b4 := F4.binds (ps := ["value", "least", "most"]) fun _ _ _ _ _ _ us hl => match us, hl with | [_, _, _], _ => rfl
  have F5 := fun_mk (st := s_is_price) l5 c5 k5
  have b5 := F5.binds (ps := ["value"]) fun _ _ _ _ _ _ us hl => match us, hl with | [_], _ => rfl
  have F6 := fun_mk (st := s_are_prices) l6 c6 k6
  have b6 := F6.binds (ps := ["value"]) fun _ _ _ _ _ _ us hl => match us, hl with | [_], _ => rfl
  have F7 := fun_mk (st := s_Book___init__) l7 c7 k7
  have b7 := F7.binds (ps := ["self", "prices"]) fun _ _ _ _ _ _ us hl => match us, hl with | [_, _], _ => rfl
  have F8 := fun_mk (st := s_is_text_over) l8 c8 k8
  have b8 := F8.binds (ps := ["book", "value"]) fun _ _ _ _ _ _ us hl => match us, hl with | [_, _], _ => rfl
  have F9 := fun_mk (st := s_require_text) l9 c9 k9
  have b9 := F9.binds (ps := ["book", "value"]) fun _ _ _ _ _ _ us hl => match us, hl with | [_, _], _ => rfl
  have F10 := fun_mk (st := s_Book_accepts) l10 c10 k10
  have b10 := F10.binds (ps := ["self", "value"]) fun _ _ _ _ _ _ us hl => match us, hl with | [_, _], _ => rfl
  have F11 := fun_mk (st := s_require_book) l11 c11 k11
  have b11 := F11.binds (ps := ["value"]) fun _ _ _ _ _ _ us hl => match us, hl with | [_], _ => rfl
  have F12 := fun_mk (st := s_prices_along) l12 c12 k12
  have b12 := F12.binds (ps := ["book", "text"]) fun _ _ _ _ _ _ us hl => match us, hl with | [_, _], _ => rfl
  have F13 := fun_mk (st := s_front_in) l13 c13 k13
  have b13 := F13.binds (ps := ["book", "text"]) fun _ _ _ _ _ _ us hl => match us, hl with | [_, _], _ => rfl
  have F14 := fun_mk (st := s_front_of) l14 c14 k14
  have b14 := F14.binds (ps := ["book", "text"]) fun _ _ _ _ _ _ us hl => match us, hl with | [_, _], _ => rfl
  have F15 := fun_mk (st := s_step_in) l15 c15 k15
  have b15 := F15.binds (ps := ["book", "front", "sign"]) fun _ _ _ _ _ _ us hl => match us, hl with | [_, _, _], _ => rfl
  have F16 := fun_mk (st := s_fronts_reached) l16 c16 k16
  have b16 := F16.binds (ps := ["book"]) fun _ _ _ _ _ _ us hl => match us, hl with | [_], _ => rfl
  have F17 := fun_mk (st := s_Fronts___init__) l17 c17 k17
  have b17 := F17.binds (ps := ["self", "book"]) fun _ _ _ _ _ _ us hl => match us, hl with | [_, _], _ => rfl
  have F18 := fun_mk (st := s_Fronts_rows) l18 c18 k18
  have b18 := F18.binds (ps := ["self"]) fun _ _ _ _ _ _ us hl => match us, hl with | [_], _ => rfl
  have F19 := fun_mk (st := s_Fronts___len__) l19 c19 k19
  have b19 := F19.binds (ps := ["self"]) fun _ _ _ _ _ _ us hl => match us, hl with | [_], _ => rfl
  have F20 := fun_mk (st := s__law_reel) l20 c20 k20
  have b20 := F20.binds (ps := ["script", "spot"]) fun _ _ _ _ _ _ us hl => match us, hl with | [_, _], _ => rfl
  have F21 := fun_mk (st := s__law_spin) l21 c21 k21
  have b21 := F21.binds (ps := ["reel", "many"]) fun _ _ _ _ _ _ us hl => match us, hl with | [_, _], _ => rfl
  have F22 := fun_mk (st := s__law_pick) l22 c22 k22
  have b22 := F22.binds (ps := ["reel", "items"]) fun _ _ _ _ _ _ us hl => match us, hl with | [_, _], _ => rfl
  have F23 := fun_mk (st := s__law_shuffled) l23 c23 k23
  have b23 := F23.binds (ps := ["reel", "items"]) fun _ _ _ _ _ _ us hl => match us, hl with | [_, _], _ => rfl
  have F24 := fun_mk (st := s__law_letters) l24 c24 k24
  have b24 := F24.binds (ps := ["reel", "many"]) fun _ _ _ _ _ _ us hl => match us, hl with | [_, _], _ => rfl
  have F25 := fun_mk (st := s__law_word) l25 c25 k25
  have b25 := F25.binds (ps := ["reel", "signs", "many"]) fun _ _ _ _ _ _ us hl => match us, hl with | [_, _, _], _ => rfl
  have F26 := fun_mk (st := s__law_prices) l26 c26 k26
  have b26 := F26.binds (ps := ["reel", "signs", "most", "size", "menu"]) fun _ _ _ _ _ _ us hl => match us, hl with | [_, _, _, _, _], _ => rfl
  have F27 := fun_mk (st := s__law_cheap) l27 c27 k27
  have b27 := F27.binds (ps := ["prices", "text"]) fun _ _ _ _ _ _ us hl => match us, hl with | [_, _], _ => rfl
  have F28 := fun_mk (st := s__law_wide) l28 c28 k28
  have b28 := F28.binds (ps := ["prices"]) fun _ _ _ _ _ _ us hl => match us, hl with | [_], _ => rfl
  have F29 := fun_mk (st := s__law_front) l29 c29 k29
  have b29 := F29.binds (ps := ["prices", "text"]) fun _ _ _ _ _ _ us hl => match us, hl with | [_, _], _ => rfl
  have F30 := fun_mk (st := s_has_front_form) l30 c30 k30
  have b30 := F30.binds (ps := ["book", "value"]) fun _ _ _ _ _ _ us hl => match us, hl with | [_, _], _ => rfl
  have F31 := fun_mk (st := s_Fronts___contains__) l31 c31 k31
  have b31 := F31.binds (ps := ["self", "value"]) fun _ _ _ _ _ _ us hl => match us, hl with | [_, _], _ => rfl
  have F32 := fun_mk (st := s_Fronts___getitem__) l32 c32 k32
  have b32 := F32.binds (ps := ["self", "at"]) fun _ _ _ _ _ _ us hl => match us, hl with | [_, _], _ => rfl
  have F33 := fun_mk (st := s__law_step) l33 c33 k33
  have b33 := F33.binds (ps := ["prices", "front", "sign"]) fun _ _ _ _ _ _ us hl => match us, hl with | [_, _, _], _ => rfl
  have F34 := fun_mk (st := s__law_signs) l34 c34 k34
  have b34 := F34.binds (ps := ["prices"]) fun _ _ _ _ _ _ us hl => match us, hl with | [_], _ => rfl
  have F35 := fun_mk (st := s__law_fronts) l35 c35 k35
  have b35 := F35.binds (ps := ["prices", "most"]) fun _ _ _ _ _ _ us hl => match us, hl with | [_, _], _ => rfl
  have F36 := fun_mk (st := s__law_texts) l36 c36 k36
  have b36 := F36.binds (ps := ["signs", "most"]) fun _ _ _ _ _ _ us hl => match us, hl with | [_, _], _ => rfl
  have F37 := fun_mk (st := s__law_least) l37 c37 k37
  have b37 := F37.binds (ps := ["prices", "text", "known"]) fun _ _ _ _ _ _ us hl => match us, hl with | [_, _, _], _ => rfl
  have F38 := fun_mk (st := s__law_right) l38 c38 k38
  have b38 := F38.binds (ps := ["reel"]) fun _ _ _ _ _ _ us hl => match us, hl with | [_], _ => rfl
  have F39 := fun_mk (st := s_law) l39 c39 k39
  refine ⟨PySem.W.fnOf "law" "law" (defArgs s_law) (defBody s_law) (defScope s_law) .none kV39 dc39 pm39 an39 cd39 ct39, fun s v => .of_eq rfl, fun base _ _ => ?_⟩
  have h_is_integer : HasO l.prog w K mg base CX0 1 "is_integer" ["value"] (spIsI K isInteger) := .mk' F0 (PySem.W.mg_of X G0 a0) b0 (ok_is_integer F0 T)
  have h_is_word : HasO l.prog w K mg base CX0 1 "is_word" ["value"] (spIs K isWord) := .mk' F1 (PySem.W.mg_of X G0 a1) b1 (ok_is_word F1 T)
  have h_is_text : HasO l.prog w K mg base CX0 2 "is_text" ["value"] (spIs K isText) := .mk' F2 (PySem.W.mg_of X G0 a2) b2 (ok_is_text F2 T h_is_word)
  have h_is_piece : HasO l.prog w K mg base CX0 2 "is_piece" ["value"] (spIs K isPiece) := .mk' F3 (PySem.W.mg_of X G0 a3) b3 (ok_is_piece F3 T h_is_word)
  have h_is_integer_within : HasO l.prog w K mg base CX0 2 "is_integer_within" ["value", "least", "most"] (spWithin K) := .mk' F4 (PySem.W.mg_of X G0 a4) b4 (ok_is_integer_within F4 T h_is_integer)
  have h_is_price : HasO l.prog w K mg base CX0 3 "is_price" ["value"] (spIsI K isPrice) := .mk' F5 (PySem.W.mg_of X G0 a5) b5 (ok_is_price F5 T h_is_integer_within)
  have h_are_prices : HasO l.prog w K mg base CX0 4 "are_prices" ["value"] (spArePrices K) := .mk' F6 (PySem.W.mg_of X G0 a6) b6 (ok_are_prices F6 T h_is_piece h_is_price)
  have h_Book : C8.Mak l.prog w K mg base 5 "Book" C (spBook C K) [] := ⟨_, _, ["self", "prices"], [], ⟨mk, a7, i7, kc⟩, ok_Book___init__ F7 T h_are_prices, PySem.W.mg_of X G0 aC, b7, .nil⟩
  have h_is_text_over : HasO l.prog w K mg base CX0 3 "is_text_over" ["book", "value"] (spTextOver C) := .mk' F8 (PySem.W.mg_of X G0 a8) b8 (ok_is_text_over F8 T h_is_text)
  have h_require_text : HasO l.prog w K mg base CX0 4 "require_text" ["book", "value"] (spReqText C) := .mk' F9 (PySem.W.mg_of X G0 a9) b9 (ok_require_text F9 T h_is_text_over)
  have h_Book_accepts : C8.Met l.prog w K mg base 4 C "accepts" (spTextOver C) [] := ⟨_, _, ["self", "value"], [], ⟨pg, hd, po, sa⟩, ⟨a10, i10, k10⟩, ok_Book_accepts F10 T h_is_text_over, b10, .nil⟩
  have h_require_book : HasO l.prog w K mg base CX0 1 "require_book" ["value"] (spReqBook C) := .mk' F11 (PySem.W.mg_of X G0 a11) b11 (ok_require_book F11 T)
  have h_prices_along : HasO l.prog w K mg base CX0 2 "prices_along" ["book", "text"] (spAlong C) := .mk' F12 (PySem.W.mg_of X G0 a12) b12 (ok_prices_along F12 T)
  have h_front_in : HasO l.prog w K mg base CX0 3 "front_in" ["book", "text"] (spFrontIn C) := .mk' F13 (PySem.W.mg_of X G0 a13) b13 (ok_front_in F13 T h_prices_along)
  have h_front_of : HasO l.prog w K mg base CX0 5 "front_of" ["book", "text"] (spFrontIn C) := .mk' F14 (PySem.W.mg_of X G0 a14) b14 (ok_front_of F14 T h_require_book h_require_text h_front_in)
  have h_step_in : HasO l.prog w K mg base CX0 2 "step_in" ["book", "front", "sign"] (spStepK K C) := .mk' F15 (PySem.W.mg_of X G0 a15) b15 (ok_step_in F15 T)
  have h_fronts_reached : HasO l.prog w K mg base CX0 6 "fronts_reached" ["book"] (spReached C K l.prog w) := .mk' F16 (PySem.W.mg_of X G0 a16) b16 (ok_fronts_reached F16 T h_step_in)
  have h_Fronts : C8.Mak l.prog w K mg base 8 "Fronts" CF (spFronts C CF K l.prog w) [] := ⟨_, _, ["self", "book"], [], ⟨mkCF, a17, i17, kcCF⟩, ok_Fronts___init__ F17 T h_require_book h_fronts_reached, PySem.W.mg_of X G0 aCF, b17, .nil⟩
  have h_Fronts_rows : HasP l.prog w K mg base 1 CF "rows" (spRows CF K l.prog w) := ⟨pr18, _, _, ⟨pgCF, hdCF, poCF, saCF⟩, ⟨a18, pg18, pt18, ⟨_, rc18⟩⟩, ok_Fronts_rows F18 T, b18⟩
  have h_Fronts___len__ : C8.Met l.prog w K mg base 1 CF "__len__" (spLenF CF K l.prog w) [] := ⟨_, _, ["self"], [], ⟨pgCF, hdCF, poCF, saCF⟩, ⟨a19, i19, k19⟩, ok_Fronts___len__ F19 T, b19, .nil⟩
  have h__law_reel : Has l.prog w K mg base CX0 1 "_law_reel" ["script", "spot"] (spDice K) := .mk' F20 (PySem.W.mg_of X G0 a20) b20 (ok__law_reel F20 T)
  have h__law_spin : Has l.prog w K mg base CX0 1 "_law_spin" ["reel", "many"] (spRoll) := .mk' F21 (PySem.W.mg_of X G0 a21) b21 (ok__law_spin F21 T)
  have h__law_pick : Has l.prog w K mg base CX0 2 "_law_pick" ["reel", "items"] (spPick K) := .mk' F22 (PySem.W.mg_of X G0 a22) b22 (ok__law_pick F22 T h__law_spin)
  have h__law_shuffled : Has l.prog w K mg base CX0 2 "_law_shuffled" ["reel", "items"] (spShuf K) := .mk' F23 (PySem.W.mg_of X G0 a23) b23 (ok__law_shuffled F23 T h__law_spin)
  have h__law_letters : Has l.prog w K mg base CX0 3 "_law_letters" ["reel", "many"] (spLett K) := .mk' F24 (PySem.W.mg_of X G0 a24) b24 (ok__law_letters F24 T h__law_shuffled)
  have h__law_word : Has l.prog w K mg base CX0 3 "_law_word" ["reel", "signs", "many"] (spLetters K) := .mk' F25 (PySem.W.mg_of X G0 a25) b25 (ok__law_word F25 T h__law_pick)
  have h__law_prices : Has l.prog w K mg base CX0 4 "_law_prices" ["reel", "signs", "most", "size", "menu"] (spPricesM K) := .mk' F26 (PySem.W.mg_of X G0 a26) b26 (ok__law_prices F26 T h__law_pick h__law_spin h__law_word)
  have h__law_cheap : Has l.prog w K mg base CX0 2 "_law_cheap" ["prices", "text"] (spCheap) := .mk' F27 (PySem.W.mg_of X G0 a27) b27 (ok__law_cheap F27 T)
  have h__law_wide : Has l.prog w K mg base CX0 1 "_law_wide" ["prices"] (spWide) := .mk' F28 (PySem.W.mg_of X G0 a28) b28 (ok__law_wide F28 T)
  have h__law_front : Has l.prog w K mg base CX0 3 "_law_front" ["prices", "text"] (spLawFront) := .mk' F29 (PySem.W.mg_of X G0 a29) b29 (ok__law_front F29 T h__law_cheap h__law_wide)
  have h_has_front_form : HasO l.prog w K mg base CX0 5 "has_front_form" ["book", "value"] (spFormK K C) := .mk' F30 (PySem.W.mg_of X G0 a30) b30 (ok_has_front_form F30 T h_Book_accepts h_is_integer)
  have h_Fronts___contains__ : C8.Met l.prog w K mg base 6 CF "__contains__" (spHasF C CF K l.prog w) [] := ⟨_, _, ["self", "value"], [], ⟨pgCF, hdCF, poCF, saCF⟩, ⟨a31, i31, k31⟩, ok_Fronts___contains__ F31 T h_has_front_form, b31, .nil⟩
  have h_Fronts___getitem__ : C8.Met l.prog w K mg base 8 CF "__getitem__" (spGetF C CF K l.prog w) [] := ⟨_, _, ["self", "at"], [], ⟨pgCF, hdCF, poCF, saCF⟩, ⟨a32, i32, k32⟩, ok_Fronts___getitem__ F32 T h_Fronts___contains__, b32, .nil⟩
  have h__law_step : Has l.prog w K mg base CX0 3 "_law_step" ["prices", "front", "sign"] (spLawStepK K) := .mk' F33 (PySem.W.mg_of X G0 a33) b33 (ok__law_step F33 T h__law_wide)
  have h__law_signs : HasO l.prog w K mg base CX0 1 "_law_signs" ["prices"] (spSigns K) := .mk' F34 (PySem.W.mg_of X G0 a34) b34 (ok__law_signs F34 T)
  have h__law_fronts : Has l.prog w K mg base CX0 5 "_law_fronts" ["prices", "most"] (spLawFronts K l.prog w) := .mk' F35 (PySem.W.mg_of X G0 a35) b35 (ok__law_fronts F35 T h__law_signs h__law_step)
  have h__law_texts : HasO l.prog w K mg base CX0 1 "_law_texts" ["signs", "most"] (spTexts K) := .mk' F36 (PySem.W.mg_of X G0 a36) b36 (ok__law_texts F36 T)
  have r__law_least : ∀ n, HasO l.prog w K mg base CX0 (2 + n) "_law_least" ["prices", "text", "known"] (spLeastN n) := fun n => by
    induction n with
    | zero => exact .mk' F37 (PySem.W.mg_of X G0 a37) b37 (ok__law_least_0 F37 T)
    | succ n ih => exact .mk' F37 (PySem.W.mg_of X G0 a37) b37 (ok__law_least F37 T ih)
  have h__law_least := r__law_least 17
  have h__law_right : Has l.prog w K mg base CX0 21 "_law_right" ["reel"] (spRight 1000) := .mk' F38 (PySem.W.mg_of X G0 a38) b38 (ok__law_right F38 T h_Book h_Fronts h_Fronts___getitem__ h__law_letters h__law_spin h__law_prices h__law_pick h__law_fronts h__law_word h_front_of h__law_texts h__law_front h__law_least)
  exact ok_law F39 T h_Book h_Fronts h_Fronts_rows h_Fronts___getitem__ h__law_right h__law_reel h_front_of
end K21
open PySem PySem.W PyProof.Rows
set_option maxRecDepth 100000 in
set_option maxHeartbeats 0 in
theorem PySem.Challenge.cw_cutbehind_k21_whole_fronts_decide_all_co_holds : PySem.Challenge.rw_cutbehind_k21_whole_fronts_decide_all_co.Holds := by
  w_on; o_law; k_head; (case hw => w_witness2)
  k_fill
  refine G.walk_g (l := PySem.Challenge.rw_cutbehind_k21_whole_fronts_decide_all_co) (n := 63) (k := 22) (x := "script") (sp := fun K => G.spLaw K) rfl (by decide) rfl ⟨rfl, by decide, by decide⟩ (fun w h Y => PySem.W.kIn_of Y) ?F (fun K H a ns hl _ hS => ⟨a, ns, rfl, hS, hl, fun _ => rfl⟩)
  case F =>
    intro w mg fa h KX G0 hmg
    refine' K21.all_mk (l := PySem.Challenge.rw_cutbehind_k21_whole_fronts_decide_all_co) KX G0 hmg ?aC ?pg ?hd ?po ?sa ?mk ?kc ?iha ?ihn ?iht ?ihm ?n_own_prices ?n_own_pieces ?n_own_alphabet ?n_own_longest ?n_own_dearest ?aCF ?pgCF ?hdCF ?poCF ?saCF ?mkCF ?kcCF ?nCF_own_book ?nCF_own_texts ?nCF_own_fronts ?yF ?lF ?eF ?zF0 ?lF2 ?eF2 ?a0 ?l0 ?c0 ?k0 ?a1 ?l1 ?c1 ?k1 ?a2 ?l2 ?c2 ?k2 ?a3 ?l3 ?c3 ?k3 ?a4 ?l4 ?c4 ?k4 ?a5 ?l5 ?c5 ?k5 ?a6 ?l6 ?c6 ?k6 ?a7 ?i7 ?l7 ?c7 ?k7 ?a8 ?l8 ?c8 ?k8 ?a9 ?l9 ?c9 ?k9 ?a10 ?i10 ?l10 ?c10 ?k10 ?a11 ?l11 ?c11 ?k11 ?a12 ?l12 ?c12 ?k12 ?a13 ?l13 ?c13 ?k13 ?a14 ?l14 ?c14 ?k14 ?a15 ?l15 ?c15 ?k15 ?a16 ?l16 ?c16 ?k16 ?a17 ?i17 ?l17 ?c17 ?k17 ?a18 ?pg18 ?pt18 ?rc18 ?l18 ?c18 ?k18 ?a19 ?i19 ?l19 ?c19 ?k19 ?a20 ?l20 ?c20 ?k20 ?a21 ?l21 ?c21 ?k21 ?a22 ?l22 ?c22 ?k22 ?a23 ?l23 ?c23 ?k23 ?a24 ?l24 ?c24 ?k24 ?a25 ?l25 ?c25 ?k25 ?a26 ?l26 ?c26 ?k26 ?a27 ?l27 ?c27 ?k27 ?a28 ?l28 ?c28 ?k28 ?a29 ?l29 ?c29 ?k29 ?a30 ?l30 ?c30 ?k30 ?a31 ?i31 ?l31 ?c31 ?k31 ?a32 ?i32 ?l32 ?c32 ?k32 ?a33 ?l33 ?c33 ?k33 ?a34 ?l34 ?c34 ?k34 ?a35 ?l35 ?c35 ?k35 ?a36 ?l36 ?c36 ?k36 ?a37 ?l37 ?c37 ?k37 ?a38 ?l38 ?c38 ?k38 ?a39 ?l39 ?c39 ?k39 ?z_abs ?z_all ?z_bool ?z_dict ?z_int ?z_isinstance ?z_len ?z_list ?z_max ?z_min ?z_range ?z_set ?z_sorted ?z_str ?z_tuple ?y_MAX_ALPHABET ?y_MAX_FRONTS ?y_MAX_PIECES ?y_MAX_PRICE ?y_PIECE_SIGNS ?y_TEXT_SIGNS
    (case aC => k_is)
    (case pg => k_is)
    (case hd => k_is)
    (case po => k_is)
    (case sa => k_is)
    (case mk => k_is)
    (case kc => k_is)
    (case iha => k_is)
    (case ihn => k_is)
    (case iht => k_is)
    (case ihm => k_is)
    (case n_own_prices => k_is)
    (case n_own_pieces => k_is)
    (case n_own_alphabet => k_is)
    (case n_own_longest => k_is)
    (case n_own_dearest => k_is)
    (case aCF => k_is)
    (case pgCF => k_is)
    (case hdCF => k_is)
    (case poCF => k_is)
    (case saCF => k_is)
    (case mkCF => k_is)
    (case kcCF => k_is)
    (case nCF_own_book => k_is)
    (case nCF_own_texts => k_is)
    (case nCF_own_fronts => k_is)
    (case yF => k_is)
    (case lF => k_is)
    (case eF => rfl)
    (case zF0 => rfl)
    (case lF2 => k_is)
    (case eF2 => rfl)
    (case a0 => k_is)
    (case l0 => k_is)
    (case c0 => k_is)
    (case k0 => k_is)
    (case a1 => k_is)
    (case l1 => k_is)
    (case c1 => k_is)
    (case k1 => k_is)
    (case a2 => k_is)
    (case l2 => k_is)
    (case c2 => k_is)
    (case k2 => k_is)
    (case a3 => k_is)
    (case l3 => k_is)
    (case c3 => k_is)
    (case k3 => k_is)
    (case a4 => k_is)
    (case l4 => k_is)
    (case c4 => k_is)
    (case k4 => k_is)
    (case a5 => k_is)
    (case l5 => k_is)
    (case c5 => k_is)
    (case k5 => k_is)
    (case a6 => k_is)
    (case l6 => k_is)
    (case c6 => k_is)
    (case k6 => k_is)
    (case a7 => k_is)
    (case i7 => k_is)
    (case l7 => k_is)
    (case c7 => k_is)
    (case k7 => k_is)
    (case a8 => k_is)
    (case l8 => k_is)
    (case c8 => k_is)
    (case k8 => k_is)
    (case a9 => k_is)
    (case l9 => k_is)
    (case c9 => k_is)
    (case k9 => k_is)
    (case a10 => k_is)
    (case i10 => k_is)
    (case l10 => k_is)
    (case c10 => k_is)
    (case k10 => k_is)
    (case a11 => k_is)
    (case l11 => k_is)
    (case c11 => k_is)
    (case k11 => k_is)
    (case a12 => k_is)
    (case l12 => k_is)
    (case c12 => k_is)
    (case k12 => k_is)
    (case a13 => k_is)
    (case l13 => k_is)
    (case c13 => k_is)
    (case k13 => k_is)
    (case a14 => k_is)
    (case l14 => k_is)
    (case c14 => k_is)
    (case k14 => k_is)
    (case a15 => k_is)
    (case l15 => k_is)
    (case c15 => k_is)
    (case k15 => k_is)
    (case a16 => k_is)
    (case l16 => k_is)
    (case c16 => k_is)
    (case k16 => k_is)
    (case a17 => k_is)
    (case i17 => k_is)
    (case l17 => k_is)
    (case c17 => k_is)
    (case k17 => k_is)
    (case a18 => k_is)
    (case pg18 => k_is)
    (case pt18 => k_is)
    (case rc18 => k_is)
    (case l18 => k_is)
    (case c18 => k_is)
    (case k18 => k_is)
    (case a19 => k_is)
    (case i19 => k_is)
    (case l19 => k_is)
    (case c19 => k_is)
    (case k19 => k_is)
    (case a20 => k_is)
    (case l20 => k_is)
    (case c20 => k_is)
    (case k20 => k_is)
    (case a21 => k_is)
    (case l21 => k_is)
    (case c21 => k_is)
    (case k21 => k_is)
    (case a22 => k_is)
    (case l22 => k_is)
    (case c22 => k_is)
    (case k22 => k_is)
    (case a23 => k_is)
    (case l23 => k_is)
    (case c23 => k_is)
    (case k23 => k_is)
    (case a24 => k_is)
    (case l24 => k_is)
    (case c24 => k_is)
    (case k24 => k_is)
    (case a25 => k_is)
    (case l25 => k_is)
    (case c25 => k_is)
    (case k25 => k_is)
    (case a26 => k_is)
    (case l26 => k_is)
    (case c26 => k_is)
    (case k26 => k_is)
    (case a27 => k_is)
    (case l27 => k_is)
    (case c27 => k_is)
    (case k27 => k_is)
    (case a28 => k_is)
    (case l28 => k_is)
    (case c28 => k_is)
    (case k28 => k_is)
    (case a29 => k_is)
    (case l29 => k_is)
    (case c29 => k_is)
    (case k29 => k_is)
    (case a30 => k_is)
    (case l30 => k_is)
    (case c30 => k_is)
    (case k30 => k_is)
    (case a31 => k_is)
    (case i31 => k_is)
    (case l31 => k_is)
    (case c31 => k_is)
    (case k31 => k_is)
    (case a32 => k_is)
    (case i32 => k_is)
    (case l32 => k_is)
    (case c32 => k_is)
    (case k32 => k_is)
    (case a33 => k_is)
    (case l33 => k_is)
    (case c33 => k_is)
    (case k33 => k_is)
    (case a34 => k_is)
    (case l34 => k_is)
    (case c34 => k_is)
    (case k34 => k_is)
    (case a35 => k_is)
    (case l35 => k_is)
    (case c35 => k_is)
    (case k35 => k_is)
    (case a36 => k_is)
    (case l36 => k_is)
    (case c36 => k_is)
    (case k36 => k_is)
    (case a37 => k_is)
    (case l37 => k_is)
    (case c37 => k_is)
    (case k37 => k_is)
    (case a38 => k_is)
    (case l38 => k_is)
    (case c38 => k_is)
    (case k38 => k_is)
    (case a39 => k_is)
    (case l39 => k_is)
    (case c39 => k_is)
    (case k39 => k_is)
    (case z_abs => k_is)
    (case z_all => k_is)
    (case z_bool => k_is)
    (case z_dict => k_is)
    (case z_int => k_is)
    (case z_isinstance => k_is)
    (case z_len => k_is)
    (case z_list => k_is)
    (case z_max => k_is)
    (case z_min => k_is)
    (case z_range => k_is)
    (case z_set => k_is)
    (case z_sorted => k_is)
    (case z_str => k_is)
    (case z_tuple => k_is)
    (case y_MAX_ALPHABET => k_is)
    (case y_MAX_FRONTS => k_is)
    (case y_MAX_PIECES => k_is)
    (case y_MAX_PRICE => k_is)
    (case y_PIECE_SIGNS => k_is)
    (case y_TEXT_SIGNS => k_is)
#print axioms PySem.Challenge.cw_cutbehind_k21_whole_fronts_decide_all_co_holds
